import PyProof.Rows.All
import Wide.All
import OpenK.AllK
import Wide.FinOn
import PyProof.EqAt
import PyProof.EqKinds
import PyProof.TupleCall
import PyProof.ReprRoads
import HandS.ForMost
import HandS.Wide
import KE.KExcLine
import KE.RegKIsAll
import HandS.DictComp
import HandS.Walk
import PyProof.RulesMatch
import PyProof.SliceList
import HandS.Words
import PyProof.SetKind
import HandS.Set
import HandS.Strs
import HandS.More
import HandS.SetBool
import HandS.Comp
import PyProof.DictUpdate
import HandS.ListEq
import HandS.Star
import PyProof.EnumFor
import PyProof.EnumStmt
import KE.GoesEnum
import HandS.Iter
import HandS.DictTup
import HandS.SortOrd
import HandS.SortRule
import HandS.ListItems
import HandS.Text
import HandS.SetKeys
import HandS.Style
import HandS.Proxy
import HandS.ClsMeth
import HandS.Property
import KE.KCallOwn
import HandS.OwnEq
import KE.KRevSl
import PyProof.InstNe
import HandS.SetFor
import PyProof.CallFns
import HandS.FStr
import HandS.IsInst
import HandS.RaiseMore
import HandS.Zip
import KE.KExcInit
import HandS.Base
import HandS.Call
import HandS.List
import HandS.Ends
import HandS.Exc
import HandS.ExcInit
import HandS.ExcField
import PyProof.Rows.FactsExc_KeyError
import HandS.WordsExc
import HandS.ExcOwn
import HandS.Lambda
import HandS.EndTab
import HandS.EndOwn
import HandS.NestedK
import KE.KIsAll
import KE.KTryMore
import HandS.ExcIs
import PyProof.EnumMake
import PyProof.Draws
import KE.GoesMore
import PyProof.StrOps2
import HandS.NoneIn
import PySem.Challenge.RW_dictorders_k89_exceptions_made_by_hand
set_option Elab.async false
set_option linter.all false
set_option maxRecDepth 100000
set_option maxHeartbeats 4000000
/-! A def's promise where nothing that guards against itself (a repr under way) stands around the call; repr of data. -/
namespace PX
open PySem PySem.Spec PyProof.Rows L2

/-- no guard is under way -/
def NoG (A : Around) : Prop := A.guards = some []
theorem NoG.dp {A : Around} (h : NoG A) (env : Env) : NoG (A.deeper env) := h

/-- FnOk, asked only where NoG holds -/
structure FnG (P : Program) (w : World) (K : PySem.W.Frag) (mg : Str → Option Value) (base : Heap) (CX : CXT) (k : Nat) (f : Addr) (fd : FuncData) (ps : List Str) (sp : Sp) : Prop where
  many : ∀ vs H Q E, sp vs H Q E → vs.length = ps.length
  goes : ∀ (A : Around) (outer : List Env) (s : Shared) (H : Hp) (args : Args) (us : List Value) (vs : List V) (Q : VK) (E : XK),
    Room k A → NoG A → Env0 P w K mg base A outer s H → BindsTo s fd args (ps.zip us) → Vals vs us → sp vs H Q E →
      codeAny (model P w) A (.call (.ref f) args) (CR CX outer P w H s Q E) s

section
variable {P : Program} {w : World} {K : PySem.W.Frag} {mg : Str → Option Value} {base : Heap} {CX : CXT} {k : Nat} {f : Addr} {fd : FuncData} {ps : List Str} {sp : Sp}
theorem FnG.ofOk (F : FnOk P w K mg base CX k f fd ps sp) : FnG P w K mg base CX k f fd ps sp :=
  ⟨F.len, fun A outer s H args us vs Q E hr _ e0 hb r h => F.run A outer s H args us vs Q E hr e0 hb r h⟩

/-- a def by its body -/
theorem fnG_of {name qual : Str} {params : Arguments} {body : List Stmt} {scope : Scope} {dV kV doc pm cdv ct oc : Value} {an od : Option Addr} {osl : Array (Option Value)} {N : List Str}
    (lk : K.lookup f = some ⟨oc, od, .func (PySem.W.fnOf name qual params body scope dV kV doc pm an cdv ct), osl⟩) (hcd : PySem.W.codeIn K cdv qual = true) (S : FnScope N ps scope)
    (many : ∀ vs H Q E, sp vs H Q E → vs.length = ps.length)
    (hb : ∀ (A : Around) (outer : List Env) (s : Shared) (H : Hp) (vs : List V) (Q : VK) (E : XK), Room k (A.deeper (envOfC qual scope s.heap.objs.size f cdv)) → NoG A → sp vs H Q E →
      ∃ t, PSs (cxOf CX P w K mg base N qual scope f cdv A outer s H E) body t ∧ t { nx := fun _ H' => Q .non H', rt := Q } (start N vs) H) :
    FnG P w K mg base CX (k + 1) f (PySem.W.fnOf name qual params body scope dV kV doc pm an cdv ct) ps sp := by
  constructor
  · exact many
  intro A outer s H args us vs Q E hr hg e0 hbd rv hs
  have back : ∀ b o, base.get? b = some o → s.heap.get? b = some o := fun b o e => (e0.bs b o e).1
  have hK := e0.mod.kin.keeps back
  refine codeAny_call_function hr.depth (hK _ _ lk) rfl S.co S.gen rfl (PySem.W.codeRec_of hK hcd) (hbd _ _ _ _ ?_)
  refine wpAny_newFunctionEnv_cells S.kind (fun y hy => ?_) fun env he s1 x => ?_
  · obtain ⟨n, v⟩ := y
    have hn := (List.of_mem_zip hy).1
    cases S.par n hn with
    | inl q => exact Or.inl q
    | inr q => exact Or.inr ⟨q, PySem.W.cellsFrom_some _ _ _ (Or.inl q)⟩
  subst he
  refine ⟨(e0.mod.nolimit.keeps back).keeps x.toInCall.keep, codeAny_func ?_⟩
  obtain ⟨t, ht, hq⟩ := hb A outer s H vs Q E (hr.deeper _) hg hs
  have J := inv_start (CX := CX) (E := E) S hr.hd e0 (many _ _ _ _ hs) rv x
  refine wpAny_mono (ht.run [] s1 (start N vs) H _ J hq) (fun fl s' z => ?_) fun e s' z => z
  cases fl with
  | ret u =>
    obtain ⟨v, σ', H', J', r', q⟩ := z
    exact ⟨v, H', J'.os, J'.bare, J'.base, J'.hok, r', q⟩
  | next =>
    obtain ⟨σ', H', J', q⟩ := z
    exact ⟨V.non, H', J'.os, J'.bare, J'.base, J'.hok, (rfl : Value.none = Value.none), q⟩
  | brk =>
    obtain ⟨_, _, _, q⟩ := z
    exact q.elim
  | cont =>
    obtain ⟨_, _, _, q⟩ := z
    exact q.elim
end

section
variable {P : Program} {w : World} {K : PySem.W.Frag} {mg : Str → Option Value} {base : Heap}
/-- Fun.ok for FnG -/
theorem okG {x qual : Str} {st : Stmt} {f : Addr} {fd : FuncData} {N ps : List Str} {k : Nat} {sp : Sp} (F : Fun K x qual st f fd) (S : FnScope N ps (defScope st)) (many : ∀ vs H Q E, sp vs H Q E → vs.length = ps.length)
    (hb : ∀ (cdv : Value) (A : Around) (outer : List Env) (s : Shared) (H : Hp) (vs : List V) (Q : VK) (E : XK), Room k (A.deeper (envOfC qual (defScope st) s.heap.objs.size f cdv)) → NoG A → sp vs H Q E →
      ∃ t, PSs (cxOf CX0 P w K mg base N qual (defScope st) f cdv A outer s H E).nox (defBody st) t ∧ t { nx := fun _ H' => Q .non H', rt := Q } (start N vs) H) : FnG P w K mg base CX0 (k + 1) f fd ps sp := by
  obtain ⟨oc, od, kV, doc, pm, an, cdv, ct, osl, rfl, lk, hcd⟩ := F.ex
  refine fnG_of lk hcd S many fun A outer s H vs Q E hr hg hs => ?_
  obtain ⟨t, h, q⟩ := hb cdv A outer s H vs Q E hr hg hs
  exact ⟨t, h.nox, q⟩
end

section
variable {X : Cx} {CX : CXT} {k : Nat} {f : Addr} {fd : FuncData} {ps : List Str} {sp : Sp} {dvs : List V} {ds : List Value} {E : XK} {x : Str} {p pos : Pos} {e : Expr} {es : List Expr} {t : TA}
theorem runG {pins : List (Addr × Obj)} {σ : L2.St} {H : Hp} {s : Shared} {Q : VK} {us : List Value} {vs : List V} (F : FnG X.prog X.w X.K X.mg X.base CX k f fd ps sp) (hr : Room k X.A) (hg : NoG X.A) (hb : Binds X.K fd ps ds) (hd : Vals dvs ds) (hx : Passes CX X E)
    (I : Inv X pins σ H s) (r : Vals vs us) (h : sp (vs ++ dvs) H Q E) : wpAny (model X.prog X.w) X.A (call (.ref f) us) (EP X pins σ Q) X.xe s := by
  have rv := r.append hd
  have hl : (us ++ ds).length = ps.length := rv.length.symm.trans (F.many _ _ _ _ h)
  refine wpAny_call (codeAny_mono (F.goes X.A X.stack s H ⟨us, []⟩ (us ++ ds) (vs ++ dvs) Q E hr hg I.env0 (hb s us I.kIn hl) rv h) fun r s' hq => ?_)
  match r, hq with
  | .error e, hq => exact hx pins σ H s e s' I hq
  | .ok (.ret u), hq => exact I.after hq
  | .ok .next, hq => exact hq.elim
  | .ok .brk, hq => exact hq.elim
  | .ok .cont, hq => exact hq.elim
/-- f(e, ..) -/
theorem pe_callG (F : FnG X.prog X.w X.K X.mg X.base CX k f fd ps sp) (hr : Room k X.A) (hg0 : NoG X.A) (hg : Gl X x) (hm : X.mg x = some (.ref f)) (hk : PySem.W.keepIn X.K (.ref f) = true) (hb : Binds X.K fd ps ds) (hd : Vals dvs ds) (hx : Passes CX X E)
    (ha : PA X (e :: es) t) (hdb : (x == ("__debug__" : Str)) = false := by decide) (he : starEach (e :: es) X.env = (false, eval e X.env) :: starEach es X.env := by rfl) (hpl : (backTo pos (starEach es X.env)).any (·.1) = false := by rfl) :
    PE X (.Call (.Name x p) (e :: es) [] pos) (tCall sp dvs E t) := by
  constructor
  intro pins s σ H Q I h
  refine wpAny_Call_Name_kw (ld_glob I hg hm ?_ hdb)
  refine PySem.W.callWith_K (h₀ := X.base) I.ok.mod.kin hk (thn (ha.run pos pins s σ H _ I h) fun us s1 z => ?_) he hpl
  obtain ⟨vs, H1, I1, r, q⟩ := z
  exact ⟨I1.kIn, runG F hr hg0 hb hd hx I1 r q⟩
end

/-! ### calls by keywords alone -/
section
variable {X : Cx} {CX : CXT} {k : Nat} {f : Addr} {fd : FuncData} {ps ks : List Str} {sp : Sp} {E : XK} {x : Str} {p pos : Pos} {kws : List Keyword} {tk : TA} {g : List Value → List Value → List Value} {gV : List V → List V → List V}
theorem pe_callKw (F : FnOk X.prog X.w X.K X.mg X.base CX k f fd ps sp) (hr : Room k X.A) (hg : Gl X x) (hm : X.mg x = some (.ref f)) (hk : PySem.W.keepIn X.K (.ref f) = true) (hb : KBinds X.K fd ps ks g gV) (hx : Passes CX X E)
    (hkw : PK X kws tk) (hall : (backToKw pos (keywordEach kws X.env)).all (·.1.isSome) = true := by rfl) (hks : (backToKw pos (keywordEach kws X.env)).filterMap (·.1) = ks := by rfl)
    (hdb : (x == ("__debug__" : Str)) = false := by decide) (hpl : ((backTo pos (starEach [] X.env)).any (·.1) || (backToKw pos (keywordEach kws X.env)).any (·.1.isNone)) = false := by rfl) :
    PE X (.Call (.Name x p) [] kws pos) (tCallK sp gV E tNil tk) := by
  constructor
  intro pins s σ H Q I h
  refine wpAny_Call_Name_kw (ld_glob I hg hm ?_ hdb)
  refine PySem.W.callWith_KW0 (h₀ := X.base) I.ok.mod.kin hk hall ?_ hpl
  refine thn (hkw.run pos pins s σ H _ I h) fun ws s2 z => ?_
  obtain ⟨zs, H2, I2, rz, q⟩ := z
  refine ⟨I2.kIn, ?_⟩
  rw [hks]
  exact run_fnk (us := []) (vs := []) F hr hb hx I2 .nil rz q
end
/-- two values by keywords, in the opposite order -/
def sw2 {α : Type} : List α → List α → List α
  | [], [a, b] => [b, a]
  | _, _ => []
theorem kb_swap {K : PySem.W.Frag} {x qual : Str} {st : Stmt} {f : Addr} {fd : FuncData} {p1 p2 : Str} (F : Fun K x qual st f fd)
    (h : ∀ (kV doc pm : Value) (an : Option Addr) (cdv ct a b : Value), bindArgs (PySem.W.fnOf x qual (defArgs st) (defBody st) (defScope st) .none kV doc pm an cdv ct) ⟨[], [(p2, a), (p1, b)]⟩ = pure [(p1, b), (p2, a)]) :
    KBinds K fd [p1, p2] [p2, p1] sw2 sw2 := by
  obtain ⟨oc, od, kV, doc, pm, an, cdv, ct, osl, rfl, lk, hcd⟩ := F.ex
  refine ⟨fun s us ws _ hl => ?_, fun {vs us zs ws} r z => ?_⟩
  · match us, ws, hl with
    | [], [a, b], _ => exact .of_eq (h kV doc pm an cdv ct a b)
  · cases r with
    | nil =>
      cases z with
      | nil => exact .nil
      | cons a z =>
        cases z with
        | nil => exact .nil
        | cons b z =>
          cases z with
          | nil => exact .cons b (.cons a .nil)
          | cons c z => exact .nil
    | cons a r => exact .nil

/-! ### cuts: what is known behind a part, said once -/
def tCut (t : TE) : TE := fun σ H Q => ∃ Q0 : VK, t σ H Q0 ∧ ∀ x H1, Q0 x H1 → Q x H1
theorem pe_cut {X : Cx} {e : Expr} {t : TE} (h : PE X e t) : PE X e (tCut t) := ⟨fun pins s σ H Q I z => by
  obtain ⟨Q0, h0, h1⟩ := z
  exact thn (h.run pins s σ H Q0 I h0) fun v s1 ⟨x, H1, I1, r, q⟩ => ⟨x, H1, I1, r, h1 x H1 q⟩⟩
def tCutT (t : TT) : TT := fun σ H Q => ∃ Q0 : Bool → Hp → Prop, t σ H Q0 ∧ ∀ b H1, Q0 b H1 → Q b H1
theorem pt_cut {X : Cx} {e : Expr} {t : TT} (h : PT X e t) : PT X e (tCutT t) := ⟨fun pins s σ H Q I z => by
  obtain ⟨Q0, h0, h1⟩ := z
  exact thn (h.run pins s σ H Q0 I h0) fun b s1 ⟨H1, I1, q⟩ => ⟨H1, I1, h1 b H1 q⟩⟩
def tCutS (t : TS) : TS := fun D σ H => ∃ N : L2.St → Hp → Prop, t { D with nx := N } σ H ∧ ∀ σ' H', N σ' H' → D.nx σ' H'
theorem ps_cut {X : Cx} {st : Stmt} {t : TS} (h : PS X st t) : PS X st (tCutS t) := ⟨fun pins s σ H D I z => by
  obtain ⟨N, h0, h1⟩ := z
  refine thn (h.run pins s σ H { D with nx := N } I h0) fun f s1 q => ?_
  cases f with
  | next =>
    obtain ⟨σ', H', I', n⟩ := q
    exact ⟨σ', H', I', h1 σ' H' n⟩
  | brk => exact q
  | cont => exact q
  | ret u => exact q⟩

/-! ### heaps that grow, but for one object -/
/-- all that was tracked stands, but for p -/
def Gr (p : Addr) (H H' : Hp) : Prop := ∀ q o, q ≠ p → H q = some o → H' q = some o
theorem Gr.refl (p : Addr) (H : Hp) : Gr p H H := fun _ _ _ h => h
theorem Gr.trans {p : Addr} {H H1 H2 : Hp} (a : Gr p H H1) (b : Gr p H1 H2) : Gr p H H2 := fun q o n h => b q o n (a q o n h)
theorem Gr.same {p : Addr} {H H' : Hp} (s : Same H H') : Gr p H H' := fun q o _ h => s q o h
theorem Same.mk1 {H : Hp} {p : Addr} {o : HO} (h : H p = none) : Same H (upd H p o) := fun b u e => by
  rw [upd_ne (ne_of_none e h)]
  exact e
/-- what is none behind was none ahead -/
theorem Gr.back {p q : Addr} {H H' : Hp} (g : Gr p H H') (hp : H' p ≠ none) (h : H' q = none) : H q = none := by
  cases e : H q with
  | none => rfl
  | some o =>
    by_cases z : q = p
    · subst z
      exact absurd h hp
    · rw [g q o z e] at h
      cases h
/-- a write to an object that was not tracked at the start -/
theorem Same.put {H H' : Hp} {p : Addr} {o : HO} (s : Same H H') (h : H p = none) : Same H (upd H' p o) := fun b u e => by
  rw [upd_ne (ne_of_none e h)]
  exact s b u e
theorem Gr.put {p q : Addr} {H H' : Hp} {o : HO} (s : Gr q H H') (h : H p = none) : Gr q H (upd H' p o) := fun b u n e => by
  rw [upd_ne (ne_of_none e h)]
  exact s b u n e
theorem Same.lst {H H' : Hp} {a : Addr} {o : HO} (s : Same H H') (h : H a = some o) : H' a = some o := s a o h

theorem Gr.seq {K : PySem.W.Frag} {p q : Addr} {H H' : Hp} {xs : List V} (g : Gr p H H') (n : q ≠ p) (h : SqL K H q xs) : SqL K H' q xs := by
  rcases h with (h | ⟨o, h⟩) | h
  · exact .inl (.inl (g _ _ n h))
  · exact .inl (.inr ⟨o, g _ _ n h⟩)
  · exact .inr h
theorem paired_map {α β γ : Type} {F : α → β → Prop} (f : γ → α) (g : γ → β) : ∀ l : List γ, (∀ e ∈ l, F (f e) (g e)) → Paired F (l.map f) (l.map g)
  | [], _ => .nil
  | e :: r, h => .cons (h e List.mem_cons_self) (paired_map f g r fun x hx => h x (List.mem_cons_of_mem _ hx))
theorem getElem?_map' {α β : Type} {f : α → β} {l : List α} {i : Nat} {y : β} (h : (l.map f)[i]? = some y) : ∃ x, l[i]? = some x ∧ y = f x := by
  rw [List.getElem?_map] at h
  obtain ⟨x, h1, h2⟩ := Option.map_eq_some_iff.mp h
  exact ⟨x, h1, h2.symm⟩
theorem take_next {α : Type} : ∀ {l : List α} {i : Nat} {x : α}, l[i]? = some x → l.take (i + 1) = l.take i ++ [x]
  | [], i, x, h => nomatch (show (none : Option α) = some x by simpa using h)
  | a :: l, 0, x, h => by
    have e : a = x := Option.some.inj h
    rw [e] <;> rfl
  | a :: l, i + 1, x, h => by
    have q := take_next (l := l) (i := i) (x := x) h
    show a :: l.take (i + 1) = a :: l.take i ++ [x]
    rw [q] <;> rfl

/-! ### slices -/
theorem cutV_map {α : Type} (f : α → V) (xs : List α) (lo hi : Option Int) : cutV (xs.map f) lo hi = ((xs.drop (HT.sIx xs.length 0 lo)).take (HT.sIx xs.length xs.length hi - HT.sIx xs.length 0 lo)).map f := by
  unfold cutV
  rw [List.length_map, List.map_take, List.map_drop]
theorem cut_from {xs : List V} {i : Int} (h : 0 ≤ i) : cutV xs (some i) none = xs.drop i.toNat := by
  obtain ⟨k, rfl⟩ : ∃ k : Nat, i = (k : Int) := ⟨i.toNat, by omega⟩
  unfold cutV
  rw [HT.sIx_nat, HT.sIx_none, Int.toNat_natCast]
  by_cases hk : k ≤ xs.length
  · rw [Nat.min_eq_left hk, List.take_of_length_le (by rw [List.length_drop]; exact Nat.le_refl _)]
  · rw [Nat.min_eq_right (by omega), List.drop_eq_nil_of_le (Nat.le_refl _), List.drop_eq_nil_of_le (by omega), List.take_nil]
theorem cut_to {xs : List V} {j : Int} (h : 0 ≤ j) : cutV xs none (some j) = xs.take j.toNat := by
  obtain ⟨k, rfl⟩ : ∃ k : Nat, j = (k : Int) := ⟨j.toNat, by omega⟩
  unfold cutV
  rw [HT.sIx_nat, HT.sIx_none, Int.toNat_natCast, List.drop_zero, Nat.sub_zero]
  by_cases hk : k ≤ xs.length
  · rw [Nat.min_eq_left hk]
  · rw [Nat.min_eq_right (by omega), List.take_of_length_le (Nat.le_refl _), List.take_of_length_le (by omega)]

/-! ### repr of data -/
/-- repr(x), x data without dicts -/
def rRepr (K : PySem.W.Frag) : List V → Hp → VK → Prop := fun xs H Q => ∃ (a : Addr) (d : PyData), xs = [.ref a] ∧ Dp K H (.ref a) d ∧ d.showable = true ∧ d.hasDict = false ∧ d.depth ≤ 60 ∧ d.shown.length ≤ sizeLine ∧ Q (.str d.shown) H
theorem call_repr {X : Cx} {k : Nat} (hr : Room k X.A) (hg : NoG X.A) : CallR X (.builtin "repr") (rRepr X.K) := by
  intro pins s σ H xs us Q I r h
  obtain ⟨a, d, rfl, hd, hs, hn, hp, hz, q⟩ := h
  obtain ⟨u, rfl, ru⟩ := vals1 r
  obtain ⟨as, rd⟩ := Dp.reads I d _ u hd ru
  obtain rfl : u = Value.ref a := ru
  have hu := hr.units
  exact repr_of_reads' rd hs (PyData.noDict_hsm hn) hg (by omega) (fun _ _ e => e) (fun h' u tk kp => ⟨.str d.shown, H, I.kept kp, ⟨u, rfl⟩, q⟩) hz

/-! ### the head of a law whose promise is a FnG -/
theorem law_callG {P : Program} {w : World} {K : PySem.W.Frag} {mg mb : Str → Option Value} {CX : CXT} {k : Nat} {fa a : Addr} {fd : FuncData} {x : Str} {sp : Sp} {s₁ : Shared} {vs : List Value} {ns : List Int}
    (KX : K.In s₁.heap) (hns : s₁.heap.Ns mainGlobals mg) (hb : s₁.heap.Ns builtinsNs mb) (hbb : ∀ x : Str, x ≠ "__name__" → mb x = bootBuiltins x) (hlim : s₁.heap.NoLimit) (hg : s₁.gens = #[])
    (ha : s₁.heap.get? a = some { cls := .type "list", data := .seq vs.toArray }) (hi : IntsAre vs ns) (hl : ns.length ≤ sizeLine) (hr : Room k callerA)
    (F : ∀ base : Heap, K.In base → base.Ns mainGlobals mg → FnG P w K mg base CX k fa fd [x] sp) (hbind : ∀ (s : Shared) (u : Value), BindsTo s fd ⟨[u], []⟩ [(x, u)])
    (hsp : ∀ H : Hp, Only H → SqL K H a (ns.map V.int) → sp [.ref a] H (fun v _ => v = .bl true) fun _ _ _ => False)
    (hCX : ∀ H e s', CX [] H s₁ (fun _ _ _ => False) e s' → False) :
    codeAny (model P w) callerA (.call (.ref fa) ⟨[.ref a], []⟩) (fun r s' => r = .ok (.ret (.bool true)) ∧ OldK s₁.heap s'.heap ∧ s'.os = s₁.os ∧ AllBare s'.gens) s₁ := by
  have rv := vals_ints hi
  have lenV := hi.length
  have main : ∀ H : Hp, Only H → SqL K H a (ns.map V.int) → HOk P w H s₁.heap → (∀ b, H b ≠ none → b = a) → (H a ≠ none → K.lookup a = none) →
      codeAny (model P w) callerA (.call (.ref fa) ⟨[.ref a], []⟩) (fun r s' => r = .ok (.ret (.bool true)) ∧ OldK s₁.heap s'.heap ∧ s'.os = s₁.os ∧ AllBare s'.gens) s₁ := by
    intro H hO hS hok hA hK
    have free_of : ∀ {b : Addr}, (b = a → H b = none) → H b = none := fun {b} z => by
      cases q : H b with
      | none => rfl
      | some u =>
        rw [← q]
        exact z (hA b (by rw [q]; exact fun y => nomatch y))
    have dict_free : ∀ {b : Addr} {o : Obj} {es : Array DictEntry} {ep : Nat}, s₁.heap.get? b = some o → o.data = .dict es ep → H b = none := fun {b o es ep} e d => free_of fun z => by
      subst z
      rw [ha] at e
      cases e
      cases (show Data.seq vs.toArray _ = Data.dict es ep from d)
    have nsT : ∀ {b : Addr} {m : Str → Option Value}, s₁.heap.Ns b m → (hidT s₁.heap H).Ns b m := fun {b m} z => by
      obtain ⟨o, es, ep, e, d, r⟩ := z
      exact ⟨o, es, ep, hidT_get e (dict_free e d), d, r⟩
    have hKb : K.In (hidT s₁.heap H) := fun b o e => hidT_get (KX b o e) (by
      cases q : H b with
      | none => rfl
      | some u =>
        have e' : b = a := hA b (by rw [q]; exact fun y => nomatch y)
        subst e'
        rw [hK (by rw [q]; exact fun y => nomatch y)] at e
        cases e)
    have hM : Mod K mg (hidT s₁.heap H) := ⟨hKb, nsT hns, ⟨mb, nsT hb, hbb⟩, by obtain ⟨mc, h1, h2⟩ := hlim; exact ⟨mc, nsT h1, h2⟩⟩
    have e0 : Env0 P w K mg (hidT s₁.heap H) callerA [] s₁ H := ⟨rfl, hM, fun b o e => of_hidT e, Nat.le_of_eq (hidT_size _ _), True.intro, fun b hb => absurd (show b ∈ ([] : List Addr) from hb) List.not_mem_nil, hok, .of_eq hg⟩
    refine codeAny_mono ((F _ hKb (nsT hns)).goes callerA [] s₁ H ⟨[.ref a], []⟩ [.ref a] [.ref a] _ _ hr rfl e0 (hbind s₁ (.ref a)) (.cons rfl .nil) (hsp H hO hS)) fun r s' h => ?_
    match r, h with
    | .error e, h => exact (hCX H e s' h).elim
    | .ok .next, h => exact False.elim h
    | .ok .brk, h => exact False.elim h
    | .ok .cont, h => exact False.elim h
    | .ok (.ret u), h =>
      obtain ⟨v, H', os, bare, un, hok', r', q⟩ := h
      obtain rfl : v = V.bl true := q
      obtain rfl : u = Value.bool true := r'
      refine ⟨rfl, OldK.of_keep fun b o e => ?_, os, bare⟩
      rcases hO b with z | ⟨ob, xs, z⟩
      · exact un.keep b o e z (fun y => absurd (show b ∈ ([] : List Addr) from y) List.not_mem_nil) List.not_mem_nil
      · have e1 := (hok b _ z).1
        have e2 := (hok' b _ (un.frzs b ob _ z)).1
        rw [e] at e1
        cases e1
        exact e2
  cases hk : K.lookup a with
  | some o =>
    have e := KX a o hk
    rw [ha] at e
    cases e
    exact main (fun _ => none) (fun _ => .inl rfl) (.inr ⟨_, vs.toArray, _, hk, rfl, rfl, rfl, by rw [List.size_toArray, lenV]; exact hl, by simpa using rv⟩) (fun b u z => nomatch z) (fun b z => absurd rfl z) fun z => absurd rfl z
  | none =>
    refine main (fun b => if b = a then some (.frz { cls := .type "list", data := .seq vs.toArray } (.lst (ns.map V.int))) else none) (fun b => ?_) (.inl (.inr ⟨{ cls := .type "list", data := .seq vs.toArray }, if_pos rfl⟩)) (fun b u z => ?_) (fun b z => ?_) fun _ => hk
    · by_cases hb : b = a
      · exact .inr ⟨_, _, if_pos hb⟩
      · exact .inl (if_neg hb)
    · by_cases hb : b = a
      · have z' := (if_pos hb).symm.trans z
        cases z'
        subst hb
        exact ⟨ha, by rw [List.length_map]; exact hl, vs, _, rv, ha⟩
      · have z' := (if_neg hb).symm.trans z
        cases z'
    · by_cases hb : b = a
      · exact hb
      · exact absurd (if_neg hb) z

theorem walkG {l : PySem.W.OpenLaw} {n k : Nat} {q : Program} {loose : List Str} {XP : (Str → Option Value) → Heap → Prop} {YP : World → Heap → Prop} {d : DefRec} {K : Params → PySem.W.Frag} {CX : World → CXT} {sp : World → Sp} {x : Str}
    (hn : l.most = some n) (hn2 : n ≤ sizeLine) (hdf : d.params.defaults = []) (hr : Room k callerA)
    (hY : ∀ (w : World) (h : Heap), YP w h → (K w.params).In h)
    (F : ∀ (w : World) (mg : Str → Option Value) (fa : Addr) (h : Heap), (K w.params).In h → h.Ns mainGlobals mg → mg d.name = some (.ref fa) →
      ∃ fd : FuncData, (∀ (s : Shared) (u : Value), BindsTo s fd ⟨[u], []⟩ [(x, u)]) ∧
        ∀ base : Heap, (K w.params).In base → base.Ns mainGlobals mg → FnG l.prog w (K w.params) mg base (CX w) k fa fd [x] (sp w))
    (hsp : ∀ (w : World) (H : Hp) (a : Addr) (ns : List Int), ns.length ≤ n → Only H → SqL (K w.params) H a (ns.map V.int) → sp w [.ref a] H (fun v _ => v = .bl true) fun _ _ _ => False)
    (hCX : ∀ (w : World) (H : Hp) (s : Shared) (e : Value) (s' : Shared), CX w [] H s (fun _ _ _ => False) e s' → False) :
    PySem.W.WalkO q loose XP YP l.row.toRowW d [] (fun f vs => PySem.call f vs) := by
  refine Att.attach_call hn hdf fun w s₀ s₁ mg mb fa o pm cd doc a vs ns G Y ho hd hcd hmg hobj hints hlen hg => ?_
  obtain ⟨fd, hb, hF⟩ := F w mg fa _ (hY w _ Y) G.T.g hmg
  exact law_callG (hY w _ Y) G.T.g G.T.b G.T.builtins G.T.nolimit hg hobj hints (Nat.le_trans hlen hn2) hr hF hb (fun H hO hS => hsp w H a ns hlen hO hS) fun H e s' => hCX w H s₁ e s'
end PX
/-! Tables: dicts of ints as lists of pairs; dicts of them by names. -/
namespace PX
open PySem PySem.Spec PyProof.Rows L2

/-! ### lists of pairs -/
section
variable {κ β : Type} [DecidableEq κ]
def getL (l : List (κ × β)) (k : κ) : Option β := (l.find? fun p => decide (p.1 = k)).map (·.2)
def hasL (l : List (κ × β)) (k : κ) : Bool := l.any fun p => decide (p.1 = k)
def putL (l : List (κ × β)) (k : κ) (v : β) : List (κ × β) := if hasL l k = true then l.map (fun p => if p.1 = k then (p.1, v) else p) else l ++ [(k, v)]
def dropL (l : List (κ × β)) (k : κ) : List (κ × β) := l.filter fun p => decide (p.1 ≠ k)
theorem hasL_iff {l : List (κ × β)} {k : κ} : hasL l k = true ↔ k ∈ l.map (·.1) := by
  unfold hasL
  rw [List.any_eq_true, List.mem_map]
  constructor
  · rintro ⟨p, hp, h⟩
    exact ⟨p, hp, of_decide_eq_true h⟩
  · rintro ⟨p, hp, h⟩
    exact ⟨p, hp, decide_eq_true h⟩
theorem putL_keys (l : List (κ × β)) (k : κ) (v : β) : (putL l k v).map (·.1) = if k ∈ l.map (·.1) then l.map (·.1) else l.map (·.1) ++ [k] := by
  unfold putL
  by_cases h : hasL l k = true
  · rw [if_pos h, if_pos (hasL_iff.mp h), List.map_map]
    refine List.map_congr_left fun p _ => ?_
    show (if p.1 = k then (p.1, v) else p).1 = p.1
    split <;> rfl
  · rw [if_neg h, if_neg fun z => h (hasL_iff.mpr z), List.map_append]
    rfl
theorem putL_nodup {l : List (κ × β)} (k : κ) (v : β) (h : (l.map (·.1)).Nodup) : ((putL l k v).map (·.1)).Nodup := by
  rw [putL_keys]
  split
  · exact h
  · rename_i hk
    rw [List.nodup_append]
    exact ⟨h, by simp, fun a ha b hb e => hk (by rw [List.mem_singleton] at hb; rw [← hb, ← e]; exact ha)⟩
theorem putL_length (l : List (κ × β)) (k : κ) (v : β) : (putL l k v).length ≤ l.length + 1 := by
  unfold putL
  split
  · rw [List.length_map]; omega
  · rw [List.length_append]; exact Nat.le_refl _
theorem putL_mem {l : List (κ × β)} {k : κ} {v : β} {p : κ × β} (h : p ∈ putL l k v) : p ∈ l ∨ p = (k, v) := by
  unfold putL at h
  split at h
  · obtain ⟨q, hq, e⟩ := List.mem_map.mp h
    by_cases z : q.1 = k
    · rw [if_pos z] at e
      exact .inr (by rw [← e, z])
    · rw [if_neg z] at e
      exact .inl (e ▸ hq)
  · rcases List.mem_append.mp h with h | h
    · exact .inl h
    · exact .inr (List.mem_singleton.mp h)
theorem putL_new {l : List (κ × β)} {k : κ} (v : β) (h : k ∉ l.map (·.1)) : putL l k v = l ++ [(k, v)] := by
  unfold putL
  rw [if_neg fun z => h (hasL_iff.mp z)]
theorem getL_none {l : List (κ × β)} {k : κ} : getL l k = none ↔ k ∉ l.map (·.1) := by
  unfold getL
  rw [Option.map_eq_none_iff, List.find?_eq_none, List.mem_map]
  constructor
  · rintro h ⟨p, hp, e⟩
    exact h p hp (decide_eq_true e)
  · intro h p hp e
    exact h ⟨p, hp, of_decide_eq_true e⟩
theorem getL_of_mem {l : List (κ × β)} {k : κ} {v : β} (nd : (l.map (·.1)).Nodup) (h : (k, v) ∈ l) : getL l k = some v := by
  induction l with
  | nil => cases h
  | cons p r ih =>
    unfold getL
    rw [List.find?_cons]
    rcases List.mem_cons.mp h with e | e
    · subst e
      simp
    · have nk : p.1 ≠ k := fun z => (List.nodup_cons.mp nd).1 (List.mem_map.mpr ⟨(k, v), e, z.symm⟩)
      have q := ih (List.nodup_cons.mp nd).2 e
      unfold getL at q
      simp [nk, q]
theorem mem_of_getL {l : List (κ × β)} {k : κ} {v : β} (h : getL l k = some v) : (k, v) ∈ l := by
  unfold getL at h
  obtain ⟨p, hp, e⟩ := Option.map_eq_some_iff.mp h
  have h1 := List.mem_of_find?_eq_some hp
  have h2 := List.find?_some hp
  have h3 : p.1 = k := of_decide_eq_true h2
  subst e
  subst h3
  exact h1
theorem getL_put (l : List (κ × β)) (k j : κ) (v : β) : getL (putL l k v) j = if j = k then some v else getL l j := by
  unfold putL
  by_cases h : hasL l k = true
  · rw [if_pos h]
    have key : ∀ l : List (κ × β), getL (l.map fun p => if p.1 = k then (p.1, v) else p) j = if j = k then (if k ∈ l.map (·.1) then some v else none) else getL l j := by
      intro l
      induction l with
      | nil =>
        by_cases e : j = k
        · rw [if_pos e]
          rfl
        · rw [if_neg e]
          rfl
      | cons p r ih =>
        unfold getL at ih ⊢
        rw [List.map_cons, List.find?_cons, List.find?_cons]
        by_cases e : p.1 = k
        · rw [if_pos e]
          by_cases z : j = k
          · subst z
            simp [e]
          · have z1 : ¬ p.1 = j := fun y => z (y.symm.trans e)
            simp only [decide_eq_false z1]
            rw [ih, if_neg z, if_neg z]
        · rw [if_neg e]
          by_cases z : p.1 = j
          · have z2 : ¬ j = k := fun y => e (z.trans y)
            simp [z, z2]
          · simp only [decide_eq_false z]
            rw [ih]
            by_cases y : j = k
            · have e' : ¬ k = p.1 := fun q => e q.symm
              rw [if_pos y, if_pos y, List.map_cons]
              simp only [List.mem_cons, e', false_or]
            · rw [if_neg y, if_neg y]
    rw [key]
    by_cases e : j = k
    · rw [if_pos e, if_pos e, if_pos (hasL_iff.mp h)]
    · rw [if_neg e, if_neg e]
  · rw [if_neg h]
    have hk : k ∉ l.map (·.1) := fun z => h (hasL_iff.mpr z)
    by_cases e : j = k
    · subst e
      rw [if_pos rfl]
      have q := getL_none.mpr hk
      unfold getL at q ⊢
      rw [List.find?_append, Option.map_eq_none_iff.mp q]
      simp
    · rw [if_neg e]
      unfold getL
      rw [List.find?_append]
      have z : ¬ k = j := fun y => e y.symm
      simp [List.find?_cons, z]
end

/-! ### tables: ints to ints -/
abbrev Tab := List (Int × Int)
def kI (p : Int × Int) : Key × V := (Sum.inl p.1, .int p.2)
abbrev tab (l : Tab) : List (Key × V) := l.map kI
theorem tab_len (l : Tab) : (tab l).length = l.length := List.length_map ..
theorem any_tab (l : Tab) (k : Int) : ((tab l).any fun kv => decide (kv.1 = (Sum.inl k : Key))) = hasL l k := by
  unfold hasL tab
  rw [List.any_map]
  congr 1
  funext p
  show decide ((Sum.inl p.1 : Key) = Sum.inl k) = decide (p.1 = k)
  by_cases e : p.1 = k
  · rw [e]; simp
  · rw [decide_eq_false e, decide_eq_false fun z => e (Sum.inl.inj z)]
theorem putK_tab (l : Tab) (k v : Int) : putK (tab l) (Sum.inl k : Key) (.int v) = tab (putL l k v) := by
  unfold putK putL
  rw [any_tab]
  by_cases h : hasL l k = true
  · rw [if_pos h, if_pos h]
    unfold tab
    rw [List.map_map, List.map_map]
    refine List.map_congr_left fun p _ => ?_
    show (if (Sum.inl p.1 : Key) = Sum.inl k then ((Sum.inl p.1 : Key), V.int v) else (Sum.inl p.1, .int p.2)) = kI (if p.1 = k then (p.1, v) else p)
    by_cases e : p.1 = k
    · rw [if_pos e, if_pos (by rw [e])]
      rfl
    · rw [if_neg e, if_neg fun z => e (Sum.inl.inj z)]
      rfl
  · rw [if_neg h, if_neg h]
    unfold tab
    rw [List.map_append]
    rfl
theorem valV_tab (l : Tab) (k : Int) : valV (tab l) (Sum.inl k : Key) = (getL l k).map V.int := by
  unfold valV getL tab
  rw [List.find?_map]
  have e : ((fun kv : Key × V => decide (kv.1 = Sum.inl k)) ∘ kI) = fun p : Int × Int => decide (p.1 = k) := by
    funext p
    show decide ((Sum.inl p.1 : Key) = Sum.inl k) = decide (p.1 = k)
    by_cases e : p.1 = k
    · rw [e]; simp
    · rw [decide_eq_false e, decide_eq_false fun z => e (Sum.inl.inj z)]
  rw [e]
  cases l.find? _ with
  | none => rfl
  | some p => rfl
/-- an int of thirty digits at most -/
def Num (r : Int) : Prop := -(10 ^ 30) < r ∧ r < 10 ^ 30
/-- distinct keys, small numbers -/
structure TabOk (l : Tab) : Prop where
  nd : (l.map (·.1)).Nodup
  sm : ∀ p ∈ l, Num p.1 ∧ Num p.2
theorem TabOk.nil : TabOk [] := ⟨List.nodup_nil, fun _ h => nomatch h⟩
theorem TabOk.put {l : Tab} (h : TabOk l) {k v : Int} (hk : Num k) (hv : Num v) : TabOk (putL l k v) :=
  ⟨putL_nodup k v h.nd, fun p hp => by
    rcases putL_mem hp with q | q
    · exact h.sm p q
    · rw [q]; exact ⟨hk, hv⟩⟩
/-- at d stands a table -/
def TabAt (H : Hp) (d : Addr) (l : Tab) : Prop := H d = some (.dK (tab l))

/-! ### tables by names: name, address, table -/
abbrev Sheets := List (Str × Addr × Tab)
def kS (s : Str × Addr × Tab) : Key × V := (Sum.inr s.1, .ref s.2.1)
structure SheetsAt (H : Hp) (d : Addr) (sh : Sheets) : Prop where
  top : H d = some (.dK (sh.map kS))
  nd : (sh.map (·.1)).Nodup
  all : ∀ s ∈ sh, TabAt H s.2.1 s.2.2
theorem SheetsAt.ne {H : Hp} {d : Addr} {sh : Sheets} (S : SheetsAt H d sh) {s : Str × Addr × Tab} (hs : s ∈ sh) : s.2.1 ≠ d := fun z => by
  have h : H s.2.1 = some (.dK (tab s.2.2)) := S.all s hs
  rw [z, S.top] at h
  have e : sh.map kS = tab s.2.2 := HO.dK.inj (Option.some.inj h)
  cases sh with
  | nil => cases hs
  | cons a r =>
    cases hl : s.2.2 with
    | nil => rw [hl] at e; cases e
    | cons b q =>
      rw [hl] at e
      have e1 : kS a = kI b := (List.cons.inj e).1
      have e2 : (Sum.inr a.1 : Key) = Sum.inl b.1 := congrArg Prod.fst e1
      cases e2
theorem mergeK_nil : ∀ (l acc : List (Key × V)), (acc.map (·.1) ++ l.map (·.1)).Nodup → mergeK acc l = acc ++ l
  | [], acc, _ => by rw [List.append_nil]; rfl
  | p :: r, acc, h => by
    have hn : p.1 ∉ acc.map (·.1) := fun z => by
      have := (List.nodup_append.mp h).2.2 p.1 z p.1 (by simp)
      exact this rfl
    have e : putK acc p.1 p.2 = acc ++ [p] := by
      rw [putK_new]
      rw [show valV acc p.1 = getL acc p.1 from rfl]
      exact getL_none.mpr hn
    show mergeK (putK acc p.1 p.2) r = acc ++ p :: r
    rw [e, mergeK_nil r (acc ++ [p]) (by simpa using h)]
    simp
theorem mergeK_id {l : List (Key × V)} (h : (l.map (·.1)).Nodup) : mergeK [] l = l := by
  rw [mergeK_nil l [] (by simpa using h)]
  rfl
theorem inr_nodup : ∀ {l : List Str}, l.Nodup → (l.map (Sum.inr : Str → Key)).Nodup
  | [], _ => List.nodup_nil
  | x :: r, h => by
    rw [List.map_cons, List.nodup_cons]
    refine ⟨fun z => ?_, inr_nodup (List.nodup_cons.mp h).2⟩
    obtain ⟨y, hy, e⟩ := List.mem_map.mp z
    cases Sum.inr.inj e
    exact (List.nodup_cons.mp h).1 hy
theorem putK_sheet {es : Sheets} {nm : Str} {a : Addr} (t : Tab) (h : nm ∉ es.map (·.1)) : putK (es.map kS) (Sum.inr nm : Key) (.ref a) = (es ++ [(nm, a, t)]).map kS := by
  rw [putK_new, List.map_append]
  · rfl
  · rw [show valV (es.map kS) (Sum.inr nm : Key) = getL (es.map kS) (Sum.inr nm : Key) from rfl]
    refine getL_none.mpr fun z => ?_
    obtain ⟨p, hp, e⟩ := List.mem_map.mp z
    obtain ⟨s, hs, rfl⟩ := List.mem_map.mp hp
    exact h (List.mem_map.mpr ⟨s, hs, Sum.inr.inj e⟩)
theorem not_mem_take {α : Type} : ∀ {l : List α} {i : Nat} {x : α}, l.Nodup → l[i]? = some x → x ∉ l.take i
  | [], _, _, _, h => by simp at h
  | a :: l, 0, x, _, _ => by simp
  | a :: l, i + 1, x, nd, h => by
    rw [List.take_succ_cons, List.mem_cons]
    rintro (z | z)
    · subst z
      exact (List.nodup_cons.mp nd).1 (List.mem_of_getElem? (by simpa using h))
    · exact not_mem_take (List.nodup_cons.mp nd).2 (by simpa using h) z
theorem valV_sheets (sh : Sheets) (x : Str) : valV (sh.map kS) (Sum.inr x : Key) = ((sh.find? fun s => decide (s.1 = x)).map fun s => V.ref s.2.1) := by
  unfold valV
  rw [List.find?_map]
  have e : ((fun kv : Key × V => decide (kv.1 = Sum.inr x)) ∘ kS) = fun s : Str × Addr × Tab => decide (s.1 = x) := by
    funext p
    show decide ((Sum.inr p.1 : Key) = Sum.inr x) = decide (p.1 = x)
    by_cases e : p.1 = x
    · rw [e]; simp
    · rw [decide_eq_false e, decide_eq_false fun z => e (Sum.inr.inj z)]
  rw [e]
  cases sh.find? _ with
  | none => rfl
  | some p => rfl
/-- one to six letters from a to z -/
def nmB (x : Str) : Bool := decide (1 ≤ x.length) && decide (x.length ≤ 6) && x.cps.toList.all fun c => decide (97 ≤ c) && decide (c ≤ 122)
end PX
/-! A dict comprehension over anything that is walked; what is locked meanwhile. -/
namespace PX
open PySem PySem.Spec PyProof.Rows L2
section
variable {J : It} {n : Nat} {G : Hp → Prop} {Y : Nat → Hp → V → Hp → Prop}
theorem dc_it (w : Walk J n G Y) {g : TG} {tt : TT} {tk tv : TE} {vs : List Nat} {σ : L2.St} {H1 : Hp} {D : Addr} {Qd : Hp → Prop} (Pv : Nat → Hp → Prop) (h0 : Pv 0 (upd H1 D (.dK []))) (hG : ∀ i H, i ≤ n → Pv i H → G H)
    (hs : ∀ i x H H', i < n → Pv i H → Y i H x H' → g x (wipe σ vs) H' fun σ2 H2 => wipe σ2 vs = wipe σ vs ∧ tt σ2 H2 fun b H3 =>
      if b = true then tk σ2 H3 fun y H4 => tv σ2 H4 fun z H5 => ∃ kvs k, y = kV k ∧ H5 D = some (.dK kvs) ∧ kvs.length < sizeLine ∧ Pv (i + 1) (upd H5 D (.dK (putK kvs k z))) else Pv (i + 1) H3)
    (hd : ∀ H, Pv n H → Qd H) :
    ∃ W : Nat → Nat → Hp → Prop, (∃ m, W 0 m (upd H1 D (.dK []))) ∧ ∀ i m H, W i m H →
      (J.stop i H ∧ Qd H) ∨ (J.go i H ∧ ∃ Nx : Hp → Prop, (∀ H', Nx H' → ∃ m', m' < m ∧ W (i + 1) m' H') ∧ ∀ x H', J.yld i H x H' → g x (wipe σ vs) H' fun σ2 H2 => wipe σ2 vs = wipe σ vs ∧ tt σ2 H2 fun b H3 =>
        if b = true then tk σ2 H3 fun y H4 => tv σ2 H4 fun z H5 => ∃ kvs k, y = kV k ∧ H5 D = some (.dK kvs) ∧ kvs.length < sizeLine ∧ Nx (upd H5 D (.dK (putK kvs k z))) else Nx H3) := by
  refine ⟨fun i m H => m = n - i ∧ i ≤ n ∧ Pv i H, ⟨n, (Nat.sub_zero n).symm, Nat.zero_le _, h0⟩, ?_⟩
  rintro i m H ⟨hm, hi, p⟩
  subst hm
  have q := hG i H hi p
  cases Nat.lt_or_ge i n with
  | inl lt => exact .inr ⟨w.goes i H lt q, Pv (i + 1), (fun H' p' => ⟨n - (i + 1), by omega, rfl, lt, p'⟩), fun x H' y => hs i x H H' lt p (w.yields i H x H' lt q y)⟩
  | inr ge =>
    have e : i = n := Nat.le_antisymm hi ge
    subst e
    exact .inl ⟨w.stops H q, hd H p⟩
end
theorem getElem?_map2 {α β γ : Type} {f : α → β} {g : β → γ} {l : List α} {i : Nat} {y : γ} (h : (l.map f)[i]?.map g = some y) : ∃ x, l[i]? = some x ∧ y = g (f x) := by
  obtain ⟨z, h1, h2⟩ := Option.map_eq_some_iff.mp h
  obtain ⟨x, h3, h4⟩ := getElem?_map' h1
  exact ⟨x, h3, by rw [← h2, h4]⟩
/-- locked, the rest as it was -/
theorem Same.lock {H : Hp} {d : Addr} {u o : HO} {b : Addr} (h : H b = some u) (n : b ≠ d) : upd H d o b = some u := (upd_ne n).trans h
/-- a heap grown over a lock, unlocked -/
theorem Same.unlock {H H' : Hp} {d : Addr} {u w : HO} (hd : H d = some u) (s : Same (upd H d w) H') : Same H (upd H' d u) := fun b o e => by
  by_cases z : b = d
  · subst z
    rw [hd] at e
    cases e
    exact upd_same
  · rw [upd_ne z]
    exact s b o (by rw [upd_ne z]; exact e)
/-- a list or a tuple that is read -/
def Sq (K : PySem.W.Frag) (H : Hp) (q : Addr) (xs : List V) : Prop := SqL K H q xs ∨ SqT K H q xs
theorem Sq.move {K : PySem.W.Frag} {H H' : Hp} {q : Addr} {xs : List V} (h : Sq K H q xs) (m : ∀ o, (∀ kvs, o ≠ .dK kvs) → H q = some o → H' q = some o) : Sq K H' q xs := by
  rcases h with ((h | ⟨o, h⟩) | h) | ((h | ⟨o, h⟩) | h)
  · exact .inl (.inl (.inl (m _ (fun _ z => nomatch z) h)))
  · exact .inl (.inl (.inr ⟨o, m _ (fun _ z => nomatch z) h⟩))
  · exact .inl (.inr h)
  · exact .inr (.inl (.inl (m _ (fun _ z => nomatch z) h)))
  · exact .inr (.inl (.inr ⟨o, m _ (fun _ z => nomatch z) h⟩))
  · exact .inr (.inr h)
theorem Sq.same {K : PySem.W.Frag} {H H' : Hp} {q : Addr} {xs : List V} (h : Sq K H q xs) (s : Same H H') : Sq K H' q xs := h.move fun o _ e => s _ _ e
theorem Sq.lock {K : PySem.W.Frag} {H : Hp} {d q : Addr} {xs : List V} {kvs : List (Key × V)} {u : HO} (h : Sq K H q xs) (hd : H d = some (.dK kvs)) : Sq K (upd H d u) q xs := h.move fun o n e => by
  rw [upd_ne fun z => ?_]
  · exact e
  · rw [z, hd] at e
    exact n kvs (Option.some.inj e).symm
end PX
/-! How long the repr of data may be. -/
namespace PX
open PySem PySem.Spec PyProof.Rows L2
mutual
def costD : PyData → Nat
  | .none => 4
  | .bool _ => 5
  | .int _ => 2000
  | .str x => 10 * x.length + 2
  | .list xs => costL xs + 2
  | .tuple xs => costL xs + 3
  | .dict kvs => costK kvs + 2
def costL : List PyData → Nat
  | [] => 0
  | x :: xs => costD x + 2 + costL xs
def costK : List (PyData × PyData) → Nat
  | [] => 0
  | (k, v) :: r => costD k + costD v + 4 + costK r
end
mutual
/-- every text's signs are signs -/
def signsD : PyData → Bool
  | .str x => x.cps.toList.all fun c => decide (c < 16 ^ 8)
  | .list xs => signsL xs
  | .tuple xs => signsL xs
  | .dict kvs => signsK kvs
  | _ => true
def signsL : List PyData → Bool
  | [] => true
  | x :: xs => signsD x && signsL xs
def signsK : List (PyData × PyData) → Bool
  | [] => true
  | (k, v) :: r => signsD k && signsD v && signsK r
end
theorem join_le (ts : List Str) : (Str.join ", " ts).length ≤ piled ts := by
  by_cases h : ts = []
  · subst h
    exact Nat.le_refl _
  · have := join_length_add ts h
    omega
theorem textFrom_le : ∀ (ts : List Str) (k : Nat) (acc : Str), (textFrom k acc ts).length ≤ acc.length + piled ts
  | [], _, _ => Nat.le_refl _
  | t :: ts, k, acc => by
    have ih := textFrom_le ts (k + 1)
    rw [piled_cons]
    unfold textFrom
    by_cases h : k > 0
    · simp only [h, if_true]
      refine Nat.le_trans (ih _) ?_
      rw [strLen_append, strLen_append]
      have e : ((", " : String) : Str).length = 2 := rfl
      omega
    · simp only [h, if_false]
      refine Nat.le_trans (ih _) ?_
      have e : ((("" : String) : Str)).length = 0 := rfl
      simp only [strLen_append, e]
      omega
theorem listText_le (ts : List Str) : (listText ts).length ≤ piled ts + 2 := by
  unfold listText
  rw [strLen_append]
  have h := textFrom_le ts 0 "["
  have e1 : ((("[" : String) : Str)).length = 1 := rfl
  have e2 : ((("]" : String) : Str)).length = 1 := rfl
  omega
theorem tupleText_le (ts : List Str) : (tupleText ts).length ≤ piled ts + 3 := by
  unfold tupleText
  rw [strLen_append, strLen_append]
  have h := join_le ts
  have e1 : ((("(" : String) : Str)).length = 1 := rfl
  have e3 : (((if ts.length == 1 then ",)" else ")" : String) : Str)).length ≤ 2 := by split <;> decide +kernel
  omega
theorem dictText_le (ts : List Str) : (dictText ts).length ≤ piled ts + 2 := by
  unfold dictText
  rw [strLen_append, strLen_append]
  have h := join_le ts
  have e1 : ((("{" : String) : Str)).length = 1 := rfl
  have e2 : ((("}" : String) : Str)).length = 1 := rfl
  omega
mutual
theorem shown_le : ∀ d : PyData, d.showable = true → signsD d = true → d.shown.length ≤ costD d
  | .none, _, _ => by decide +kernel
  | .bool b, _, _ => by cases b <;> decide +kernel
  | .int i, h, _ => by
    have h2 : i.natAbs.log2 < 1920 := by simpa [PyData.showable] using h
    have := int_text_length_le (k := 1920) (by decide) h2
    simp only [PyData.shown, costD]
    rw [PySem.ofString_length]
    omega
  | .str x, _, h => by
    simp only [PyData.shown, costD]
    refine StrLaws.reprText_len x fun c hc => ?_
    simp only [signsD, List.all_eq_true] at h
    exact of_decide_eq_true (h c hc)
  | .list xs, h, g => by
    have q := shownL_le xs (by simpa [PyData.showable] using h) (by simpa [signsD] using g)
    simp only [PyData.shown, costD]
    have := listText_le (PyData.shownAll xs)
    omega
  | .tuple xs, h, g => by
    have q := shownL_le xs (by simpa [PyData.showable] using h) (by simpa [signsD] using g)
    simp only [PyData.shown, costD]
    have := tupleText_le (PyData.shownAll xs)
    omega
  | .dict kvs, h, g => by
    have q := shownK_le kvs (by simpa [PyData.showable] using h) (by simpa [signsD] using g)
    simp only [PyData.shown, costD]
    have := dictText_le (PyData.shownKv kvs)
    omega
theorem shownL_le : ∀ ds : List PyData, PyData.showableAll ds = true → signsL ds = true → piled (PyData.shownAll ds) ≤ costL ds
  | [], _, _ => Nat.le_refl _
  | d :: ds, h, g => by
    simp only [PyData.showableAll, Bool.and_eq_true] at h
    simp only [signsL, Bool.and_eq_true] at g
    have h1 := shown_le d h.1 g.1
    have h2 := shownL_le ds h.2 g.2
    simp only [PyData.shownAll, costL]
    rw [piled_cons]
    omega
theorem shownK_le : ∀ ds : List (PyData × PyData), PyData.showableKv ds = true → signsK ds = true → piled (PyData.shownKv ds) ≤ costK ds
  | [], _, _ => Nat.le_refl _
  | (k, v) :: ds, h, g => by
    simp only [PyData.showableKv, Bool.and_eq_true] at h
    simp only [signsK, Bool.and_eq_true] at g
    have h1 := shown_le k h.1.1 g.1.1
    have h2 := shown_le v h.1.2 g.1.2
    have h3 := shownK_le ds h.2 g.2
    simp only [PyData.shownKv, costK]
    rw [piled_cons, strLen_append, strLen_append]
    have e : (((": " : String) : Str)).length = 2 := rfl
    omega
end
theorem sqL_same {K : PySem.W.Frag} {H H' : Hp} {a : Addr} {xs : List V} (s : Same H H') (h : SqL K H a xs) : SqL K H' a xs := s.seq h
theorem sqT_same {K : PySem.W.Frag} {H H' : Hp} {a : Addr} {xs : List V} (s : Same H H') (h : SqT K H a xs) : SqT K H' a xs := by
  rcases h with (h | ⟨o, h⟩) | h
  · exact .inl (.inl (s _ _ h))
  · exact .inl (.inr ⟨o, s _ _ h⟩)
  · exact .inr h
mutual
theorem dp_same {K : PySem.W.Frag} {H H' : Hp} (s : Same H H') : ∀ (d : PyData) (v : V), Dp K H v d → Dp K H' v d
  | .none, _, h => by cases h; exact .non
  | .bool b, _, h => by cases h; exact .bl b
  | .int i, _, h => by cases h; exact .int i
  | .str x, _, h => by cases h; exact .str x
  | .list ds, _, h => by
    cases h with
    | lst h1 h2 => exact .lst (sqL_same s h1) (dps_same s ds _ h2)
  | .tuple ds, _, h => by
    cases h with
    | tup h1 h2 => exact .tup (sqT_same s h1) (dps_same s ds _ h2)
  | .dict _, _, h => by cases h
theorem dps_same {K : PySem.W.Frag} {H H' : Hp} (s : Same H H') : ∀ (ds : List PyData) (vs : List V), DpAll K H vs ds → DpAll K H' vs ds
  | [], _, h => by cases h; exact .nil
  | d :: ds, _, h => by
    cases h with
    | cons h1 h2 => exact .cons (dp_same s d _ h1) (dps_same s ds _ h2)
end
theorem dps_append {K : PySem.W.Frag} {H : Hp} : ∀ {vs : List V} {ds : List PyData} {us : List V} {es : List PyData}, DpAll K H vs ds → DpAll K H us es → DpAll K H (vs ++ us) (ds ++ es)
  | _, _, _, _, .nil, h => h
  | _, _, _, _, .cons a b, h => .cons a (dps_append b h)
theorem dps_map {K : PySem.W.Frag} {H : Hp} {α : Type} (f : α → V) (g : α → PyData) : ∀ l : List α, (∀ x ∈ l, Dp K H (f x) (g x)) → DpAll K H (l.map f) (l.map g)
  | [], _ => .nil
  | x :: r, h => .cons (h x List.mem_cons_self) (dps_map f g r fun y hy => h y (List.mem_cons_of_mem _ hy))
theorem dps_of_paired {K : PySem.W.Frag} {H : Hp} {α β : Type} {F : α → β → Prop} (f : α → V) (g : β → PyData) (h : ∀ x y, F x y → Dp K H (f x) (g y)) : ∀ {l : List α} {r : List β}, Paired F l r → DpAll K H (l.map f) (r.map g)
  | _, _, .nil => .nil
  | _, _, .cons a b => .cons (h _ _ a) (dps_of_paired f g h b)
theorem dps_len {K : PySem.W.Frag} {H : Hp} : ∀ {vs : List V} {ds : List PyData}, DpAll K H vs ds → vs.length = ds.length
  | _, _, .nil => rfl
  | _, _, .cons _ b => congrArg (· + 1) (dps_len b)
/-- the heap without D -/
def hid (D : Addr) (H : Hp) : Hp := fun a => if a = D then none else H a
theorem hid_at {D a : Addr} {H : Hp} (n : a ≠ D) : hid D H a = H a := if_neg n
theorem hid_le (D : Addr) (H : Hp) : Same (hid D H) H := fun b o e => by
  unfold hid at e
  by_cases z : b = D
  · rw [if_pos z] at e; cases e
  · rw [if_neg z] at e; exact e
theorem hid_upd (D : Addr) (H : Hp) (o : HO) : hid D (upd H D o) = hid D H := by
  funext b
  unfold hid
  by_cases z : b = D
  · rw [if_pos z, if_pos z]
  · rw [if_neg z, if_neg z, upd_ne z]
theorem hid_same {D : Addr} {H H' : Hp} (s : Same H H') : Same (hid D H) (hid D H') := fun b o e => by
  unfold hid at e ⊢
  by_cases z : b = D
  · rw [if_pos z] at e; cases e
  · rw [if_neg z] at e ⊢; exact s b o e
theorem hid_gr {p D : Addr} {H H' : Hp} {o : HO} (hp : H D = none) (g : Same H H') : Same H (hid D H') := fun b u e => by
  rw [hid_at (ne_of_none e hp)]
  exact g b u e
/-! ### data made of a list -/
theorem showable_map {α : Type} (f : α → PyData) : ∀ l : List α, (∀ x ∈ l, (f x).showable = true) → PyData.showableAll (l.map f) = true
  | [], _ => rfl
  | x :: r, h => by
    rw [List.map_cons]
    simp only [PyData.showableAll, Bool.and_eq_true]
    exact ⟨h x List.mem_cons_self, showable_map f r fun y hy => h y (List.mem_cons_of_mem _ hy)⟩
theorem nodict_map {α : Type} (f : α → PyData) : ∀ l : List α, (∀ x ∈ l, (f x).hasDict = false) → PyData.hasDictAll (l.map f) = false
  | [], _ => rfl
  | x :: r, h => by
    rw [List.map_cons]
    simp only [PyData.hasDictAll, Bool.or_eq_false_iff]
    exact ⟨h x List.mem_cons_self, nodict_map f r fun y hy => h y (List.mem_cons_of_mem _ hy)⟩
theorem signs_map {α : Type} (f : α → PyData) : ∀ l : List α, (∀ x ∈ l, signsD (f x) = true) → signsL (l.map f) = true
  | [], _ => rfl
  | x :: r, h => by
    rw [List.map_cons]
    simp only [signsL, Bool.and_eq_true]
    exact ⟨h x List.mem_cons_self, signs_map f r fun y hy => h y (List.mem_cons_of_mem _ hy)⟩
theorem cost_map {α : Type} (f : α → PyData) (c : Nat) : ∀ l : List α, (∀ x ∈ l, costD (f x) ≤ c) → costL (l.map f) ≤ l.length * (c + 2)
  | [], _ => Nat.zero_le _
  | x :: r, h => by
    rw [List.map_cons, List.length_cons, Nat.add_mul]
    have h1 := h x List.mem_cons_self
    have h2 := cost_map f c r fun y hy => h y (List.mem_cons_of_mem _ hy)
    simp only [costL]
    omega
theorem depth_map {α : Type} (f : α → PyData) (c : Nat) : ∀ l : List α, (∀ x ∈ l, (f x).depth ≤ c) → PyData.depthAll (l.map f) ≤ c
  | [], _ => Nat.zero_le _
  | x :: r, h => by
    rw [List.map_cons]
    have h1 := h x List.mem_cons_self
    have h2 := depth_map f c r fun y hy => h y (List.mem_cons_of_mem _ hy)
    simp only [PyData.depthAll]
    omega
/-- repr(x): what is asked, in short -/
theorem repr_q {K : PySem.W.Frag} {a : Addr} {d : PyData} {H : Hp} {Q : VK} (h : Dp K H (.ref a) d) (hs : d.showable = true) (hn : d.hasDict = false) (hp : d.depth ≤ 60) (hg : signsD d = true) (hc : costD d ≤ 16000000) (q : Q (.str d.shown) H) : rRepr K [.ref a] H Q :=
  ⟨a, d, rfl, h, hs, hn, hp, by
    have := shown_le d hs hg
    rw [sizeLine_eq]
    omega, q⟩
end PX
/-! Small parts of a heap; heaps that grow but for one object; lists of ints as data. -/
namespace PX
open PySem PySem.Spec PyProof.Rows L2
theorem nsub_new {N H : Hp} {t : Addr} {o : HO} (s : Same N H) : Same (upd N t o) (upd H t o) := fun b u e => by
  by_cases z : b = t
  · subst z
    rw [upd_same] at e ⊢
    exact e
  · rw [upd_ne z] at e ⊢
    exact s b u e
theorem nsub_add {N H : Hp} {t : Addr} {o : HO} (s : Same N H) (h : H t = some o) : Same (upd N t o) H := fun b u e => by
  by_cases z : b = t
  · subst z
    rw [upd_same] at e
    rw [h]
    exact e
  · rw [upd_ne z] at e
    exact s b u e
theorem Gr.putq {q : Addr} {H H' : Hp} {o : HO} (g : Gr q H H') : Gr q H (upd H' q o) := fun b u n e => by
  rw [upd_ne n]
  exact g b u n e
theorem Gr.unlock {H H' : Hp} {d q : Addr} {u w : HO} (hd : H d = some u) (s : Gr q (upd H d w) H') : Gr q H (upd H' d u) := fun b o n e => by
  by_cases z : b = d
  · subst z
    rw [hd] at e
    cases e
    exact upd_same
  · rw [upd_ne z]
    exact s b o n (by rw [upd_ne z]; exact e)
theorem Gr.all {p : Addr} {H H' : Hp} (g : Gr p H H') (h : H p = none) : Same H H' := fun q o e => g q o (ne_of_none e h) e
theorem Gr.from {p : Addr} {H0 H H' : Hp} (s : Same H0 H) (g : Gr p H H') (h : H0 p = none) : Same H0 H' := fun q o e => g q o (ne_of_none e h) (s q o e)
theorem sheets_same {H H' : Hp} {d : Addr} {sh : Sheets} (S : SheetsAt H d sh) (s : Same H H') : SheetsAt H' d sh := ⟨s _ _ S.top, S.nd, fun x hx => s _ _ (S.all x hx)⟩
/-- an object that is no list there -/
theorem ne_lst {H : Hp} {a b : Addr} {kvs : List (Key × V)} {xs : List V} (h : H a = some (.dK kvs)) (g : H b = some (.lst xs)) : a ≠ b := fun z => by
  rw [z, g] at h
  cases h
theorem ne_frz {H : Hp} {a b : Addr} {o : Obj} {u : HO} {xs : List V} (h : H a = some (.frz o u)) (g : H b = some (.lst xs)) : a ≠ b := fun z => by
  rw [z, g] at h
  cases h
theorem none_of {N H : Hp} {b : Addr} {u : HO} (h : ∀ b, N b ≠ none → H b = none) (e : H b = some u) : N b = none := by
  cases q : N b with
  | none => rfl
  | some v =>
    have := h b (by rw [q]; exact fun z => nomatch z)
    rw [e] at this
    cases this
theorem repr_z {d : PyData} (hs : d.showable = true) (hg : signsD d = true) (hc : costD d ≤ 16000000) : d.shown.length ≤ sizeLine := by
  have := shown_le d hs hg
  rw [sizeLine_eq]
  omega
/-! ### lists of ints as data -/
def intsD (ks : List Int) : PyData := .list (ks.map .int)
theorem ints_dp {K : PySem.W.Frag} {H : Hp} {a : Addr} {ks : List Int} (h : SqL K H a (ks.map V.int)) : Dp K H (.ref a) (intsD ks) := .lst h (dps_map V.int PyData.int ks fun k _ => .int k)
theorem ints_eqvAll : ∀ ks : List Int, PyData.eqvAll (ks.map .int) (ks.map .int) = true
  | [] => rfl
  | k :: r => by
    rw [List.map_cons, PyData.eqvAll, ints_eqvAll r]
    simp [PyData.eqv]
theorem ints_eqv (ks : List Int) : PyData.eqv (intsD ks) (intsD ks) = true := by
  unfold intsD
  rw [PyData.eqv]
  exact ints_eqvAll ks
theorem ints_layAll : ∀ ks : List Int, PyData.canLayAll0 (ks.map .int) = true
  | [] => rfl
  | k :: r => by
    rw [List.map_cons, PyData.canLayAll0, ints_layAll r]
    simp [PyData.canLay0]
theorem ints_shaped (ks : List Int) : SeqAt.shaped (intsD ks) = true := by
  unfold SeqAt.shaped
  rw [Bool.and_eq_true]
  refine ⟨?_, ?_⟩
  · unfold intsD
    rw [PyData.canLay0]
    exact ints_layAll ks
  · have := depth_map PyData.int 0 ks fun k _ => Nat.le_refl _
    refine decide_eq_true ?_
    show PyData.depthAll _ + 1 ≤ 64
    omega
end PX
/-! Rules that the class Rule needs: match by texts, slices that are set, fields set side by side. -/
namespace PX
open PySem PySem.Spec PyProof.Rows L2
/-! ### match, each case a value -/
structure PMs (X : Cx) (cs : List MatchCase) (t : V → TS) : Prop where
  run : ∀ (first : Bool) (pins : List (Addr × Obj)) (s : Shared) (σ : L2.St) (H : Hp) (D : Ends) (x : V) (v : Value), RelV x v → Inv X pins σ H s → t x D σ H → wpAny (model X.prog X.w) X.A (matchCases cs X.env v first) (SP X pins D) X.xe s
def mNil : V → TS := fun _ D σ H => D.nx σ H
def mCase (te : TE) (t : TS) (r : V → TS) : V → TS := fun x D σ H => te σ H fun y H1 => rEq x y H1 fun b H2 => ∃ c, b = .bl c ∧ if c = true then t D σ H2 else r x D σ H2
def tMatch (te : TE) (t : V → TS) : TS := fun D σ H => te σ H fun x H1 => t x D σ H1
section
variable {X : Cx}
theorem pm_nil : PMs X [] mNil := ⟨fun _ pins s σ H D x v _ I h => wpAny_matchCases_nil ⟨σ, H, I, h⟩⟩
theorem pm_case {e : Expr} {te : TE} {pos : Pos} {body : List Stmt} {rest : List MatchCase} {t : TS} {r : V → TS} (he : PE X e te) (ht : PSs X body t) (hr : PMs X rest r) : PMs X (⟨.MatchValue e pos, none, body⟩ :: rest) (mCase te t r) := by
  refine ⟨fun first pins s σ H D x v rx I h => wpAny_matchCases_cons (wpAny_matchPattern_Value ?_)⟩
  refine thn (he.run pins s σ H _ I h) fun u s1 ⟨y, H1, I1, ry, q1⟩ => ?_
  refine thn (op_eq pins s1 σ H1 x y v u _ I1 rx ry q1) fun c s2 ⟨z, H2, I2, rz, k, ez, q2⟩ => ?_
  subst ez
  cases rz
  refine wpAny_truthy_bool ?_
  cases k with
  | true => exact wpAny_assignInOrder_none (ht.run pins s2 σ H2 D I2 q2)
  | false => exact hr.run false pins s2 σ H2 D x v rx I2 q2
theorem ps_match {e : Expr} {te : TE} {cs : List MatchCase} {pos : Pos} {t : V → TS} (he : PE X e te) (h : PMs X cs t) : PS X (.Match e cs pos) (tMatch te t) := by
  refine ⟨fun pins s σ H D I hw => wpAny_Match ?_⟩
  exact thn (he.run pins s σ H _ I hw) fun v s1 ⟨x, H1, I1, rx, q1⟩ => h.run true pins s1 σ H1 D x v rx I1 q1
end

/-! ### a field as a target -/
def gFld (K : PySem.W.Frag) (ta : TE) (f : Str) : TG := fun v σ H Q => ta σ H fun x H1 => ∃ a C dx fs, x = .ref a ∧ H1 a = some (.ins C dx fs) ∧ Cls K C ∧ NoAttr K C f ∧ fs.length < 1000 ∧ Q σ (upd H1 a (.ins C dx (putF f v fs)))
section
variable {X : Cx}
theorem pg_fld {o : Expr} {f : Str} {pos : Pos} {ta : TE} (ho : PE X o ta) : PG X (.Attribute o f pos) (gFld X.K ta f) := by
  refine ⟨fun pins s σ H v u Q I r h => ?_⟩
  rw [assign_Attribute]
  refine wpAny_bind (wpAny_holding (thn (ho.run pins s σ H _ I h) fun ov s1 got => ?_))
  obtain ⟨x, H1, I1, rx, a, C, dx, fs, rfl, hins, hcl, hno, hfew, q⟩ := got
  obtain rfl : ov = Value.ref a := rx
  refine wpAny_bind (wpAny_standAt (wpAny_bind (wpAny_holding ?_)))
  exact setattr_ok I1 hins hcl hno hfew r fun s2 I2 => wpAny_release ⟨σ, _, I2, q⟩
end

/-! ### xs[a:] = ys -/
theorem bounds_open {a n : Nat} (h : a ≤ n) : sliceBounds (some (a : Int)) none none n = ((a : Int), (n : Int), 1) := by
  unfold sliceBounds
  have z : ¬ (a : Int) < 0 := by omega
  simp only [Option.getD_none, z, if_false, show (1 : Int) > 0 from by decide, if_true]
  rw [Int.min_eq_left (by omega), Int.max_eq_right (by omega)]
section
variable {prog : Program} {w : World} {A : Around} {E : Value → Shared → Prop} {s : Shared}
theorem setItem_open {l b sl : Addr} {old new : Array Value} {n n2 : Nat} {vl : Value} {a : Nat} {Q : Unit → Shared → Prop}
    (atL : s.heap.get? l = some { cls := .type "list", data := .seq old n }) (atB : s.heap.get? b = some { cls := .type "list", data := .seq new n2 }) (apart : l ≠ b)
    (atS : s.heap.IsSliceOf sl vl .none .none) (lowIs : IsPart vl (some (a : Int))) (low : a ≤ old.size) (few : old.size + new.size ≤ sizeLine)
    (h : Q () { s with heap := s.heap.update l (Obj.mapSeq fun xs => xs.extract 0 a ++ new ++ xs.extract old.size xs.size) }) :
    wpAny (model prog w) A (setItem (.ref l) (.ref sl) (.ref b)) Q E s := by
  have isL := PySem.IsL.isList atL
  have isB := PySem.IsL.isList atB
  obtain ⟨os, sAt, sCls, sData⟩ := id atS
  have sTy : s.TypeIs (.ref sl) "slice" := ⟨os, sAt, sCls⟩
  have other : Builtin.List.listSameRef (.ref l) (.ref b) = false := by
    show (l == b) = false
    exact beq_eq_false_iff_ne.mpr apart
  have hi : (max (a : Int) (old.size : Int)).toNat = old.size := by omega
  have few2 : ((fun xs : Array Value => xs.extract 0 a ++ new ++ xs.extract old.size xs.size) old).size ≤ sizeLine + 1 := by
    dsimp only
    rw [Array.size_append, Array.size_append, Array.size_extract, Array.size_extract]
    omega
  unfold setItem
  refine wpAny_holding (wpAny_bind (wpAny_sequenceKey isL.typeIs (by decide) ?_))
  refine wpAny_bind (wpAny_callSpecial?_slot (name := Str.ofString "__setitem__") isL.typeIs slot_list_setitem (wpAny_call_entry slot_list_setitem isL.typeIs entry_list_setitem ?_ (args_list_setitem _ _ _)))
  show wpAny _ _ (Builtin.List.listSubscript? (.ref sl) >>= _) _ _ s
  unfold Builtin.List.listSubscript?
  refine wpAny_bind (wpAny_bind (wpAny_specialOf sTy slice_no_index ?_))
  rw [if_pos (show (Option.none : Option Value).isNone = true from rfl)]
  refine wpAny_pure ?_
  show wpAny _ _ (typeOf (.ref sl) >>= _) _ _ s
  refine wpAny_bind (wpAny_typeOf sTy ?_)
  rw [if_neg (show ¬ ((Value.type "slice" != Value.type "slice") = true) by decide), listSliceParts_eq]
  refine wpAny_bind (wpAny_bind (wpAny_field sAt sData (x := .none) rfl (wpAny_bind (wpAny_listPart (k := Option.none) .none ?_))))
  rw [if_neg (show ¬ ((rawPart Option.none == rawInt 0) = true) from Bool.false_ne_true)]
  refine wpAny_bind (wpAny_field sAt sData (x := vl) rfl (wpAny_bind (wpAny_listPart lowIs ?_)))
  refine wpAny_bind (wpAny_field sAt sData (x := .none) rfl (wpAny_bind (wpAny_listPart (k := Option.none) .none (wpAny_pure ?_))))
  dsimp only
  rw [if_neg (show ¬ (Builtin.List.listSameRef (.ref l) (.ref b) = true) by rw [other]; exact Bool.false_ne_true)]
  unfold Builtin.List.listAllItems
  refine wpAny_bind (wpAny_bind (wpAny_typeOf isB.typeIs ?_))
  rw [if_pos (show (Value.type "list" == Value.type "list" || Value.type "list" == Value.type "tuple") = true by decide)]
  unfold Builtin.List.listItems
  refine wpAny_bind (wpAny_seqItems atB rfl (wpAny_pure ?_))
  refine wpAny_bind (wpAny_bind (wpAny_seqItems atL rfl (wpAny_pure ?_)))
  have cutAt : sliceIndices (rawPart (some (a : Int))) (rawPart Option.none) (rawPart Option.none) old.size = pure ((a : Int), (old.size : Int), 1) := by
    rw [sliceIndices_raw _ _ _ _ (by simp), bounds_open low]
  refine wpAny_bind (wpAny_of_eq cutAt ?_)
  show wpAny _ _ (if ((1 : Int) == 1) = true then _ else _) _ _ s
  rw [if_pos (show ((1 : Int) == 1) = true by decide)]
  refine wpAny_bind (wpAny_rule ?_)
  rw [if_neg (show ¬ (Builtin.List.listTooLong (old.size + new.size) = true) by rw [notLongL few]; exact Bool.false_ne_true)]
  show wpAny _ _ (updateSeq l (fun xs => xs.extract 0 ((a : Int)).toNat ++ new ++ xs.extract (max (a : Int) (old.size : Int)).toNat xs.size) >>= _) _ _ s
  rw [hi, Int.toNat_natCast]
  refine wpAny_bind (wpAny_updateSeq (hz := Nat.le_trans (Nat.le_add_right _ _) few) (_hz' := few2) atL rfl (wpAny_bind (wpAny_letGo ?_)))
  exact wpAny_pure ⟨.none, rfl, wpAny_pure h⟩
end
section
variable {X : Cx}
/-- at the value level: sl is the slice object that was just made -/
theorem set_open {pins : List (Addr × Obj)} {s : Shared} {σ : L2.St} {H : Hp} {l b sl : Addr} {xs ys : List V} {a : Int} {vl : Value} {Q : Unit → Shared → Prop} (I : Inv X pins σ H s) (atL : H l = some (.lst xs)) (atB : H b = some (.lst ys)) (apart : l ≠ b)
    (atS : s.heap.IsSliceOf sl vl .none .none) (ra : RelV (.int a) vl) (h0 : 0 ≤ a) (low : a ≤ xs.length) (few : xs.length + ys.length ≤ sizeLine)
    (h : ∀ s', Inv X pins σ (upd H l (.lst (xs.take a.toNat ++ ys))) s' → Q () s') : wpAny (model X.prog X.w) X.A (setItem (.ref l) (.ref sl) (.ref b)) Q X.xe s := by
  obtain ⟨ta, rfl⟩ := ra
  obtain ⟨z, us, n, r, lu, e⟩ := I.lstM atL
  obtain ⟨z2, ws, n2, r2, lw, e2⟩ := I.lstM atB
  obtain ⟨k, rfl⟩ := Int.eq_ofNat_of_zero_le h0
  rw [Int.toNat_natCast] at h
  refine setItem_open (a := k) e e2 apart atS (.int _ _) (by rw [List.size_toArray]; omega) (by rw [List.size_toArray, List.size_toArray]; omega) (h _ ?_)
  refine I.lset (its' := us.take k ++ ws) (t' := s.toks) atL e ?_ ((r.take _).append r2) ?_
  · have q : us.toArray.extract us.toArray.size us.toArray.size = #[] := by simp
    simp
  · rw [List.length_append, List.length_take]
    omega
end
def sOpen (to tl tv : TE) : TS := fun D σ H => tv σ H fun y H1 => to σ H1 fun x H2 => tl σ H2 fun i H3 => ∃ (l b : Addr) (xs ys : List V) (a : Int), x = .ref l ∧ y = .ref b ∧ i = .int a ∧ H3 l = some (.lst xs) ∧ H3 b = some (.lst ys) ∧ l ≠ b ∧ 0 ≤ a ∧ a ≤ xs.length ∧
  xs.length + ys.length ≤ sizeLine ∧ D.nx σ (upd H3 l (.lst (xs.take a.toNat ++ ys)))
section
variable {X : Cx}
theorem ps_open {o lo value : Expr} {to tl tv : TE} {p p' pos : Pos} (ho : PE X o to) (hl : PE X lo tl) (hv : PE X value tv) (hs : swapsWith value (some (.Subscript o (.Slice (some lo) none none p) p')) pos.line X.env = pure false) :
    PS X (.Assign [.Subscript o (.Slice (some lo) none none p) p'] value pos) (sOpen to tl tv) := by
  refine ⟨fun pins s σ H D I h => wpAny_Assign_Subscript (thn (hv.run pins s σ H _ I h) fun u s1 ⟨y, H1, I1, ry, q1⟩ => thn (ho.run pins s1 σ H1 _ I1 q1) fun ov s2 ⟨x, H2, I2, rx, q2⟩ => wpAny_Slice ?_) hs⟩
  rw [evalPart_some]
  refine thn (hl.run pins s2 σ H2 _ I2 q2) fun iv s3 ⟨i, H3, I3, ri, l, b, xs, ys, a, ex, ey, ei, atL, atB, apart, h0, low, few, q3⟩ => ?_
  subst ex ey ei
  obtain rfl : ov = Value.ref l := rx
  obtain rfl : u = Value.ref b := ry
  rw [evalPart_none]
  refine wpAny_pure (wpAny_pure ?_)
  have I4 : Inv X pins σ H3 { s3 with heap := s3.heap.push { cls := .type "slice", data := .fields #[iv, .none, .none] } } := I3.kept (t' := s3.toks) fun c o e => Heap.get?_push_of_some _ e
  exact set_open I4 atL atB apart (Heap.IsSliceOf.new ..) ri h0 low few fun s5 I5 => ⟨σ, _, I5, q3⟩
end
end PX
/-! Sets of texts that can be walked; sorted of one; a set comprehension with two sources. -/
namespace PX
open PySem PySem.Spec PyProof.Rows L2
section
variable {κ : Type} [DecidableEq κ] {P : Program} {w : World}
/-- what lies in a set: rows of keys of one kind, no key twice, a table that rises -/
structure Lot (knd : PySem.KeyKind P w κ) (S : κ → Bool) (es : Array (Int × Value)) (t : SetTable) : Prop where
  el : ElemsOf knd es.toList
  dis : es.toList.Pairwise fun e f => ∀ k, knd.is k e.2 = true → knd.is k f.2 = true → False
  mem : ∀ k, S k = true ↔ ∃ e ∈ es.toList, knd.is k e.2 = true
  few : es.size < scanBound
  fit : t.fits es.size = true
  ris : Ris t.place.toList
  led : w.params.followText "set-order" = true ∨ t.led = true
variable {knd : PySem.KeyKind P w κ} {S S' : κ → Bool} {es es' : Array (Int × Value)} {t t' : SetTable}
theorem dis_perm {l m : List (Int × Value)} (p : l.Perm m) : (l.Pairwise fun e f => ∀ k, knd.is k e.2 = true → knd.is k f.2 = true → False) ↔ m.Pairwise fun e f => ∀ k, knd.is k e.2 = true → knd.is k f.2 = true → False :=
  p.pairwise_iff fun h k a b => h k b a
/-- the same rows in another order, another table -/
theorem Lot.re (L : Lot knd S es t) (p : es'.toList.Perm es.toList) (fit : t'.fits es'.size = true) (ris : Ris t'.place.toList) (led : t'.led = t.led) : Lot knd S es' t' where
  el := fun e he => L.el e (p.mem_iff.mp he)
  dis := (dis_perm p).mpr L.dis
  mem := fun k => (L.mem k).trans ⟨fun ⟨e, he, q⟩ => ⟨e, p.mem_iff.mpr he, q⟩, fun ⟨e, he, q⟩ => ⟨e, p.mem_iff.mp he, q⟩⟩
  few := by
    have := p.length_eq
    rw [Array.length_toList, Array.length_toList] at this
    rw [this]
    exact L.few
  fit := fit
  ris := ris
  led := L.led.imp id fun z => led.trans z
/-- one row more -/
theorem Lot.more (L : Lot knd S es t) {k : κ} {x : Value} (hk : knd.is k x = true) (hx : x.scannable = true) (new : S k = false) (room : es.size + 1 < scanBound) (p : es'.toList.Perm (es.toList ++ [(knd.hash k, x)])) (fit : t'.fits es'.size = true) (ris : Ris t'.place.toList)
    (led : t'.led = t.led) : Lot knd (fun j => S j || decide (j = k)) es' t' where
  el := fun e he => by
    rcases List.mem_append.mp (p.mem_iff.mp he) with z | z
    · exact L.el e z
    · cases List.mem_singleton.mp z
      exact ⟨⟨k, hk, rfl⟩, hx⟩
  dis := by
    refine (dis_perm p).mpr (List.pairwise_append.mpr ⟨L.dis, List.pairwise_singleton _ _, fun e he f hf j a b => ?_⟩)
    cases List.mem_singleton.mp hf
    have e2 : j = k := by
      have := KeyKind.is_eq_decide hk j
      rw [b] at this
      exact of_decide_eq_true this.symm
    subst e2
    have := (L.mem j).mpr ⟨e, he, a⟩
    rw [new] at this
    cases this
  mem := fun j => by
    rw [Bool.or_eq_true, decide_eq_true_eq, L.mem j]
    constructor
    · rintro (⟨e, he, q⟩ | z)
      · exact ⟨e, p.mem_iff.mpr (List.mem_append_left _ he), q⟩
      · subst z
        exact ⟨_, p.mem_iff.mpr (List.mem_append_right _ (List.mem_singleton.mpr rfl)), hk⟩
    · rintro ⟨e, he, q⟩
      rcases List.mem_append.mp (p.mem_iff.mp he) with z | z
      · exact .inl ⟨e, z, q⟩
      · cases List.mem_singleton.mp z
        have := KeyKind.is_eq_decide hk j
        rw [q] at this
        exact .inr (of_decide_eq_true this.symm)
  few := by
    have := p.length_eq
    rw [Array.length_toList, List.length_append, Array.length_toList] at this
    rw [this]
    exact room
  fit := fit
  ris := ris
  led := L.led.imp id fun z => led.trans z
/-- at a stands the set S of n keys -/
def SetG (knd : PySem.KeyKind P w κ) (h : Heap) (a : Addr) (S : κ → Bool) (n : Nat) : Prop := ∃ o es ep t, h.get? a = some o ∧ o.ExactSet ∧ o.data = .set es ep t ∧ Lot knd S es t ∧ es.size = n
theorem SetG.setOf {h : Heap} {a : Addr} {n : Nat} (R : SetG knd h a S n) : h.SetOf knd a S n := by
  obtain ⟨o, es, ep, t, ho, hex, hd, L, hn⟩ := R
  exact ⟨o, es, ep, t, ho, hex, hd, L.el, L.mem, L.few, L.fit, hn⟩
theorem SetG.keep {h h' : Heap} {a : Addr} {n : Nat} (R : SetG knd h a S n) (k : ∀ o, h.get? a = some o → h'.get? a = some o) : SetG knd h' a S n := by
  obtain ⟨o, es, ep, t, ho, r⟩ := R
  exact ⟨o, es, ep, t, k o ho, r⟩
end
section
variable {κ : Type} [DecidableEq κ] {P : Program} {w : World} {knd : PySem.KeyKind P w κ} {A : Around} {E : Value → Shared → Prop} {s : Shared} {a : Addr} {S : κ → Bool}
theorem put_at {h : Heap} {o : Obj} {es es' : Array (Int × Value)} {ep : Nat} {t t' : SetTable} (ho : h.get? a = some o) (hd : o.data = .set es ep t) : (h.update a (Obj.putSet es' t')).get? a = some { o with data := .set es' (ep + 1) t' } := by
  have e := putSet_of es' t' hd
  have q := Heap.get?_update_self (Obj.putSet es' t') ho (by rw [e] <;> rfl)
  rw [e] at q
  exact q
theorem setG_tail {g : Bool → Sem Unit} (quiet : ∀ (b : Bool) (s₁ : Shared) (F : Unit → Shared → Prop), F () s₁ → wpAny (model P w) A (g b) F E s₁) {o : Obj} {es es1 : Array (Int × Value)} {ep : Nat} {t t1 : SetTable} (ho : s.heap.get? a = some o) (hex : o.ExactSet)
    (hd : o.data = .set es ep t) (L : Lot knd S es1 t1) {was : Bool} {F : Option Bool → Shared → Prop} (fin : ∀ h', Heap.SameBut a s.heap h' → SetG knd h' a S es1.size → F (some true) { s with heap := h' }) :
    wpAny (model P w) A (do
        storeSet a es1 t1
        if (!was && t1.tooFull) = true then do
            g (relayAll t1 es1 (SetTable.grown es1.size)).2.2
            storeSet a (relayAll t1 es1 (SetTable.grown es1.size)).1 (relayAll t1 es1 (SetTable.grown es1.size)).2.1
            pure (some true)
          else pure (some true)) F E s := by
  have at1 := put_at (es' := es1) (t' := t1) ho hd
  have but1 := Heap.SameBut.update s.heap a (Obj.putSet es1 t1)
  refine wpAny_bind (wpAny_storeSet_of ho hd ?_ (fits_of_scanBound L.few))
  split
  · have L2 := L.re (relayAll_perm t1 es1 (SetTable.grown es1.size)) (relayAll_fits t1 es1 (SetTable.grown es1.size)) (relayAll_ris t1 es1 (SetTable.grown es1.size)) (relayAll_led t1 es1 (SetTable.grown es1.size))
    have len := (relayAll_perm t1 es1 (SetTable.grown es1.size)).length_eq
    rw [Array.length_toList, Array.length_toList] at len
    generalize relayAll t1 es1 (SetTable.grown es1.size) = Z at L2 len ⊢
    refine wpAny_bind (quiet _ _ _ (wpAny_bind (wpAny_storeSet_of at1 rfl (wpAny_pure (fin _ (but1.trans (Heap.SameBut.update _ a _)) ?_)) (fits_of_scanBound L2.few))))
    exact ⟨_, Z.1, _, Z.2.1, put_at at1 rfl, hex, rfl, L2, len⟩
  · exact wpAny_pure (fin _ but1 ⟨_, es1, _, t1, at1, hex, rfl, L, rfl⟩)
theorem setG_addH {n : Nat} {k : κ} {x : Value} {Q : Bool → Shared → Prop} (hk : knd.is k x = true) (hx : x.scannable = true) (R : SetG knd s.heap a S n) (room : n + 1 < scanBound)
    (hQ : ∀ h', Heap.SameBut a s.heap h' → SetG knd h' a (fun j => S j || decide (j = k)) (if S k = true then n else n + 1) → Q (!S k) { s with heap := h' }) : wpAny (model P w) A (setAddHashed a x (knd.hash k)) Q E s := by
  obtain ⟨o, es, ep, t, ho, hex, hd, L, hn⟩ := R
  unfold setAddHashed setAddHashedIn
  refine wpAny_holding (wpAny_bind (wpAny_setState_of ho hd L.fit ?_))
  dsimp only
  rw [byScan_of hx L.few L.el, if_pos rfl]
  unfold setAddByScan
  refine wpAny_bind (wpAny_bind (wpAny_rule (wpAny_bind (wpAny_setScan_of hk ho hd L.fit L.el ?_))))
  cases there : List.findIdx? (fun e => knd.is k e.2) es.toList with
  | some j =>
    obtain ⟨lt, yes, _⟩ := List.findIdx?_eq_some_iff_getElem.mp there
    have old : S k = true := (L.mem k).mpr ⟨_, List.getElem_mem lt, yes⟩
    have q := hQ s.heap (Heap.SameBut.refl a s.heap)
    rw [old] at q
    refine wpAny_pure (wpAny_pure (q ?_))
    have same : (fun j => S j || decide (j = k)) = S := by
      funext i
      by_cases z : i = k
      · subst z
        rw [old] <;> rfl
      · rw [decide_eq_false z, Bool.or_false]
    rw [same, if_pos rfl]
    exact ⟨o, es, ep, t, ho, hex, hd, L, hn⟩
  | none =>
    have new : S k = false := by
      cases e : S k with
      | false => rfl
      | true =>
        obtain ⟨r, hr, yes⟩ := (L.mem k).mp e
        have no := List.findIdx?_eq_none_iff.mp there r hr
        rw [yes] at no
        cases no
    have q := hQ
    rw [new] at q
    have quiet : ∀ (b : Bool) (s₁ : Shared) (F : Unit → Shared → Prop), F () s₁ → wpAny (model P w) A (match b with | true => rule "set.scan.the-table-gave-way" | false => pure ()) F E s₁ := fun b s₁ F z => by
      cases b
      · exact wpAny_pure z
      · exact wpAny_rule z
    have len := (layNew_perm t es (knd.hash k) x).length_eq
    have pm := layNew_perm t es (knd.hash k) x
    rw [Array.toList_push] at pm
    rw [Array.length_toList, Array.length_toList, Array.size_push] at len
    have fit := layNew_fits t es (knd.hash k) x
    have mk : ∀ {t1 : SetTable}, t1.fits (layNew t es (knd.hash k) x).1.size = true → Ris t1.place.toList → t1.led = t.led → Lot knd (fun j => S j || decide (j = k)) (layNew t es (knd.hash k) x).1 t1 := fun f r l => L.more hk hx new (by omega) pm f r l
    have ris := layNew_ris t es (knd.hash k) x L.ris
    have led := layNew_led t es (knd.hash k) x
    dsimp only
    generalize layNew t es (knd.hash k) x = Z at mk ris led fit len pm ⊢
    obtain ⟨es1, t1, was, gave⟩ := Z
    dsimp only at mk ris led fit len pm ⊢
    have fin : ∀ h', Heap.SameBut a s.heap h' → SetG knd h' a (fun j => S j || decide (j = k)) es1.size → Q true { s with heap := h' } := fun h' b r => by
      refine q h' b ?_
      rw [if_neg Bool.false_ne_true]
      have e : es1.size = n + 1 := by omega
      rw [← e]
      exact r
    refine wpAny_bind (quiet _ _ _ ?_)
    split
    · rw [hashByValue_scannable 8 hx]
      refine wpAny_bind (wpAny_pure (setG_tail quiet ho hex hd (mk ?_ ?_ ?_) fun h' b r => ?_))
      · split
        · exact fit
        · exact SetTable.fits_plain_off fit
      · split <;> exact ris
      · split <;> exact led
      · exact wpAny_pure (fin h' b r)
    · refine wpAny_bind (wpAny_pure ?_)
      rw [if_pos rfl]
      exact setG_tail quiet ho hex hd (mk fit ris led) fun h' b r => wpAny_pure (fin h' b r)
end

/-! ### texts -/
abbrev txtKind (P : Program) (w : World) : PySem.KeyKind P w Str := PySem.strKind P w
section
variable {P : Program} {w : World} {A : Around} {E : Value → Shared → Prop} {s : Shared} {a : Addr}
/-- s.add(x) -/
theorem setS_add {S : Str → Bool} {n : Nat} {x : Str} {t0 : Tok} {Q : Value → Shared → Prop} (R : SetG (txtKind P w) s.heap a S n) (room : n + 1 < scanBound)
    (hQ : ∀ h', Heap.SameBut a s.heap h' → SetG (txtKind P w) h' a (fun j => S j || decide (j = x)) (if S x = true then n else n + 1) → Q .none { s with heap := h', toks := s.toks + 1 }) : wpAny (model P w) A (call (.builtin "set.add") [.ref a, .str x t0]) Q E s := by
  have hk : (txtKind P w).is x (.str x t0) = true := strKind_is P w x t0
  refine wpAny_call_entry F.slot_set_add R.setOf.typeIs F.entry_set_add ?_ (F.args_set_add_2 _ _)
  unfold Builtin.«set.add» Builtin.Frozenset.oneOther Builtin.Frozenset.addrOf setAdd
  refine wpAny_bind (wpAny_pure ?_)
  refine wpAny_bind (wpAny_holding (wpAny_bind ((txtKind P w).pyHash hk ?_)))
  refine setG_addH (s := { s with toks := s.toks + 1 }) hk rfl R room fun h' b r => ?_
  show wpAny _ _ (ret Value.none) _ _ _
  exact wpAny_pure ⟨_, rfl, hQ h' b r⟩
theorem lot_nil : Lot (txtKind P w) (fun _ => false) #[] (.fresh 0 0 (!w.params.followText "set-order")) where
  el := fun e he => nomatch he
  dis := .nil
  mem := fun k => ⟨(fun z => nomatch z), fun ⟨e, he, _⟩ => nomatch he⟩
  few := by decide
  fit := by rfl
  ris := .nil
  led := by
    show _ ∨ (!w.params.followText "set-order") = true
    cases w.params.followText "set-order"
    · exact .inr rfl
    · exact .inl rfl
theorem setS_fresh (P : Program) {h : Heap} (w : World) : SetG (txtKind P w) (h.push { cls := .type "set", dict := none, data := .set #[] 0 (.fresh 0 0 (!w.params.followText "set-order")) }) h.objs.size (fun _ => false) 0 :=
  ⟨_, #[], 0, _, Heap.get?_push_size _ rfl, ⟨rfl, rfl, rfl⟩, rfl, lot_nil, rfl⟩
def txtOf : Value → Str
  | .str x _ => x
  | _ => Str.empty
theorem strs_raw : ∀ vs : List Value, (∀ v ∈ vs, ∃ x t, v = Value.str x t) → StrsAre vs (vs.map txtOf)
  | [], _ => .nil
  | v :: vs, h => by
    obtain ⟨x, t, rfl⟩ := h v List.mem_cons_self
    exact .cons x t (strs_raw vs fun u hu => h u (List.mem_cons_of_mem _ hu))
/-- sorted(s) -/
theorem sorted_setS {S : Str → Bool} {n : Nat} {Q : Value → Shared → Prop} (R : SetG (txtKind P w) s.heap a S n) (hh : A.handled = none) (h64 : n < 64)
    (hQ : ∀ s' p (out : Array Value) (c : Nat) (ys : List Str), (∀ b o, s.heap.get? b = some o → s'.heap.get? b = some o) → s'.gens = s.gens → s'.os = s.os → s.heap.objs.size ≤ p →
      s'.heap.get? p = some (seqObj "list" out c) → StrsAre out.toList ys → sortedS ys = true → ys.Nodup → (∀ x, x ∈ ys ↔ S x = true) → ys.length = n → Q (.ref p) s') : wpAny (model P w) A (call (.builtin "sorted") [.ref a]) Q E s := by
  obtain ⟨o, es, ep, t, ho, hex, hd, L, hn⟩ := R
  refine Calls.call_function_entry kind_sorted plain_sorted entry_sorted (args_sorted1 _) ?_
  unfold Builtin.«sorted»
  refine wpAny_bind (m := checkCount "sorted" 1 1 _) (wpAny_pure (wpAny_bind (collect_set (A := A.in1) hh ⟨o, ho, hex.1, hd⟩ L.fit L.few L.ris L.led fun s1 vs keeps room gens1 os1 pm => ?_)))
  have len : vs.length = n := by rw [pm.length_eq, List.length_map, Array.length_toList]; exact hn
  have good : ∀ e ∈ es.toList, ∃ x t, e.2 = Value.str x t ∧ (txtKind P w).is x e.2 = true := fun e he => by
    obtain ⟨⟨k, hk, _⟩, _⟩ := L.el e he
    obtain ⟨t, e2⟩ := Value.isStrOf_shape hk
    exact ⟨k, t, e2, hk⟩
  have texts := strs_raw vs fun v hv => by
    obtain ⟨e, he, e2⟩ := List.mem_map.mp (pm.mem_iff.mp hv)
    obtain ⟨x, t, q, _⟩ := good e he
    exact ⟨x, t, by rw [← e2]; exact q⟩
  have pk : (vs.map txtOf).Perm (es.toList.map fun e => txtOf e.2) := by
    have q := pm.map txtOf
    rw [List.map_map] at q
    exact q
  have is_txt : ∀ e ∈ es.toList, ∀ x, (txtKind P w).is x e.2 = true ↔ txtOf e.2 = x := fun e he x => by
    obtain ⟨y, t, q, hy⟩ := good e he
    have z := KeyKind.is_eq_decide hy x
    rw [z, q]
    show decide (x = y) = true ↔ y = x
    rw [decide_eq_true_eq]
    exact ⟨Eq.symm, Eq.symm⟩
  have nd : (es.toList.map fun e => txtOf e.2).Nodup := by
    refine List.pairwise_map.mpr (List.Pairwise.imp_of_mem (fun {e f} he hf h z => ?_) L.dis)
    exact h _ ((is_txt e he _).mpr rfl) ((is_txt f hf _).mpr z.symm)
  have mem : ∀ x, x ∈ (es.toList.map fun e => txtOf e.2) ↔ S x = true := fun x => by
    rw [L.mem x, List.mem_map]
    exact ⟨fun ⟨e, he, z⟩ => ⟨e, he, (is_txt e he x).mpr z⟩, fun ⟨e, he, z⟩ => ⟨e, he, (is_txt e he x).mp z⟩⟩
  refine wpAny_bind (wpAny_newList ?_ (by rw [len, sizeLine_eq]; omega))
  have lies : (s1.heap.push (seqObj "list" vs.toArray 0)).get? s1.heap.objs.size = some (seqObj "list" vs.toArray 0) := Heap.get?_push_size _ rfl
  refine wpAny_bind (wpAny_holding (wpAny_call_entry slot_list_sort ⟨_, lies, rfl⟩ entry_list_sort (list_sort_treeK PyProof.Rows.strKind_oneLt lies texts.keysOf (fun v₁ v₂ rest e => keyKind_strs (by rw [← e]; exact texts)) (by rw [len]; exact h64) fun st' hp hs => ?_) (args_list_sort _)))
  obtain ⟨ys, g1, g2, g3⟩ := sorted_out_str texts hp hs
  obtain ⟨c, hc⟩ := sortedHeap_at (vs := vs) (out := (arrOf st').map (·.2)) lies
  have pn := g2.trans pk
  refine ⟨_, rfl, wpAny_pure ⟨_, rfl, hQ _ s1.heap.objs.size _ c ys (fun b u e => ?_) gens1 os1 room hc g1 g3 (pn.nodup_iff.mpr nd) (fun x => by rw [pn.mem_iff, mem x]) ?_⟩⟩
  · have q := keeps b u e
    have lt := Heap.lt_size q
    show (sortedHeap (s1.heap.push (seqObj "list" vs.toArray 0)) s1.heap.objs.size vs ((arrOf st').map (·.2))).get? b = some u
    rw [sortedHeap_old (Nat.ne_of_lt lt) (by rw [size_push']; exact Nat.lt_succ_of_lt lt)]
    exact Heap.get?_push_of_some _ q
  · rw [pn.length_eq, List.length_map, Array.length_toList]
    exact hn
end
/-! ### as tracked things -/
def SetSO (P : Program) (w : World) (a : Addr) (S : Str → Bool) (n : Nat) : HO := .ext fun h => SetG (txtKind P w) h a S n
theorem setSO_new {w : World} {P : Program} {H : Hp} {h : Heap} {a : Addr} {S : Str → Bool} {n : Nat} (R : SetG (txtKind P w) h a S n) : ObjOk P w H h a (SetSO P w a S n) := by
  have ⟨o, _, _, _, ho, _⟩ := R
  exact ⟨R, ⟨o, ho⟩, fun h1 h2 p k => SetG.keep p k⟩
section
variable {X : Cx} {pins : List (Addr × Obj)} {σ : L2.St} {H : Hp} {s : Shared} {S : Str → Bool} {n : Nat}
theorem setSO_get {a : Addr} (I : Inv X pins σ H s) (ha : H a = some (SetSO X.prog X.w a S n)) : SetG (txtKind X.prog X.w) s.heap a S n := (I.hok a _ ha).1
theorem addS_ok {E : Value → Shared → Prop} {D : Addr} {y : Str} {t0 : Tok} {Q : Value → Shared → Prop} (I : Inv X pins σ H s) (hD : H D = some (SetSO X.prog X.w D S n)) (room : n + 1 < scanBound)
    (h : ∀ s', Inv X pins σ (upd H D (SetSO X.prog X.w D (fun j => S j || decide (j = y)) (if S y = true then n else n + 1))) s' → Q .none s') : wpAny (model X.prog X.w) X.A (call (.builtin "set.add") [.ref D, .str y t0]) Q E s := by
  refine setS_add (setSO_get I hD) room fun h' but new => ?_
  have ⟨o, _, _, _, ho, _⟩ := new
  exact h _ (I.write (e := D) (t' := s.toks + 1) (by rw [hD]; trivial) (.inl rfl) (fun b u hb hu => (but.2 b hb).trans hu) ⟨o, ho⟩ (setSO_new new))
end
/-- sorted(a set of texts) -/
def rSortedTS (P : Program) (w : World) : List V → Hp → VK → Prop := fun vs H Q => ∃ (a : Addr) (S : Str → Bool) (n : Nat), vs = [V.ref a] ∧ H a = some (SetSO P w a S n) ∧ n < 64 ∧
  ∀ (ys : List Str) (p : Addr), sortedS ys = true → ys.Nodup → (∀ x, x ∈ ys ↔ S x = true) → ys.length = n → H p = none → Q (.ref p) (upd H p (.lst (ys.map V.str)))
theorem cr_sortedTS {X : Cx} (hc : X.calm = true) : CallR X (.builtin "sorted") (rSortedTS X.prog X.w) := by
  intro pins s σ H vs us Q I r h
  obtain ⟨a, S, n, rfl, ha, h64, q⟩ := h
  rw [Vals.ref1 r]
  refine sorted_setS (setSO_get I ha) (I.ok.hd hc) h64 fun s' p out c ys keeps gens os hp at_ texts srt nd mem len => ?_
  have few : (ys.map V.str).length ≤ sizeLine := by rw [List.length_map, len, sizeLine_eq]; omega
  have hn : H p = none := I.hok.fresh hp
  have J : Inv X pins σ (upd H p (.lst (ys.map V.str))) { s with heap := s'.heap, gens := s'.gens, drawn := s'.drawn, toks := s'.toks } :=
    I.call (ch := []) (Un.laid keeps hp hn) (I.hok.laid keeps hp ⟨few, out.toList, c, vals_of_strs texts, at_⟩) (by rw [gens]; exact I.bare) (fun _ z => nomatch z)
  have e : s' = { s with heap := s'.heap, gens := s'.gens, drawn := s'.drawn, toks := s'.toks } := by
    cases s'
    cases s
    cases os
    rfl
  rw [e]
  exact ⟨.ref p, _, J, rfl, q ys p srt nd mem len hn⟩
end PX
/-! {x for .. in .. for x in ..}: the members are texts. -/
namespace PX
open PySem PySem.Spec PyProof.Rows L2
/-- a set comprehension with two sources -/
abbrev two (e a0 b0 : Expr) (c0 : List Expr) (a1 b1 : Expr) (c1 : List Expr) (sc : Scope) (ps : Pos) : Expr := .SetComp e [⟨a0, b0, c0, 0⟩, ⟨a1, b1, c1, 0⟩] sc ps
section
variable {e a0 b0 a1 b1 : Expr} {c0 c1 : List Expr} {sc : Scope} {ps : Pos} {it acc : Value} {v : Env}
theorem two_outer : compTurn (two e a0 b0 c0 a1 b1 c1 sc ps) 0 it acc v = (do
      standAt b0.pos
      match ← pyNext it with
      | none => pure (.done .next)
      | some y =>
        letOwnedTupleGo a0 it y
        assign a0 v y
        let mut yes := true
        for q in c0 do
          if yes then yes ← isTrue q v (eval q v)
        if yes then
          let y ← eval b1 v
          standAt b1.pos
          let y ← foldedSetIterable b1 v y
          let _ ← runOwn (.compStart (two e a0 b0 c0 a1 b1 c1 sc ps) 1 (← holding [y] (pyIter y)) acc v) v
        again (.compLoop (two e a0 b0 c0 a1 b1 c1 sc ps) 0 it acc v)) := by rfl
theorem two_inner : compTurn (two e a0 b0 c0 a1 b1 c1 sc ps) 1 it acc v = (do
      standAt b1.pos
      match ← pyNext it with
      | none => pure (.done .next)
      | some y =>
        letOwnedTupleGo a1 it y
        assign a1 v y
        let mut yes := true
        for q in c1 do
          if yes then yes ← isTrue q v (eval q v)
        if yes then
          (do let y ← eval e v; standAt e.pos; let _ ← call (.builtin "set.add") [acc, y])
        again (.compLoop (two e a0 b0 c0 a1 b1 c1 sc ps) 1 it acc v)) := by rfl
end

section
variable {prog : Program} {w : World} {A : Around} {R : Result → Shared → Prop} {s : Shared} {e a0 b0 a1 b1 : Expr} {c0 c1 : List Expr} {sc : Scope} {ps : Pos} {it acc : Value} {v : Env}
/-- how a loop is left by an error -/
abbrev Out (prog : Program) (w : World) (A : Around) (v : Env) (R : Result → Shared → Prop) : Value → Shared → Prop := notedBy (model prog w) A v fun x s' => R (.error x) s'
/-- the tests of one source -/
abbrev tests (c : List Expr) (v : Env) : Sem Bool := forIn c true fun q r => if r = true then do let yes ← isTrue q v (eval q v); pure (ForInStep.yield yes) else pure (ForInStep.yield r)
theorem loop_outer (plain : ∀ y, foldedSetIterable b1 v y = pure y) (J : Nat → Shared → Prop)
    (turn : ∀ m s, J m s → wpAny (model prog w) A (pyNext it) (fun r s1 => match r with
      | none => R (.ok .next) s1
      | some y => wpAny (model prog w) A (letOwnedTupleGo a0 it y) (fun _ s2 => wpAny (model prog w) A (assign a0 v y) (fun _ s3 => wpAny (model prog w) A (tests c0 v) (fun yes s4 =>
            if yes = true then wpAny (model prog w) A (eval b1 v) (fun z s5 => wpAny (model prog w) A (pyIter z) (fun i1 s6 =>
              codeAny (model prog w) A (.compStart (two e a0 b0 c0 a1 b1 c1 sc ps) 1 i1 acc v) (fun r s' => match r with
                | .ok _ => ∃ k, k < m ∧ J k s'
                | .error _ => False) s6) (Out prog w A v R) s5) (Out prog w A v R) s4
            else ∃ k, k < m ∧ J k s4) (Out prog w A v R) s3) (Out prog w A v R) s2) (Out prog w A v R) s1) (Out prog w A v R) s)
    (m : Nat) (h : J m s) : codeAny (model prog w) A (.compLoop (two e a0 b0 c0 a1 b1 c1 sc ps) 0 it acc v) R s := by
  refine codeAny_loop rfl J (fun m s hJ => ?_) m h
  show wpAny _ A ((compTurn (two e a0 b0 c0 a1 b1 c1 sc ps) 0 it acc v).onRaise (fun x => do noteFrame x v; theTreesLotGoes x)) _ _ s
  rw [two_outer]
  refine wpAny_noted (wpAny_bind (wpAny_standAt (wpAny_bind (wpAny_mono (turn m s hJ) (fun r s1 h1 => ?_) fun _ _ z => z))))
  cases r with
  | none => exact wpAny_pure h1
  | some y =>
    refine wpAny_bind (wpAny_mono h1 (fun _ s2 h2 => wpAny_bind (wpAny_mono h2 (fun _ s3 h3 => wpAny_bind (wpAny_mono h3 (fun yes s4 h4 => ?_) fun _ _ z => z)) fun _ _ z => z)) fun _ _ z => z)
    cases yes with
    | false => exact wpAny_pure ⟨rfl, h4⟩
    | true =>
      refine wpAny_bind (wpAny_mono h4 (fun z s5 h5 => wpAny_bind (wpAny_standAt (wpAny_bind (wpAny_of_eq (plain z) (wpAny_bind (wpAny_holding (wpAny_mono h5 (fun i1 s6 h6 => ?_) fun _ _ z => z))))))) fun _ _ z => z)
      refine wpAny_bind (wpAny_runOwn ?_)
      rw [Around.mark_none]
      refine codeAny_mono h6 fun r s' hr => ?_
      cases r with
      | error x => exact hr.elim
      | ok f =>
        first
          | exact wpAny_pure ⟨rfl, hr⟩
          | exact wpAny_bind (wpAny_pure (wpAny_pure ⟨rfl, hr⟩))
theorem loop_inner (J : Nat → Shared → Prop)
    (turn : ∀ m s, J m s → wpAny (model prog w) A (pyNext it) (fun r s1 => match r with
      | none => R (.ok .next) s1
      | some y => wpAny (model prog w) A (letOwnedTupleGo a1 it y) (fun _ s2 => wpAny (model prog w) A (assign a1 v y) (fun _ s3 => wpAny (model prog w) A (tests c1 v) (fun yes s4 =>
            if yes = true then wpAny (model prog w) A (eval e v) (fun z s5 => wpAny (model prog w) A (call (.builtin "set.add") [acc, z]) (fun _ s6 => ∃ k, k < m ∧ J k s6) (Out prog w A v R) s5) (Out prog w A v R) s4
            else ∃ k, k < m ∧ J k s4) (Out prog w A v R) s3) (Out prog w A v R) s2) (Out prog w A v R) s1) (Out prog w A v R) s)
    (m : Nat) (h : J m s) : codeAny (model prog w) A (.compLoop (two e a0 b0 c0 a1 b1 c1 sc ps) 1 it acc v) R s := by
  refine codeAny_loop rfl J (fun m s hJ => ?_) m h
  show wpAny _ A ((compTurn (two e a0 b0 c0 a1 b1 c1 sc ps) 1 it acc v).onRaise (fun x => do noteFrame x v; theTreesLotGoes x)) _ _ s
  rw [two_inner]
  refine wpAny_noted (wpAny_bind (wpAny_standAt (wpAny_bind (wpAny_mono (turn m s hJ) (fun r s1 h1 => ?_) fun _ _ z => z))))
  cases r with
  | none => exact wpAny_pure h1
  | some y =>
    refine wpAny_bind (wpAny_mono h1 (fun _ s2 h2 => wpAny_bind (wpAny_mono h2 (fun _ s3 h3 => wpAny_bind (wpAny_mono h3 (fun yes s4 h4 => ?_) fun _ _ z => z)) fun _ _ z => z)) fun _ _ z => z)
    cases yes with
    | false => exact wpAny_pure ⟨rfl, h4⟩
    | true => exact wpAny_bind (wpAny_bind (wpAny_mono h4 (fun z s5 h5 => wpAny_bind (wpAny_standAt (wpAny_bind (wpAny_mono h5 (fun _ s6 h6 => wpAny_pure (wpAny_pure ⟨rfl, h6⟩)) fun _ _ z => z)))) fun _ _ z => z))
theorem start_inner (h0 : codeAny (model prog w) A (.compLoop (two e a0 b0 c0 a1 b1 c1 sc ps) 1 it acc v) R s)
    (h : wpAny (model prog w) A (pyIter it) (fun it' s' => codeAny (model prog w) A (.compLoop (two e a0 b0 c0 a1 b1 c1 sc ps) 1 it' acc v) R s') (Out prog w A v R) s) :
    codeAny (model prog w) A (.compStart (two e a0 b0 c0 a1 b1 c1 sc ps) 1 it acc v) R s := by
  refine codeAny_of_tree ?_
  show wpAny _ _ ((compStart (two e a0 b0 c0 a1 b1 c1 sc ps) 1 it acc v).onRaise (fun x => do noteFrame x v; standAt theWindowsPlace)) _ _ s
  refine wpAny_notedAt ?_
  unfold compStart
  show wpAny _ _ (ask >>= _) _ _ s
  refine wpAny_bind (wpAny_askSetting (wpAny_ite ?_))
  split
  · first
      | exact wpAny_bind (wpAny_pure (wpAny_pure (And.intro rfl h0)))
      | exact wpAny_pure (And.intro rfl h0)
  · refine wpAny_bind (wpAny_rule ?_)
    show wpAny _ _ (standAt b1.pos >>= _) _ _ s
    exact wpAny_bind (wpAny_standAt (wpAny_bind (wpAny_mono h (fun it' s' h' => wpAny_pure (And.intro rfl h')) fun _ _ z => z)))
end

section
variable {X : Cx}
/-- {x for .. in .. if .. for x in .. if ..}: D the new set; behind the first source's store and tests the second source's own loop, from which Nx is reached -/
def tSc2 (P : Program) (w : World) (wi : TI) (g : TG) (tt : TT) (wi1 : TI) (g1 : TG) (tt1 : TT) (te : TE) (vs vs1 : List Nat) : TE := fun σ H Q => wi σ H fun J H1 => ∀ D, H1 D = none → ∃ W : Nat → Nat → Hp → Prop, (∃ m, W 0 m (upd H1 D (SetSO P w D (fun _ => false) 0))) ∧ ∀ i m H, W i m H →
  (J.stop i H ∧ Q (.ref D) H) ∨ (J.go i H ∧ ∃ Nx : Hp → Prop, (∀ H', Nx H' → ∃ m', m' < m ∧ W (i + 1) m' H') ∧ ∀ x H', J.yld i H x H' → g x (wipe σ vs) H' fun σ2 H2 => wipe σ2 vs = wipe σ vs ∧ tt σ2 H2 fun b H3 =>
    if b = true then wi1 σ2 H3 fun J1 H4 => ∃ W1 : Nat → Nat → Hp → Prop, (∃ m, W1 0 m H4) ∧ ∀ j k H, W1 j k H →
      (J1.stop j H ∧ Nx H) ∨ (J1.go j H ∧ ∃ Nx1 : Hp → Prop, (∀ H', Nx1 H' → ∃ k', k' < k ∧ W1 (j + 1) k' H') ∧ ∀ x H', J1.yld j H x H' → g1 x (wipe σ2 vs1) H' fun σ3 H5 => wipe σ3 vs1 = wipe σ2 vs1 ∧ tt1 σ3 H5 fun b H6 =>
        if b = true then te σ3 H6 fun y H7 => ∃ (z : Str) (S : Str → Bool) (n : Nat), y = .str z ∧ H7 D = some (SetSO P w D S n) ∧ n + 1 < scanBound ∧ Nx1 (upd H7 D (SetSO P w D (fun j => S j || decide (j = z)) (if S z = true then n else n + 1))) else Nx1 H6)
    else Nx H3)
theorem pe_sc2 {e a0 b0 a1 b1 : Expr} {c0 c1 : List Expr} {sc : Scope} {own : List (Str × Nat)} {vs1 : List Nat} {ps : Pos} {wi wi1 : TI} {g g1 : TG} {tt tt1 : TT} {te : TE} (hc : X.calm = true) (hN : X.N.Nodup) (hi : PI X a0 b0 wi) (ok : BlkOk X.N X.env.scope sc own) (hv : ∀ i ∈ vs1, i ∈ own.map (·.2))
    (hg : ∀ (s : Shared) (H : Hp) (C : Addr) (cl : List (Str × Addr)) (fp : List Addr), PG (X.blk s H sc (compEnvC sc cl C X.env) fp) a0 g) (ht : ∀ (s : Shared) (H : Hp) (C : Addr) (cl : List (Str × Addr)) (fp : List Addr), PTs (X.blk s H sc (compEnvC sc cl C X.env) fp) c0 tt) (hi1 : ∀ (s : Shared) (H : Hp) (C : Addr) (cl : List (Str × Addr)) (fp : List Addr), PI (X.blk s H sc (compEnvC sc cl C X.env) fp) a1 b1 wi1) (hg1 : ∀ (s : Shared) (H : Hp) (C : Addr) (cl : List (Str × Addr)) (fp : List Addr), PG (X.blk s H sc (compEnvC sc cl C X.env) fp) a1 g1) (ht1 : ∀ (s : Shared) (H : Hp) (C : Addr) (cl : List (Str × Addr)) (fp : List Addr), PTs (X.blk s H sc (compEnvC sc cl C X.env) fp) c1 tt1) (he : ∀ (s : Shared) (H : Hp) (C : Addr) (cl : List (Str × Addr)) (fp : List Addr), PE (X.blk s H sc (compEnvC sc cl C X.env) fp) e te)
    (plain : ∀ x, foldedSetIterable b0 X.env x = pure x := by intro _; rfl) (plain1 : ∀ env x, foldedSetIterable b1 env x = pure x := by intro _ _; rfl) : PE X (.SetComp e [⟨a0, b0, c0, 0⟩, ⟨a1, b1, c1, 0⟩] sc ps) (tSc2 X.prog X.w wi g tt wi1 g1 tt1 te (own.map (·.2)) vs1) := by
  refine ⟨fun pins s σ H Q I h => ?_⟩
  rw [PpSet.eval_SetComp]
  have cells : ∀ y ∈ sc.names, y.2 = .free → ∃ c, X.env.cells.lookup y.1 = some c := fun y hy z => (ok.free y hy z).elim (fun k => I.ok.has _ (.inl k)) fun k => I.ok.has _ (.inr k)
  refine wpAny_comprehension_free (use := none) rfl plain (closure_ok cells) ok.kind (fun y hy z => by rw [ok.uniq y hy, z]) (thn (hi.run pins s σ H _ I h) fun xv s1 hx => thn hx fun itv s2 got => ?_)
  obtain ⟨it, fp, tn, J, H2, rfl, I2, T, st2, f2, q⟩ := got
  refine PpSet.newSet_ok (newEnv_comp ?_)
  generalize hD : s2.heap.objs.size = D
  obtain ⟨W, ⟨m0, w0⟩, turn⟩ := q D (I2.hok.fresh (Nat.le_of_eq hD))
  -- the new set
  generalize hs3 : ({ s2 with heap := s2.heap.push { cls := .type "set", dict := none, data := .set #[] 0 (.fresh 0 0 (!X.w.params.followText "set-order")) } } : Shared) = s3
  generalize hH3 : upd H2 D (SetSO X.prog X.w D (fun _ => false) 0) = H3 at w0
  have I3 : Inv X pins σ H3 s3 := by
    rw [← hs3, ← hH3]
    refine I2.laid (t' := s2.toks) (fun b o z => Heap.get?_push_of_some _ z) (Nat.le_of_eq hD) ?_
    rw [← hD]
    exact setSO_new (setS_fresh X.prog X.w)
  have heap3 : s3.heap = s2.heap.push { cls := .type "set", dict := none, data := .set #[] 0 (.fresh 0 0 (!X.w.params.followText "set-order")) } := by rw [← hs3]
  have f3 : ∀ b ∈ fp, FpOk X pins H3 b ∧ b < s3.heap.objs.size := fun b hb => by
    obtain ⟨o, lies, _⟩ := T.obj _ _ st2 b hb
    have lt := Heap.lt_size lies
    refine ⟨⟨?_, (f2 b hb).2⟩, by rw [heap3, Heap.size_push]; exact Nat.lt_succ_of_lt lt⟩
    rw [← hH3, upd_ne (by rw [← hD]; exact Nat.ne_of_lt lt)]
    exact (f2 b hb).1
  have st3 : tn 0 s3.heap := T.keep _ _ _ st2 fun b _ o z => by rw [heap3]; exact Heap.get?_push_of_some _ z
  have I4 := block_start I3 ok hN f3
  show codeAny _ _ (.compStart (two e a0 b0 c0 a1 b1 c1 sc ps) 0 (.ref it) (.ref D) (compEnvC sc (cellsFrom (s3.heap.objs.size + 1) sc.names (cloFrom X.env.cells sc.names [])) s3.heap.objs.size X.env)) (compPost (model X.prog X.w) X.A X.xe none (EP X pins σ Q) (.ref D) s3.heap.objs.size) { s3 with heap := pushCells (s3.heap.push { cls := .type "dict", data := .dict #[] }) sc.names }
  generalize hcl : cellsFrom (s3.heap.objs.size + 1) sc.names (cloFrom X.env.cells sc.names []) = cl at I4 ⊢
  have pg := hg s3 H3 s3.heap.objs.size cl fp
  have pt := ht s3 H3 s3.heap.objs.size cl fp
  have pi1 := hi1 s3 H3 s3.heap.objs.size cl fp
  have pg1 := hg1 s3 H3 s3.heap.objs.size cl fp
  have pt1 := ht1 s3 H3 s3.heap.objs.size cl fp
  have pe := he s3 H3 s3.heap.objs.size cl fp
  generalize hce : compEnvC sc cl s3.heap.objs.size X.env = ce at I4 pg pt pi1 pg1 pt1 pe ⊢
  have cL : ce.locals = s3.heap.objs.size := by subst hce; rfl
  generalize hs4 : ({ s3 with heap := pushCells (s3.heap.push { cls := .type "dict", data := .dict #[] }) sc.names } : Shared) = s4 at I4 ⊢
  have st4 : tn 0 s4.heap := T.keep _ _ _ st3 fun b _ o z => by rw [← hs4]; exact pushCells_keeps _ _ _ _ (Heap.get?_push_of_some _ z)
  have steady : ∀ {τ : L2.St} {K' : Hp} {r : Shared}, Inv (X.blk s3 H3 sc ce fp) [] τ K' r → (∀ b ∈ fp, K' b = none) → ∀ b ∈ fp, FpOk (X.blk s3 H3 sc ce fp) [] K' b := fun {τ K' r} J' hn b hb =>
    ⟨hn b hb, (J'.ok.exf b hb).1, J'.ok.exfs b hb, .inl hb, fun x c z => (J'.ok.exf b hb).2 x c z, fun p hp => absurd (show p ∈ ([] : List (Addr × Obj)) ++ [] from hp) (by simp)⟩
  have loop : codeAny (model X.prog X.w) X.A (.compLoop (two e a0 b0 c0 a1 b1 c1 sc ps) 0 (.ref it) (.ref D) ce) (compPost (model X.prog X.w) X.A X.xe none (EP X pins σ Q) (.ref D) s3.heap.objs.size) s4 := by
    refine loop_outer (plain1 ce) (fun n r => ∃ i K', Inv (X.blk s3 H3 sc ce fp) [] (wipe σ (own.map (·.2))) K' r ∧ tn i r.heap ∧ (∀ b ∈ fp, K' b = none) ∧ W i n K') ?_ m0 ⟨0, H3, I4, st4, fun b hb => (f3 b hb).1.1, w0⟩
    rintro n s5 ⟨i, H5, I5, st5, n5, w5⟩
    rcases turn i n H5 w5 with ⟨stop, last⟩ | ⟨go, Nx, hNx, step⟩
    · refine thnF (T.done (X.blk s3 H3 sc ce fp) rfl rfl rfl hc i [] s5 _ H5 (fun _ _ => False) I5 (steady I5 n5) st5 stop) fun r s6 ⟨hr, I6⟩ => ?_
      subst hr
      have I7 : Inv X pins σ H5 s6 := I3.call' (ch := fp) I6.os I6.base I6.hok I6.bare fun b hb => ⟨(f3 b hb).1.2.2.2.1, (f3 b hb).1.2.1, (f3 b hb).1.2.2.2.2.1, (f3 b hb).1.2.2.2.2.2⟩
      have noC : H5 s3.heap.objs.size = none := by
        rw [← cL]
        exact I6.free
      obtain ⟨m, hn, _⟩ := I6.loc
      have hn : s6.heap.Ns ce.locals m := hn
      rw [cL] at hn
      obtain ⟨k0, k1, k2, k3, k4, k5⟩ := I3.fpOk (Nat.le_refl _) noC
      exact ⟨m, hn, fun h2 but => ⟨.ref D, H5, I7.turned (t' := s6.toks) (fun b o hb z => (but.2 b hb).trans z) k0 k1 k3 k4 k5, rfl, last⟩⟩
    · refine thnF (T.item (X.blk s3 H3 sc ce fp) rfl rfl rfl hc i [] s5 _ H5 (fun _ _ => False) I5 (steady I5 n5) st5 go) fun r s6 ⟨u, hr, h6⟩ => ?_
      subst hr
      refine thnF h6 fun _ s7 ⟨x, H7, I7, r7, y7, st7, n7⟩ => ?_
      have I7' := I7.pinned (steady I7 n7) (T.obj _ _ st7)
      refine thnF (pg.run _ s7 _ H7 x u _ I7' r7 (step x H7 y7)) fun _ s8 ⟨τ, H8, I8, w8, q8⟩ => ?_
      refine thnF (pt.run _ s8 τ H8 _ I8 q8) fun yes s9 ⟨H9, I9, q9⟩ => ?_
      -- how a turn of the outer loop ends
      have ends : ∀ {ρ : L2.St} {r : Shared} {K' : Hp}, Inv (X.blk s3 H3 sc ce fp) ([] ++ pinsAt fp s7.heap) ρ K' r → (wipe σ (own.map (·.2))).length = ρ.length → (∀ (j : Nat) z, (wipe σ (own.map (·.2)))[j]? = some (some z) → ρ[j]? = some (some z)) → Nx K' →
          ∃ m, m < n ∧ ∃ i K', Inv (X.blk s3 H3 sc ce fp) [] (wipe σ (own.map (·.2))) K' r ∧ tn i r.heap ∧ (∀ b ∈ fp, K' b = none) ∧ W i m K' := fun {ρ r K'} J' len know nx => by
        obtain ⟨m', lt, w'⟩ := hNx K' nx
        have held : ∀ b ∈ fp, ∀ o, s7.heap.get? b = some o → r.heap.get? b = some o ∧ K' b = none := fun b hb o z => by
          have q := J'.pin (b, o) (List.mem_append_right _ (List.mem_append_right _ (mem_pinsAt hb z)))
          exact ⟨q.1, q.2.1⟩
        refine ⟨m', lt, i + 1, K', (J'.unpinned (pins := [])).weak len know, T.keep _ _ _ st7 fun b hb o z => (held b hb o z).1, fun b hb => ?_, w'⟩
        obtain ⟨o, z, _⟩ := T.obj _ _ st7 b hb
        exact (held b hb o z).2
      have len8 : (wipe σ (own.map (·.2))).length = τ.length := by rw [← w8, wipe_length]
      have know8 : ∀ (j : Nat) z, (wipe σ (own.map (·.2)))[j]? = some (some z) → τ[j]? = some (some z) := fun j z q => by
        rw [← w8] at q
        exact (wipe_some q).1
      have know9 : ∀ (j : Nat) z, (wipe σ (own.map (·.2)))[j]? = some (some z) → (wipe τ vs1)[j]? = some (some z) := fun j z q => by
        rw [← w8] at q
        rw [wipe_out fun m => (wipe_some q).2 (hv j m)]
        exact (wipe_some q).1
      cases yes with
      | false => exact ends I9 len8 know8 q9
      | true =>
        rw [if_pos rfl] at q9 ⊢
        refine thnF (pi1.run _ s9 τ H9 _ I9 q9) fun xv s10 hx => thnF hx fun itv s11 h11 => ?_
        obtain ⟨it1, fp1, tn1, J1, H11, rfl, I11, T1, st11, f11, W1, ⟨m1, w1⟩, turn1⟩ := h11
        have steady1 : ∀ {K' : Hp}, (∀ b ∈ fp1, K' b = none) → ∀ b ∈ fp1, FpOk (X.blk s3 H3 sc ce fp) ([] ++ pinsAt fp s7.heap) K' b := fun hn b hb => ⟨hn b hb, (f11 b hb).2⟩
        have loop1 : codeAny (model X.prog X.w) X.A (.compLoop (two e a0 b0 c0 a1 b1 c1 sc ps) 1 (.ref it1) (.ref D) ce)
            (fun r s' => match r with
              | .ok _ => ∃ m, m < n ∧ ∃ i K', Inv (X.blk s3 H3 sc ce fp) [] (wipe σ (own.map (·.2))) K' s' ∧ tn i s'.heap ∧ (∀ b ∈ fp, K' b = none) ∧ W i m K'
              | .error _ => False) s11 := by
          refine loop_inner (fun k r => ∃ j K', Inv (X.blk s3 H3 sc ce fp) ([] ++ pinsAt fp s7.heap) (wipe τ vs1) K' r ∧ tn1 j r.heap ∧ (∀ b ∈ fp1, K' b = none) ∧ W1 j k K') ?_ m1 ⟨0, H11, I11.weak (wipe_length _ _) (fun j z q => (wipe_some q).1), st11, fun b hb => (f11 b hb).1, w1⟩
          rintro k s12 ⟨j, H12, I12, st12, n12, w12⟩
          rcases turn1 j k H12 w12 with ⟨stop1, nx1⟩ | ⟨go1, Nx1, hNx1, step1⟩
          · refine thnF (T1.done (X.blk s3 H3 sc ce fp) rfl rfl rfl hc j _ s12 (wipe τ vs1) H12 (fun _ _ => False) I12 (steady1 n12) st12 stop1) fun r s13 ⟨hr, I13⟩ => ?_
            subst hr
            exact ends I13 (len8.trans (wipe_length τ vs1).symm) know9 nx1
          · refine thnF (T1.item (X.blk s3 H3 sc ce fp) rfl rfl rfl hc j _ s12 (wipe τ vs1) H12 (fun _ _ => False) I12 (steady1 n12) st12 go1) fun r s13 ⟨u1, hr, h13⟩ => ?_
            subst hr
            refine thnF h13 fun _ s14 ⟨x1, H14, I14, r14, y14, st14, n14⟩ => ?_
            have I14' := I14.pinned (steady1 n14) (T1.obj _ _ st14)
            refine thnF (pg1.run _ s14 (wipe τ vs1) H14 x1 u1 _ I14' r14 (step1 x1 H14 y14)) fun _ s15 ⟨ρ, H15, I15, w15, q15⟩ => ?_
            refine thnF (pt1.run _ s15 ρ H15 _ I15 q15) fun yes1 s16 ⟨H16, I16, q16⟩ => ?_
            have ends1 : ∀ {r : Shared} {K' : Hp}, Inv (X.blk s3 H3 sc ce fp) (([] ++ pinsAt fp s7.heap) ++ pinsAt fp1 s14.heap) ρ K' r → Nx1 K' → ∃ m, m < k ∧ ∃ j K', Inv (X.blk s3 H3 sc ce fp) ([] ++ pinsAt fp s7.heap) (wipe τ vs1) K' r ∧ tn1 j r.heap ∧ (∀ b ∈ fp1, K' b = none) ∧ W1 j m K' := fun {r K'} J' nx => by
              obtain ⟨m', lt, w'⟩ := hNx1 K' nx
              have held : ∀ b ∈ fp1, ∀ o, s14.heap.get? b = some o → r.heap.get? b = some o ∧ K' b = none := fun b hb o z => by
                have q := J'.pin (b, o) (List.mem_append_right _ (List.mem_append_right _ (mem_pinsAt hb z)))
                exact ⟨q.1, q.2.1⟩
              refine ⟨m', lt, j + 1, K', J'.unpinned.weak (by rw [← w15, wipe_length]) (fun j z q => by rw [← w15] at q; exact (wipe_some q).1), T1.keep _ _ _ st14 fun b hb o z => (held b hb o z).1, fun b hb => ?_, w'⟩
              obtain ⟨o, z, _⟩ := T1.obj _ _ st14 b hb
              exact (held b hb o z).2
            cases yes1 with
            | false => exact ends1 I16 q16
            | true =>
              rw [if_pos rfl] at q16 ⊢
              refine thnF (pe.run _ s16 ρ H16 _ I16 q16) fun z s17 ⟨y, H17, I17, r17, x, S, c, hy, lies, room, nx⟩ => ?_
              subst hy
              obtain ⟨t0, rfl⟩ := (show ∃ t, z = Value.str x t from r17)
              exact addS_ok (X := X.blk s3 H3 sc ce fp) I17 lies room fun s18 I18 => ends1 I18 nx
        exact start_inner loop1 (T1.self X.A 0 _ _ _ st11 loop1)
  exact PpSet.codeAny_compStart_set loop (T.self X.A 0 _ _ _ st4 loop)
end
/-- any loop of a comprehension by an invariant -/
theorem it_walk {J : It} {n : Nat} {G : Hp → Prop} {Y : Nat → Hp → V → Hp → Prop} (w : Walk J n G Y) {H0 : Hp} {Fin : Hp → Prop} {Step : (Hp → Prop) → V → Hp → Prop} (Pv : Nat → Hp → Prop) (h0 : Pv 0 H0) (hG : ∀ i H, i ≤ n → Pv i H → G H)
    (hs : ∀ i x H H', i < n → Pv i H → Y i H x H' → Step (Pv (i + 1)) x H') (hd : ∀ H, Pv n H → Fin H) :
    ∃ W : Nat → Nat → Hp → Prop, (∃ m, W 0 m H0) ∧ ∀ i m H, W i m H → (J.stop i H ∧ Fin H) ∨ (J.go i H ∧ ∃ Nx : Hp → Prop, (∀ H', Nx H' → ∃ m', m' < m ∧ W (i + 1) m' H') ∧ ∀ x H', J.yld i H x H' → Step Nx x H') := by
  refine ⟨fun i m H => m = n - i ∧ i ≤ n ∧ Pv i H, ⟨n, (Nat.sub_zero n).symm, Nat.zero_le _, h0⟩, ?_⟩
  rintro i m H ⟨hm, hi, p⟩
  subst hm
  have q := hG i H hi p
  cases Nat.lt_or_ge i n with
  | inl lt => exact .inr ⟨w.goes i H lt q, Pv (i + 1), (fun H' p' => ⟨n - (i + 1), by omega, rfl, lt, p'⟩), fun x H' y => hs i x H H' lt p (w.yields i H x H' lt q y)⟩
  | inr ge =>
    have e : i = n := Nat.le_antisymm hi ge
    subst e
    exact .inl ⟨w.stops H q, hd H p⟩
end PX
/-! xs != []; xs.extend(a tuple); d.update(another dict). -/
namespace PX
open PySem PySem.Spec PyProof.Rows L2
/-! ### xs != [] -/
section
open PySem.SeqAt AutoSeq1 MeetsSeq MeetsSeq2 MeetsSeq3 SeqRoads2
theorem ne_apart {prog : Program} {w : World} (l b : Addr) (items items2 : Array Value) (n n2 : Nat) (apart : (items.size != items2.size) = true) :
    MeetsIn prog w (Builtin.«list.__ne__» ⟨[.ref l, .ref b], []⟩)
      (fun _ R s => s.heap.get? l = some { cls := .type "list", dict := none, data := .seq items n, slots := #[] } ∧ s.heap.get? b = some { cls := .type "list", dict := none, data := .seq items2 n2, slots := #[] } ∧ R (.ok (.ret (.bool true))) s) := by
  intro A R s h
  obtain ⟨hp, g, d, tk, os⟩ := s
  obtain ⟨hl, hb, h⟩ := h
  have f3 := AutoSeq1.sub_list_list
  wp_walk using wpAny_loadPart' hl, wpAny_loadPart' hb
  exact h
end
def rNeNil : R2 := fun x y H Q => ∃ (a b : Addr) (xs : List V), x = .ref a ∧ y = .ref b ∧ H a = some (.lst xs) ∧ H b = some (.lst []) ∧ Q (.bl (!xs.isEmpty)) H
theorem op_neNil {X : Cx} (hu : X.A.units + 64 < cLine) : OpR X (compareOp .NotEq) rNeNil := by
  intro pins s σ H x y v u Q I rx ry h
  obtain ⟨a, b, xs, rfl, rfl, ha, hb, q⟩ := h
  cases xs with
  | nil => exact op_neD hu pins s σ H (.ref a) (.ref b) v u Q I rx ry ⟨.list [], .list [], .lst (SqL.of ha) .nil, .lst (SqL.of hb) .nil, by rfl, by rfl, q⟩
  | cons x r =>
    obtain rfl : v = Value.ref a := rx
    obtain rfl : u = Value.ref b := ry
    obtain ⟨z, its, n, r1, l1, e1⟩ := I.lstM ha
    obtain ⟨z2, its2, n2, r2, l2, e2⟩ := I.lstM hb
    have ta : s.TypeIs (.ref a) "list" := ⟨_, e1, rfl⟩
    have tb : s.TypeIs (.ref b) "list" := ⟨_, e2, rfl⟩
    have apart : (its.toArray.size != its2.toArray.size) = true := by
      cases r1
      cases r2
      rfl
    show wpAny _ _ (richCompare .NotEq (.ref a) (.ref b)) _ _ s
    exact wpAny_richCompare_same_room (op := .NotEq) ta tb F.slot_list_ne (call_meetsIn F.slot_list_ne ta F.entry_list_ne (F.args_list_ne_2 _ _) (ne_apart a b its.toArray its2.toArray n n2 apart)
      ⟨e1, e2, show Value.bool true ≠ Value.notImplemented ∧ EP X pins σ Q (.bool true) s from ⟨(fun x => nomatch x), ⟨.bl true, H, I, rfl, q⟩⟩⟩) (by omega)
/-! ### xs.extend(ys), ys a list or a tuple -/
def rExtendA (K : PySem.W.Frag) : V → List V → Hp → VK → Prop := fun x vs H Q => ∃ (l b : Addr) (xs zs : List V), x = .ref l ∧ vs = [.ref b] ∧ H l = some (.lst xs) ∧ SqT K H b zs ∧ xs.length + zs.length ≤ sizeLine ∧ Q .non (upd H l (.lst (xs ++ zs)))
theorem extend_tup {prog : Program} {w : World} {A : Around} {E : Value → Shared → Prop} {s : Shared} {l b : Addr} {old new : Array Value} {n : Nat} {Q : Value → Shared → Prop} (atL : s.heap.get? l = some { cls := .type "list", data := .seq old n }) (atB : IsTup s.heap b new)
    (few : old.size + new.size ≤ sizeLine) (h : Q .none { s with heap := s.heap.update l (Obj.mapSeq fun x => x ++ new) }) : wpAny (model prog w) A (call (.builtin "list.extend") [.ref l, .ref b]) Q E s := by
  have isL := PySem.IsL.isList atL
  obtain ⟨ob, hob, cb, nb, db⟩ := atB
  refine wpAny_call_entry F.slot_list_extend isL.typeIs F.entry_list_extend ?_ (F.args_list_extend_2 _ _)
  unfold Builtin.«list.extend»
  refine wpAny_bind (wpAny_pure ?_)
  unfold Builtin.List.listExtendWith
  refine wpAny_bind (wpAny_typeOf (T := "tuple") ⟨ob, hob, cb⟩ ?_)
  rw [if_pos (show (Builtin.List.listSameRef (.ref l) (.ref b) || Value.type "tuple" == Value.type "list" || Value.type "tuple" == Value.type "tuple") = true by
    rw [show (Value.type "tuple" == Value.type "tuple") = true by decide, Bool.or_true])]
  refine wpAny_bind (listItems_at hob db (wpAny_bind (listItems_at atL rfl ?_)))
  rw [if_neg (show ¬ (!old.isEmpty && Builtin.List.listTooLong (old.size + new.size)) = true by rw [notLongL few, Bool.and_false]; exact Bool.false_ne_true)]
  refine wpAny_bind (wpAny_updateSeq (hz := Nat.le_trans (Nat.le_add_right _ _) few) (_hz' := by show (old ++ new).size ≤ _; rw [Array.size_append]; omega) atL rfl ?_)
  exact wpAny_pure ⟨_, rfl, h⟩
theorem mt_extendA {X : Cx} : MtM X "list.extend" (rExtendA X.K) := by
  intro pins s σ H x vs v us Q I rx rv h
  obtain ⟨l, b, xs, zs, rfl, rfl, hH, hB, hz, q⟩ := h
  obtain rfl : v = Value.ref l := rx
  obtain ⟨u, rfl, ru⟩ := rv.one
  obtain rfl : u = Value.ref b := ru
  obtain ⟨z, its, n, r, hl, e⟩ := I.lstM hH
  obtain ⟨its2, r2, e2, z2⟩ := I.tuple hB
  have len2 := r2.length
  refine extend_tup e e2 (by rw [List.size_toArray, List.size_toArray]; omega) ?_
  refine ⟨.non, _, I.lset (its' := its ++ its2) (t' := s.toks) hH e (by simp) (r.append r2) ?_, rfl, q⟩
  rw [List.length_append]
  omega
/-! ### d.update(e) -/
def rDUpd : V → List V → Hp → VK → Prop := fun x vs H Q => ∃ (d o : Addr) (ks ls : List (Key × V)), x = .ref d ∧ vs = [.ref o] ∧ d ≠ o ∧ H d = some (.dK ks) ∧ H o = some (.dK ls) ∧ ks.length + ls.length ≤ sizeLine ∧ Q .non (upd H d (.dK (mergeK ks ls)))
theorem mt_dupdate {X : Cx} : MtR X "dict.update" rDUpd := by
  intro pins s σ H x vs v us Q I rx rv h
  obtain ⟨d, o, ks, ls, rfl, rfl, apart, hd, ho, few, q⟩ := h
  obtain rfl : v = Value.ref d := rx
  obtain ⟨u, rfl, ru⟩ := rv.one
  obtain rfl : u = Value.ref o := ru
  obtain ⟨z1, s1, vs1, rel1, dd1⟩ := dk_of I.hok hd
  obtain ⟨z2, s2, vs2, rel2, dd2⟩ := dk_of I.hok ho
  have len1 := rel1.length
  have len2 := rel2.length
  refine call_meetsIn F.slot_dict_update dd1.typeIs F.entry_dict_update (F.args_dict_update_2 _ _) (meets_dict_update (mixKind X.prog X.w) d o apart s2) ⟨vs1, vs2, dd1, dd2, by omega, fun h' dd' _ but => ?_⟩
  have there : ∃ q, h'.get? d = some q := let ⟨q, _, _, hq, _⟩ := dd'; ⟨q, hq⟩
  have small : (mergeK ks ls).length ≤ sizeLine := Nat.le_trans (length_mergeK ls ks) few
  exact ⟨.non, _, d_write (t' := s.toks) I (by rw [hd]; exact True.intro) but there (dk_new small s1 (KV.merge rel2 rel1) dd'), rfl, q⟩
end PX
/-! defs with *args alone, called with plain arguments. -/
namespace PX
open PySem PySem.Spec PyProof.Rows L2
section
variable {X : Cx} {CX : CXT} {k : Nat} {f : Addr} {sp : Sp} {E : XK} {x : Str} {p pos : Pos} {e : Expr} {es : List Expr} {t : TA}
/-- f(e, ..) by a promise about all arguments -/
def tCallR (sp : Sp) (E : XK) (t : TA) : TE := fun σ H Q => t σ H fun vs H1 => sp vs H1 Q E
theorem pe_callR (F : FnR X.prog X.w X.K X.mg X.base CX k f sp) (hr : Room k X.A) (hg : Gl X x) (hm : X.mg x = some (.ref f)) (hk : PySem.W.keepIn X.K (.ref f) = true) (hx : Passes CX X E) (ha : PA X (e :: es) t)
    (hdb : (x == ("__debug__" : Str)) = false := by decide) (he : starEach (e :: es) X.env = (false, eval e X.env) :: starEach es X.env := by rfl) (hpl : (backTo pos (starEach es X.env)).any (·.1) = false := by rfl) :
    PE X (.Call (.Name x p) (e :: es) [] pos) (tCallR sp E t) := by
  refine ⟨fun pins s σ H Q I h => wpAny_Call_Name_kw (ld_glob I hg hm ?_ hdb)⟩
  exact PySem.W.callWith_K (h₀ := X.base) I.ok.mod.kin hk (thn (ha.run pos pins s σ H _ I h) fun us s1 ⟨vs, H1, I1, r, q⟩ => ⟨I1.kIn, wpAny_call (run_fnR F hr hx I1 r q)⟩) he hpl
theorem pe_callR0 (F : FnR X.prog X.w X.K X.mg X.base CX k f sp) (hr : Room k X.A) (hg : Gl X x) (hm : X.mg x = some (.ref f)) (hk : PySem.W.keepIn X.K (.ref f) = true) (hx : Passes CX X E) (hdb : (x == ("__debug__" : Str)) = false := by decide) :
    PE X (.Call (.Name x p) [] [] pos) (tCallR sp E tNil) := by
  refine ⟨fun pins s σ H Q I h => wpAny_Call_Name_kw (ld_glob I hg hm ?_ hdb)⟩
  exact PySem.W.callWith_K0 I.kIn hk (wpAny_call (run_fnR (us := []) F hr hx I .nil h))
end
section
variable {P : Program} {w : World} {K : PySem.W.Frag} {mg : Str → Option Value} {base : Heap}
/-- a def f(*v) by its body -/
theorem okStar {x qual pv : Str} {st : Stmt} {f : Addr} {fd : FuncData} {N : List Str} {k : Nat} {sp : Sp} (F : Fun K x qual st f fd) (S : FnScope N [pv] (defScope st))
    (hb0 : ∀ (kV doc pm : Value) (an : Option Addr) (cdv ct : Value), bindArgs (PySem.W.fnOf x qual (defArgs st) (defBody st) (defScope st) .none kV doc pm an cdv ct) ⟨[], []⟩ = (newTuple [] >>= fun t => pure [(pv, t)]))
    (hb1 : ∀ (kV doc pm : Value) (an : Option Addr) (cdv ct u : Value) (us : List Value), bindArgs (PySem.W.fnOf x qual (defArgs st) (defBody st) (defScope st) .none kV doc pm an cdv ct) ⟨u :: us, []⟩ = (newTuple (u :: us) >>= fun t => pure [(pv, t)]))
    (hbody : ∀ (cdv : Value) (A : Around) (outer : List Env) (s : Shared) (H : Hp) (vs : List V) (Q : VK) (E : XK), Room k (A.deeper (envOfC qual (defScope st) s.heap.objs.size f cdv)) → sp vs H Q E →
      ∃ t, PSs (cxOf CX0 P w K mg base N qual (defScope st) f cdv A outer s H E).nox (defBody st) t ∧ t { nx := fun _ H' => Q .non H', rt := Q } (start N vs) H) :
    FnR P w K mg base CX0 (k + 1) f (fun vs H Q E => vs.length ≤ sizeLine ∧ ∀ p, H p = none → sp [V.ref p] (upd H p (.tup vs)) Q E) := by
  obtain ⟨oc, od, kV, doc, pm, an, cdv, ct, osl, rfl, lk, hcd⟩ := F.ex
  have G := StX.fn_star (P := P) (w := w) (mg := mg) (base := base) (CX := CX0) (k := k) (sp := sp) (ps := []) (pv := pv) lk hcd S StX.cxUp_none (fun us rest h => by
    obtain rfl : us = [] := List.length_eq_zero_iff.mp h
    cases rest with
    | nil => exact hb0 kV doc pm an cdv ct
    | cons u r => exact hb1 kV doc pm an cdv ct u r) fun A outer s H vs Q E hr hs => by
      obtain ⟨t, h, q⟩ := hbody cdv A outer s H vs Q E hr hs
      exact ⟨t, h.nox, q⟩
  exact G.imp fun vs H Q E h => ⟨[], vs, rfl, rfl, h.1, h.2⟩
end
end PX
/-! enumerate(a tuple). -/
namespace PX
open PySem PySem.Spec PyProof.Rows L2
theorem meets_enum1 {v : Value} {o : Obj} {H : Heap → Prop} (B : Begins v o H) : Meets (Builtin.«enumerate.__new__» ⟨[.type "enumerate", v], []⟩) (fun _ R s => H s.heap ∧
      R (.ok (.ret (.ref (s.heap.push o).objs.size))) { s with heap := (s.heap.push o).push { cls := .type "enumerate", data := .fields #[.none, .bool false, .ref s.heap.objs.size, rawInt 0, .none, .none] } }) :=
  .of_wp fun prog w A R s h => by
    obtain ⟨hp, g, d, tk, os⟩ := s
    obtain ⟨h1, h⟩ := h
    have hsub := sub_enumerate
    have go : ∀ {A' : Around} {E : Value → Shared → Prop} {Q : Value → Shared → Prop}, Q (.ref hp.objs.size) ⟨hp.push o, g, d, tk, os⟩ → wpAny (model prog w) A' (pyIter v) Q E ⟨hp, g, d, tk, os⟩ := fun q => B.iter prog w _ _ ⟨hp, g, d, tk, os⟩ _ h1 q
    wp_walk using go
    refine wpAny_stack_any fun st => wpAny_pure ?_
    split
    · rename_i c _ _ _ _ _
      cases (c == Value.type "enumerate") <;> (wp_walk using go; exact ⟨_, rfl, h⟩)
    · wp_walk using go
      exact ⟨_, rfl, h⟩
theorem enum_tup {prog : Program} {w : World} {A : Around} {E : Value → Shared → Prop} {s : Shared} {t : Addr} {items : Array Value} {Q : Value → Shared → Prop} (hT : s.heap.IsTuple t items)
    (h : ∀ h', IsEnum h' (s.heap.objs.size + 1) s.heap.objs.size 0 .none → h'.IsTupleIter s.heap.objs.size t 0 → (∀ b o, s.heap.get? b = some o → h'.get? b = some o) → Q (.ref (s.heap.objs.size + 1)) { s with heap := h' }) :
    wpAny (model prog w) A (call (.type "enumerate") [.ref t]) Q E s := by
  refine callType_new F.called_enumerate (by decide) (F.typeCall_enumerate_1 _) (F.newCall_enumerate_1 _) (fun obj => F.args_object_init_2 obj _) F.entry_enumerate_new (meets_enum1 (begins_tuple t items)) ⟨hT, ?_⟩
  have hz : (s.heap.push { cls := .type "tuple_iterator", data := .fields #[.ref t, .int 0 0] }).objs.size = s.heap.objs.size + 1 := Heap.size_push ..
  show _ ∧ _
  rw [hz]
  have lies := Heap.get?_push_size (s.heap.push { cls := .type "tuple_iterator", data := .fields #[.ref t, .int 0 0] }) (o := { cls := .type "enumerate", data := .fields #[.none, .bool false, .ref s.heap.objs.size, rawInt 0, .none, .none] }) rfl
  rw [hz] at lies
  exact ⟨⟨_, lies, rfl⟩, h _ lies ⟨_, Heap.get?_push_of_some _ (Heap.get?_push_size _ rfl), rfl, rfl⟩ fun b o x => Heap.get?_push_of_some _ (Heap.get?_push_of_some _ x)⟩

/-- the tuple at a, each item in a new pair -/
def IteT (K : PySem.W.Frag) (a : Addr) : It :=
  ⟨fun i H => ∃ (xs : List V) (x : V), SqT K H a xs ∧ xs[i]? = some x, fun i H v H' => ∃ T x, v = .ref T ∧ H T = none ∧ H' = upd H T (.tup [.int (i : Nat), x]) ∧ ∀ xs, SqT K H a xs → xs[i]? = some x, fun i H => ∃ xs : List V, SqT K H a xs ∧ xs.length ≤ i⟩
theorem turn_enumT {P : Program} {w : World} {K : PySem.W.Frag} {elts : List Expr} {kk : Nat} {tpos : Pos} (a e it : Addr) :
    Turn P w K (.Tuple elts kk tpos) (IteT K a) [e, it] e (fun i h => (∃ old, IsEnum h e it ((i : Nat) : Int) old) ∧ h.IsTupleIter it a i ∧ e ≠ it) where
  mem := by simp
  obj := fun i h st b hb => by
    obtain ⟨⟨old, lies⟩, ⟨o, ho, hc, hd⟩, _⟩ := st
    rcases (by simpa using hb : b = e ∨ b = it) with z | z
    · rw [z]
      exact ⟨_, lies, fun v q => nomatch q⟩
    · rw [z]
      exact ⟨o, ho, fun v q => by rw [hd] at q; cases q⟩
  keep := fun i h h' st k => by
    obtain ⟨⟨old, lies⟩, hi, apart⟩ := st
    exact ⟨⟨old, k e (by simp) _ lies⟩, hi.at fun o q => k it (by simp) o q, apart⟩
  item := by
    intro X hP hw hK hc i pins s σ H E I hf st hg
    subst hP hw hK
    obtain ⟨⟨old, lies⟩, iter, apart⟩ := st
    obtain ⟨xs, x, hq, hx⟩ := hg
    obtain ⟨its, rv, tp, hz⟩ := I.tuple hq
    obtain ⟨u, hu, ru⟩ := rv.get hx
    have lo := Heap.lt_size lies
    have lt : it < s.heap.objs.size := by
      obtain ⟨_, q, _⟩ := iter
      exact Heap.lt_size q
    have hae : a ≠ e := fun z => by
      obtain ⟨o, ho, hcl, _⟩ := tp
      rw [z, lies] at ho
      cases ho
      exact absurd (Value.type.inj hcl) (by decide)
    have hai : a ≠ it := fun z => by
      obtain ⟨o, ho, hcl, _⟩ := tp
      obtain ⟨o', ho', hcl', _⟩ := iter
      rw [z, ho'] at ho
      cases ho
      rw [hcl'] at hcl
      exact absurd (Value.type.inj hcl) (by decide)
    have size : i < its.toArray.size := by
      have := (List.getElem?_eq_some_iff.mp hu).1
      simpa using this
    refine wpAny_pyNext_enum_itemC (Draws.tuple (A := X.A.in1) (I.ok.hd hc) it a hai its.toArray) lies ⟨iter, tp⟩ size apart (by simp [apart, hae.symm]) fun y h' tk hy ho st' hT hsz hk => ?_
    obtain rfl : y = u := by
      have := hy.symm.trans (by simpa using hu : its.toArray[i]? = some u)
      exact Option.some.inj this
    refine ⟨_, rfl, wpAny_letOwnedTupleGo_enum (s := { s with heap := h', toks := tk + 1 }) ho fun h2 he2 but => ?_⟩
    have new2 : h2.get? s.heap.objs.size = some { cls := .type "tuple", data := .seq #[.int i tk, y] } := (but.2 _ (Nat.ne_of_gt lo)).trans hT
    have new : ObjOk X.prog X.w (upd H s.heap.objs.size (.tup [.int (i : Nat), x])) h2 s.heap.objs.size (.tup [.int (i : Nat), x]) := ⟨by show 2 ≤ sizeLine; decide, [.int i tk, y], .cons ⟨_, rfl⟩ (.cons ru .nil), ⟨_, new2, rfl, _, rfl⟩⟩
    have I1 : Inv X pins σ (upd H s.heap.objs.size (.tup [.int (i : Nat), x])) { s with heap := h2, toks := tk + 1 } :=
      I.turnedNew (ch := [e, it]) (fun b ob hb q => (but.2 b (fun z => hb (by simp [z]))).trans (hk b ob (fun z => hb (by simp [z])) (fun z => hb (by simp [z])) q)) hf (Nat.le_refl _) new
    refine ⟨.ref s.heap.objs.size, _, I1, rfl, ⟨_, x, rfl, I.hok.fresh (Nat.le_refl _), rfl, fun ys hy2 => by rw [I.tuple_inj hy2 hq]; exact hx⟩, ⟨⟨y, ?_⟩, st'.1.at fun o q => (but.2 it apart.symm).trans q, apart⟩, fun b hb => ?_⟩
    · have z : ((i + 1 : Nat) : Int) = (i : Int) + 1 := by omega
      rw [z]
      exact he2
    · have less : b < s.heap.objs.size := by
        rcases (by simpa using hb : b = e ∨ b = it) with z | z
        · rw [z]; exact lo
        · rw [z]; exact lt
      rw [upd_ne (Nat.ne_of_lt less)]
      exact (hf b hb).1
  done := by
    intro X hP hw hK hc i pins s σ H E I hf st hg
    subst hP hw hK
    obtain ⟨⟨old, lies⟩, iter, apart⟩ := st
    obtain ⟨xs, hq, hx⟩ := hg
    obtain ⟨its, rv, tp, hz⟩ := I.tuple hq
    obtain ⟨k0, k1, k2, k3, k4, k5⟩ := hf it (by simp)
    have len := rv.length
    have none_at : its.toArray[i]? = none := by
      have : its.length ≤ i := by omega
      simpa using this
    unfold pyNext
    have ty : s.TypeIs (.ref e) "enumerate" := ⟨_, lies, rfl⟩
    refine wpAny_bind (wpAny_attempt (wpAny_callSpecial?_slot (name := Str.ofString "__next__") ty F.slot_enumerate_next (wpAny_call_entry F.slot_enumerate_next ty F.entry_enumerate_next ?_ (F.args_enumerate_next_1 _))))
    show wpAny _ _ (field (.ref e) 2 >>= _) _ _ _
    refine wpAny_bind (wpAny_field lies rfl (x := .ref it) rfl (wpAny_bind (wpAny_nextOf_tuple_end (I.ok.hd hc) iter tp none_at fun h' x ext stop => ?_)))
    obtain ⟨o, ho, hcl⟩ := stop
    refine wpAny_bind (wpAny_isInstance (T := "StopIteration") (b := true) ⟨o, ho, hcl⟩ isSubtype_stop ?_)
    exact wpAny_pure ⟨rfl, I.turned (t' := s.toks) (fun b o hb q => ext b o hb q) k0 k1 k3 k4 k5⟩
  self := fun A i s Q E st h => by
    obtain ⟨⟨_, lies⟩, _⟩ := st
    exact wpAny_pyIter_enum lies h
def iEnumT (K : PySem.W.Frag) (ta : TA) : TI := fun σ H R => ta σ H fun vs H1 => ∃ a xs, vs = [.ref a] ∧ SqT K H1 a xs ∧ R (IteT K a) H1
theorem pi_enumT {X : Cx} {e : Expr} {ta : TA} {p pos tpos : Pos} {elts : List Expr} {kk : Nat} (hg : Gl X "enumerate") (hm : X.mg "enumerate" = none) (ha : PA X [e] ta) (hs : starEach [e] X.env = [(false, eval e X.env)] := by rfl) :
    PI X (.Tuple elts kk tpos) (.Call (.Name "enumerate" p) [e] [] pos) (iEnumT X.K ta) := by
  refine ⟨fun pins s σ H R I h => Call_ (ld_blt I hg hm boot_enumerate (PyProof.Rows.callWith_type1 (thn (ha.run pos pins s σ H _ I h) fun us s1 ⟨vs, H1, I1, r1, a, xs, ex, hq, q⟩ => ?_) hs rfl))⟩
  subst ex
  obtain ⟨u, rfl, ru⟩ := vals1 r1
  obtain rfl : u = Value.ref a := ru
  obtain ⟨its, rv, tp, hz⟩ := I1.tuple hq
  refine enum_tup tp fun h' lies iter hk => wpAny_pyIter_enum lies ?_
  have I2 : Inv X pins σ H1 { s1 with heap := h' } := I1.kept (t' := s1.toks) hk
  refine ⟨s1.heap.objs.size + 1, [s1.heap.objs.size + 1, s1.heap.objs.size], _, _, H1, rfl, I2, turn_enumT a (s1.heap.objs.size + 1) s1.heap.objs.size, ⟨⟨.none, lies⟩, iter, Nat.succ_ne_self _⟩, fun b hb => ?_, q⟩
  have above : s1.heap.objs.size ≤ b := by
    rcases (by simpa using hb : b = s1.heap.objs.size + 1 ∨ b = s1.heap.objs.size) with z | z
    · rw [z]; exact Nat.le_add_right _ _
    · rw [z]; exact Nat.le_refl _
  exact I1.fpOk above (I1.hok.fresh above)
theorem walk_enumT {K : PySem.W.Frag} {a : Addr} {xs : List V} : Walk (IteT K a) xs.length (fun H => SqT K H a xs) (YPair (fun i => some (.int (i : Nat))) (fun i => xs[i]?)) := by
  refine ⟨fun i _ hi q => ⟨xs, xs[i], q, by simp [hi]⟩, fun _ q => ⟨xs, q, Nat.le_refl _⟩, fun i H v H' _ q y => ?_⟩
  obtain ⟨T, x, h1, h2, h3, h4⟩ := y
  exact ⟨T, .int (i : Nat), x, h1, h2, h3, rfl, h4 xs q⟩
end PX
/-! sorted(d.items()), d a dict of ints. -/
namespace PX
open PySem PySem.Spec PyProof.Rows L2
def rItemsK : V → List V → Hp → VK → Prop := fun x xs H Q => ∃ (a : Addr) (kvs : List (Key × V)), x = .ref a ∧ xs = [] ∧ H a = some (.dK kvs) ∧ ∀ p, H p = none → Q (.ref p) (upd H p (DX.itemsO p a))
theorem mt_itemsK {X : Cx} : MtR X "dict.items" rItemsK := by
  intro pins s σ H x xs v us Q I rx rxs h
  obtain ⟨a, kvs, rfl, rfl, ha, q⟩ := h
  obtain rfl : v = Value.ref a := rx
  cases rxs
  obtain ⟨z, hd, vs, kv, o, es, ep, ho, hx, hdat, _⟩ := dk_of I.hok ha
  refine DT.callItems (es := es) (ep := ep) hd ⟨o, ho, hx, hdat⟩ ?_
  have fresh : H s.heap.objs.size = none := I.hok.fresh (Nat.le_refl _)
  exact ⟨.ref s.heap.objs.size, _, I.laid (t' := s.toks) (o := DX.itemsO s.heap.objs.size a) (fun b u e => Heap.get?_push_of_some _ e) (Nat.le_refl _) (DX.itemsO_ok (Heap.get?_push_size _ rfl)), rfl, q _ fresh⟩
def addrOf : Value → Addr
  | .ref b => b
  | _ => 0
theorem tab_get {l : Tab} {vs : List (Key × Value)} (kv : KV (tab l) vs) {j : Nat} {p : Key × Value} (h : vs[j]? = some p) : ∃ z, l[j]? = some z ∧ p.1 = Sum.inl z.1 ∧ ∃ t, p.2 = Value.int z.2 t := by
  unfold KV at kv
  have len : (tab l).length = vs.length := Paired.length kv
  have lt := (List.getElem?_eq_some_iff.mp h).1
  rw [tab_len] at len
  obtain ⟨z, hz⟩ : ∃ z, l[j]? = some z := ⟨l[j], List.getElem?_eq_getElem (by omega)⟩
  have hz2 : (tab l)[j]? = some (kI z) := by rw [show tab l = l.map kI from rfl, List.getElem?_map, hz] <;> rfl
  obtain ⟨q, hq, r1, r2⟩ := LiI.paired_get kv hz2
  rw [h] at hq
  cases hq
  exact ⟨z, hz, r1.symm, r2⟩
theorem pairs_get {P : Program} {w : World} : ∀ {es : List DictEntry} {vs : List (Key × Value)}, Pairs (mixKind P w) es vs → es.length = vs.length ∧ ∀ {j : Nat} {e : DictEntry}, es[j]? = some e → ∃ p, vs[j]? = some p ∧ (mixKind P w).is p.1 e.key = true ∧ e.val = p.2
  | _, _, .nil => ⟨rfl, fun h => nomatch h⟩
  | _, _, .cons h1 h2 r => by
    obtain ⟨len, get⟩ := pairs_get r
    refine ⟨congrArg (· + 1) len, fun {j e} h => ?_⟩
    cases j with
    | zero =>
      have z := Option.some.inj h
      subst z
      exact ⟨_, rfl, h1, h2⟩
    | succ j => exact get h
/-- sorted(a view of the items) -/
def rSortIt : List V → Hp → VK → Prop := fun vs H Q => ∃ (p a : Addr) (l : Tab), vs = [.ref p] ∧ H p = some (DX.itemsO p a) ∧ H a = some (.dK (tab l)) ∧ l.length ≤ 1000 ∧
  ∀ (H' : Hp) (r : Addr) (ts : List Addr) (l' : Tab), (∀ b o, H b = some o → H' b = some o) → H r = none → H' r = some (.lst (ts.map V.ref)) → ts.length = l'.length →
    (∀ (j : Nat) (t : Addr) (z : Int × Int), ts[j]? = some t → l'[j]? = some z → H' t = some (.tup [.int z.1, .int z.2])) → l'.Perm l → l'.Pairwise (fun x y => x.1 ≤ y.1) → Q (.ref r) H'
theorem cr_sortIt {X : Cx} (hc : X.calm = true) : CallR X (.builtin "sorted") rSortIt := by
  intro pins s σ H xs us Q I r h
  obtain ⟨p, a, l, rfl, hp, ha, few, q⟩ := h
  obtain rfl := Vals.ref1 r
  have view : s.heap.IsItemsView p a := (I.hok p _ hp).1
  obtain ⟨z, hd, vs, kv, o, es, ep, ho, hx, hdat, keys, pairs, nd0⟩ := dk_of I.hok ha
  have hh : X.A.handled = none := I.ok.hd hc
  obtain ⟨len1, get1⟩ := pairs_get pairs
  have len2 : (tab l).length = vs.length := Paired.length kv
  rw [tab_len] at len2
  rw [Array.length_toList] at len1
  refine DT.sortedI (es := es) (ep := ep) hh view ⟨o, ho, hx, hdat⟩ (by rw [sizeLine_eq]; omega) fun h1 tk as hk lt lenA made => ?_
  have lak : as.length = l.length := by omega
  have nd : as.Nodup := List.Pairwise.imp (fun h => Nat.ne_of_lt h) made.rise
  -- the pairs that were made
  have pr : ∀ (j : Nat) (b : Addr), as[j]? = some b → ∃ (z : Int × Int) (t u : Tok), l[j]? = some z ∧ h1.get? b = some { cls := .type "tuple", data := .seq #[.int z.1 t, .int z.2 u] } := by
    intro j b hj
    obtain ⟨en, he, hg⟩ := made.pairs j b hj
    obtain ⟨pq, hpq, is, val⟩ := get1 (j := j) (e := en) (by rw [Array.getElem?_toList]; exact he)
    obtain ⟨z, hz, k1, u, k2⟩ := tab_get kv hpq
    rw [k1] at is
    obtain ⟨t, hkey⟩ : ∃ t, en.key = Value.int z.1 t := by
      rcases keyIs_shape (show keyIs (Sum.inl z.1 : Key) en.key = true from is) with ⟨i, t, e1, e2⟩ | ⟨x, t, e1, e2⟩
      · cases e1
        exact ⟨t, e2⟩
      · cases e1
    exact ⟨z, t, u, hz, by rw [hg, hkey, val, k2]⟩
  have ndz : ((as.zip l).map (·.1)).Nodup := by
    rw [List.map_fst_zip (by omega)]
    exact nd
  let kz : Addr → Int × Int := fun b => (getL (as.zip l) b).getD (0, 0)
  have kzAt : ∀ (j : Nat) (b : Addr) (z : Int × Int), as[j]? = some b → l[j]? = some z → kz b = z := fun j b z hb hz => by
    have m : (b, z) ∈ as.zip l := List.mem_of_getElem? (List.getElem?_zip_eq_some.mpr ⟨hb, hz⟩)
    show (getL (as.zip l) b).getD (0, 0) = z
    rw [getL_of_mem ndz m] <;> rfl
  have mapKz : as.map kz = l := by
    refine List.ext_getElem? fun j => ?_
    rw [List.getElem?_map]
    cases hb : as[j]? with
    | none =>
      have := List.getElem?_eq_none_iff.mp hb
      exact (List.getElem?_eq_none_iff.mpr (by omega)).symm
    | some b =>
      obtain ⟨z, _, _, hz, _⟩ := pr j b hb
      rw [hz]
      exact congrArg some (kzAt j b z hb hz)
  -- the heap of the sort
  have atL : (h1.push { cls := .type "list", data := .seq (as.map Value.ref).toArray }).get? h1.objs.size = some (seqObj "list" (as.map Value.ref).toArray 0) := Heap.get?_push_size _ rfl
  have up : ∀ b o, h1.get? b = some o → (h1.push { cls := .type "list", data := .seq (as.map Value.ref).toArray }).get? b = some o := fun b o e => Heap.get?_push_of_some _ e
  have ne1 : ∀ b o, h1.get? b = some o → b ≠ h1.objs.size := fun b o e => Nat.ne_of_lt (Heap.lt_size e)
  generalize h1.push { cls := .type "list", data := .seq (as.map Value.ref).toArray } = h2 at atL up ⊢
  have isPair : ∀ v ∈ as.map Value.ref, Srt.IsPair h2 v (kz (addrOf v)).1 (kz (addrOf v)).2 := fun v hv => by
    obtain ⟨b, hb, rfl⟩ := List.mem_map.mp hv
    obtain ⟨j, hj⟩ := List.mem_iff_getElem?.mp hb
    obtain ⟨z, t, u, hz, hg⟩ := pr j b hj
    rw [show kz (addrOf (.ref b)) = z from kzAt j b z hj hz]
    exact ⟨b, _, t, u, 0, rfl, up _ _ hg, rfl, rfl⟩
  refine wpAny_call_entry PyProof.Rows.slot_list_sort ⟨_, atL, rfl⟩ PyProof.Rows.entry_list_sort (SrtO.list_sort_ord (s := { s with heap := h2, toks := tk }) (SrtO.swo_lex fun v => kz (addrOf v)) atL (by rw [List.length_map, sizeLine_eq]; omega) (fun two => ?_) fun out srt stb => ⟨.none, rfl, ?_⟩) (PyProof.Rows.args_list_sort _)
  · refine SrtO.pairs_sortableO (s := { s with heap := h2, toks := tk }) (by omega) isPair fun o e => ?_
    have e2 := e.symm.trans atL
    cases e2
    exact fun c => absurd (Value.type.inj c) (by decide)
  · show EP X pins σ Q (.ref h1.objs.size) { s with heap := sortedHeap h2 h1.objs.size (as.map Value.ref) out.toArray, toks := tk }
    have isRef : ∀ v ∈ out, v = Value.ref (addrOf v) := fun v hv => by
      obtain ⟨b, _, rfl⟩ := List.mem_map.mp (stb.perm.mem_iff.mp hv)
      rfl
    have outs : (out.map addrOf).map Value.ref = out := by
      rw [List.map_map]
      exact (List.map_congr_left fun v hv => (isRef v hv).symm).trans (List.map_id _)
    have permA : (out.map addrOf).Perm as := by
      have e := stb.perm.map addrOf
      rw [List.map_map] at e
      exact e.trans (by rw [show (as.map (addrOf ∘ Value.ref)) = as from List.map_id _])
    have permL : ((out.map addrOf).map kz).Perm l := by
      have e := permA.map kz
      rw [mapKz] at e
      exact e
    have rises : ((out.map addrOf).map kz).Pairwise (fun x y => x.1 ≤ y.1) := by
      rw [List.map_map, List.pairwise_map]
      refine List.Pairwise.imp (fun {v u} h => ?_) srt
      have no := SrtO.lexB_no.mp h
      show (kz (addrOf v)).1 ≤ (kz (addrOf u)).1
      omega
    have keepF : ∀ b o, b ≠ h1.objs.size → h2.get? b = some o → (sortedHeap h2 h1.objs.size (as.map Value.ref) out.toArray).get? b = some o := fun b o hb e => (PyProof.Rows.sortedHeap_old hb (Heap.lt_size e)).trans e
    have keepS : ∀ b o, s.heap.get? b = some o → (sortedHeap h2 h1.objs.size (as.map Value.ref) out.toArray).get? b = some o := fun b o e => keepF b o (ne1 _ _ (hk b o e)) (up _ _ (hk b o e))
    obtain ⟨eF, atF⟩ := PyProof.Rows.sortedHeap_at (vs := as.map Value.ref) (out := out.toArray) atL
    have I1 : Inv X pins σ H { s with heap := sortedHeap h2 h1.objs.size (as.map Value.ref) out.toArray, toks := tk } := I.kept (t' := tk) keepS
    have fresh : H h1.objs.size = none := I.hok.fresh (Nat.le_of_lt lt)
    have lenT : (out.map addrOf).length = l.length := by
      rw [permA.length_eq]
      exact lak
    have rv : Vals ((out.map addrOf).map V.ref) out := by
      have e := LiI.vals_refs (out.map addrOf)
      rw [outs] at e
      exact e
    have I2 : Inv X pins σ (upd H h1.objs.size (.lst ((out.map addrOf).map V.ref))) { s with heap := sortedHeap h2 h1.objs.size (as.map Value.ref) out.toArray, toks := tk } :=
      I1.take (h' := sortedHeap h2 h1.objs.size (as.map Value.ref) out.toArray) (t' := tk) (fun b ob _ e => e) (I.fpOk (Nat.le_of_lt lt) fresh) ⟨by rw [List.length_map, lenT, sizeLine_eq]; omega, out, eF, rv, atF⟩
    obtain ⟨H2, I3, g, qt⟩ := DX.takeT (P := fun b ws => ∃ (j : Nat) (z : Int × Int), as[j]? = some b ∧ l[j]? = some z ∧ ws = [.int z.1, .int z.2]) I as _ I2 nd fun b hb => by
      obtain ⟨j, hj⟩ := List.mem_iff_getElem?.mp hb
      obtain ⟨z, t, u, hz, hg⟩ := pr j b hj
      have above : s.heap.objs.size ≤ b := Nat.le_of_lt (made.above b hb)
      refine ⟨above, ?_, [.int z.1, .int z.2], ⟨j, z, hj, hz, rfl⟩, fun H3 => ⟨by show 2 ≤ sizeLine; decide, [.int z.1 t, .int z.2 u], .cons ⟨_, rfl⟩ (.cons ⟨_, rfl⟩ .nil), ⟨_, keepF _ _ (ne1 _ _ hg) (up _ _ hg), rfl, 0, rfl⟩⟩⟩
      rw [upd_ne (ne1 _ _ hg)]
      exact I.hok.fresh above
    have gr : ∀ b o, H b = some o → H2 b = some o := fun b o e => g b o (by rw [upd_ne (ne_of_none e fresh)]; exact e)
    refine ⟨.ref h1.objs.size, H2, I3, rfl, q H2 h1.objs.size (out.map addrOf) ((out.map addrOf).map kz) gr fresh (g _ _ upd_same) (List.length_map ..).symm (fun j t z ht hz => ?_) permL rises⟩
    rw [List.getElem?_map, ht] at hz
    cases hz
    obtain ⟨ws, ⟨i, z, i1, i2, rfl⟩, hH⟩ := qt t (permA.mem_iff.mp (List.mem_of_getElem? ht))
    rw [show kz t = z from kzAt i t z i1 i2]
    exact hH
end PX
/-! Rules: trees over names, and how one stands in a heap. -/
namespace PX
open PySem PySem.Spec PyProof.Rows L2
inductive RT where
  | base (n : Str)
  | op (w : Str) (ps : List RT)
mutual
def RT.flat : RT → List Str
  | .base n => [n]
  | .op w ps => w :: flats ps
def flats : List RT → List Str
  | [] => []
  | p :: r => p.flat ++ flats r
end
mutual
def RT.text : RT → Str
  | .base n => n
  | .op w ps => w ++ "(" ++ PySem.Txt.join ", " (texts ps) ++ ")"
def texts : List RT → List Str
  | [] => []
  | p :: r => p.text :: texts r
end
mutual
def RT.bases : RT → List Str
  | .base n => [n]
  | .op _ ps => basesL ps
def basesL : List RT → List Str
  | [] => []
  | p :: r => p.bases ++ basesL r
end
mutual
/-- no less than the text's length and the number of nodes -/
def RT.wt : RT → Nat
  | .base n => n.length + 1
  | .op w ps => w.length + 3 + wts ps
def wts : List RT → Nat
  | [] => 0
  | p :: r => p.wt + 2 + wts r
end
theorem texts_len : ∀ ps : List RT, (texts ps).length = ps.length
  | [] => rfl
  | p :: r => congrArg (· + 1) (texts_len r)
mutual
theorem RT.text_le : ∀ r : RT, r.text.length ≤ r.wt
  | .base n => by
    simp only [RT.text, RT.wt]
    omega
  | .op w ps => by
    have h := texts_le ps
    have j : (PySem.Txt.join ", " (texts ps)).length ≤ wts ps := by
      show (Builtin.Str.glued ", " (texts ps)).length ≤ _
      rw [StrLaws.glued_eq_join]
      have z := StrLaws.join_length_le ", " (texts ps)
      have e2 : ((", " : String) : Str).length = 2 := rfl
      rw [e2] at z
      omega
    simp only [RT.text, RT.wt, strLen_append]
    have e1 : (("(" : String) : Str).length = 1 := rfl
    have e3 : ((")" : String) : Str).length = 1 := rfl
    omega
theorem texts_le : ∀ ps : List RT, ((texts ps).map (·.length)).sum + (texts ps).length * 2 ≤ wts ps
  | [] => Nat.le_refl _
  | p :: r => by
    have h1 := RT.text_le p
    have h2 := texts_le r
    simp only [texts, wts, List.map_cons, List.sum_cons, List.length_cons, Nat.add_mul]
    omega
end
mutual
theorem RT.flat_le : ∀ r : RT, r.flat.length ≤ r.wt
  | .base n => by
    simp only [RT.flat, RT.wt, List.length_singleton]
    omega
  | .op w ps => by
    have h := flats_le ps
    simp only [RT.flat, RT.wt, List.length_cons]
    omega
theorem flats_le : ∀ ps : List RT, (flats ps).length ≤ wts ps
  | [] => Nat.le_refl _
  | p :: r => by
    have h1 := RT.flat_le p
    have h2 := flats_le r
    simp only [flats, wts, List.length_append]
    omega
end
theorem len_wts : ∀ ps : List RT, ps.length ≤ wts ps
  | [] => Nat.le_refl _
  | p :: r => by
    have h := len_wts r
    simp only [wts, List.length_cons]
    omega
/-- the fields of a rule -/
def fR (op : Str) (nm : V) (t f : Addr) (tx : Str) (b : Addr) : List (Str × V) := putF "base_names" (.ref b) (putF "written" (.str tx) (putF "flat" (.ref f) (putF "operands" (.ref t) (putF "name" nm (putF "operation" (.str op) [])))))
section
variable {op : Str} {nm : V} {t f : Addr} {tx : Str} {b : Addr}
theorem fR_operation : (fR op nm t f tx b).lookup ("operation" : Str) = some (.str op) := by rfl
theorem fR_name : (fR op nm t f tx b).lookup ("name" : Str) = some nm := by rfl
theorem fR_operands : (fR op nm t f tx b).lookup ("operands" : Str) = some (.ref t) := by rfl
theorem fR_flat : (fR op nm t f tx b).lookup ("flat" : Str) = some (.ref f) := by rfl
theorem fR_written : (fR op nm t f tx b).lookup ("written" : Str) = some (.str tx) := by rfl
theorem fR_base_names : (fR op nm t f tx b).lookup ("base_names" : Str) = some (.ref b) := by rfl
end
/-- the names of some rules: sorted, each once -/
structure NamesOk (ns all : List Str) : Prop where
  srt : sortedS ns = true
  nd : ns.Nodup
  mem : ∀ x, x ∈ ns ↔ x ∈ all
mutual
/-- at a stands the rule -/
def RuleAt (C : Addr) (H : Hp) : RT → Addr → Prop
  | .base n, a => ∃ dx t f b : Addr, H a = some (.ins C dx (fR "base" (.str n) t f n b)) ∧ H t = some (.tup []) ∧ H f = some (.tup [.str n]) ∧ H b = some (.tup [.str n])
  | .op w ps, a => ∃ (dx t f b : Addr) (ls : List Addr) (ns : List Str), H a = some (.ins C dx (fR w .non t f (RT.op w ps).text b)) ∧ H t = some (.tup (ls.map V.ref)) ∧ RulesAt C H ps ls ∧ H f = some (.tup ((w :: flats ps).map V.str)) ∧ H b = some (.tup (ns.map V.str)) ∧ NamesOk ns (basesL ps)
def RulesAt (C : Addr) (H : Hp) : List RT → List Addr → Prop
  | [], ls => ls = []
  | p :: ps, ls => ∃ (a : Addr) (r : List Addr), ls = a :: r ∧ RuleAt C H p a ∧ RulesAt C H ps r
end
mutual
theorem RuleAt.same {C : Addr} {H H' : Hp} (s : Same H H') : ∀ (r : RT) (a : Addr), RuleAt C H r a → RuleAt C H' r a
  | .base n, a, h => by
    obtain ⟨dx, t, f, b, h1, h2, h3, h4⟩ := h
    exact ⟨dx, t, f, b, s _ _ h1, s _ _ h2, s _ _ h3, s _ _ h4⟩
  | .op w ps, a, h => by
    obtain ⟨dx, t, f, b, ls, ns, h1, h2, h3, h4, h5, h6⟩ := h
    exact ⟨dx, t, f, b, ls, ns, s _ _ h1, s _ _ h2, RulesAt.same s ps ls h3, s _ _ h4, s _ _ h5, h6⟩
theorem RulesAt.same {C : Addr} {H H' : Hp} (s : Same H H') : ∀ (ps : List RT) (ls : List Addr), RulesAt C H ps ls → RulesAt C H' ps ls
  | [], _, h => h
  | p :: ps, _, h => by
    obtain ⟨a, r, e, h1, h2⟩ := h
    exact ⟨a, r, e, RuleAt.same s p a h1, RulesAt.same s ps r h2⟩
end
theorem RulesAt.len {C : Addr} {H : Hp} : ∀ {ps : List RT} {ls : List Addr}, RulesAt C H ps ls → ls.length = ps.length
  | [], _, h => by
    rw [show _ = [] from h] <;> rfl
  | p :: ps, _, h => by
    obtain ⟨a, r, rfl, h1, h2⟩ := h
    exact congrArg (· + 1) h2.len
theorem RulesAt.get {C : Addr} {H : Hp} : ∀ {ps : List RT} {ls : List Addr}, RulesAt C H ps ls → ∀ {i : Nat} {a : Addr}, ls[i]? = some a → ∃ r, ps[i]? = some r ∧ RuleAt C H r a
  | [], _, h, i, a, e => by
    rw [show _ = [] from h] at e
    cases e
  | p :: ps, _, h, i, a, e => by
    obtain ⟨a0, r, rfl, h1, h2⟩ := h
    cases i with
    | zero =>
      cases e
      exact ⟨p, rfl, h1⟩
    | succ i => exact h2.get e
/-- what every rule has -/
theorem RuleAt.fields {C : Addr} {H : Hp} {r : RT} {a : Addr} (h : RuleAt C H r a) : ∃ (op : Str) (nm : V) (dx t f b : Addr) (ns : List Str), H a = some (.ins C dx (fR op nm t f r.text b)) ∧ H f = some (.tup (r.flat.map V.str)) ∧ H b = some (.tup (ns.map V.str)) ∧ NamesOk ns r.bases := by
  cases r with
  | base n =>
    obtain ⟨dx, t, f, b, h1, h2, h3, h4⟩ := h
    exact ⟨_, _, dx, t, f, b, [n], h1, h3, h4, rfl, by simp, fun x => Iff.rfl⟩
  | op w ps =>
    obtain ⟨dx, t, f, b, ls, ns, h1, h2, h3, h4, h5, h6⟩ := h
    exact ⟨_, _, dx, t, f, b, ns, h1, h4, h5, h6⟩
theorem basesL_mem {x : Str} : ∀ {ps : List RT}, x ∈ basesL ps ↔ ∃ p ∈ ps, x ∈ p.bases
  | [] => by simp [basesL]
  | p :: r => by
    simp only [basesL, List.mem_append, List.mem_cons, basesL_mem (ps := r)]
    constructor
    · rintro (h | ⟨q, h1, h2⟩)
      · exact ⟨p, .inl rfl, h⟩
      · exact ⟨q, .inr h1, h2⟩
    · rintro ⟨q, rfl | h1, h2⟩
      · exact .inl h2
      · exact .inr ⟨q, h1, h2⟩
theorem flats_append : ∀ (l : List RT) (r : RT), flats (l ++ [r]) = flats l ++ r.flat
  | [], r => by simp [flats]
  | p :: l, r => by
    rw [List.cons_append]
    simp only [flats]
    rw [flats_append l r, List.append_assoc]
theorem texts_append : ∀ (l : List RT) (r : RT), texts (l ++ [r]) = texts l ++ [r.text]
  | [], r => by simp [texts]
  | p :: l, r => by
    rw [List.cons_append]
    simp only [texts]
    rw [texts_append l r, List.cons_append]
theorem wts_take : ∀ (ps : List RT) (i : Nat), wts (ps.take i) ≤ wts ps
  | [], _ => by simp [wts]
  | p :: r, 0 => Nat.zero_le _
  | p :: r, i + 1 => by
    have := wts_take r i
    rw [List.take_succ_cons]
    simp only [wts]
    omega
theorem join_le_wts (ps : List RT) : (PySem.Txt.join ", " (texts ps)).length ≤ wts ps := by
  have h := texts_le ps
  show (Builtin.Str.glued ", " (texts ps)).length ≤ _
  rw [StrLaws.glued_eq_join]
  have z := StrLaws.join_length_le ", " (texts ps)
  have e2 : ((", " : String) : Str).length = 2 := rfl
  rw [e2] at z
  omega
/-! ### the parts of a rule, each behind its own parts -/
def RT.kids : RT → List RT
  | .base _ => []
  | .op _ ps => ps
mutual
def RT.subs : RT → List RT
  | .base n => [.base n]
  | .op w ps => subsL ps ++ [.op w ps]
def subsL : List RT → List RT
  | [] => []
  | p :: r => p.subs ++ subsL r
end
theorem RT.subs_kids (r : RT) : r.subs = subsL r.kids ++ [r] := by
  cases r <;> rfl
theorem subsL_append : ∀ (l m : List RT), subsL (l ++ m) = subsL l ++ subsL m
  | [], m => rfl
  | p :: l, m => by
    rw [List.cons_append]
    simp only [subsL]
    rw [subsL_append l m, List.append_assoc]
theorem subsL_one (r : RT) : subsL [r] = r.subs := by simp [subsL]
theorem RulesAt.append {C : Addr} {H : Hp} : ∀ {ps qs : List RT} {ls ms : List Addr}, RulesAt C H ps ls → RulesAt C H qs ms → RulesAt C H (ps ++ qs) (ls ++ ms)
  | [], _, _, _, h, g => by
    rw [show _ = [] from h]
    exact g
  | p :: ps, _, _, _, h, g => by
    obtain ⟨a, r, rfl, h1, h2⟩ := h
    exact ⟨a, _, rfl, h1, h2.append g⟩
theorem RulesAt.one {C : Addr} {H : Hp} {r : RT} {a : Addr} (h : RuleAt C H r a) : RulesAt C H [r] [a] := ⟨a, [], rfl, h, rfl⟩
theorem RulesAt.snoc {C : Addr} {H : Hp} : ∀ {ps : List RT} {ls : List Addr}, RulesAt C H ps ls → ps ≠ [] → ∃ ps' r ls' x, ps = ps' ++ [r] ∧ ls = ls' ++ [x] ∧ RulesAt C H ps' ls' ∧ RuleAt C H r x
  | [], _, _, n => absurd rfl n
  | [p], _, h, _ => by
    obtain ⟨a, r, rfl, h1, h2⟩ := h
    rw [show r = [] from h2]
    exact ⟨[], p, [], a, rfl, rfl, rfl, h1⟩
  | p :: q :: ps, _, h, _ => by
    obtain ⟨a, r, rfl, h1, h2⟩ := h
    obtain ⟨ps', r', ls', x, e1, e2, g1, g2⟩ := h2.snoc (by simp)
    exact ⟨p :: ps', r', a :: ls', x, by rw [e1] <;> rfl, by rw [e2] <;> rfl, ⟨a, ls', rfl, h1, g1⟩, g2⟩
theorem RulesAt.rev {C : Addr} {H : Hp} : ∀ {ps : List RT} {ls : List Addr}, RulesAt C H ps ls → RulesAt C H ps.reverse ls.reverse
  | [], _, h => by
    rw [show _ = [] from h]
    exact rfl
  | p :: ps, _, h => by
    obtain ⟨a, r, rfl, h1, h2⟩ := h
    rw [List.reverse_cons, List.reverse_cons]
    exact h2.rev.append (.one h1)
def RT.word : RT → Str
  | .base _ => "base"
  | .op w _ => w
/-- a rule's word and parts -/
theorem RuleAt.parts {C : Addr} {H : Hp} {r : RT} {a : Addr} (h : RuleAt C H r a) : ∃ (nm : V) (dx t f b : Addr) (ls : List Addr), H a = some (.ins C dx (fR r.word nm t f r.text b)) ∧ H t = some (.tup (ls.map V.ref)) ∧ RulesAt C H r.kids ls := by
  cases r with
  | base n =>
    obtain ⟨dx, t, f, b, h1, h2, h3, h4⟩ := h
    exact ⟨_, dx, t, f, b, [], h1, h2, rfl⟩
  | op w ps =>
    obtain ⟨dx, t, f, b, ls, ns, h1, h2, h3, h4, h5, h6⟩ := h
    exact ⟨_, dx, t, f, b, ls, h1, h2, h3⟩
theorem len_subsL : ∀ ps : List RT, ps.length ≤ (subsL ps).length
  | [] => Nat.le_refl _
  | p :: r => by
    have h := len_subsL r
    have h2 : 1 ≤ p.subs.length := by
      rw [RT.subs_kids, List.length_append, List.length_singleton]
      exact Nat.le_add_left _ _
    simp only [subsL, List.length_append, List.length_cons]
    omega
end PX
/-! What the words do to tables, in plain lists. -/
namespace PX
open PySem PySem.Spec PyProof.Rows L2
def mergeT (l m : Tab) : Tab := m.foldl (fun acc p => putL acc p.1 p.2) l
def fillT (l m : Tab) : Tab := m.foldl (fun acc p => if hasL acc p.1 = true then acc else acc ++ [p]) l
def moveT (l m : Tab) : Tab := m.foldl (fun acc p => match getL acc p.1 with | some v => dropL acc p.1 ++ [(p.1, v)] | none => acc) l
theorem mergeK_tab : ∀ (m l : Tab), mergeK (tab l) (tab m) = tab (mergeT l m)
  | [], l => rfl
  | p :: m, l => by
    show mergeK (putK (tab l) (Sum.inl p.1 : Key) (.int p.2)) (tab m) = _
    rw [putK_tab, mergeK_tab m]
    rfl
theorem dropK_tab (l : Tab) (k : Int) : dropK (tab l) (Sum.inl k : Key) = tab (dropL l k) := by
  unfold dropK dropL tab
  rw [List.filter_map]
  congr 1
  refine List.filter_congr fun p _ => ?_
  by_cases e : p.1 = k
  · simp [Function.comp, kI, e]
  · simp [Function.comp, kI, e]
theorem mergeT_len (m : Tab) : ∀ l : Tab, (mergeT l m).length ≤ l.length + m.length := by
  induction m with
  | nil => intro l; exact Nat.le_refl _
  | cons p m ih =>
    intro l
    have h := ih (putL l p.1 p.2)
    have h2 := putL_length l p.1 p.2
    show (mergeT (putL l p.1 p.2) m).length ≤ _
    rw [List.length_cons]
    omega
theorem TabOk.merge {l m : Tab} (h : TabOk l) (g : TabOk m) : TabOk (mergeT l m) := by
  have sm := g.sm
  clear g
  induction m generalizing l with
  | nil => exact h
  | cons p m ih => exact ih (h.put (sm p List.mem_cons_self).1 (sm p List.mem_cons_self).2) fun q hq => sm q (List.mem_cons_of_mem _ hq)
theorem fillT_len (m : Tab) : ∀ l : Tab, (fillT l m).length ≤ l.length + m.length := by
  induction m with
  | nil => intro l; exact Nat.le_refl _
  | cons p m ih =>
    intro l
    show (fillT (if hasL l p.1 = true then l else l ++ [p]) m).length ≤ _
    have h := ih (if hasL l p.1 = true then l else l ++ [p])
    have h2 : (if hasL l p.1 = true then l else l ++ [p]).length ≤ l.length + 1 := by
      split
      · omega
      · rw [List.length_append]; exact Nat.le_refl _
    rw [List.length_cons]
    omega
theorem TabOk.snoc {l : Tab} (h : TabOk l) {p : Int × Int} (n : p.1 ∉ l.map (·.1)) (g : Num p.1 ∧ Num p.2) : TabOk (l ++ [p]) := by
  rw [show l ++ [p] = putL l p.1 p.2 from (putL_new p.2 n).symm]
  exact h.put g.1 g.2
theorem TabOk.fill {l m : Tab} (h : TabOk l) (g : TabOk m) : TabOk (fillT l m) := by
  have sm := g.sm
  clear g
  induction m generalizing l with
  | nil => exact h
  | cons p m ih =>
    refine ih ?_ fun q hq => sm q (List.mem_cons_of_mem _ hq)
    show TabOk (if hasL l p.1 = true then l else l ++ [p])
    by_cases e : hasL l p.1 = true
    · rw [if_pos e]
      exact h
    · rw [if_neg e]
      exact h.snoc (fun z => e (hasL_iff.mpr z)) (sm p List.mem_cons_self)
theorem dropL_keys {l : Tab} {k : Int} : k ∉ (dropL l k).map (·.1) := fun z => by
  obtain ⟨p, hp, e⟩ := List.mem_map.mp z
  have := (List.mem_filter.mp hp).2
  exact (of_decide_eq_true this) e
theorem TabOk.drop {l : Tab} (h : TabOk l) (k : Int) : TabOk (dropL l k) := ⟨h.nd.sublist (List.filter_sublist.map _), fun p hp => h.sm p (List.mem_filter.mp hp).1⟩
theorem moveT_ok {l : Tab} (h : TabOk l) (p : Int × Int) : TabOk (match getL l p.1 with | some v => dropL l p.1 ++ [(p.1, v)] | none => l) := by
  cases e : getL l p.1 with
  | none => exact h
  | some v => exact (h.drop p.1).snoc dropL_keys (h.sm (p.1, v) (mem_of_getL e))
theorem TabOk.move {l m : Tab} (h : TabOk l) : TabOk (moveT l m) := by
  induction m generalizing l with
  | nil => exact h
  | cons p m ih => exact ih (moveT_ok h p)
theorem drop_len {l : Tab} {k v : Int} (nd : (l.map (·.1)).Nodup) (e : getL l k = some v) : (dropL l k).length + 1 ≤ l.length := by
  have hm := mem_of_getL e
  have : (dropL l k).length < l.length := by
    unfold dropL
    rw [← List.countP_eq_length_filter]
    exact Nat.lt_of_le_of_ne (List.countP_le_length) fun z => by
      have all := List.countP_eq_length.mp z (k, v) hm
      exact (of_decide_eq_true all) rfl
  omega
theorem moveT_len {m : Tab} : ∀ {l : Tab}, TabOk l → (moveT l m).length ≤ l.length := by
  induction m with
  | nil => intro l _; exact Nat.le_refl _
  | cons p m ih =>
    intro l h
    refine Nat.le_trans (ih (moveT_ok h p)) ?_
    show List.length (match getL l p.1 with | some v => dropL l p.1 ++ [(p.1, v)] | none => l) ≤ _
    cases e : getL l p.1 with
    | none => exact Nat.le_refl _
    | some v =>
      show (dropL l p.1 ++ [(p.1, v)]).length ≤ _
      rw [List.length_append]
      exact drop_len h.nd e
theorem mergeT_take {l m : Tab} {i : Nat} {p : Int × Int} (h : m[i]? = some p) : mergeT l (m.take (i + 1)) = putL (mergeT l (m.take i)) p.1 p.2 := by
  unfold mergeT
  rw [take_next h, List.foldl_append]
  rfl
theorem fillT_take {l m : Tab} {i : Nat} {p : Int × Int} (h : m[i]? = some p) : fillT l (m.take (i + 1)) = if hasL (fillT l (m.take i)) p.1 = true then fillT l (m.take i) else fillT l (m.take i) ++ [p] := by
  unfold fillT
  rw [take_next h, List.foldl_append]
  rfl
theorem moveT_take {l m : Tab} {i : Nat} {p : Int × Int} (h : m[i]? = some p) : moveT l (m.take (i + 1)) = match getL (moveT l (m.take i)) p.1 with | some v => dropL (moveT l (m.take i)) p.1 ++ [(p.1, v)] | none => moveT l (m.take i) := by
  unfold moveT
  rw [take_next h, List.foldl_append]
  rfl
end PX
/-! Lists of tables, and the result of one word for them. -/
namespace PX
open PySem PySem.Spec PyProof.Rows L2
theorem upd_two {H : Hp} {a b : Addr} {o u : HO} (n : a ≠ b) : upd (upd H a o) b u = upd (upd H b u) a o := by
  funext c
  by_cases e : c = a
  · rw [e, upd_same, upd_ne n, upd_same]
  · rw [upd_ne e]
    by_cases z : c = b
    · rw [z, upd_same, upd_same]
    · rw [upd_ne z, upd_ne z, upd_ne e]
/-- dicts at addresses -/
structure DsAt (H : Hp) (ds : List Addr) (ls : List Tab) : Prop where
  len : ds.length = ls.length
  at_ : ∀ (i : Nat) (d : Addr) (l : Tab), ds[i]? = some d → ls[i]? = some l → H d = some (.dK (tab l))
theorem DsAt.same {H H' : Hp} {ds : List Addr} {ls : List Tab} (h : DsAt H ds ls) (s : Same H H') : DsAt H' ds ls := ⟨h.len, fun i d l a b => s _ _ (h.at_ i d l a b)⟩
theorem DsAt.get {H : Hp} {ds : List Addr} {ls : List Tab} (h : DsAt H ds ls) {i : Nat} {d : Addr} (e : ds[i]? = some d) : ∃ l, ls[i]? = some l ∧ H d = some (.dK (tab l)) := by
  have hi := (List.getElem?_eq_some_iff.mp e).1
  rw [h.len] at hi
  exact ⟨ls[i], List.getElem?_eq_getElem hi, h.at_ i d _ e (List.getElem?_eq_getElem hi)⟩
def mergeAll (ls : List Tab) : Tab := ls.foldl mergeT []
def sumLen : List Tab → Nat
  | [] => 0
  | l :: r => l.length + sumLen r
theorem sumLen_append : ∀ a b : List Tab, sumLen (a ++ b) = sumLen a + sumLen b
  | [], b => by simp [sumLen]
  | l :: a, b => by
    have := sumLen_append a b
    simp only [List.cons_append, sumLen]
    omega
theorem sumLen_take (ls : List Tab) (i : Nat) : sumLen (ls.take i) ≤ sumLen ls := by
  have := sumLen_append (ls.take i) (ls.drop i)
  rw [List.take_append_drop] at this
  omega
theorem mergeAll_take {ls : List Tab} {i : Nat} {l : Tab} (h : ls[i]? = some l) : mergeAll (ls.take (i + 1)) = mergeT (mergeAll (ls.take i)) l := by
  unfold mergeAll
  rw [take_next h, List.foldl_append]
  rfl
theorem mergeAll_len (ls : List Tab) (i : Nat) : (mergeAll (ls.take i)).length ≤ sumLen (ls.take i) := by
  induction i with
  | zero => exact Nat.le_refl _
  | succ i ih =>
    cases e : ls[i]? with
    | none =>
      have z : ls.length ≤ i := by
        rcases Nat.lt_or_ge i ls.length with q | q
        · rw [List.getElem?_eq_getElem q] at e
          cases e
        · exact q
      rw [List.take_of_length_le z] at ih
      rw [List.take_of_length_le (Nat.le_succ_of_le z)]
      exact ih
    | some l =>
      rw [mergeAll_take e, take_next e, sumLen_append]
      have := mergeT_len l (mergeAll (ls.take i))
      show _ ≤ sumLen (ls.take i) + (l.length + 0)
      omega

/-! ### the result of one word -/
def sortT (l : Tab) : Tab := l.mergeSort fun x y => decide (x.1 ≤ y.1)
theorem sortT_perm (l : Tab) : (sortT l).Perm l := List.mergeSort_perm _ _
theorem sortT_sorted (l : Tab) : (sortT l).Pairwise fun x y => x.1 ≤ y.1 := by
  have h := List.pairwise_mergeSort (le := fun x y : Int × Int => decide (x.1 ≤ y.1)) (fun a b c h1 h2 => decide_eq_true (Int.le_trans (of_decide_eq_true h1) (of_decide_eq_true h2)))
    (fun a b => by
      rcases Int.le_total a.1 b.1 with z | z
      · rw [decide_eq_true z]; rfl
      · rw [decide_eq_true z, Bool.or_true]) l
  exact h.imp fun z => of_decide_eq_true z
theorem nodup_keys_eq {l : Tab} (nd : (l.map (·.1)).Nodup) {a b : Int × Int} (ha : a ∈ l) (hb : b ∈ l) (e : a.1 = b.1) : a = b := by
  have h1 := getL_of_mem nd ha
  have h2 := getL_of_mem nd hb
  rw [e, h2] at h1
  exact Prod.ext e (Option.some.inj h1).symm
theorem sort_eq {l m : Tab} (nd : (l.map (·.1)).Nodup) (p : m.Perm l) (s : m.Pairwise fun x y => x.1 ≤ y.1) : m = sortT l :=
  List.Perm.eq_of_pairwise (le := fun x y : Int × Int => x.1 ≤ y.1) (fun a b ha hb h1 h2 => nodup_keys_eq nd (p.mem_iff.mp ha) ((sortT_perm l).mem_iff.mp hb) (Int.le_antisymm h1 h2)) s (sortT_sorted l) (p.trans (sortT_perm l).symm)
def hd0 (ls : List Tab) : Tab := ls.headD []
def hd1 (ls : List Tab) : Tab := ls.tail.headD []
def combT (w : Str) (ls : List Tab) : Tab :=
  if w = "merged" then mergeAll ls
  else if w = "chained" then mergeAll ls.reverse
  else if w = "turned" then (hd0 ls).reverse
  else if w = "by_keys" then sortT (hd0 ls)
  else if w = "without" then (hd0 ls).filter fun p => !hasL (hd1 ls) p.1
  else if w = "kept" then (hd0 ls).filter fun p => hasL (hd1 ls) p.1
  else if w = "filled" then fillT (hd0 ls) (hd1 ls)
  else moveT (hd0 ls) (hd1 ls)
theorem sumLen_reverse (ls : List Tab) : sumLen ls.reverse = sumLen ls := by
  induction ls with
  | nil => rfl
  | cons l r ih =>
    rw [List.reverse_cons, sumLen_append, ih]
    simp only [sumLen]
    omega
theorem mergeAll_le (ls : List Tab) : (mergeAll ls).length ≤ sumLen ls := by
  have := mergeAll_len ls ls.length
  rw [List.take_length] at this
  exact this
theorem hd_len (ls : List Tab) : (hd0 ls).length + (hd1 ls).length ≤ sumLen ls := by
  match ls with
  | [] => exact Nat.le_refl _
  | [a] => exact Nat.le_refl _
  | a :: b :: r =>
    show a.length + b.length ≤ a.length + (b.length + sumLen r)
    omega
theorem hd0_ok {ls : List Tab} (h : ∀ l ∈ ls, TabOk l) : TabOk (hd0 ls) := by
  cases ls with
  | nil => exact ⟨List.nodup_nil, fun _ z => nomatch z⟩
  | cons a r => exact h a List.mem_cons_self
theorem hd1_ok {ls : List Tab} (h : ∀ l ∈ ls, TabOk l) : TabOk (hd1 ls) := by
  cases ls with
  | nil => exact ⟨List.nodup_nil, fun _ z => nomatch z⟩
  | cons a r => exact hd0_ok fun l hl => h l (List.mem_cons_of_mem _ hl)
theorem TabOk.perm {l m : Tab} (h : TabOk l) (p : m.Perm l) : TabOk m := ⟨(p.map _).nodup_iff.mpr h.nd, fun q hq => h.sm q (p.mem_iff.mp hq)⟩
theorem TabOk.filter {l : Tab} (h : TabOk l) (f : Int × Int → Bool) : TabOk (l.filter f) := ⟨h.nd.sublist (List.filter_sublist.map _), fun p hp => h.sm p (List.mem_filter.mp hp).1⟩
theorem mergeAll_ok {ls : List Tab} (h : ∀ l ∈ ls, TabOk l) : TabOk (mergeAll ls) := by
  unfold mergeAll
  have : ∀ (ls : List Tab) (acc : Tab), (∀ l ∈ ls, TabOk l) → TabOk acc → TabOk (ls.foldl mergeT acc) := by
    intro ls
    induction ls with
    | nil => intro acc _ g; exact g
    | cons a r ih => intro acc h g; exact ih _ (fun l hl => h l (List.mem_cons_of_mem _ hl)) (g.merge (h a List.mem_cons_self))
  exact this ls [] h ⟨List.nodup_nil, fun _ z => nomatch z⟩
theorem combT_ok (w : Str) {ls : List Tab} (h : ∀ l ∈ ls, TabOk l) : TabOk (combT w ls) := by
  have a := hd0_ok h
  have b := hd1_ok h
  unfold combT
  repeat' split
  · exact mergeAll_ok h
  · exact mergeAll_ok fun l hl => h l (List.mem_reverse.mp hl)
  · exact a.perm (List.reverse_perm _)
  · exact a.perm (sortT_perm _)
  · exact a.filter _
  · exact a.filter _
  · exact a.fill b
  · exact a.move
theorem combT_len (w : Str) {ls : List Tab} (h : ∀ l ∈ ls, TabOk l) : (combT w ls).length ≤ sumLen ls := by
  have a := hd0_ok h
  have e := hd_len ls
  unfold combT
  repeat' split
  · exact mergeAll_le ls
  · rw [← sumLen_reverse]
    exact mergeAll_le _
  · rw [List.length_reverse]
    omega
  · rw [(sortT_perm _).length_eq]
    omega
  · refine Nat.le_trans (List.length_filter_le ..) ?_
    omega
  · refine Nat.le_trans (List.length_filter_le ..) ?_
    omega
  · exact Nat.le_trans (fillT_len _ _) e
  · refine Nat.le_trans (moveT_len a) ?_
    omega
end PX
/-! What a rule's tree answers for tables, and the stack that walks through it. -/
namespace PX
open PySem PySem.Spec PyProof.Rows L2
mutual
/-- a rule stays where all but lists stays -/
theorem RuleAt.keep {C : Addr} {H H' : Hp} (s : ∀ b o, H b = some o → (∀ xs, o ≠ .lst xs) → H' b = some o) : ∀ (r : RT) (a : Addr), RuleAt C H r a → RuleAt C H' r a
  | .base n, a, h => by
    obtain ⟨dx, t, f, b, h1, h2, h3, h4⟩ := h
    exact ⟨dx, t, f, b, s _ _ h1 (fun _ z => nomatch z), s _ _ h2 (fun _ z => nomatch z), s _ _ h3 (fun _ z => nomatch z), s _ _ h4 (fun _ z => nomatch z)⟩
  | .op w ps, a, h => by
    obtain ⟨dx, t, f, b, ls, ns, h1, h2, h3, h4, h5, h6⟩ := h
    exact ⟨dx, t, f, b, ls, ns, s _ _ h1 (fun _ z => nomatch z), s _ _ h2 (fun _ z => nomatch z), RulesAt.keep s ps ls h3, s _ _ h4 (fun _ z => nomatch z), s _ _ h5 (fun _ z => nomatch z), h6⟩
theorem RulesAt.keep {C : Addr} {H H' : Hp} (s : ∀ b o, H b = some o → (∀ xs, o ≠ .lst xs) → H' b = some o) : ∀ (ps : List RT) (ls : List Addr), RulesAt C H ps ls → RulesAt C H' ps ls
  | [], _, h => h
  | p :: ps, _, h => by
    obtain ⟨a, r, e, h1, h2⟩ := h
    exact ⟨a, r, e, RuleAt.keep s p a h1, RulesAt.keep s ps r h2⟩
end
/-- the table of a name -/
def tabOf (sh : Sheets) (x : Str) : Tab := ((sh.find? fun s : Str × Addr × Tab => decide (s.1 = x)).map fun s => s.2.2).getD []
theorem sheet_there {sh : Sheets} {x : Str} (h : x ∈ sh.map (·.1)) : ∃ s ∈ sh, s.1 = x ∧ tabOf sh x = s.2.2 ∧ valV (sh.map kS) (Sum.inr x : Key) = some (.ref s.2.1) := by
  rw [valV_sheets]
  unfold tabOf
  cases e : sh.find? fun s : Str × Addr × Tab => decide (s.1 = x) with
  | some s => exact ⟨s, List.mem_of_find?_eq_some e, of_decide_eq_true (List.find?_some (p := fun s : Str × Addr × Tab => decide (s.1 = x)) e), rfl, rfl⟩
  | none =>
    obtain ⟨s, hs, rfl⟩ := List.mem_map.mp h
    exact absurd (decide_eq_true rfl) (List.find?_eq_none.mp e s hs)
mutual
def evalT (tb : Str → Tab) : RT → Tab
  | .base n => tb n
  | .op w ps => combT w (evalTs tb ps)
def evalTs (tb : Str → Tab) : List RT → List Tab
  | [] => []
  | p :: r => evalT tb p :: evalTs tb r
end
theorem evalTs_len (tb : Str → Tab) : ∀ ps : List RT, (evalTs tb ps).length = ps.length
  | [] => rfl
  | p :: r => congrArg (· + 1) (evalTs_len tb r)
def stepT (tb : Str → Tab) (stk : List Tab) : RT → List Tab
  | .base n => stk ++ [tb n]
  | .op w ps => stk.take (stk.length - ps.length) ++ [combT w (stk.drop (stk.length - ps.length))]
theorem step_on (tb : Str → Tab) (w : Str) (ps : List RT) (st ts : List Tab) (h : ts.length = ps.length) : stepT tb (st ++ ts) (.op w ps) = st ++ [combT w ts] := by
  have e : (st ++ ts).length - ps.length = st.length := by rw [List.length_append]; omega
  show (st ++ ts).take ((st ++ ts).length - ps.length) ++ [combT w ((st ++ ts).drop ((st ++ ts).length - ps.length))] = _
  rw [e, List.take_left, List.drop_left]
mutual
theorem run_subs (tb : Str → Tab) : ∀ (r : RT) (stk : List Tab), r.subs.foldl (stepT tb) stk = stk ++ [evalT tb r]
  | .base n, stk => rfl
  | .op w ps, stk => by
    rw [RT.subs_kids, List.foldl_append]
    show stepT tb ((subsL ps).foldl (stepT tb) stk) (.op w ps) = _
    rw [run_subsL tb ps stk, step_on _ _ _ _ _ (evalTs_len tb ps)]
    rfl
theorem run_subsL (tb : Str → Tab) : ∀ (ps : List RT) (stk : List Tab), (subsL ps).foldl (stepT tb) stk = stk ++ evalTs tb ps
  | [], stk => (List.append_nil stk).symm
  | p :: r, stk => by
    show (p.subs ++ subsL r).foldl (stepT tb) stk = _
    rw [List.foldl_append, run_subs tb p stk, run_subsL tb r, List.append_assoc]
    rfl
end
mutual
/-- where a node's turn comes, the stack ends with its parts' answers -/
theorem at_subs (tb : Str → Tab) : ∀ (r : RT) (pre : List RT) (x : RT) (post : List RT) (stk : List Tab), r.subs = pre ++ x :: post → ∃ st, pre.foldl (stepT tb) stk = st ++ evalTs tb x.kids
  | .base n, pre, x, post, stk, h => by
    have h : [RT.base n] = pre ++ x :: post := h
    cases pre with
    | nil =>
      obtain rfl : RT.base n = x := (List.cons.inj h).1
      exact ⟨stk, (List.append_nil stk).symm⟩
    | cons a q =>
      have := congrArg List.length h
      simp at this
  | .op w ps, pre, x, post, stk, h => by
    rw [RT.subs_kids] at h
    have h : subsL ps ++ [RT.op w ps] = pre ++ x :: post := h
    rcases List.append_eq_append_iff.mp h with ⟨q, e1, e2⟩ | ⟨q, e1, e2⟩
    · cases q with
      | nil =>
        rw [List.append_nil] at e1
        obtain rfl : RT.op w ps = x := (List.cons.inj e2).1
        rw [e1]
        exact ⟨stk, run_subsL tb ps stk⟩
      | cons a q =>
        have := congrArg List.length e2
        simp at this
    · cases q with
      | nil =>
        rw [List.append_nil] at e1
        obtain rfl : x = RT.op w ps := (List.cons.inj e2).1
        rw [← e1]
        exact ⟨stk, run_subsL tb ps stk⟩
      | cons a q =>
        obtain rfl : x = a := (List.cons.inj e2).1
        exact at_subsL tb ps pre x q stk e1
theorem at_subsL (tb : Str → Tab) : ∀ (ps : List RT) (pre : List RT) (x : RT) (post : List RT) (stk : List Tab), subsL ps = pre ++ x :: post → ∃ st, pre.foldl (stepT tb) stk = st ++ evalTs tb x.kids
  | [], pre, x, post, stk, h => by
    have := congrArg List.length h
    simp [subsL] at this
  | p :: r, pre, x, post, stk, h => by
    have h : p.subs ++ subsL r = pre ++ x :: post := h
    rcases List.append_eq_append_iff.mp h with ⟨q, e1, e2⟩ | ⟨q, e1, e2⟩
    · rw [e1, List.foldl_append]
      exact at_subsL tb r q x post _ e2
    · cases q with
      | nil =>
        rw [List.append_nil] at e1
        have e3 : subsL r = [] ++ x :: post := e2.symm
        obtain ⟨st, e⟩ := at_subsL tb r [] x post (pre.foldl (stepT tb) stk) e3
        exact ⟨st, e⟩
      | cons a q =>
        obtain rfl : x = a := (List.cons.inj e2).1
        exact at_subs tb p pre x q stk e1
end
/-! ### sizes -/
def leafs (tb : Str → Tab) : List RT → Nat
  | [] => 0
  | .base n :: r => (tb n).length + leafs tb r
  | .op _ _ :: r => leafs tb r
theorem leafs_append (tb : Str → Tab) : ∀ a b : List RT, leafs tb (a ++ b) = leafs tb a + leafs tb b
  | [], b => by simp [leafs]
  | .base n :: a, b => by
    have := leafs_append tb a b
    simp only [List.cons_append, leafs]
    omega
  | .op _ _ :: a, b => by
    have := leafs_append tb a b
    simp only [List.cons_append, leafs]
    omega
theorem step_ok {tb : Str → Tab} {stk : List Tab} {r : RT} (h : ∀ l ∈ stk, TabOk l) (b : ∀ n, r = .base n → TabOk (tb n)) : (∀ l ∈ stepT tb stk r, TabOk l) ∧ sumLen (stepT tb stk r) ≤ sumLen stk + leafs tb [r] := by
  cases r with
  | base n =>
    refine ⟨fun l hl => ?_, ?_⟩
    · rcases List.mem_append.mp hl with z | z
      · exact h l z
      · rw [List.mem_singleton.mp z]
        exact b n rfl
    · show sumLen (stk ++ [tb n]) ≤ _
      rw [sumLen_append]
      exact Nat.le_refl _
  | op w ps =>
    have hd : ∀ l ∈ stk.drop (stk.length - ps.length), TabOk l := fun l hl => h l (List.mem_of_mem_drop hl)
    refine ⟨fun l hl => ?_, ?_⟩
    · rcases List.mem_append.mp hl with z | z
      · exact h l (List.mem_of_mem_take z)
      · rw [List.mem_singleton.mp z]
        exact combT_ok w hd
    · show sumLen (stk.take (stk.length - ps.length) ++ [combT w (stk.drop (stk.length - ps.length))]) ≤ _
      have e := sumLen_append (stk.take (stk.length - ps.length)) (stk.drop (stk.length - ps.length))
      rw [List.take_append_drop] at e
      have c := combT_len w hd
      rw [sumLen_append]
      show _ + ((combT w _).length + 0) ≤ sumLen stk + 0
      omega
theorem run_ok {tb : Str → Tab} : ∀ (l : List RT) (stk : List Tab), (∀ t ∈ stk, TabOk t) → (∀ n, RT.base n ∈ l → TabOk (tb n)) → (∀ t ∈ l.foldl (stepT tb) stk, TabOk t) ∧ sumLen (l.foldl (stepT tb) stk) ≤ sumLen stk + leafs tb l ∧ (l.foldl (stepT tb) stk).length ≤ stk.length + l.length
  | [], stk, h, _ => ⟨h, Nat.le_refl _, Nat.le_refl _⟩
  | r :: l, stk, h, b => by
    obtain ⟨h1, h2⟩ := step_ok (tb := tb) (r := r) h fun n e => b n (by rw [e]; exact List.mem_cons_self)
    obtain ⟨g1, g2, g3⟩ := run_ok l (stepT tb stk r) h1 fun n hn => b n (List.mem_cons_of_mem _ hn)
    have e := leafs_append tb [r] l
    have len : (stepT tb stk r).length ≤ stk.length + 1 := by
      cases r with
      | base n => exact Nat.le_of_eq (List.length_append ..)
      | op w ps =>
        show (stk.take (stk.length - ps.length) ++ [_]).length ≤ _
        rw [List.length_append, List.length_take, List.length_singleton]
        omega
    refine ⟨g1, ?_, ?_⟩
    · show sumLen (l.foldl (stepT tb) (stepT tb stk r)) ≤ sumLen stk + leafs tb ([r] ++ l)
      omega
    · show (l.foldl (stepT tb) (stepT tb stk r)).length ≤ _
      rw [List.length_cons]
      omega
end PX
/-! The trees that a law grows: tuples of a word and parts. -/
namespace PX
open PySem PySem.Spec PyProof.Rows L2
/-- how many tables a word takes -/
def fitsW (w : Str) (n : Nat) : Prop := w = "merged" ∨ w = "chained" ∨ ((w = "turned" ∨ w = "by_keys") ∧ n = 1) ∨ ((w = "without" ∨ w = "kept" ∨ w = "filled" ∨ w = "moved") ∧ n = 2)
mutual
/-- at a stands the tree -/
def TreeAt (H : Hp) : RT → Addr → Prop
  | .base n, a => H a = some (.tup [.str "base", .str n])
  | .op w ps, a => ∃ (t : Addr) (ls : List Addr), H a = some (.tup [.str w, .ref t]) ∧ H t = some (.tup (ls.map V.ref)) ∧ TreesAt H ps ls
def TreesAt (H : Hp) : List RT → List Addr → Prop
  | [], ls => ls = []
  | p :: ps, ls => ∃ (a : Addr) (r : List Addr), ls = a :: r ∧ TreeAt H p a ∧ TreesAt H ps r
end
mutual
theorem TreeAt.keep {H H' : Hp} (s : ∀ b o, H b = some o → (∀ xs, o ≠ .lst xs) → H' b = some o) : ∀ (r : RT) (a : Addr), TreeAt H r a → TreeAt H' r a
  | .base n, a, h => s _ _ h (fun _ z => nomatch z)
  | .op w ps, a, h => by
    obtain ⟨t, ls, h1, h2, h3⟩ := h
    exact ⟨t, ls, s _ _ h1 (fun _ z => nomatch z), s _ _ h2 (fun _ z => nomatch z), TreesAt.keep s ps ls h3⟩
theorem TreesAt.keep {H H' : Hp} (s : ∀ b o, H b = some o → (∀ xs, o ≠ .lst xs) → H' b = some o) : ∀ (ps : List RT) (ls : List Addr), TreesAt H ps ls → TreesAt H' ps ls
  | [], _, h => h
  | p :: ps, _, h => by
    obtain ⟨a, r, e, h1, h2⟩ := h
    exact ⟨a, r, e, TreeAt.keep s p a h1, TreesAt.keep s ps r h2⟩
end
theorem TreesAt.len {H : Hp} : ∀ {ps : List RT} {ls : List Addr}, TreesAt H ps ls → ls.length = ps.length
  | [], _, h => by
    rw [show _ = [] from h] <;> rfl
  | p :: ps, _, h => by
    obtain ⟨a, r, rfl, h1, h2⟩ := h
    exact congrArg (· + 1) h2.len
theorem TreesAt.get {H : Hp} : ∀ {ps : List RT} {ls : List Addr}, TreesAt H ps ls → ∀ {i : Nat} {a : Addr}, ls[i]? = some a → ∃ r, ps[i]? = some r ∧ TreeAt H r a
  | [], _, h, i, a, e => by
    rw [show _ = [] from h] at e
    cases e
  | p :: ps, _, h, i, a, e => by
    obtain ⟨a0, r, rfl, h1, h2⟩ := h
    cases i with
    | zero =>
      cases e
      exact ⟨p, rfl, h1⟩
    | succ i => exact h2.get e
theorem TreesAt.add {H : Hp} : ∀ {ps : List RT} {ls : List Addr} {r : RT} {a : Addr}, TreesAt H ps ls → TreeAt H r a → TreesAt H (ps ++ [r]) (ls ++ [a])
  | [], _, r, a, h, g => by
    rw [show _ = [] from h]
    exact ⟨a, [], rfl, g, rfl⟩
  | p :: ps, _, r, a, h, g => by
    obtain ⟨a0, q, rfl, h1, h2⟩ := h
    exact ⟨a0, q ++ [a], rfl, h1, h2.add g⟩
/-- how such trees look: names among ns, no deeper than d, at most three parts -/
def RT.good (ns : List Str) : Nat → RT → Prop
  | _, .base n => n ∈ ns
  | 0, .op _ _ => False
  | d + 1, .op w ps => fitsW w ps.length ∧ ps.length ≤ 3 ∧ ∀ p ∈ ps, RT.good ns d p
/-- draws that a tree takes -/
def costT : Nat → Nat
  | 0 => 2
  | d + 1 => 2 + 3 * costT d
def nodesT : Nat → Nat
  | 0 => 1
  | d + 1 => 1 + 3 * nodesT d
def leafsT : Nat → Nat
  | 0 => 1
  | d + 1 => 3 * leafsT d
theorem leafsT_pos : ∀ d, 1 ≤ leafsT d
  | 0 => Nat.le_refl _
  | d + 1 => by
    have := leafsT_pos d
    show 1 ≤ 3 * leafsT d
    omega
theorem nodesT_pos (d : Nat) : 1 ≤ nodesT d := by
  cases d with
  | zero => exact Nat.le_refl _
  | succ d => exact Nat.le_add_right _ _
theorem subsL_bound {k : Nat} : ∀ ps : List RT, (∀ p ∈ ps, p.subs.length ≤ k) → (subsL ps).length ≤ ps.length * k
  | [], _ => Nat.zero_le _
  | p :: r, h => by
    have h1 := h p List.mem_cons_self
    have h2 := subsL_bound r fun q hq => h q (List.mem_cons_of_mem _ hq)
    simp only [subsL, List.length_append, List.length_cons, Nat.succ_mul]
    omega
theorem leafsL_bound {tb : Str → Tab} {k : Nat} : ∀ ps : List RT, (∀ p ∈ ps, leafs tb p.subs ≤ k) → leafs tb (subsL ps) ≤ ps.length * k
  | [], _ => Nat.zero_le _
  | p :: r, h => by
    have h1 := h p List.mem_cons_self
    have h2 := leafsL_bound r fun q hq => h q (List.mem_cons_of_mem _ hq)
    simp only [subsL, leafs_append, List.length_cons, Nat.succ_mul]
    omega
theorem mem_subsL {x : RT} : ∀ {ps : List RT}, x ∈ subsL ps → ∃ p ∈ ps, x ∈ p.subs
  | [], h => nomatch h
  | p :: r, h => by
    rcases List.mem_append.mp (show x ∈ p.subs ++ subsL r from h) with z | z
    · exact ⟨p, List.mem_cons_self, z⟩
    · obtain ⟨q, hq, hx⟩ := mem_subsL z
      exact ⟨q, List.mem_cons_of_mem _ hq, hx⟩
/-- what evaluate asks of a rule -/
structure Fine (ns : List Str) (k l : Nat) (r : RT) : Prop where
  cnt : r.subs.length ≤ k
  base : ∀ n, RT.base n ∈ r.subs → n ∈ ns
  fits : ∀ w ps, RT.op w ps ∈ r.subs → fitsW w ps.length
  leaf : ∀ (tb : Str → Tab) (m : Nat), (∀ n, (tb n).length ≤ m) → leafs tb r.subs ≤ l * m
theorem RT.good.fine {ns : List Str} : ∀ {d : Nat} {r : RT}, RT.good ns d r → Fine ns (nodesT d) (leafsT d) r
  | d, .base n, h => by
    have h : n ∈ ns := by cases d <;> exact h
    refine ⟨nodesT_pos d, fun x hx => ?_, fun w ps hx => ?_, fun tb m hm => ?_⟩
    · cases List.mem_singleton.mp (show RT.base x ∈ [RT.base n] from hx)
      exact h
    · cases List.mem_singleton.mp (show RT.op w ps ∈ [RT.base n] from hx)
    · have := hm n
      have p := leafsT_pos d
      show (tb n).length + 0 ≤ leafsT d * m
      have : 1 * m ≤ leafsT d * m := Nat.mul_le_mul_right m p
      omega
  | 0, .op _ _, h => h.elim
  | d + 1, .op w ps, h => by
    obtain ⟨h1, h2, h3⟩ := h
    have all : ∀ p ∈ ps, Fine ns (nodesT d) (leafsT d) p := fun p hp => (h3 p hp).fine
    refine ⟨?_, fun x hx => ?_, fun v qs hx => ?_, fun tb m hm => ?_⟩
    · have b := subsL_bound ps fun p hp => (all p hp).cnt
      have z : ps.length * nodesT d ≤ 3 * nodesT d := Nat.mul_le_mul_right _ h2
      show (subsL ps ++ [RT.op w ps]).length ≤ 1 + 3 * nodesT d
      rw [List.length_append, List.length_singleton]
      omega
    · rcases List.mem_append.mp (show RT.base x ∈ subsL ps ++ [RT.op w ps] from hx) with z | z
      · obtain ⟨p, hp, q⟩ := mem_subsL z
        exact (all p hp).base x q
      · cases List.mem_singleton.mp z
    · rcases List.mem_append.mp (show RT.op v qs ∈ subsL ps ++ [RT.op w ps] from hx) with z | z
      · obtain ⟨p, hp, q⟩ := mem_subsL z
        exact (all p hp).fits v qs q
      · cases List.mem_singleton.mp z
        exact h1
    · have b := leafsL_bound (tb := tb) ps fun p hp => (all p hp).leaf tb m hm
      have z : ps.length * (leafsT d * m) ≤ 3 * (leafsT d * m) := Nat.mul_le_mul_right _ h2
      show leafs tb (subsL ps ++ [RT.op w ps]) ≤ 3 * leafsT d * m
      rw [leafs_append, Nat.mul_assoc]
      show leafs tb (subsL ps) + 0 ≤ _
      omega
end PX
/-! xs[::c] for lists, c a literal. -/
namespace PX
open PySem PySem.Spec PyProof.Rows L2
/-- the places that xs[::c] takes -/
def stepIx (n : Nat) (c : Int) : List Nat := sliceRange (sliceBounds none none (some c) n).1 (sliceBounds none none (some c) n).2.1 (sliceBounds none none (some c) n).2.2
def pickS {α : Type} (xs : List α) (c : Int) : List α := (stepIx xs.length c).filterMap (xs[·]?)
theorem vals_at : ∀ {xs : List V} {its : List Value}, Vals xs its → ∀ j : Nat, (xs[j]? = none ∧ its[j]? = none) ∨ ∃ x v, xs[j]? = some x ∧ its[j]? = some v ∧ RelV x v
  | _, _, .nil, j => .inl ⟨rfl, rfl⟩
  | _, _, .cons r t, 0 => .inr ⟨_, _, rfl, rfl, r⟩
  | _, _, .cons r t, j + 1 => vals_at t j
theorem vals_pick {xs : List V} {its : List Value} (h : Vals xs its) : ∀ J : List Nat, Vals (J.filterMap (xs[·]?)) (J.filterMap (its[·]?))
  | [] => .nil
  | j :: J => by
    rw [List.filterMap_cons, List.filterMap_cons]
    rcases vals_at h j with ⟨a, b⟩ | ⟨x, v, a, b, r⟩
    · rw [a, b]
      exact vals_pick h J
    · rw [a, b]
      exact .cons r (vals_pick h J)
def tStepL (K : PySem.W.Frag) (te : TE) (c : Int) : TE := fun σ H Q => te σ H fun x H1 => ∃ a xs, x = .ref a ∧ SqL K H1 a xs ∧ ∀ p, H1 p = none → Q (.ref p) (upd H1 p (.lst (pickS xs c)))
section
variable {X : Cx}
theorem pe_stepL {e : Expr} {te : TE} {k : Nat} {c : Int} {p1 p3 pos : Pos} (he : PE X e te) (hc : c ≠ 0) : PE X (.Subscript e (.Slice none none (some (.Constant (.int c) k p1)) p3) pos) (tStepL X.K te c) := by
  refine ⟨fun pins s σ H Q I h => ?_⟩
  refine Subscript_ (thn (he.run pins s σ H _ I h) fun v s1 ⟨x, H1, I1, r1, q1⟩ => ?_)
  obtain ⟨a, xs, ex, hx, q⟩ := q1
  subst ex
  cases r1
  have hst : PO X (some (.Constant (.int c) k p1)) (tPart (tC (.int c))) := po_some pe_int
  refine wpAny_Slice (thn (po_none.run pins s1 σ H1 (fun o H2 => o = none ∧ H2 = H1) I1 ⟨rfl, rfl⟩) fun vl s2 ⟨l, H2, I2, pl, el, e2⟩ => ?_)
  subst el e2
  refine thn (po_none.run pins s2 σ H2 (fun o H3 => o = none ∧ H3 = H2) I2 ⟨rfl, rfl⟩) fun vu s3 ⟨u, H3, I3, pu, eu, e3⟩ => ?_
  subst eu e3
  refine thn (hst.run pins s3 σ H3 (fun o H4 => o = some c ∧ H4 = H3) I3 ⟨c, rfl, rfl, rfl⟩) fun vs s4 ⟨o, H4, I4, ps, eo, e4⟩ => ?_
  subst eo e4
  have I5 : Inv X pins σ H4 { s4 with heap := s4.heap.push { cls := .type "slice", data := .fields #[vl, vu, vs] } } := I4.kept (t' := s4.toks) fun b ob q => Heap.get?_push_of_some _ q
  obtain ⟨its, r, ht, hz⟩ := I5.list hx
  have hlen := r.length
  show wpAny (model X.prog X.w) X.A (subscriptTail e (.Slice none none (some (.Constant (.int c) k p1)) p3) (.ref a) (.ref s4.heap.objs.size)) (EP X pins σ Q) X.xe { s4 with heap := s4.heap.push { cls := .type "slice", data := .fields #[vl, vu, vs] } }
  refine tail_any (ops := [.ref a, .ref s4.heap.objs.size]) ht.isList.typeIs (PySem.slot_list_getitem.lookup) ?_ (by with_unfolding_all rfl)
  refine wpAny_getItem_list_slice ht.isList (Heap.IsSliceOf.new _ vl vu vs) pl pu ps (fun z => hc (Option.some.inj z)) ?_ (by rw [List.size_toArray]; omega)
  have ep : slicePick its.toArray none none (some c) = ((stepIx xs.length c).filterMap (its[·]?)).toArray := by
    unfold slicePick stepIx
    rw [List.size_toArray, hlen]
    congr 2
    funext j
    exact List.getElem?_toArray
  have small : (pickS xs c).length ≤ xs.length := by
    have h1 := slicePick_size_le its.toArray none none (some c)
    rw [ep, List.size_toArray, List.size_toArray, ← (vals_pick r (stepIx xs.length c)).length, ← hlen] at h1
    exact h1
  rw [ep]
  refine ⟨.ref _, _, I5.laid (t' := s4.toks) (o := .lst (pickS xs c)) (fun b ob q => Heap.get?_push_of_some _ q) (Nat.le_refl _) ?_, rfl, q _ (I5.hok.fresh (Nat.le_refl _))⟩
  exact ⟨Nat.le_trans small hz, _, 0, vals_pick r _, Heap.get?_push_size _ rfl⟩
end
theorem pickS_map {α β : Type} (f : α → β) (xs : List α) (c : Int) : pickS (xs.map f) c = (pickS xs c).map f := by
  unfold pickS
  rw [List.length_map, List.map_filterMap]
  congr 1
  funext j
  exact List.getElem?_map ..
theorem pickS_mem {α : Type} {xs : List α} {c : Int} {x : α} (h : x ∈ pickS xs c) : x ∈ xs := by
  obtain ⟨j, _, e⟩ := List.mem_filterMap.mp h
  exact List.mem_of_getElem? e
end PX
/-! A cut to keys goes through every word. -/
namespace PX
open PySem PySem.Spec PyProof.Rows L2
/-- a table cut to keys -/
def cutI (ks : List Int) (l : Tab) : Tab := l.filter fun p => decide (p.1 ∈ ks)
theorem cutI_ok {ks : List Int} {l : Tab} (h : TabOk l) : TabOk (cutI ks l) :=
  ⟨(h.nd.sublist (List.filter_sublist.map _)), fun p hp => h.sm p (List.mem_filter.mp hp).1⟩
section
variable {ks : List Int}
theorem cutI_append (l m : Tab) : cutI ks (l ++ m) = cutI ks l ++ cutI ks m := List.filter_append ..
theorem cutI_one_in {p : Int × Int} (h : p.1 ∈ ks) : cutI ks [p] = [p] := by simp [cutI, h]
theorem cutI_one_out {p : Int × Int} (h : p.1 ∉ ks) : cutI ks [p] = [] := by simp [cutI, h]
theorem cutI_cons (p : Int × Int) (l : Tab) : cutI ks (p :: l) = if p.1 ∈ ks then p :: cutI ks l else cutI ks l := by
  unfold cutI
  rw [List.filter_cons]
  by_cases h : p.1 ∈ ks
  · rw [if_pos (decide_eq_true h), if_pos h]
  · rw [if_neg (by rw [decide_eq_false h]; exact Bool.false_ne_true), if_neg h]
theorem cutI_has (l : Tab) (k : Int) : hasL (cutI ks l) k = true ↔ hasL l k = true ∧ k ∈ ks := by
  rw [hasL_iff, hasL_iff, List.mem_map, List.mem_map]
  constructor
  · rintro ⟨p, hp, rfl⟩
    obtain ⟨h1, h2⟩ := List.mem_filter.mp hp
    exact ⟨⟨p, h1, rfl⟩, of_decide_eq_true h2⟩
  · rintro ⟨⟨p, hp, rfl⟩, h⟩
    exact ⟨p, List.mem_filter.mpr ⟨hp, decide_eq_true h⟩, rfl⟩
theorem cutI_get (l : Tab) {k : Int} (h : k ∈ ks) : getL (cutI ks l) k = getL l k := by
  induction l with
  | nil => rfl
  | cons p l ih =>
    rw [cutI_cons]
    by_cases e : p.1 = k
    · rw [if_pos (by rw [e]; exact h)]
      unfold getL
      rw [List.find?_cons, List.find?_cons, decide_eq_true e]
    · by_cases z : p.1 ∈ ks
      · rw [if_pos z]
        unfold getL at ih ⊢
        rw [List.find?_cons, List.find?_cons, decide_eq_false e]
        exact ih
      · rw [if_neg z, ih]
        unfold getL
        rw [List.find?_cons, decide_eq_false e]
theorem cutI_get_out (l : Tab) {k : Int} (h : k ∉ ks) : getL (cutI ks l) k = none := by
  rw [getL_none]
  intro z
  exact h ((cutI_has l k).mp (hasL_iff.mpr z)).2
theorem cutI_put_in (l : Tab) {k v : Int} (h : k ∈ ks) : cutI ks (putL l k v) = putL (cutI ks l) k v := by
  by_cases g : hasL l k = true
  · have g2 := (cutI_has (ks := ks) l k).mpr ⟨g, h⟩
    unfold putL
    rw [if_pos g, if_pos g2]
    unfold cutI
    rw [List.filter_map]
    congr 1
    refine List.filter_congr fun p _ => ?_
    show decide ((if p.1 = k then (p.1, v) else p).1 ∈ ks) = decide (p.1 ∈ ks)
    split <;> rfl
  · have g2 : ¬ hasL (cutI ks l) k = true := fun z => g ((cutI_has l k).mp z).1
    unfold putL
    rw [if_neg g, if_neg g2, cutI_append, cutI_one_in (p := (k, v)) h]
theorem cutI_put_out (l : Tab) {k v : Int} (h : k ∉ ks) : cutI ks (putL l k v) = cutI ks l := by
  by_cases g : hasL l k = true
  · unfold putL
    rw [if_pos g]
    unfold cutI
    clear g
    induction l with
    | nil => rfl
    | cons p l ih =>
      rw [List.map_cons, List.filter_cons, List.filter_cons, ih]
      by_cases e : p.1 = k
      · rw [if_pos e]
        have z : decide (p.1 ∈ ks) = false := decide_eq_false (by rw [e]; exact h)
        show (if decide (p.1 ∈ ks) = true then _ else _) = _
        rw [z]
        rfl
      · rw [if_neg e]
  · unfold putL
    rw [if_neg g, cutI_append, cutI_one_out (p := (k, v)) h, List.append_nil]
theorem cutI_merge (m : Tab) : ∀ l : Tab, cutI ks (mergeT l m) = mergeT (cutI ks l) (cutI ks m) := by
  induction m with
  | nil => intro l; rfl
  | cons p m ih =>
    intro l
    show cutI ks (mergeT (putL l p.1 p.2) m) = _
    rw [ih, cutI_cons]
    by_cases h : p.1 ∈ ks
    · rw [if_pos h, cutI_put_in l h]
      rfl
    · rw [if_neg h, cutI_put_out l h]
theorem cutI_fill (m : Tab) : ∀ l : Tab, cutI ks (fillT l m) = fillT (cutI ks l) (cutI ks m) := by
  induction m with
  | nil => intro l; rfl
  | cons p m ih =>
    intro l
    show cutI ks (fillT (if hasL l p.1 = true then l else l ++ [p]) m) = _
    rw [ih, cutI_cons]
    by_cases h : p.1 ∈ ks
    · rw [if_pos h]
      show _ = fillT (if hasL (cutI ks l) p.1 = true then cutI ks l else cutI ks l ++ [p]) (cutI ks m)
      by_cases g : hasL l p.1 = true
      · rw [if_pos g, if_pos ((cutI_has l p.1).mpr ⟨g, h⟩)]
      · rw [if_neg g, if_neg fun z => g ((cutI_has l p.1).mp z).1, cutI_append, cutI_one_in h]
    · rw [if_neg h]
      by_cases g : hasL l p.1 = true
      · rw [if_pos g]
      · rw [if_neg g, cutI_append, cutI_one_out h, List.append_nil]
theorem cutI_drop (l : Tab) (k : Int) : cutI ks (dropL l k) = dropL (cutI ks l) k := by
  unfold cutI dropL
  rw [List.filter_filter, List.filter_filter]
  refine List.filter_congr fun p _ => ?_
  exact Bool.and_comm _ _
theorem cutI_drop_out (l : Tab) {k : Int} (h : k ∉ ks) : dropL (cutI ks l) k = cutI ks l := by
  unfold dropL
  refine List.filter_eq_self.mpr fun p hp => decide_eq_true fun e => h ?_
  rw [← e]
  exact of_decide_eq_true (List.mem_filter.mp hp).2
theorem cutI_move (m : Tab) : ∀ l : Tab, cutI ks (moveT l m) = moveT (cutI ks l) (cutI ks m) := by
  induction m with
  | nil => intro l; rfl
  | cons p m ih =>
    intro l
    show cutI ks (moveT (match getL l p.1 with | some v => dropL l p.1 ++ [(p.1, v)] | none => l) m) = _
    rw [ih, cutI_cons]
    by_cases h : p.1 ∈ ks
    · rw [if_pos h]
      show _ = moveT (match getL (cutI ks l) p.1 with | some v => dropL (cutI ks l) p.1 ++ [(p.1, v)] | none => cutI ks l) (cutI ks m)
      rw [cutI_get l h]
      cases getL l p.1 with
      | none => rfl
      | some v =>
        show moveT (cutI ks (dropL l p.1 ++ [(p.1, v)])) _ = moveT (dropL (cutI ks l) p.1 ++ [(p.1, v)]) _
        rw [cutI_append, cutI_drop, cutI_one_in (p := (p.1, v)) h]
    · rw [if_neg h]
      congr 1
      cases getL l p.1 with
      | none => rfl
      | some v =>
        show cutI ks (dropL l p.1 ++ [(p.1, v)]) = _
        rw [cutI_append, cutI_drop, cutI_one_out (p := (p.1, v)) h, List.append_nil, cutI_drop_out l h]
theorem cutI_reverse (l : Tab) : cutI ks l.reverse = (cutI ks l).reverse := List.filter_reverse ..
theorem cutI_sort {l : Tab} (nd : (l.map (·.1)).Nodup) : cutI ks (sortT l) = sortT (cutI ks l) :=
  sort_eq (nd.sublist (List.filter_sublist.map _)) ((sortT_perm l).filter _) ((sortT_sorted l).sublist List.filter_sublist)
theorem cutI_sub (l m : Tab) (f : Bool → Bool) : cutI ks (l.filter fun p => f (hasL m p.1)) = (cutI ks l).filter fun p => f (hasL (cutI ks m) p.1) := by
  unfold cutI
  rw [List.filter_filter, List.filter_filter]
  refine List.filter_congr fun p _ => ?_
  by_cases h : p.1 ∈ ks
  · have e : hasL (List.filter (fun p => decide (p.1 ∈ ks)) m) p.1 = hasL m p.1 := by
      rw [Bool.eq_iff_iff]
      exact (cutI_has m p.1).trans ⟨fun z => z.1, fun z => ⟨z, h⟩⟩
    rw [e, Bool.and_comm]
  · rw [decide_eq_false h, Bool.false_and, Bool.and_false]
theorem cutI_mergeAll (ls : List Tab) : cutI ks (mergeAll ls) = mergeAll (ls.map (cutI ks)) := by
  have : ∀ (ls : List Tab) (acc : Tab), cutI ks (ls.foldl mergeT acc) = (ls.map (cutI ks)).foldl mergeT (cutI ks acc) := by
    intro ls
    induction ls with
    | nil => intro acc; rfl
    | cons l r ih =>
      intro acc
      show cutI ks (r.foldl mergeT (mergeT acc l)) = (r.map (cutI ks)).foldl mergeT (mergeT (cutI ks acc) (cutI ks l))
      rw [ih, cutI_merge]
  exact this ls []
theorem hd0_map (ls : List Tab) : hd0 (ls.map (cutI ks)) = cutI ks (hd0 ls) := by cases ls <;> rfl
theorem hd1_map (ls : List Tab) : hd1 (ls.map (cutI ks)) = cutI ks (hd1 ls) := by
  cases ls with
  | nil => rfl
  | cons a r => exact hd0_map r
theorem cutI_comb (w : Str) {ls : List Tab} (h : ∀ l ∈ ls, TabOk l) : cutI ks (combT w ls) = combT w (ls.map (cutI ks)) := by
  have a := hd0_ok h
  unfold combT
  rw [hd0_map, hd1_map]
  repeat' split
  · exact cutI_mergeAll ls
  · rw [cutI_mergeAll, List.map_reverse]
  · exact cutI_reverse _
  · exact cutI_sort a.nd
  · exact cutI_sub _ _ not
  · exact cutI_sub _ _ id
  · exact cutI_fill _ _
  · exact cutI_move _ _
mutual
theorem evalT_ok {tb : Str → Tab} (h : ∀ n, TabOk (tb n)) : ∀ r : RT, TabOk (evalT tb r)
  | .base n => h n
  | .op w ps => combT_ok w (evalTs_ok h ps)
theorem evalTs_ok {tb : Str → Tab} (h : ∀ n, TabOk (tb n)) : ∀ ps : List RT, ∀ l ∈ evalTs tb ps, TabOk l
  | [], l, hl => nomatch hl
  | p :: r, l, hl => by
    rcases List.mem_cons.mp hl with e | z
    · rw [e]
      exact evalT_ok h p
    · exact evalTs_ok h r l z
end
mutual
/-- a whole result, cut to keys: the result for the tables that are cut to them -/
theorem cutI_eval {tb : Str → Tab} (h : ∀ n, TabOk (tb n)) : ∀ r : RT, evalT (fun n => cutI ks (tb n)) r = cutI ks (evalT tb r)
  | .base n => rfl
  | .op w ps => by
    show combT w (evalTs (fun n => cutI ks (tb n)) ps) = cutI ks (combT w (evalTs tb ps))
    rw [cutI_evals h ps, cutI_comb w (evalTs_ok h ps)]
theorem cutI_evals {tb : Str → Tab} (h : ∀ n, TabOk (tb n)) : ∀ ps : List RT, evalTs (fun n => cutI ks (tb n)) ps = (evalTs tb ps).map (cutI ks)
  | [] => rfl
  | p :: r => by
    show evalT (fun n => cutI ks (tb n)) p :: evalTs (fun n => cutI ks (tb n)) r = cutI ks (evalT tb p) :: (evalTs tb r).map (cutI ks)
    rw [cutI_eval h p, cutI_evals h r]
end
end
theorem flatInts (ks : List Int) : (ks.map V.int).all flatV = true := by
  rw [List.all_eq_true]
  intro v hv
  obtain ⟨k, _, rfl⟩ := List.mem_map.mp hv
  rfl
theorem inV_ints (k : Int) (ks : List Int) : inV (.int k) (ks.map V.int) = decide (k ∈ ks) := by
  unfold inV
  rw [List.any_map]
  induction ks with
  | nil => rfl
  | cons a r ih =>
    rw [List.any_cons, ih]
    have e : (((fun y => eqV y (V.int k)) ∘ V.int) a) = decide (a = k) := by
      show eqV (.int a) (.int k) = decide (a = k)
      unfold eqV
      first | rfl | simp
    rw [e]
    by_cases z : a = k
    · subst z; simp
    · have z' : ¬ k = a := fun q => z q.symm
      simp [z, z']
end PX
namespace PX
open PySem PySem.Spec PyProof.Rows L2
/-! ### lists of pairs of ints at addresses -/
def PairsAt (H : Hp) : List Addr → Tab → Prop
  | [], [] => True
  | t :: ts, p :: l => H t = some (.tup [.int p.1, .int p.2]) ∧ PairsAt H ts l
  | _, _ => False
theorem PairsAt.of {H : Hp} : ∀ {ts : List Addr} {l : Tab}, Paired (fun (t : Addr) (q : Key × V) => H t = some (.tup [kV q.1, q.2])) ts (tab l) → PairsAt H ts l
  | [], [], _ => True.intro
  | t :: ts, p :: l, h => by
    cases h with
    | cons a b => exact ⟨a, PairsAt.of b⟩
  | [], _ :: _, h => nomatch h
  | _ :: _, [], h => nomatch h
theorem PairsAt.to {H : Hp} : ∀ {ts : List Addr} {l : Tab}, PairsAt H ts l → Paired (fun (t : Addr) (q : Key × V) => H t = some (.tup [kV q.1, q.2])) ts (tab l)
  | [], [], _ => .nil
  | t :: ts, p :: l, h => .cons h.1 (PairsAt.to h.2)
  | [], _ :: _, h => h.elim
  | _ :: _, [], h => h.elim
theorem PairsAt.keep {H H' : Hp} (s : ∀ b o, H b = some o → (∀ xs, o ≠ .lst xs) → H' b = some o) : ∀ {ts : List Addr} {l : Tab}, PairsAt H ts l → PairsAt H' ts l
  | [], [], _ => True.intro
  | t :: ts, p :: l, h => ⟨s _ _ h.1 (fun _ z => nomatch z), PairsAt.keep s h.2⟩
  | [], _ :: _, h => h.elim
  | _ :: _, [], h => h.elim
theorem PairsAt.same {H H' : Hp} (s : Same H H') {ts : List Addr} {l : Tab} (h : PairsAt H ts l) : PairsAt H' ts l := PairsAt.keep (fun b o e _ => s b o e) h
theorem PairsAt.put {H : Hp} {p : Addr} {xs : List V} {o : HO} {ts : List Addr} {l : Tab} (h : PairsAt H ts l) (e : H p = some (.lst xs)) : PairsAt (upd H p o) ts l := PairsAt.keep (fun b u eb n => by
  rw [upd_ne fun z => by rw [z, e] at eb; exact n _ (Option.some.inj eb).symm]
  exact eb) h
theorem PairsAt.putF {H : Hp} {a : Addr} {o : HO} (n : ∀ xs, H a ≠ some (.tup xs)) : ∀ {ts : List Addr} {l : Tab}, PairsAt H ts l → PairsAt (upd H a o) ts l
  | [], [], _ => True.intro
  | t :: ts, p :: l, h => ⟨(upd_ne fun z => n _ (z ▸ h.1)).trans h.1, PairsAt.putF n h.2⟩
  | [], _ :: _, h => h.elim
  | _ :: _, [], h => h.elim
theorem PairsAt.len {H : Hp} : ∀ {ts : List Addr} {l : Tab}, PairsAt H ts l → ts.length = l.length
  | [], [], _ => rfl
  | _ :: _, _ :: _, h => congrArg (· + 1) (PairsAt.len h.2)
  | [], _ :: _, h => h.elim
  | _ :: _, [], h => h.elim
theorem PairsAt.get {H : Hp} : ∀ {ts : List Addr} {l : Tab}, PairsAt H ts l → ∀ {i : Nat} {t : Addr}, ts[i]? = some t → ∃ p, l[i]? = some p ∧ H t = some (.tup [.int p.1, .int p.2])
  | t :: ts, p :: l, h, 0, x, e => by
    cases e
    exact ⟨p, rfl, h.1⟩
  | t :: ts, p :: l, h, i + 1, x, e => PairsAt.get h.2 e
  | [], [], _, _, _, e => nomatch e
  | [], _ :: _, h, _, _, _ => h.elim
  | _ :: _, [], h, _, _, _ => h.elim
theorem PairsAt.append {H : Hp} : ∀ {ts : List Addr} {l : Tab} {us : List Addr} {m : Tab}, PairsAt H ts l → PairsAt H us m → PairsAt H (ts ++ us) (l ++ m)
  | [], [], _, _, _, h => h
  | t :: ts, p :: l, _, _, h, g => ⟨h.1, PairsAt.append h.2 g⟩
  | [], _ :: _, _, _, h, _ => h.elim
  | _ :: _, [], _, _, h, _ => h.elim
theorem PairsAt.one {H : Hp} {t : Addr} {p : Int × Int} (h : H t = some (.tup [.int p.1, .int p.2])) : PairsAt H [t] [p] := ⟨h, True.intro⟩
def pairD (p : Int × Int) : PyData := .tuple [.int p.1, .int p.2]
def pairsD (l : Tab) : PyData := .list (l.map pairD)
theorem pairs_all {K : PySem.W.Frag} {H : Hp} : ∀ {ts : List Addr} {l : Tab}, PairsAt H ts l → DpAll K H (ts.map V.ref) (l.map pairD)
  | [], [], _ => .nil
  | t :: ts, p :: l, h => .cons (.tup (SqT.of h.1) (.cons (.int p.1) (.cons (.int p.2) .nil))) (pairs_all h.2)
  | [], _ :: _, h => h.elim
  | _ :: _, [], h => h.elim
theorem pairs_dp {K : PySem.W.Frag} {H : Hp} {a : Addr} {ts : List Addr} {l : Tab} (e : H a = some (.lst (ts.map V.ref))) (h : PairsAt H ts l) : Dp K H (.ref a) (pairsD l) := .lst (SqL.of e) (pairs_all h)
theorem pairD_eqv (p : Int × Int) : PyData.eqv (pairD p) (pairD p) = true := by
  simp [pairD, PyData.eqv, PyData.eqvAll]
theorem pairs_eqvAll : ∀ l : Tab, PyData.eqvAll (l.map pairD) (l.map pairD) = true
  | [] => rfl
  | p :: r => by
    rw [List.map_cons, PyData.eqvAll, pairs_eqvAll r, pairD_eqv]
    rfl
theorem pairsD_eqv (l : Tab) : PyData.eqv (pairsD l) (pairsD l) = true := by
  unfold pairsD
  rw [PyData.eqv]
  exact pairs_eqvAll l
theorem pairs_layAll : ∀ l : Tab, PyData.canLayAll0 (l.map pairD) = true
  | [] => rfl
  | p :: r => by
    rw [List.map_cons, PyData.canLayAll0, pairs_layAll r]
    simp [pairD, PyData.canLay0, PyData.canLayAll0]
theorem pairsD_shaped (l : Tab) : SeqAt.shaped (pairsD l) = true := by
  unfold SeqAt.shaped
  rw [Bool.and_eq_true]
  refine ⟨?_, ?_⟩
  · unfold pairsD
    rw [PyData.canLay0]
    exact pairs_layAll l
  · have := depth_map pairD 1 l fun p _ => by simp [pairD, PyData.depth, PyData.depthAll]
    refine decide_eq_true ?_
    show PyData.depthAll _ + 1 ≤ 64
    omega
/-! ### tables by names -/
def getS (l : List (Str × Tab)) (x : Str) : Tab := ((l.find? fun s => decide (s.1 = x)).map fun s => s.2).getD []
theorem tabOf_get (sh : Sheets) (x : Str) : tabOf sh x = getS (sh.map fun s => (s.1, s.2.2)) x := by
  unfold tabOf getS
  rw [List.find?_map, Option.map_map]
  rfl
theorem getS_map (f : Tab → Tab) (hf : f [] = []) (sh : Sheets) (x : Str) : getS (sh.map fun s => (s.1, f s.2.2)) x = f (tabOf sh x) := by
  unfold tabOf getS
  rw [List.find?_map, Option.map_map]
  show (Option.map _ (sh.find? fun s : Str × Addr × Tab => decide (s.1 = x))).getD [] = _
  cases sh.find? fun s : Str × Addr × Tab => decide (s.1 = x) with
  | none => exact hf.symm
  | some s => rfl
theorem tabOf_of {sh : Sheets} {P : Tab → Prop} (h : ∀ s ∈ sh, P s.2.2) (h0 : P []) (x : Str) : P (tabOf sh x) := by
  unfold tabOf
  cases e : sh.find? fun s : Str × Addr × Tab => decide (s.1 = x) with
  | none => exact h0
  | some s => exact h s (List.mem_of_find?_eq_some e)
theorem evalT_len {tb : Str → Tab} (h : ∀ n, TabOk (tb n)) (r : RT) : (evalT tb r).length ≤ leafs tb r.subs := by
  have g := (run_ok r.subs [] (fun _ z => nomatch z) fun n _ => h n).2.1
  rw [run_subs] at g
  have e : sumLen ([] ++ [evalT tb r]) = (evalT tb r).length + 0 := rfl
  rw [e] at g
  have e2 : sumLen [] = 0 := rfl
  omega
end PX
/-! A dict of the written part, from texts to ints: walked over, asked, read. -/
namespace PX
open PySem PySem.Spec PyProof.Rows L2
/-- its entries -/
def EntAt (l : List DictEntry) (ks : List (Str × Int)) : Prop := Paired (fun (e : DictEntry) (k : Str × Int) => (∃ t, e.key = .str k.1 t) ∧ ∃ u, e.val = .int k.2 u) l ks
structure Ari (K : PySem.W.Frag) (w : World) (d : Addr) (ks : List (Str × Int)) : Prop where
  ex : ∃ (es : Array DictEntry) (n : Nat), KDict K w d es n ∧ EntAt es.toList ks
def ariV (ks : List (Str × Int)) (z : Str) : Option Int := (ks.find? fun k => decide (k.1 = z)).map (·.2)
theorem isStr_eq (x z : Str) (t : Tok) : (Value.str x t).isStr z = decide (x = z) := by
  show (x == z) = _
  by_cases h : x = z
  · subst h
    simp
  · rw [decide_eq_false h]
    exact beq_eq_false_iff_ne.mpr h
theorem ent_find {z : Str} : ∀ {l : List DictEntry} {ks : List (Str × Int)}, EntAt l ks →
    (∀ i, ariV ks z = some i → ∃ e u, l.find? (·.key.isStr z) = some e ∧ e.val = .int i u) ∧ (ariV ks z = none → l.find? (·.key.isStr z) = none) ∧ l.any (·.refKey) = false := by
  intro l ks h
  induction h with
  | nil => exact ⟨(fun i e => nomatch e), (fun _ => rfl), rfl⟩
  | @cons e k l ks hk hr ih =>
    obtain ⟨⟨t, ek⟩, u, ev⟩ := hk
    obtain ⟨i1, i2, i3⟩ := ih
    have rk : e.refKey = false := by simp [DictEntry.refKey, ek]
    by_cases c : k.1 = z
    · have hd : (e.key.isStr z) = true := by rw [ek, isStr_eq, decide_eq_true c]
      have av : ariV (k :: ks) z = some k.2 := by
        unfold ariV
        rw [List.find?_cons_of_pos (by exact decide_eq_true c)]
        rfl
      refine ⟨fun i e2 => ⟨e, u, List.find?_cons_of_pos (by exact hd), ?_⟩, fun e2 => ?_, ?_⟩
      · rw [av] at e2
        cases e2
        exact ev
      · rw [av] at e2
        cases e2
      · rw [List.any_cons, rk, i3]
        rfl
    · have hd : ¬ (e.key.isStr z) = true := by
        rw [ek, isStr_eq, decide_eq_false c]
        exact Bool.false_ne_true
      have av : ariV (k :: ks) z = ariV ks z := by
        unfold ariV
        rw [List.find?_cons_of_neg (by rw [decide_eq_false c]; exact Bool.false_ne_true)]
      rw [av, List.find?_cons_of_neg (by exact hd)]
      exact ⟨i1, i2, by rw [List.any_cons, rk, i3]; rfl⟩
theorem ari_ns {K : PySem.W.Frag} {w : World} {d : Addr} {es : Array DictEntry} {n : Nat} {ks : List (Str × Int)} (D : KDict K w d es n) (E : EntAt es.toList ks) (z : Str) :
    (∀ i, ariV ks z = some i → ∃ u, PySem.W.nsIn K d z = some (some (.int i u))) ∧ (ariV ks z = none → PySem.W.nsIn K d z = some none) := by
  obtain ⟨h1, h2, h3⟩ := ent_find (z := z) E
  constructor
  · intro i e
    obtain ⟨en, u, f, ev⟩ := h1 i e
    refine ⟨u, ?_⟩
    unfold PySem.W.nsIn
    rw [D.at_]
    show (match es.toList.find? (·.key.isStr z) with | some e => some (some e.val) | none => _) = _
    rw [f, ← ev]
  · intro e
    unfold PySem.W.nsIn
    rw [D.at_]
    show (match es.toList.find? (·.key.isStr z) with | some e => some (some e.val) | none => if es.toList.any (·.refKey) then none else some none) = _
    rw [h2 e, h3]
    rfl
section
variable {X : Cx} {d : Addr} {ks : List (Str × Int)}
def rInA (d : Addr) (ks : List (Str × Int)) : R2 := fun x y H Q => ∃ z : Str, x = .str z ∧ y = .ref d ∧ Q (.bl (ariV ks z).isSome) H
theorem op_in_ari (R : Ari X.K X.w d ks) : OpR X (compareOp .In) (rInA d ks) := by
  intro pins s σ H x y v u Q I rx ry h
  obtain ⟨z, rfl, rfl, q⟩ := h
  obtain ⟨es, n, D, E⟩ := R.ex
  obtain ⟨h1, h2⟩ := ari_ns D E z
  cases e : ariV ks z with
  | none =>
    rw [e] at q
    exact op_in_kd D pins s σ H _ _ v u Q I rx ry ⟨z, none, rfl, rfl, h2 e, q⟩
  | some i =>
    rw [e] at q
    obtain ⟨t, hn⟩ := h1 i e
    exact op_in_kd D pins s σ H _ _ v u Q I rx ry ⟨z, _, rfl, rfl, hn, q⟩
def rIxA (d : Addr) (ks : List (Str × Int)) : R2 := fun x y H Q => ∃ (z : Str) (i : Int), x = .ref d ∧ y = .str z ∧ ariV ks z = some i ∧ Q (.int i) H
theorem ix_ari (R : Ari X.K X.w d ks) : IxR X (rIxA d ks) := by
  intro value slice pins s σ H x y v u Q I rx ry h hs
  obtain ⟨z, i, rfl, rfl, e, q⟩ := h
  obtain ⟨es, n, D, E⟩ := R.ex
  obtain ⟨t, hn⟩ := (ari_ns D E z).1 i e
  have g := op_item_kd D pins s σ H _ _ v u Q I rx ry ⟨z, _, .int i, rfl, rfl, hn, ⟨t, rfl⟩, q⟩
  cases rx
  refine tail_any (kd_type D I) F.slot_dict_getitem.lookup g hs
/-- for k in d -/
def Ita (d : Addr) (ks : List (Str × Int)) : It := ⟨fun i _ => i < ks.length, fun i H x H' => H' = H ∧ ∃ k, ks[i]? = some k ∧ x = .str k.1, fun i _ => ks.length ≤ i⟩
theorem walk_ari : Walk (Ita d ks) ks.length (fun _ => True) (fun i H x H' => H' = H ∧ ∃ k, ks[i]? = some k ∧ x = .str k.1) :=
  ⟨fun _ _ hi _ => hi, fun _ _ => Nat.le_refl _, fun _ _ _ _ _ _ y => y⟩
def iAri (d : Addr) (ks : List (Str × Int)) (td : TE) : TI := fun σ H R => td σ H fun x H1 => x = .ref d ∧ R (Ita d ks) H1
theorem turn_ari {P : Program} {w : World} {K : PySem.W.Frag} {tg : Expr} {es : Array DictEntry} {n : Nat} (D : KDict K w d es n) (E : EntAt es.toList ks) (it : Addr) : Turn P w K tg (Ita d ks) [it] it (fun i h => h.IsKeyIter it d i ks.length n) where
  mem := List.mem_singleton.mpr rfl
  obj := fun i h st b hb => by
    obtain rfl : b = it := List.mem_singleton.mp hb
    obtain ⟨oi, e, c, dd⟩ := st
    refine ⟨oi, e, fun v z => ?_⟩
    rw [dd] at z
    cases z
  keep := fun i h h' st k => st.at fun oi e => k it (List.mem_singleton.mpr rfl) oi e
  item := by
    intro X hP hw hK hc i pins s σ H E2 I hf st hi
    subst hP hw hK
    obtain ⟨f0, f1, f2, f3, f4, f5⟩ := hf it (List.mem_singleton.mpr rfl)
    have hl : es.size = ks.length := by rw [← Array.length_toList]; exact Paired.length E
    obtain ⟨k, hk⟩ : ∃ k, ks[i]? = some k := ⟨ks[i], List.getElem?_eq_getElem hi⟩
    obtain ⟨en, hen, ⟨t, ek⟩, _⟩ : ∃ en, es[i]? = some en ∧ (∃ t, en.key = .str k.1 t) ∧ ∃ u, en.val = .int k.2 u := by
      have hi2 : i < es.toList.length := by rw [Array.length_toList, hl]; exact hi
      have he := List.getElem?_eq_getElem hi2
      obtain ⟨b, hb, h2⟩ := paired_get E he
      rw [hk] at hb
      cases hb
      exact ⟨_, by rw [← Array.getElem?_toList]; exact he, h2⟩
    refine next_key_item st (I.kIn _ _ D.at_) rfl hl hen fun h' st' sb => ?_
    have I1 : Inv X pins σ H { s with heap := h' } := I.turned (t' := s.toks) (fun b ob hb e => (sb.2 b hb).trans e) f0 f1 f3 f4 f5
    obtain ⟨oi, e, c, dd⟩ := id st'
    exact ⟨en.key, rfl, go_of (s := { s with heap := h' }) e c dd (by decide) ⟨.str k.1, H, I1, ⟨t, ek⟩, ⟨rfl, k, hk, rfl⟩, st', fun b hb => (hf b hb).1⟩⟩
  done := by
    intro X hP hw hK hc i pins s σ H E2 I hf st hi
    subst hP hw hK
    obtain ⟨f0, f1, f2, f3, f4, f5⟩ := hf it (List.mem_singleton.mpr rfl)
    have hl : es.size = ks.length := by rw [← Array.length_toList]; exact Paired.length E
    exact next_key_end (I.ok.hd hc) st (I.kIn _ _ D.at_) rfl hl hi fun h' eb => ⟨rfl, I.turned (t' := s.toks) (fun b ob hb e => eb b ob hb e) f0 f1 f3 f4 f5⟩
  self := fun A i s Q E st h => wpAny_pyIter_keyiter st h
theorem pi_ari {tg e : Expr} {td : TE} (R : Ari X.K X.w d ks) (he : PE X e td) : PI X tg e (iAri d ks td) := by
  refine ⟨fun pins s σ H R' I h => ?_⟩
  refine thn (he.run pins s σ H _ I h) fun u s1 z => ?_
  obtain ⟨x, H1, I1, rx, rfl, q⟩ := z
  cases rx
  obtain ⟨es, n, D, E⟩ := R.ex
  have hl : es.size = ks.length := by rw [← Array.length_toList]; exact Paired.length E
  refine iter_keys D.low (I1.kIn _ _ D.at_) ⟨rfl, rfl, rfl⟩ rfl (pi_one (tk := s1.toks) I1 _ (turn_ari D E _) ⟨_, Heap.get?_push_size _ rfl, rfl, ?_⟩ q)
  rw [hl]
  rfl
end
/-! ### xs[k], to be changed in place -/
def rGetN (K : PySem.W.Frag) : V → V → Hp → VK → Prop := fun o i H Q => ∃ (p : Addr) (xs : List V) (k : Nat) (v : V), o = .ref p ∧ i = .int (k : Nat) ∧ SqL K H p xs ∧ xs[k]? = some v ∧ Q v H
theorem get_list {X : Cx} : PGet X (rGetN X.K) := by
  intro pins s σ H o i ov iv Q I ro ri h
  obtain ⟨p, xs, k, v, rfl, rfl, hq, hv, q⟩ := h
  cases ro
  obtain ⟨t, rfl⟩ := ri
  obtain ⟨its, r, pl, hz⟩ := I.list hq
  obtain ⟨u, hu, ru⟩ := r.get hv
  have hl := r.length
  have hn := line63
  have hk : k < xs.length := (List.getElem?_eq_some_iff.mp hv).1
  exact wpAny_getItem_list pl.isList (by omega) (by omega) (by rw [Int.toNat_natCast]; simpa using hu) ⟨v, H, I, ru, q⟩
theorem atI_last {α : Type} (l : List α) (x : α) : atI (l ++ [x]) (-(1 : Int)) = some x := by
  unfold atI ixN
  rw [if_neg (by omega), if_pos (by rw [List.length_append, List.length_singleton]; omega)]
  show (l ++ [x])[(-(1 : Int) + ((l ++ [x]).length : Nat)).toNat]? = some x
  rw [show (-(1 : Int) + ((l ++ [x]).length : Nat)).toNat = l.length by rw [List.length_append, List.length_singleton]; omega, List.getElem?_append_right (Nat.le_refl _), Nat.sub_self]
  rfl
/-- one of two readings -/
theorem pe_either {X : Cx} {e : Expr} {t1 t2 : TE} (h1 : PE X e t1) (h2 : PE X e t2) : PE X e (fun σ H Q => t1 σ H Q ∨ t2 σ H Q) :=
  ⟨fun pins s σ H Q I h => h.elim (fun z => h1.run pins s σ H Q I z) fun z => h2.run pins s σ H Q I z⟩
end PX
/-! C.m(e, ..), m a staticmethod of the class at C. -/
namespace PX
open PySem PySem.Spec PyProof.Rows L2
structure SMet (K : PySem.W.Frag) (C : Addr) (mc : Value) (m : Str) (p g : Addr) : Prop where
  at_ : PySem.W.findCls K (.ref C) mc m = some (.get (.builtin "staticmethod.__get__") (.ref p) .none (.ref C))
  rc : ∃ rest, PySem.W.recIn K p "staticmethod" = some (.ref g :: rest)
def tSMeth (C : Addr) (sp : Sp) (E : XK) (ta : TE) (t : TA) : TE := fun σ H Q => ta σ H fun x H1 => x = .ref C ∧ t σ H1 fun vs H2 => sp vs H2 Q E
section
variable {X : Cx} {CX : CXT} {k : Nat} {C p g : Addr} {fd : FuncData} {ps : List Str} {mc : Value} {sp : Sp} {E : XK} {o e : Expr} {es : List Expr} {m : Str} {pos apos : Pos} {ta : TE} {t : TA} {pl : Sem Bool}
theorem pe_smeth (he : PE X o ta) (r : ClX.CRead X.K C mc) (c : SMet X.K C mc m p g) (F : FnOk X.prog X.w X.K X.mg X.base CX k g fd ps sp) (hr : Room k X.A) (hk : PySem.W.keepIn X.K (.ref g) = true) (hb : Binds X.K fd ps []) (hx : Passes CX X E) (ha : PA X (e :: es) t)
    (hst : starEach (e :: es) X.env = (false, eval e X.env) :: starEach es X.env := by rfl) (hpl : (backTo pos (starEach es X.env)).any (·.1) = false := by rfl)
    (ht : eval (.Call (.Attribute o m apos) (e :: es) [] pos) X.env = (do
      let v ← eval o X.env
      standAt apos.atName
      let (f, first) ← holding [v] (getMethod v m pl)
      callWith pos f first (backTo pos (starEach (e :: es) X.env)) (backToKw pos (keywordEach [] X.env))) := by rfl) :
    PE X (.Call (.Attribute o m apos) (e :: es) [] pos) (tSMeth C sp E ta t) := by
  constructor
  intro pins s σ H Q I h
  refine PySem.W.methodCall_KW (pl := pl) (thn (he.run pins s σ H _ I h) fun u s1 z => ?_) ht
  obtain ⟨x, H1, I1, rx, rfl, q⟩ := z
  cases rx
  obtain ⟨rest, hp⟩ := c.rc
  refine PySem.W.method_cls I1.kIn r.ga ?_
  refine PySem.W.cls_bind I1.kIn r.rd c.at_ (wpAny_call (PySem.W.sm_get (s := { s1 with toks := s1.toks + 1 }) I1.kIn hp (PySem.W.handed_on rfl ?_)))
  have I2 : Inv X pins σ H1 { s1 with toks := s1.toks + 1 } := I1.tok _
  refine PySem.W.callWith_K (first := []) (h₀ := X.base) I2.ok.mod.kin hk (thn (ha.run pos pins _ σ H1 _ I2 q) fun us s3 z => ?_) hst hpl
  obtain ⟨vs, H2, I3, rv, q2⟩ := z
  refine ⟨I3.kIn, ?_⟩
  have hv : Vals (vs ++ []) us := by rw [List.append_nil]; exact rv
  exact run_fn F hr hb .nil hx I3 rv (by rw [List.append_nil]; exact q2)
end
end PX
/-! tuples of texts as data (==) -/
namespace PX
open PySem PySem.Spec PyProof.Rows L2
def strsT (l : List Str) : PyData := .tuple (l.map .str)
theorem strsT_dp {K : PySem.W.Frag} {H : Hp} {a : Addr} {l : List Str} (h : SqT K H a (l.map V.str)) : Dp K H (.ref a) (strsT l) := .tup h (dps_map V.str PyData.str l fun k _ => .str k)
theorem strsT_all : ∀ l : List Str, PyData.eqvAll (l.map .str) (l.map .str) = true
  | [] => rfl
  | k :: r => by
    rw [List.map_cons, PyData.eqvAll, strsT_all r]
    simp [PyData.eqv]
theorem strsT_eqv (l : List Str) : PyData.eqv (strsT l) (strsT l) = true := by
  unfold strsT
  rw [PyData.eqv]
  exact strsT_all l
theorem strsT_lay : ∀ l : List Str, (∀ x ∈ l, PyData.strOk x = true) → PyData.canLayAll0 (l.map .str) = true
  | [], _ => rfl
  | k :: r, h => by
    rw [List.map_cons, PyData.canLayAll0, strsT_lay r fun x hx => h x (List.mem_cons_of_mem _ hx)]
    simp [PyData.canLay0, h k List.mem_cons_self]
theorem strsT_shaped {l : List Str} (h : ∀ x ∈ l, PyData.strOk x = true) : SeqAt.shaped (strsT l) = true := by
  unfold SeqAt.shaped
  rw [Bool.and_eq_true]
  refine ⟨?_, ?_⟩
  · unfold strsT
    rw [PyData.canLay0]
    exact strsT_lay l h
  · have := depth_map PyData.str 0 l fun k _ => Nat.le_refl _
    refine decide_eq_true ?_
    show PyData.depthAll _ + 1 ≤ 64
    omega
def strsL (l : List Str) : PyData := .list (l.map .str)
theorem strsL_dp {K : PySem.W.Frag} {H : Hp} {a : Addr} {l : List Str} (h : SqL K H a (l.map V.str)) : Dp K H (.ref a) (strsL l) := .lst h (dps_map V.str PyData.str l fun k _ => .str k)
theorem strsL_eqv (l : List Str) : PyData.eqv (strsL l) (strsL l) = true := by
  unfold strsL
  rw [PyData.eqv]
  exact strsT_all l
theorem strsL_shaped {l : List Str} (h : ∀ x ∈ l, PyData.strOk x = true) : SeqAt.shaped (strsL l) = true := by
  unfold SeqAt.shaped
  rw [Bool.and_eq_true]
  refine ⟨?_, ?_⟩
  · unfold strsL
    rw [PyData.canLay0]
    exact strsT_lay l h
  · have := depth_map PyData.str 0 l fun k _ => Nat.le_refl _
    refine decide_eq_true ?_
    show PyData.depthAll _ + 1 ≤ 64
    omega
theorem strsL_nil (l : List Str) : PyData.eqv (strsL l) (strsL []) = decide (l = []) := by
  unfold strsL
  rw [PyData.eqv]
  cases l with
  | nil => rfl
  | cons x r =>
    rw [List.map_cons, List.map_nil, PyData.eqvAll, decide_eq_false (by simp)]
/-- texts of low signs -/
def lowS (x : Str) : Prop := ∀ c ∈ x.cps.toList, c ≤ 127
theorem lowS.ok {x : Str} (h : lowS x) : PyData.strOk x = true := by
  unfold PyData.strOk
  rw [← Array.all_toList, List.all_eq_true]
  intro c hc
  have := h c hc
  exact decide_eq_true (by omega)
end PX
/-! Calls of built-ins whose readings name K, for blocks of comprehensions. -/
namespace PX
open PySem PySem.Spec PyProof.Rows L2
def rLenK (K : PySem.W.Frag) : List V → Hp → VK → Prop := fun xs H Q => ∃ p ys, xs = [.ref p] ∧ (SqL K H p ys ∨ SqT K H p ys) ∧ Q (.int ys.length) H
def rListK (K : PySem.W.Frag) : List V → Hp → VK → Prop := fun xs H Q => ∃ p ys, xs = [.ref p] ∧ (SqL K H p ys ∨ SqT K H p ys) ∧ ∀ l, H l = none → Q (.ref l) (upd H l (.lst ys))
def rTupK (K : PySem.W.Frag) : List V → Hp → VK → Prop := fun xs H Q => ∃ p ys, xs = [.ref p] ∧ ((SqL K H p ys ∧ ∀ l, H l = none → Q (.ref l) (upd H l (.tup ys))) ∨ (SqT K H p ys ∧ Q (.ref p) H))
section
variable {X : Cx}
theorem call_lenK : CallR X (.builtin "len") (rLenK X.K) := call_len_seq
theorem call_listK : CallR X (.type "list") (rListK X.K) := call_list_of
theorem call_tupK : CallR X (.type "tuple") (rTupK X.K) := call_tuple_of
end
end PX
namespace PX
open PySem PySem.Spec PyProof.Rows L2
/-! ### how large a rule is: nodes, leaves, signs -/
structure Fit (ns : List Str) (k l z : Nat) (r : RT) : Prop where
  fine : Fine ns k l r
  wt : r.wt ≤ z
  bs : ∀ x ∈ r.bases, x ∈ ns
theorem good_up {ns : List Str} : ∀ {d : Nat} {r : RT}, RT.good ns d r → RT.good ns (d + 1) r
  | 0, .base n, h => h
  | d + 1, .base n, h => h
  | 0, .op _ _, h => h.elim
  | d + 1, .op w ps, h => ⟨h.1, h.2.1, fun p hp => good_up (h.2.2 p hp)⟩
theorem good_le {ns : List Str} {d e : Nat} {r : RT} (h : d ≤ e) (g : RT.good ns d r) : RT.good ns e r := by
  induction h with
  | refl => exact g
  | step _ ih => exact good_up ih
theorem Fit.op {ns : List Str} {w : Str} {ps : List RT} {k l z : Nat} (hw : fitsW w ps.length) (hl : w.length ≤ 7) (h : ∀ p ∈ ps, ∃ a b c, Fit ns a b c p) (hk : (subsL ps).length + 1 ≤ k) (hlf : ∀ (tb : Str → Tab) (m : Nat), (∀ n, (tb n).length ≤ m) → leafs tb (subsL ps) ≤ l * m) (hz : 10 + wts ps ≤ z) : Fit ns k l z (.op w ps) := by
  refine ⟨⟨?_, ?_, ?_, ?_⟩, ?_, ?_⟩
  · show (subsL ps ++ [RT.op w ps]).length ≤ k
    rw [List.length_append, List.length_singleton]
    exact hk
  · intro n hn
    rcases List.mem_append.mp (show RT.base n ∈ subsL ps ++ [RT.op w ps] from hn) with y | y
    · obtain ⟨p, hp, hx⟩ := mem_subsL y
      obtain ⟨_, _, _, f⟩ := h p hp
      exact f.fine.base n hx
    · cases List.mem_singleton.mp y
  · intro v qs hn
    rcases List.mem_append.mp (show RT.op v qs ∈ subsL ps ++ [RT.op w ps] from hn) with y | y
    · obtain ⟨p, hp, hx⟩ := mem_subsL y
      obtain ⟨_, _, _, f⟩ := h p hp
      exact f.fine.fits v qs hx
    · cases List.mem_singleton.mp y
      exact hw
  · intro tb m hm
    show leafs tb (subsL ps ++ [RT.op w ps]) ≤ l * m
    rw [leafs_append]
    exact hlf tb m hm
  · show w.length + 3 + wts ps ≤ z
    omega
  · intro x hx
    obtain ⟨p, hp, hb⟩ := basesL_mem.mp (show x ∈ basesL ps from hx)
    obtain ⟨_, _, _, f⟩ := h p hp
    exact f.bs x hb
theorem Fit.op2 {ns : List Str} {w : Str} {r1 r2 : RT} {k1 l1 z1 k2 l2 z2 : Nat} (f1 : Fit ns k1 l1 z1 r1) (f2 : Fit ns k2 l2 z2 r2) (hw : fitsW w 2) (hl : w.length ≤ 7) : Fit ns (k1 + k2 + 1) (l1 + l2) (z1 + z2 + 14) (.op w [r1, r2]) := by
  have e : subsL [r1, r2] = r1.subs ++ (r2.subs ++ []) := rfl
  refine Fit.op hw hl (fun p hp => ?_) ?_ (fun tb m hm => ?_) ?_
  · rcases List.mem_cons.mp hp with y | y
    · subst y
      exact ⟨_, _, _, f1⟩
    · rw [List.mem_singleton.mp y]
      exact ⟨_, _, _, f2⟩
  · have a := f1.fine.cnt
    have b := f2.fine.cnt
    rw [e, List.append_nil, List.length_append]
    omega
  · have a := f1.fine.leaf tb m hm
    have b := f2.fine.leaf tb m hm
    rw [e, List.append_nil, leafs_append, Nat.add_mul]
    omega
  · have a := f1.wt
    have b := f2.wt
    have c : wts [r1, r2] = (r1.wt + 2) + ((r2.wt + 2) + 0) := rfl
    omega
theorem Fit.op1 {ns : List Str} {w : Str} {r1 : RT} {k1 l1 z1 : Nat} (f1 : Fit ns k1 l1 z1 r1) (hw : fitsW w 1) (hl : w.length ≤ 7) : Fit ns (k1 + 1) l1 (z1 + 12) (.op w [r1]) := by
  have e : subsL [r1] = r1.subs ++ [] := rfl
  refine Fit.op hw hl (fun p hp => ?_) ?_ (fun tb m hm => ?_) ?_
  · rw [List.mem_singleton.mp hp]
    exact ⟨_, _, _, f1⟩
  · have a := f1.fine.cnt
    rw [e, List.append_nil]
    omega
  · rw [e, List.append_nil]
    exact f1.fine.leaf tb m hm
  · have a := f1.wt
    have c : wts [r1] = (r1.wt + 2) + 0 := rfl
    omega
theorem Fit.op3 {ns : List Str} {w : Str} {r1 r2 r3 : RT} {k1 l1 z1 k2 l2 z2 k3 l3 z3 : Nat} (f1 : Fit ns k1 l1 z1 r1) (f2 : Fit ns k2 l2 z2 r2) (f3 : Fit ns k3 l3 z3 r3) (hw : fitsW w 3) (hl : w.length ≤ 7) : Fit ns (k1 + k2 + k3 + 1) (l1 + l2 + l3) (z1 + z2 + z3 + 16) (.op w [r1, r2, r3]) := by
  have e : subsL [r1, r2, r3] = r1.subs ++ (r2.subs ++ (r3.subs ++ [])) := rfl
  refine Fit.op hw hl (fun p hp => ?_) ?_ (fun tb m hm => ?_) ?_
  · rcases List.mem_cons.mp hp with y | y
    · subst y
      exact ⟨_, _, _, f1⟩
    · rcases List.mem_cons.mp y with y | y
      · subst y
        exact ⟨_, _, _, f2⟩
      · rw [List.mem_singleton.mp y]
        exact ⟨_, _, _, f3⟩
  · have a := f1.fine.cnt
    have b := f2.fine.cnt
    have c := f3.fine.cnt
    rw [e, List.append_nil, List.length_append, List.length_append]
    omega
  · have a := f1.fine.leaf tb m hm
    have b := f2.fine.leaf tb m hm
    have c := f3.fine.leaf tb m hm
    rw [e, List.append_nil, leafs_append, leafs_append, Nat.add_mul, Nat.add_mul]
    omega
  · have a := f1.wt
    have b := f2.wt
    have c := f3.wt
    have g : wts [r1, r2, r3] = (r1.wt + 2) + ((r2.wt + 2) + ((r3.wt + 2) + 0)) := rfl
    omega
theorem Fit.op0 (ns : List Str) {w : Str} (hw : fitsW w 0) (hl : w.length ≤ 7) : Fit ns 1 0 10 (.op w []) :=
  Fit.op hw hl (fun p hp => nomatch hp) (Nat.le_refl _) (fun tb m _ => Nat.zero_le _) (Nat.le_refl _)
theorem Fit.mono {ns : List Str} {k l z k' l' z' : Nat} {r : RT} (f : Fit ns k l z r) (hk : k ≤ k') (hl : l ≤ l') (hz : z ≤ z') : Fit ns k' l' z' r :=
  ⟨⟨Nat.le_trans f.fine.cnt hk, f.fine.base, f.fine.fits, fun tb m hm => Nat.le_trans (f.fine.leaf tb m hm) (Nat.mul_le_mul_right m hl)⟩, Nat.le_trans f.wt hz, f.bs⟩
/-- the answer of an evaluation is in order -/
theorem Fit.ans {ns : List Str} {k l z : Nat} {r : RT} (f : Fit ns k l z r) {sh : Sheets} {m : Nat} (hok : ∀ s ∈ sh, TabOk s.2.2) (hlen : ∀ s ∈ sh, s.2.2.length ≤ m) : TabOk (evalT (tabOf sh) r) ∧ (evalT (tabOf sh) r).length ≤ l * m := by
  have ok : ∀ n, TabOk (tabOf sh n) := fun n => tabOf_of (P := TabOk) hok TabOk.nil n
  have few : ∀ n, (tabOf sh n).length ≤ m := fun n => tabOf_of (P := fun l => l.length ≤ m) hlen (Nat.zero_le _) n
  exact ⟨evalT_ok ok r, Nat.le_trans (evalT_len ok r) (f.fine.leaf _ _ few)⟩
end PX
/-! own special methods: len(x), str(x), by a def of the class -/
namespace PX
open PySem PySem.Spec PyProof.Rows L2
section
variable {X : Cx} {CX : CXT} {k : Nat} {C f : Addr} {fd : FuncData} {ps : List Str} {sp : Sp} {E : XK}
/-- the method runs, one builtin further in -/
theorem own_run {pins : List (Addr × Obj)} {σ : L2.St} {H : Hp} {s : Shared} {Q : VK} {us : List Value} {vs : List V} {Er : Value → Shared → Prop} {B : Around} (hB : Room k B) (eB : Env0 X.prog X.w X.K X.mg X.base B X.stack s H) (F : FnOk X.prog X.w X.K X.mg X.base CX k f fd ps sp) (hb : Binds X.K fd ps []) (hx : Passes CX X.nox E)
    (I : Inv X pins σ H s) (r : Vals vs us) (h : sp vs H Q E) : wpAny (model X.prog X.w) B (call (.ref f) us) (EP X pins σ Q) Er s := by
  have hl : us.length = ps.length := r.length.symm.trans (F.len _ _ _ _ h)
  have hz := hb s us I.kIn (by rw [List.append_nil]; exact hl)
  rw [List.append_nil] at hz
  refine wpAny_call (codeAny_mono (F.run B X.stack s H ⟨us, []⟩ us vs Q E hB eB hz r h) fun res s' hq => ?_)
  match res, hq with
  | .error er, hq => exact (hx pins σ H s er s' (I.wish _) hq).elim
  | .ok (.ret u), hq => exact I.after hq
  | .ok .next, hq => exact hq.elim
  | .ok .brk, hq => exact hq.elim
  | .ok .cont, hq => exact hq.elim
/-- the class's method, bound at the instance -/
structure OwnM (K : PySem.W.Frag) (C : Addr) (nm : Str) (f : Addr) : Prop where
  at_ : PySem.W.findIn K (.ref C) nm = some (some (.ref f))
  fn : PySem.W.isFn K (.ref f) = true
theorem own_special {pins : List (Addr × Obj)} {σ : L2.St} {H : Hp} {s : Shared} {Q : VK} {R : Option Value → Shared → Prop} {nm : Str} {a dx : Addr} {fs : List (Str × V)} {us : List Value} {vs : List V} {Er : Value → Shared → Prop} {B : Around} (hB : Room k B) (eB : Env0 X.prog X.w X.K X.mg X.base B X.stack s H)
    (M : OwnM X.K C nm f) (F : FnOk X.prog X.w X.K X.mg X.base CX k f fd ps sp) (hb : Binds X.K fd ps []) (hx : Passes CX X.nox E) (I : Inv X pins σ H s) (ea : H a = some (.ins C dx fs)) (r : Vals vs us) (h : sp (.ref a :: vs) H Q E)
    (back : ∀ u s', EP X pins σ Q u s' → R (some u) s') : wpAny (model X.prog X.w) B (callSpecial? (.ref a) nm us) R Er s := by
  obtain ⟨mA, O, _⟩ := ins_get I.hok ea
  obtain ⟨od, J, _⟩ := O.look
  exact PySem.W.special_fn I.kIn J M.at_ (beq_iff_eq.mp M.fn) (wpAny_mono (own_run (vs := .ref a :: vs) hB eB F hb hx I (.cons rfl r) h) (fun u s' z => back u s' z) fun _ _ z => z)
/-- len(x) -/
theorem call_lenC (M : OwnM X.K C "__len__" f) (F : FnOk X.prog X.w X.K X.mg X.base CX k f fd ps sp) (hr : Room (k + 1) X.A) (hb : Binds X.K fd ps []) (hx : Passes CX X.nox E) :
    CallR X (.builtin "len") (fun xs H Q => ∃ (a dx : Addr) (fs : List (Str × V)), xs = [.ref a] ∧ H a = some (.ins C dx fs) ∧ sp [.ref a] H (fun v H' => ∃ n : Int, v = .int n ∧ 0 ≤ n ∧ n < 2 ^ 63 ∧ Q (.int n) H') E) := by
  intro pins s σ H xs us Q I r h
  obtain ⟨a, dx, fs, rfl, ea, q⟩ := h
  obtain ⟨u0, rfl, rx⟩ := vals1 r
  cases rx
  refine Calls.call_function_entry PySem.kind_len PySem.plain_len PySem.entry_len (PySem.args_len1 _) ?_
  unfold Builtin.«len»
  refine wpAny_bind (m := oneArg "len" _) (wpAny_pure (wpAny_bind (m := callSpecial? (.ref a) (Str.ofString "__len__")) ?_))
  refine own_special hr.in1 I.env0.in1 M F hb hx I ea .nil q fun u s' ⟨v, H', I', rv, n, ev, n0, n1, qn⟩ => ?_
  subst ev
  obtain ⟨t, rfl⟩ := rv
  refine wpAny_bind (wpAny_holding (wpAny_pure (wpAny_bind (wpAny_letGo ?_))))
  show wpAny _ _ (if n < 0 then _ else _) _ _ _
  rw [if_neg (Int.not_lt.mpr n0)]
  show wpAny _ _ (if 2 ^ 63 ≤ n then _ else _) _ _ _
  rw [if_neg (Int.not_le.mpr n1)]
  exact wpAny_bind (wpAny_mkInt (wpAny_pure ⟨_, rfl, .int n, H', I'.tok _, ⟨_, rfl⟩, qn⟩))
end
end PX
/-! str(x) and x == y by own methods; != of two tuples whose items are equal by an own ==; t[::-1] of a tuple. -/
namespace PX
open PySem PySem.Spec PyProof.Rows L2
section
variable {X : Cx} {CX : CXT} {k : Nat} {C f : Addr} {fd : FuncData} {ps : List Str} {sp : Sp} {E : XK}
/-- str(x) -/
theorem call_strC (M : OwnM X.K C "__str__" f) (F : FnOk X.prog X.w X.K X.mg X.base CX k f fd ps sp) (hr : Room (k + 2) X.A) (hb : Binds X.K fd ps []) (hx : Passes CX X.nox E) :
    CallR X (.type "str") (fun xs H Q => ∃ (a dx : Addr) (fs : List (Str × V)), xs = [.ref a] ∧ H a = some (.ins C dx fs) ∧ sp [.ref a] H (fun v H' => ∃ z : Str, v = .str z ∧ Q (.str z) H') E) := by
  intro pins s σ H xs us Q I r h
  obtain ⟨a, dx, fs, rfl, ea, q⟩ := h
  obtain ⟨u0, rfl, rx⟩ := vals1 r
  cases rx
  obtain ⟨mA, O, _⟩ := ins_get I.hok ea
  obtain ⟨od, J, _⟩ := O.look
  refine PySem.W.kso_call (Nat.lt_of_le_of_lt (Nat.le_add_right _ 0) hr.in1.in1.units0) I.kIn J M.at_ M.fn ?_
  refine wpAny_mono (own_run (vs := [.ref a]) hr.in1.in1 I.env0.in1.in1 F hb hx I (.cons rfl .nil) q) (fun u s' z => ?_) fun _ _ z => z
  obtain ⟨v, H', I', rv, y, ev, q'⟩ := z
  subst ev
  obtain ⟨t, rfl⟩ := rv
  exact ⟨.str y, H', I', ⟨t, rfl⟩, q'⟩
/-- x == y of two instances of the class -/
def rEqC (C : Addr) (sp : Sp) (E : XK) : R2 := fun x y H Q => ∃ (a b dx dy : Addr) (fs gs : List (Str × V)), x = .ref a ∧ y = .ref b ∧ H a = some (.ins C dx fs) ∧ H b = some (.ins C dy gs) ∧ sp [.ref a, .ref b] H (fun v H' => ∃ c : Bool, v = .bl c ∧ Q (.bl c) H') E
theorem op_eqC (M : OwnM X.K C "__eq__" f) (F : FnOk X.prog X.w X.K X.mg X.base CX k f fd ps sp) (hr : Room k X.A) (hb : Binds X.K fd ps []) (hx : Passes CX X.nox E) : OpR X (compareOp .Eq) (rEqC C sp E) := by
  intro pins s σ H x y v u Q I rx ry h
  obtain ⟨a, b, dx, dy, fs, gs, rfl, rfl, ea, eb, q⟩ := h
  cases rx
  cases ry
  obtain ⟨mA, O, _⟩ := ins_get I.hok ea
  obtain ⟨od, J, _⟩ := O.look
  obtain ⟨mB, O2, _⟩ := ins_get I.hok eb
  obtain ⟨od2, J2, _⟩ := O2.look
  obtain ⟨m, hF⟩ := I.fr
  refine PySem.W.cmp_K (op := .Eq) (tb := .ref C) hr.units0 hF I.ok.mod.kin J J2.type (by simp [PySem.W.notFirst]) M.at_ M.fn ?_
  refine wpAny_mono (own_run (vs := [.ref a, .ref b]) hr I.env0 F hb hx I (.cons rfl (.cons rfl .nil)) q) (fun z s' zz => ?_) fun _ _ zz => zz
  obtain ⟨w2, H', I', rw', c, ec, q'⟩ := zz
  subst ec
  cases rw'
  exact ⟨.bl c, H', I', rfl, q'⟩
end
/-! ### != of tuples -/
section
variable {prog : Program} {w : World} {A : Around} {E : Value → Shared → Prop}
theorem ne_tuples {R : Result → Shared → Prop} (l b : Addr) (us vs : Array Value) (n n2 : Nat) (dd dd2 : Option Addr) (sl sl2 : Array (Option Value)) (same : us.size = vs.size) (J : Nat → Shared → Prop)
    (each : ∀ i (h1 : i < us.size) (h2 : i < vs.size) s, J i s → wpAny (model prog w) A.in1 (eqBool us[i] vs[i]) (fun r s' => r = true ∧ J (i + 1) s') (fun e s' => R (.error e) s') s)
    (out : ∀ s, J us.size s → R (.ok (.ret (.bool false))) s) {s : Shared} (at1 : s.heap.get? l = some { cls := .type "tuple", dict := dd, data := .seq us n, slots := sl }) (at2 : s.heap.get? b = some { cls := .type "tuple", dict := dd2, data := .seq vs n2, slots := sl2 }) (j0 : J 0 s) :
    wpAny (model prog w) A.in1 (Builtin.«tuple.__ne__» ⟨[.ref l, .ref b], []⟩) (GQ.FinOf prog w A R) (fun e s' => R (.error e) s') s := by
  have subT := AutoSeq1.sub_tuple_tuple
  have len : (us.toList.zip vs.toList).length = us.size := by simp [same]
  have keep0 := j0
  obtain ⟨hp, g, d, tk, os⟩ := s
  wp_walk using AutoSeq1.wpAny_loadPart' at1, AutoSeq1.wpAny_loadPart' at2, wpAny_forIn_list _ (fun left acc s' => acc.1 = none ∧ ∃ i, left = (us.toList.zip vs.toList).drop i ∧ i ≤ us.size ∧ J i s') _
  case turn =>
    rintro ⟨y, x⟩ left acc s' ⟨hacc, i, cut, hi, hJ⟩
    have inside : i < (us.toList.zip vs.toList).length := by
      rcases Nat.lt_or_ge i (us.toList.zip vs.toList).length with q | q
      · exact q
      · rw [List.drop_of_length_le q] at cut; cases cut
    have i1 : i < us.size := len ▸ inside
    have i2 : i < vs.size := same ▸ i1
    rw [List.drop_eq_getElem_cons inside] at cut
    injection cut with pair tail
    have ey : y = us[i] := by have := congrArg Prod.fst pair; simpa using this
    have ex : x = vs[i] := by have := congrArg Prod.snd pair; simpa using this
    subst ey ex
    refine wpAny_bind (wpAny_mono (each i i1 i2 s' hJ) (fun r s2 z => ?_) fun _ _ z => z)
    obtain ⟨er, z⟩ := z
    subst er
    wp_walk
    exact ⟨rfl, i + 1, tail, i1, z⟩
  case fin =>
    rintro ⟨b1, b2⟩ s' ⟨hacc, i, cut, hi, hJ⟩
    simp only at hacc
    subst hacc
    have over : us.size ≤ i := by
      rcases Nat.lt_or_ge i (us.toList.zip vs.toList).length with q | q
      · rw [List.drop_eq_getElem_cons q] at cut; cases cut
      · exact len ▸ q
    have ei : i = us.size := by omega
    have done := out s' (ei ▸ hJ)
    wp_walk
    simpa [Builtin.Tuple.tupleCompareSizes, same] using done
  case h =>
    exact ⟨rfl, 0, rfl, Nat.zero_le _, keep0⟩
end
section
variable {X : Cx} {n : Nat} {D : Eqv}
/-- x != y of two tuples, equal item by item -/
def rNeTG (K : PySem.W.Frag) (D : Eqv) : R2 := fun x y H Q => DTup K D x y H ∧ ∀ H', Ext H H' → Q (.bl false) H'
theorem op_neTG (hD : Mon D) (h : EqG X n D) (hr : Room (n + 1) X.A) : OpR X (compareOp .NotEq) (rNeTG X.K D) := by
  intro pins s σ H x y v u Q I rx ry hq
  obtain ⟨⟨a, b, xs, ys, rfl, rfl, ha, hb, p⟩, q⟩ := hq
  cases rx
  cases ry
  obtain ⟨its, r, e, z⟩ := I.tuple ha
  obtain ⟨its2, r2, e2, z2⟩ := I.tuple hb
  have same : its.toArray.size = its2.toArray.size := by rw [List.size_toArray, List.size_toArray, ← r.length, ← r2.length]; exact p.1
  obtain ⟨⟨c1, d1, dat1, sl1⟩, o1, hc1, m1, hd1⟩ := id e
  obtain ⟨⟨c2, d2, dat2, sl2⟩, o2, hc2, m2, hd2⟩ := id e2
  simp only at hc1 hd1 hc2 hd2
  subst hc1 hd1 hc2 hd2
  show wpAny (model X.prog X.w) X.A (richCompare .NotEq (.ref a) (.ref b)) (EP X pins σ Q) X.xe s
  refine wpAny_richCompare_same_room (op := .NotEq) ⟨_, o1, rfl⟩ ⟨_, o2, rfl⟩ PySem.F.slot_tuple_ne (GQ.call_here PySem.F.slot_tuple_ne ⟨_, o1, rfl⟩ PySem.F.entry_tuple_ne (PySem.F.args_tuple_ne_2 _ _) ?_) hr.units0
  refine ne_tuples (R := wants (fun v s' => v ≠ .notImplemented ∧ EP X pins σ Q v s') X.xe) a b its.toArray its2.toArray m1 m2 d1 d2 sl1 sl2 same (fun _ s' => LoopI X pins σ H s') (fun i h1 h2 s' l => turnG hD h ⟨hr, rfl⟩ p r r2 i h1 h2 s' l) (fun s' l => ?_) o1 o2 ⟨H, I, Ext.rfl'⟩
  obtain ⟨H', I', x'⟩ := l
  exact ⟨(fun z => nomatch z), .bl false, H', I', rfl, q H' x'⟩
end
/-! ### t[::-1] -/
section
variable {prog : Program} {w : World} {A : Around} {E : Value → Shared → Prop} {s : Shared}
theorem sliceApplied_back {sl : Addr} {vl vu vs : Value} {n : Nat} {Q : Int × Int × Nat → Shared → Prop} (hs : s.heap.IsSliceOf sl vl vu vs) (pl : IsPart vl none) (pu : IsPart vu none) (pv : IsPart vs (some (-1)))
    (h : Q ((n : Int) - 1, -1, n) s) : wpAny (model prog w) A (Builtin.Slice.sliceApplied (.ref sl) (pure (n : Int))) Q E s := by
  obtain ⟨os, atS, clsS, datS⟩ := id hs
  unfold Builtin.Slice.sliceApplied Builtin.Slice.sliceFields
  refine wpAny_bind (wpAny_bind (wpAny_field atS datS (x := vl) rfl (wpAny_bind (wpAny_field atS datS (x := vu) rfl (wpAny_bind (wpAny_field atS datS (x := vs) rfl (wpAny_pure ?_)))))))
  refine wpAny_bind (HT.slicePart_ pv ?_)
  show wpAny _ _ (if ((-1 : Int) == 0) = true then _ else _) _ _ s
  rw [if_neg (by decide)]
  refine wpAny_bind (HT.slicePart_ pl (wpAny_bind (HT.slicePart_ pu (wpAny_bind (wpAny_pure ?_)))))
  have e1 : Builtin.Slice.sliceAdjust none none (-1) (n : Int) = ((n : Int) - 1, -1) := by
    unfold Builtin.Slice.sliceAdjust
    simp
  have e2 : Builtin.Slice.slicePlaces ((n : Int) - 1) (-1) (-1) = n := by
    unfold Builtin.Slice.slicePlaces
    have no : ¬ ((-1 : Int) > 0) := by decide
    simp only [no, if_false]
    rw [show (-(-1) : Int) = 1 by decide, Int.ediv_one]
    split <;> omega
  show wpAny _ _ (match Builtin.Slice.sliceAdjust none none (-1) (n : Int) with | (lo, hi) => pure (lo, (-1 : Int), Builtin.Slice.slicePlaces lo hi (-1))) _ _ s
  rw [e1]
  show wpAny _ _ (pure ((n : Int) - 1, (-1 : Int), Builtin.Slice.slicePlaces ((n : Int) - 1) (-1) (-1))) _ _ s
  rw [e2]
  exact wpAny_pure h
theorem pick_back (xs : Array Value) : ((List.range xs.size).filterMap fun (m : Nat) => xs[(((xs.size : Nat) : Int) - 1 + (m : Int) * (-1)).toNat]?).toArray = xs.toList.reverse.toArray := by
  rw [← PySem.W.krv_pick xs]
  unfold slicePick
  rw [PySem.W.krv_bounds]
  show _ = ((sliceRange ((xs.size : Int) - 1) (-1) (-1)).filterMap (xs[·]?)).toArray
  rw [PySem.W.krv_sliceRange, List.filterMap_map]
  congr 2
  funext m
  have e : (((xs.size : Nat) : Int) - 1 + (m : Int) * (-1)).toNat = xs.size - 1 - m := by omega
  rw [e]
  rfl
theorem getItem_tuple_back {t sl : Addr} {items : Array Value} {vl vu vs : Value} {Q : Value → Shared → Prop} (ht : IsTup s.heap t items) (hs : s.heap.IsSliceOf sl vl vu vs) (pl : IsPart vl none) (pu : IsPart vu none) (pv : IsPart vs (some (-1)))
    (h : Q (.ref s.heap.objs.size) { s with heap := s.heap.push { cls := .type "tuple", data := .seq items.toList.reverse.toArray } }) (hsz : items.size ≤ sizeLine) : wpAny (model prog w) A (getItem (.ref t) (.ref sl)) Q E s := by
  have fits : sizeOk (.seq items.toList.reverse.toArray) := by
    show items.toList.reverse.toArray.size ≤ sizeLine
    rw [List.size_toArray, List.length_reverse, Array.length_toList]
    exact hsz
  obtain ⟨os, atS, clsS, datS⟩ := id hs
  have isS : s.TypeIs (.ref sl) "slice" := ⟨os, atS, clsS⟩
  unfold getItem
  try with_reducible refine wpAny_holding ?_
  first | refine wpAny_bind (wpAny_pure ?_) | skip
  refine wpAny_bind (wpAny_sequenceKey ht.typeIs (by decide) ?_)
  refine wpAny_bind (wpAny_callSpecial?_slot (name := Str.ofString "__getitem__") ht.typeIs PyProof.Rows.slot_tuple_getitem (wpAny_call_entry PyProof.Rows.slot_tuple_getitem ht.typeIs entry_tuple_getitem ?_ (args_tuple_getitem _ _)))
  show wpAny _ _ (Builtin.Tuple.tupleItemsOf (.ref t) >>= _) _ _ s
  refine wpAny_bind (tupleItemsOf_ ht ?_)
  refine wpAny_bind (wpAny_typeOf isS ?_)
  rw [if_pos (by decide)]
  refine wpAny_bind (sliceApplied_back hs pl pu pv ?_)
  have notWhole : ¬ ((((items.size : Nat) : Int) - 1 == 0 && (-1 : Int) == 1 && items.size == items.size) = true) := by
    rw [show ((-1 : Int) == 1) = false from rfl, Bool.and_false, Bool.false_and]
    exact Bool.false_ne_true
  show wpAny _ _ (if ((((items.size : Nat) : Int) - 1 == 0 && (-1 : Int) == 1 && items.size == items.size) = true) then _ else _) _ _ s
  rw [if_neg notWhole, pick_back]
  first
    | exact wpAny_bind (m := Builtin.Tuple.tupleExact _) (wpAny_newObj_type (wpAny_pure ⟨_, rfl, wpAny_pure h⟩) fits)
    | exact wpAny_bind (m := Builtin.Tuple.tupleExact _) (wpAny_newObj_type (wpAny_bind (wpAny_pure (wpAny_pure ⟨_, rfl, wpAny_pure h⟩))) fits)
    | exact wpAny_bind (wpAny_bind (m := Builtin.Tuple.tupleExact _) (wpAny_newObj_type (wpAny_pure (wpAny_pure ⟨_, rfl, wpAny_pure h⟩)) fits))
    | exact wpAny_bind (wpAny_bind (m := Builtin.Tuple.tupleExact _) (wpAny_newObj_type (wpAny_pure ⟨_, rfl, wpAny_pure h⟩) fits))
end
def tRevT (K : PySem.W.Frag) (te : TE) : TE := fun σ H Q => te σ H fun x H1 => ∃ (a : Addr) (xs : List V), x = .ref a ∧ SqT K H1 a xs ∧ ∀ p, H1 p = none → Q (.ref p) (upd H1 p (.tup xs.reverse))
theorem pe_revT {X : Cx} {e : Expr} {te : TE} {k : Nat} {p1 p2 p3 pos : Pos} (he : PE X e te) : PE X (.Subscript e (.Slice none none (some (.UnaryOp .USub (.Constant (.int 1) k p1) p2)) p3) pos) (tRevT X.K te) := by
  refine ⟨fun pins s σ H Q I h => ?_⟩
  refine Subscript_ (thn (he.run pins s σ H _ I h) fun v s1 ⟨x, H1, I1, r1, got⟩ => ?_)
  obtain ⟨a, xs, rfl, hx, q⟩ := got
  cases r1
  have step : PO X (some (.UnaryOp .USub (.Constant (.int 1) k p1) p2)) (tPart (tUn (rU fun i => .int (-i)) (tC (.int 1)))) := po_some (pe_un un_neg pe_int)
  refine wpAny_Slice (thn (po_none.run pins s1 σ H1 (fun o H2 => o = none ∧ H2 = H1) I1 ⟨rfl, rfl⟩) fun vl s2 ⟨l, H2, I2, pl, ⟨el, e2⟩⟩ => ?_)
  subst el e2
  refine thn (po_none.run pins s2 σ H2 (fun o H3 => o = none ∧ H3 = H2) I2 ⟨rfl, rfl⟩) fun vu s3 ⟨u, H3, I3, pu, ⟨eu, e3⟩⟩ => ?_
  subst eu e3
  refine thn (step.run pins s3 σ H3 (fun o H4 => o = some (-1) ∧ H4 = H3) I3 ⟨1, rfl, -1, rfl, rfl, rfl⟩) fun vs s4 ⟨o, H4, I4, pv, ⟨eo, e4⟩⟩ => ?_
  subst eo e4
  have I5 : Inv X pins σ H4 { s4 with heap := s4.heap.push { cls := .type "slice", data := .fields #[vl, vu, vs] } } := I4.kept (t' := s4.toks) fun b ob z => Heap.get?_push_of_some _ z
  obtain ⟨its, r, ht, hz⟩ := I5.tuple hx
  have len := r.length
  show wpAny (model X.prog X.w) X.A (subscriptTail e (.Slice none none (some (.UnaryOp .USub (.Constant (.int 1) k p1) p2)) p3) (.ref a) (.ref s4.heap.objs.size)) (EP X pins σ Q) X.xe { s4 with heap := s4.heap.push { cls := .type "slice", data := .fields #[vl, vu, vs] } }
  refine tail_any (ops := [.ref a, .ref s4.heap.objs.size]) ht.typeIs (PyProof.Rows.slot_tuple_getitem.lookup) ?_ (by with_unfolding_all rfl)
  refine getItem_tuple_back ht (Heap.IsSliceOf.new _ vl vu vs) pl pu pv ?_ (by rw [List.size_toArray]; omega)
  refine ⟨.ref _, _, I5.laid (t' := s4.toks) (o := .tup xs.reverse) (fun b ob z => Heap.get?_push_of_some _ z) (Nat.le_refl _) ?_, rfl, q _ (I5.hok.fresh (Nat.le_refl _))⟩
  exact ⟨by rw [List.length_reverse]; exact hz, _, r.reverse, IsTup.new _ _⟩
end PX
/-! C.m(x=e), m a staticmethod of the class at C; == of two tuples whose items are equal by an own ==. -/
namespace PX
open PySem PySem.Spec PyProof.Rows L2
/-- one value by its keyword -/
def sw1 {α : Type} : List α → List α → List α
  | [], [a] => [a]
  | _, _ => []
theorem kb_one {K : PySem.W.Frag} {x qual : Str} {st : Stmt} {f : Addr} {fd : FuncData} {p1 : Str} (F : Fun K x qual st f fd)
    (h : ∀ (kV doc pm : Value) (an : Option Addr) (cdv ct a : Value), bindArgs (PySem.W.fnOf x qual (defArgs st) (defBody st) (defScope st) .none kV doc pm an cdv ct) ⟨[], [(p1, a)]⟩ = pure [(p1, a)]) :
    KBinds K fd [p1] [p1] sw1 sw1 := by
  obtain ⟨oc, od, kV, doc, pm, an, cdv, ct, osl, rfl, lk, hcd⟩ := F.ex
  refine ⟨fun s us ws _ hl => ?_, fun {vs us zs ws} r z => ?_⟩
  · match us, ws, hl with
    | [], [a], _ => exact .of_eq (h kV doc pm an cdv ct a)
  · cases r with
    | nil =>
      cases z with
      | nil => exact .nil
      | cons a z =>
        cases z with
        | nil => exact .cons a .nil
        | cons b z => exact .nil
    | cons a r => exact .nil
def tSMethK (C : Addr) (sp : Sp) (E : XK) (ta : TE) (t : TA) : TE := fun σ H Q => ta σ H fun x H1 => x = .ref C ∧ t σ H1 fun zs H2 => sp (sw1 [] zs) H2 Q E
section
variable {X : Cx} {CX : CXT} {k : Nat} {C p g : Addr} {fd : FuncData} {ps ks : List Str} {mc : Value} {sp : Sp} {E : XK} {o : Expr} {m : Str} {pos apos : Pos} {ta : TE} {tk : TA} {pl : Sem Bool} {kws : List Keyword}
theorem pe_smethK (he : PE X o ta) (r : ClX.CRead X.K C mc) (c : SMet X.K C mc m p g) (F : FnOk X.prog X.w X.K X.mg X.base CX k g fd ps sp) (hr : Room k X.A) (hk : PySem.W.keepIn X.K (.ref g) = true) (hb : KBinds X.K fd ps ks sw1 sw1) (hx : Passes CX X E) (hkw : PK X kws tk)
    (hall : (backToKw pos (keywordEach kws X.env)).all (·.1.isSome) = true := by rfl) (hks : (backToKw pos (keywordEach kws X.env)).filterMap (·.1) = ks := by rfl)
    (hpl : ((backTo pos (starEach [] X.env)).any (·.1) || (backToKw pos (keywordEach kws X.env)).any (·.1.isNone)) = false := by rfl)
    (ht : eval (.Call (.Attribute o m apos) [] kws pos) X.env = (do
      let v ← eval o X.env
      standAt apos.atName
      let (f, first) ← holding [v] (getMethod v m pl)
      callWith pos f first (backTo pos (starEach [] X.env)) (backToKw pos (keywordEach kws X.env))) := by rfl) :
    PE X (.Call (.Attribute o m apos) [] kws pos) (tSMethK C sp E ta tk) := by
  constructor
  intro pins s σ H Q I h
  refine PySem.W.methodCall_KW (pl := pl) (thn (he.run pins s σ H _ I h) fun u s1 z => ?_) ht
  obtain ⟨x, H1, I1, rx, rfl, q⟩ := z
  cases rx
  obtain ⟨rest, hp⟩ := c.rc
  refine PySem.W.method_cls I1.kIn r.ga ?_
  refine PySem.W.cls_bind I1.kIn r.rd c.at_ (wpAny_call (PySem.W.sm_get (s := { s1 with toks := s1.toks + 1 }) I1.kIn hp (PySem.W.handed_on rfl ?_)))
  have I2 : Inv X pins σ H1 { s1 with toks := s1.toks + 1 } := I1.tok _
  refine PySem.W.callWith_KW0 (h₀ := X.base) I2.ok.mod.kin hk hall ?_ hpl
  refine thn (hkw.run pos pins _ σ H1 _ I2 q) fun ws s3 z => ?_
  obtain ⟨zs, H2, I3, rz, q2⟩ := z
  refine ⟨I3.kIn, ?_⟩
  rw [hks]
  exact run_fnk (us := []) (vs := []) F hr hb hx I3 .nil rz q2
end
section
variable {prog : Program} {w : World} {A : Around} {E : Value → Shared → Prop}
theorem eq_tuples {R : Result → Shared → Prop} (l b : Addr) (us vs : Array Value) (n n2 : Nat) (dd dd2 : Option Addr) (sl sl2 : Array (Option Value)) (same : us.size = vs.size) (J : Nat → Shared → Prop)
    (each : ∀ i (h1 : i < us.size) (h2 : i < vs.size) s, J i s → wpAny (model prog w) A.in1 (eqBool us[i] vs[i]) (fun r s' => r = true ∧ J (i + 1) s') (fun e s' => R (.error e) s') s)
    (out : ∀ s, J us.size s → R (.ok (.ret (.bool true))) s) {s : Shared} (at1 : s.heap.get? l = some { cls := .type "tuple", dict := dd, data := .seq us n, slots := sl }) (at2 : s.heap.get? b = some { cls := .type "tuple", dict := dd2, data := .seq vs n2, slots := sl2 }) (j0 : J 0 s) :
    wpAny (model prog w) A.in1 (Builtin.«tuple.__eq__» ⟨[.ref l, .ref b], []⟩) (GQ.FinOf prog w A R) (fun e s' => R (.error e) s') s := by
  have subT := AutoSeq1.sub_tuple_tuple
  have len : (us.toList.zip vs.toList).length = us.size := by simp [same]
  have keep0 := j0
  obtain ⟨hp, g, d, tk, os⟩ := s
  wp_walk using AutoSeq1.wpAny_loadPart' at1, AutoSeq1.wpAny_loadPart' at2, wpAny_forIn_list _ (fun left acc s' => acc.1 = none ∧ ∃ i, left = (us.toList.zip vs.toList).drop i ∧ i ≤ us.size ∧ J i s') _
  case turn =>
    rintro ⟨y, x⟩ left acc s' ⟨hacc, i, cut, hi, hJ⟩
    have inside : i < (us.toList.zip vs.toList).length := by
      rcases Nat.lt_or_ge i (us.toList.zip vs.toList).length with q | q
      · exact q
      · rw [List.drop_of_length_le q] at cut; cases cut
    have i1 : i < us.size := len ▸ inside
    have i2 : i < vs.size := same ▸ i1
    rw [List.drop_eq_getElem_cons inside] at cut
    injection cut with pair tail
    have ey : y = us[i] := by have := congrArg Prod.fst pair; simpa using this
    have ex : x = vs[i] := by have := congrArg Prod.snd pair; simpa using this
    subst ey ex
    refine wpAny_bind (wpAny_mono (each i i1 i2 s' hJ) (fun r s2 z => ?_) fun _ _ z => z)
    obtain ⟨er, z⟩ := z
    subst er
    wp_walk
    exact ⟨rfl, i + 1, tail, i1, z⟩
  case fin =>
    rintro ⟨b1, b2⟩ s' ⟨hacc, i, cut, hi, hJ⟩
    simp only at hacc
    subst hacc
    have over : us.size ≤ i := by
      rcases Nat.lt_or_ge i (us.toList.zip vs.toList).length with q | q
      · rw [List.drop_eq_getElem_cons q] at cut; cases cut
      · exact len ▸ q
    have ei : i = us.size := by omega
    have done := out s' (ei ▸ hJ)
    wp_walk
    simpa [Builtin.Tuple.tupleCompareSizes, same] using done
  case h =>
    exact ⟨rfl, 0, rfl, Nat.zero_le _, keep0⟩
end
section
variable {X : Cx} {n : Nat} {D : Eqv}
/-- x == y of two tuples, equal item by item -/
def rEqTG (K : PySem.W.Frag) (D : Eqv) : R2 := fun x y H Q => DTup K D x y H ∧ ∀ H', Ext H H' → Q (.bl true) H'
theorem op_eqTG (hD : Mon D) (h : EqG X n D) (hr : Room (n + 1) X.A) : OpR X (compareOp .Eq) (rEqTG X.K D) := by
  intro pins s σ H x y v u Q I rx ry hq
  obtain ⟨⟨a, b, xs, ys, rfl, rfl, ha, hb, p⟩, q⟩ := hq
  cases rx
  cases ry
  obtain ⟨its, r, e, z⟩ := I.tuple ha
  obtain ⟨its2, r2, e2, z2⟩ := I.tuple hb
  have same : its.toArray.size = its2.toArray.size := by rw [List.size_toArray, List.size_toArray, ← r.length, ← r2.length]; exact p.1
  obtain ⟨⟨c1, d1, dat1, sl1⟩, o1, hc1, m1, hd1⟩ := id e
  obtain ⟨⟨c2, d2, dat2, sl2⟩, o2, hc2, m2, hd2⟩ := id e2
  simp only at hc1 hd1 hc2 hd2
  subst hc1 hd1 hc2 hd2
  show wpAny (model X.prog X.w) X.A (richCompare .Eq (.ref a) (.ref b)) (EP X pins σ Q) X.xe s
  refine wpAny_richCompare_same_room (op := .Eq) ⟨_, o1, rfl⟩ ⟨_, o2, rfl⟩ PySem.F.slot_tuple_eq (GQ.call_here PySem.F.slot_tuple_eq ⟨_, o1, rfl⟩ PySem.F.entry_tuple_eq (PySem.F.args_tuple_eq_2 _ _) ?_) hr.units0
  refine eq_tuples (R := wants (fun v s' => v ≠ .notImplemented ∧ EP X pins σ Q v s') X.xe) a b its.toArray its2.toArray m1 m2 d1 d2 sl1 sl2 same (fun _ s' => LoopI X pins σ H s') (fun i h1 h2 s' l => turnG hD h ⟨hr, rfl⟩ p r r2 i h1 h2 s' l) (fun s' l => ?_) o1 o2 ⟨H, I, Ext.rfl'⟩
  obtain ⟨H', I', x'⟩ := l
  exact ⟨(fun z => nomatch z), .bl true, H', I', rfl, q H' x'⟩
end
end PX
/-! x != y of two instances whose class has an own __eq__ and no __ne__. -/
namespace PX
open PySem PySem.Spec PyProof.Rows L2
open PySem.W (findIn isFn mroIn)
section
variable {M : Model} {prog : Program} {w : World} {A : Around} {E : Value → Shared → Prop} {s : Shared} {K : PySem.W.Frag} {x C f : Addr} {ox : Obj} {od : Option Obj} {name : Str} {b : Value} {args : List Value}
/-- a special method that is a builtin -/
theorem special_B {i : String} {Q : Option Value → Shared → Prop} (X : K.In s.heap) (I : PySem.W.InstAt s.heap x ox C od) (hs : findIn K (.ref C) name = some (some (.builtin i))) (hb : ∀ z, bindSpecial (.builtin i) z = pure (.builtin i, [z]))
    (h : wpAny M A (call (.builtin i) (.ref x :: args)) (fun v => Q (some v)) E s) : wpAny M A (callSpecialIfBound? (.ref x) name args) Q E s := by
  have last : wpAny M A (call (.builtin i) ([Value.ref x] ++ args) >>= fun v => pure (some v)) Q E s := by
    refine wpAny_bind (wpAny_mono h ?_ fun _ _ z => z)
    intro v s' z
    exact wpAny_pure z
  unfold callSpecialIfBound? bindSpecialIfBound?
  refine wpAny_holding ?_
  refine wpAny_bind (wpAny_bind (wpAny_bind (I.type.here ?_)))
  refine (PySem.W.looks_findIn X hs).here ?_
  simp only [hb]
  refine wpAny_bind ?_
  refine wpAny_askSetting (wpAny_ite ?_)
  have get : wpAny M A (pure (Value.builtin i, [Value.ref x]) >>= fun r => call r.1 (r.2 ++ args) >>= fun v => pure (some v)) Q E s := wpAny_bind (wpAny_pure last)
  split
  · exact wpAny_bind (wpAny_pure (wpAny_pure last))
  · exact wpAny_tryCatch (wpAny_bind (wpAny_pure (wpAny_pure last)))
/-- object.__ne__ asks the own __eq__ -/
theorem ne_asks {y : Value} {Q : Fin → Shared → Prop} (X : K.In s.heap) (I : PySem.W.InstAt s.heap x ox C od) (hs : findIn K (.ref C) "__eq__" = some (some (.ref f))) (hf : isFn K (.ref f) = true) (hu : A.units < cLine)
    (h : wpAny (model prog w) A (call (.ref f) [.ref x, y]) (fun v s' => ∃ c, v = .bool c ∧ Q (.done (.ret (.bool (!c)))) s') E s) : wpAny (model prog w) A (Builtin.«object.__ne__» ⟨[.ref x, y], []⟩) Q E s := by
  unfold Builtin.«object.__ne__»
  refine wpAny_bind (m := slotArgs "__ne__" 1 _) (wpAny_pure ?_)
  refine wpAny_bind (wpAny_cRoomFor hu ?_)
  refine wpAny_bind (m := callSpecialIfBound? (.ref x) (Str.ofString "__eq__") [y]) (PySem.W.ifBound_K X I hs hf (wpAny_mono h ?_ fun _ _ z => z))
  rintro v s' ⟨c, rfl, q⟩
  refine wpAny_bind (m := truthy (.bool c)) (wpAny_truthy_bool ?_)
  exact wpAny_pure q
end
section
variable {X : Cx} {CX : CXT} {k : Nat} {C f : Addr} {fd : FuncData} {ps : List Str} {sp : Sp} {E : XK}
/-- x != y of two instances of the class -/
def rNeC (C : Addr) (sp : Sp) (E : XK) : R2 := fun x y H Q => ∃ (a b dx dy : Addr) (fs gs : List (Str × V)), x = .ref a ∧ y = .ref b ∧ H a = some (.ins C dx fs) ∧ H b = some (.ins C dy gs) ∧ sp [.ref a, .ref b] H (fun v H' => ∃ c : Bool, v = .bl c ∧ Q (.bl !c) H') E
theorem op_neC (M : OwnM X.K C "__eq__" f) (hne : findIn X.K (.ref C) "__ne__" = some (some (.builtin "object.__ne__"))) (hm : mroIn X.K C (.type "object") = some true)
    (F : FnOk X.prog X.w X.K X.mg X.base CX k f fd ps sp) (hr : Room (k + 1) X.A) (hb : Binds X.K fd ps []) (hx : Passes CX X.nox E) : OpR X (compareOp .NotEq) (rNeC C sp E) := by
  intro pins s σ H x y v u Q I rx ry h
  obtain ⟨a, b, dx, dy, fs, gs, rfl, rfl, ea, eb, q⟩ := h
  cases rx
  cases ry
  obtain ⟨mA, O, _⟩ := ins_get I.hok ea
  obtain ⟨od, J, _⟩ := O.look
  obtain ⟨mB, O2, _⟩ := ins_get I.hok eb
  obtain ⟨od2, J2, _⟩ := O2.look
  have X0 := I.kIn
  have isO : PySem.W.Looks (model X.prog X.w) s.heap (isInstance (.ref a) (.type "object")) true := J.type.andThen (PySem.W.looks_mroIn X0 hm)
  have body : wpAny (model X.prog X.w) X.A.in1 (Builtin.«object.__ne__» ⟨[.ref a, .ref b], []⟩) (fun r s' => ∃ c : Bool, r = .done (.ret (.bool c)) ∧ EP X pins σ Q (.bool c) s') X.xe s := by
    refine ne_asks X0 J M.at_ M.fn (hr.in1).units0 ?_
    refine wpAny_mono (own_run (vs := [.ref a, .ref b]) hr.in1 I.env0.in1 F hb hx I (.cons rfl (.cons rfl .nil)) q) (fun z s' zz => ?_) fun _ _ zz => zz
    obtain ⟨w2, H', I', rw', c, ec, q'⟩ := zz
    subst ec
    cases rw'
    exact ⟨c, rfl, _, rfl, .bl !c, H', I', rfl, q'⟩
  have one : wpAny (model X.prog X.w) X.A (tryCompare (.ref a) "__ne__" (.ref b)) (fun r s' => ∃ z, r = some z ∧ EP X pins σ Q z s') X.xe s := by
    unfold tryCompare
    refine wpAny_bind (special_B X0 J hne PySem.F.cmp_object.ne.bind (wpAny_call (codeAny_call_builtin PySem.F.cmp_object.ne.plain PySem.F.cmpEntry_ne ?_)))
    refine PySem.W.check_slot PySem.F.cmpKind_ne PySem.F.cmpSplit_ne isO (PySem.F.cmpArgs_ne _ _) ?_
    refine wpAny_mono body (fun r s' z => ?_) fun _ _ z => z
    obtain ⟨c, rfl, z⟩ := z
    first
      | exact ⟨_, rfl, z⟩
      | exact wpAny_pure ⟨_, rfl, z⟩
      | exact ⟨_, rfl, wpAny_pure ⟨_, rfl, z⟩⟩
      | exact ⟨_, rfl, wpAny_pure (wpAny_pure ⟨_, rfl, z⟩)⟩
      | (show False; trace_state; done)
  show wpAny _ _ (richCompare .NotEq (.ref a) (.ref b)) _ _ s
  unfold richCompare
  rw [oneThing_ref]
  refine wpAny_holding ?_
  refine wpAny_bind (wpAny_cRoomFor hr.units0 ?_)
  refine wpAny_bind (J.type.here ?_)
  refine wpAny_bind (J2.type.here ?_)
  have same : (Value.ref C != Value.ref C) = false := by simp
  rw [same]
  refine wpAny_bind (wpAny_pure ?_)
  refine wpAny_bind (wpAny_mono one (fun r s' z => ?_) fun _ _ z => z)
  obtain ⟨v, rfl, z⟩ := z
  exact wpAny_pure z
end
end PX
/-! set(a list of texts), any number of them. -/
namespace PX
open PySem PySem.Spec PyProof.Rows L2
section
variable {P : Program} {w : World} {A : Around} {R : Result → Shared → Prop} {I : Addr} {fp wr : List Addr} {G : Array GenState → Array GenState → Prop} {n : Nat} {Pv : Nat → Value → Prop} {St : Nat → Shared → Prop}
/-- what stands in the set behind i turns -/
def InTxt (P : Program) (w : World) (h : Heap) (S : Addr) (xs : List Str) (i : Nat) : Prop := ∃ (M : Str → Bool) (m : Nat), SetG (txtKind P w) h S M m ∧ m ≤ i ∧ ∀ k, M k = true ↔ k ∈ xs.take i
theorem fill_txts (W : WalksS P w A.in1 I fp wr G n Pv St) (S : Addr) (off : S ∉ fp) (xs : List Str) (len : xs.length = n) (few : xs.length < 64) (each : ∀ i v, Pv i v → ∃ x t, xs[i]? = some x ∧ v = .str x t) :
    ∀ (k i : Nat) (s : Shared), n - i = k → i ≤ n → St i s → InTxt P w s.heap S xs i →
      (∀ s', Moved (S :: wr) G s s' → InTxt P w s'.heap S xs n → R (.ok (.ret .none)) s') →
      codeAny (model P w) A (.builtin "set.update.loop" ⟨[.ref S, .ref I], []⟩) R s := by
  have offW : S ∉ wr := fun z => off (W.sub _ z)
  have more : ∀ b ∈ wr, b ∈ S :: wr := fun b z => List.mem_cons_of_mem _ z
  intro k
  induction k with
  | zero =>
    intro i s ek le st at_ fin
    obtain rfl : i = n := by omega
    refine codeAny_builtin PyProof.Rows.F.entry_set_update_loop ?_
    rw [Around.under_plainId PyProof.Rows.F.plain_set_update_loop _]
    show wpAny _ A.in1 (pyNext (.ref I) >>= _) _ _ s
    refine wpAny_bind (W.done s _ _ st fun s' mv => ?_)
    show wpAny _ A.in1 (ret Value.none) _ _ s'
    obtain ⟨M, m, g, lm, hM⟩ := at_
    exact wpAny_pure (fin s' (mv.mono more) ⟨M, m, g.keep fun o e => mv.heap S o offW e, lm, hM⟩)
  | succ k ih =>
    intro i s ek le st at_ fin
    have lt : i < n := by omega
    refine codeAny_builtin PyProof.Rows.F.entry_set_update_loop ?_
    rw [Around.under_plainId PyProof.Rows.F.plain_set_update_loop _]
    show wpAny _ A.in1 (pyNext (.ref I) >>= _) _ _ s
    refine wpAny_bind (W.item i s _ _ lt st fun v s' pv st' mv => ?_)
    obtain ⟨x, t, hx, rfl⟩ := each i v pv
    obtain ⟨M, m, g, lm, hM⟩ := at_
    have g' : SetG (txtKind P w) s'.heap S M m := g.keep fun o e => mv.heap S o offW e
    have hk : (txtKind P w).is x (.str x t) = true := strKind_is P w x t
    show wpAny _ A.in1 (holding [Value.str x t] (setAdd S (.str x t)) >>= _) _ _ s'
    refine wpAny_bind (wpAny_holding ?_)
    unfold setAdd
    refine wpAny_holding ?_
    refine wpAny_bind ((txtKind P w).pyHash hk ?_)
    refine setG_addH (s := { s' with toks := s'.toks + 1 }) hk rfl g' (by unfold scanBound; omega) fun h' but g2 => ?_
    have next : InTxt P w h' S xs (i + 1) := by
      refine ⟨_, _, g2, by split <;> omega, fun j => ?_⟩
      have e : xs.take (i + 1) = xs.take i ++ [x] := by
        rw [List.take_add_one, hx]
        rfl
      rw [Bool.or_eq_true, hM, e, List.mem_append, List.mem_singleton, decide_eq_true_iff]
    refine wpAny_pure ⟨plainId_quiet PyProof.Rows.F.plain_set_update_loop _, ih (i + 1) _ (by omega) lt (W.frame _ s' _ _ st' (Nat.le_succ _) fun b hb o e => ?_) next fun s'' mv2 at2 => ?_⟩
    · rw [but.2 b (fun z : b = S => off (by rw [← z]; exact hb))]
      exact e
    · refine fin s'' (Moved.trans W.gtrans ((mv.mono more).then_heap (Nat.le_succ _) fun b o hb e => ?_) mv2) at2
      rw [but.2 b (fun z : b = S => hb (by rw [z]; exact List.mem_cons_self))]
      exact e
end
section
variable {P : Program} {w : World} {A : Around} {E : Value → Shared → Prop} {s : Shared}
theorem call_set_txts {l : Addr} {items : Array Value} {xs : List Str} {Q : Value → Shared → Prop} (hh : A.handled = none) (hl : s.heap.IsList l items) (hi : PyProof.Rows.StrsAre items.toList xs) (few : xs.length < 64)
    (h : ∀ (h' : Heap) (tk : Nat), InTxt P w h' s.heap.objs.size xs xs.length → (∀ b o, s.heap.get? b = some o → h'.get? b = some o) → Q (.ref s.heap.objs.size) { s with heap := h', toks := tk }) :
    wpAny (model P w) A (call (.type "set") [.ref l]) Q E s := by
  obtain ⟨c, tl, hmro⟩ := PySem.F.called_set.mro
  have hmade := PySem.F.called_set.made
  have hsub := PySem.F.called_set.sub
  refine wpAny_call (codeAny_of_tree ?_)
  show wpAny _ _ (callAny (.type "set") _) _ _ _
  refine wpAny_pure ⟨Code.quiet_builtin _ (by decide +kernel), codeAny_builtin PySem.F.entry_type_call ?_⟩
  rw [Around.under_plain (weight_type_call_type "set" [.ref l] []) rfl]
  have h1 := PySem.F.called_set.notType
  have h2 := PySem.F.called_set.canCreate
  have hct := PySem.F.typeCall_set_1 (.ref l)
  repeat (any_goals (first | assumption | wp_step))
  refine codeAny_mono (code_set_led1 (.ref l) (E := E) (Q₁ := fun obj s₁ => obj = .ref s.heap.objs.size ∧ s₁ = { s with heap := s.heap.push { cls := .type "set", dict := none, data := .set #[] 0 (.fresh 0 0 (!w.params.followText "set-order")) } }) ⟨rfl, rfl⟩) fun r s₁ hr => ?_
  cases r with
  | error e => exact hr
  | ok fl =>
    cases fl with
    | ret obj =>
      obtain ⟨rfl, rfl⟩ := hr
      have hS : (s.heap.push { cls := .type "set", dict := none, data := .set #[] 0 (.fresh 0 0 (!w.params.followText "set-order")) }).get? s.heap.objs.size = some { cls := .type "set", dict := none, data := .set #[] 0 (.fresh 0 0 (!w.params.followText "set-order")) } := Heap.get?_push_size _ rfl
      have hT : Shared.TypeIs { s with heap := s.heap.push { cls := .type "set", dict := none, data := .set #[] 0 (.fresh 0 0 (!w.params.followText "set-order")) } } (.ref s.heap.objs.size) "set" := ⟨_, hS, rfl⟩
      have hli := PySem.F.called_set.init.lookup
      have hbi := PySem.F.called_set.init.bind (.ref s.heap.objs.size)
      repeat (any_goals (first | assumption | wp_step))
      refine codeAny_mono (codeAny_call_builtin (R := wants (fun r s₂ => r = .none ∧ ∃ h' tk, s₂ = { s with heap := h', toks := tk } ∧ InTxt P w h' s.heap.objs.size xs xs.length ∧ (∀ b o, s.heap.get? b = some o → h'.get? b = some o)) E) PySem.F.called_set.init.plain PySem.F.entry_set_init (check_set_init_1 hT ?_)) fun r₂ s₂ hr₂ => ?_
      · obtain ⟨ol, hol, hcl, nl, hdl⟩ := hl
        obtain ⟨ocls, odict, odata, oslots⟩ := ol
        simp only at hcl hdl
        subst hcl; subst hdl
        have hol' : (s.heap.push { cls := .type "set", dict := none, data := .set #[] 0 (.fresh 0 0 (!w.params.followText "set-order")) }).get? l = some { cls := .type "list", dict := odict, data := .seq items nl, slots := oslots } := Heap.get?_push_of_some _ hol
        have hsls := PySem.F.sub_list_set
        have hslf := PySem.F.sub_list_frozenset
        have hne : (Value.type "list" == Value.type "dict") = false := by decide
        have hl1 : (s.heap.push { cls := .type "set", dict := none, data := .set #[] 0 (.fresh 0 0 (!w.params.followText "set-order")) }).IsList l items := ⟨_, hol', rfl, nl, rfl⟩
        unfold Builtin.«set.__init__» noKeywords Builtin.Frozenset.updateFrom
        generalize hPI : pyIter = PI
        wp_walk
        subst hPI
        refine wpAny_pyIter_list hl1 ?_
        refine wpAny_bind (wpAny_runValue ?_)
        have lS : l < s.heap.objs.size := Heap.lt_size hol
        have calm3 : A.in1.in1.in1.handled = none := by simp [hh]
        have lI : l ≠ (s.heap.push { cls := .type "set", dict := none, data := .set #[] 0 (.fresh 0 0 (!w.params.followText "set-order")) }).objs.size := by
          rw [Heap.size_push]
          exact Nat.ne_of_lt (Nat.lt_succ_of_lt lS)
        have off : s.heap.objs.size ∉ [(s.heap.push { cls := .type "set", dict := none, data := .set #[] 0 (.fresh 0 0 (!w.params.followText "set-order")) }).objs.size, l] := by
          rw [Heap.size_push]
          simp only [List.mem_cons, List.mem_singleton, List.not_mem_nil, or_false, not_or]
          exact ⟨Nat.ne_of_lt (Nat.lt_succ_self _), Nat.ne_of_gt lS⟩
        have len : xs.length = items.size := by rw [← StrsAre.len_eq hi, Array.length_toList]
        have each : ∀ (i : Nat) (v : Value), items[i]? = some v → ∃ x t, xs[i]? = some x ∧ v = .str x t := fun i v hv => by
          have hv' : items.toList[i]? = some v := by rw [Array.getElem?_toList]; exact hv
          have hlt : i < xs.length := by rw [len]; exact (Array.getElem?_eq_some_iff.mp hv).1
          obtain ⟨t, ht⟩ := StrsAre.at hi (List.getElem?_eq_getElem hlt)
          rw [hv'] at ht
          exact ⟨_, t, List.getElem?_eq_getElem hlt, Option.some.inj ht⟩
        refine fill_txts ((Walks.list calm3 _ l lI items).toS) s.heap.objs.size off xs len few each (items.size - 0) 0 _ (by omega) (Nat.zero_le _) ⟨⟨_, Heap.get?_push_size _ rfl, rfl, rfl⟩, (hl1.push _)⟩ ?start ?fin
        case start =>
          have g0 := setS_fresh P (h := s.heap) w
          exact ⟨_, 0, g0.keep fun o e => Heap.get?_push_of_some _ e, Nat.le_refl _, fun k => ⟨(fun z => nomatch z), fun z => by simp at z⟩⟩
        case fin =>
          intro s' mv at_
          obtain ⟨h', g', d', tk', os'⟩ := s'
          have eg : g' = s.gens := mv.gens
          have ed : d' = s.drawn := mv.drawn
          have eo : os' = s.os := mv.os
          subst eg; subst ed; subst eo
          show wpAny _ _ _ _ _ _
          refine wpAny_pure ?_
          show wpAny _ _ (ret Value.none) _ _ _
          refine wpAny_pure ⟨rfl, h', tk', rfl, by rw [len]; exact at_, fun b o e => ?_⟩
          have b1 : b ≠ s.heap.objs.size := Nat.ne_of_lt (Heap.lt_size e)
          have b2 : b ≠ (s.heap.push { cls := .type "set", dict := none, data := .set #[] 0 (.fresh 0 0 (!w.params.followText "set-order")) }).objs.size := by
            rw [Heap.size_push]
            exact Nat.ne_of_lt (Nat.lt_succ_of_lt (Heap.lt_size e))
          exact mv.heap b o (by simp only [List.mem_cons, List.mem_singleton, List.not_mem_nil, or_false, not_or]; exact ⟨b1, b2⟩) (Heap.get?_push_of_some _ (Heap.get?_push_of_some _ e))
      · cases r₂ with
        | error e => exact hr₂
        | ok fl₂ =>
          cases fl₂ with
          | ret r =>
            obtain ⟨rfl, h', tk, rfl, at_, keeps⟩ := hr₂
            repeat (any_goals (first | assumption | wp_step))
            exact h _ _ at_ keeps
          | _ => exact hr₂.elim
    | _ => exact hr.elim
end
/-- set(xs), xs a list of texts -/
def rSetTxt (K : PySem.W.Frag) (P : Program) (w : World) : List V → Hp → VK → Prop := fun vs H Q => ∃ (l : Addr) (xs : List Str), vs = [V.ref l] ∧ SqL K H l (xs.map V.str) ∧ xs.length < 64 ∧
  ∀ (a : Addr) (M : Str → Bool) (m : Nat), H a = none → m ≤ xs.length → (∀ k, M k = true ↔ k ∈ xs) → Q (.ref a) (upd H a (SetSO P w a M m))
theorem cr_setTxt {X : Cx} (hc : X.calm = true) : CallR X (.type "set") (rSetTxt X.K X.prog X.w) := by
  intro pins s σ H vs us Q I r h
  obtain ⟨l, xs, rfl, hl, few, q⟩ := h
  rw [Vals.ref1 r]
  obtain ⟨its, rv, pl, hz⟩ := I.list hl
  have hn : H s.heap.objs.size = none := I.hok.fresh (Nat.le_refl _)
  refine call_set_txts (P := X.prog) (w := X.w) (I.ok.hd hc) pl.isList (by simpa using strsAre_of rv) few fun h' tk at_ k => ?_
  obtain ⟨M, m, g, lm, hM⟩ := at_
  rw [List.take_length] at hM
  exact ⟨.ref s.heap.objs.size, upd H s.heap.objs.size (SetSO X.prog X.w s.heap.objs.size M m), I.laid (t' := tk) k (Nat.le_refl _) (setSO_new g), rfl, q _ M m hn lm hM⟩
end PX
/-! repr of a text and by an own method; sorted texts are determined by what they are. -/
namespace PX
open PySem PySem.Spec PyProof.Rows L2
section
variable {X : Cx} {CX : CXT} {k : Nat} {C f : Addr} {fd : FuncData} {ps : List Str} {sp : Sp} {E : XK}
theorem call_reprS : CallR X (.builtin "repr") (fun xs H Q => ∃ z : Str, xs = [.str z] ∧ (reprText z).length ≤ sizeLine ∧ Q (.str (reprText z)) H) := by
  intro pins s σ H xs us Q I r h
  obtain ⟨z, rfl, hz, q⟩ := h
  obtain ⟨u, rfl, t, rfl⟩ := vals1 r
  exact PySem.P.repr_of_str ⟨.str _, H, I.tok _, ⟨_, rfl⟩, q⟩ hz
/-- repr(x) by the class's own method -/
theorem call_reprC (M : OwnM X.K C "__repr__" f) (F : FnOk X.prog X.w X.K X.mg X.base CX k f fd ps sp) (hr : Room (k + 1) X.A) (hb : Binds X.K fd ps []) (hx : Passes CX X.nox E) :
    CallR X (.builtin "repr") (fun xs H Q => ∃ (a dx : Addr) (fs : List (Str × V)), xs = [.ref a] ∧ H a = some (.ins C dx fs) ∧ sp [.ref a] H (fun v H' => ∃ z : Str, v = .str z ∧ Q (.str z) H') E) := by
  intro pins s σ H xs us Q I r h
  obtain ⟨a, dx, fs, rfl, ea, q⟩ := h
  obtain ⟨u0, rfl, rx⟩ := vals1 r
  cases rx
  obtain ⟨mA, O, _⟩ := ins_get I.hok ea
  obtain ⟨od, J, _⟩ := O.look
  obtain ⟨m, hF⟩ := I.fr
  refine PySem.W.repr_K hr.in1.units0 hF I.ok.mod.kin J M.at_ M.fn ?_
  refine wpAny_mono (own_run (vs := [.ref a]) hr.in1 I.env0.in1 F hb hx I (.cons rfl .nil) q) (fun u s' z => ?_) fun _ _ z => z
  obtain ⟨v, H', I', rv, y, ev, q'⟩ := z
  subst ev
  obtain ⟨t, rfl⟩ := rv
  exact ⟨.str y, H', I', ⟨t, rfl⟩, q'⟩
end
/-! ### the order of texts -/
abbrev leS (a b : Str) : Prop := a.cps.toList ≤ b.cps.toList
theorem leS_of {a b : Str} (h : ltCps b.cps.toList a.cps.toList = false) : leS a b := by
  rw [ltCps_eq, decide_eq_false_iff_not] at h
  exact List.not_lt.mp h
theorem rising_pw : ∀ (l : List Str) (p : Str), risingS p l = true → (p :: l).Pairwise leS
  | [], p, _ => List.pairwise_singleton _ _
  | x :: r, p, h => by
    have h : (!ltCps x.cps.toList p.cps.toList && risingS x r) = true := h
    rw [Bool.and_eq_true, Bool.not_eq_true'] at h
    have ih := rising_pw r x h.2
    refine List.pairwise_cons.mpr ⟨fun y hy => ?_, ih⟩
    have px := leS_of h.1
    rcases List.mem_cons.mp hy with e | z
    · rw [e]
      exact px
    · exact List.le_trans px ((List.pairwise_cons.mp ih).1 y z)
theorem sorted_pw {l : List Str} (h : sortedS l = true) : l.Pairwise leS := by
  cases l with
  | nil => exact .nil
  | cons x r => exact rising_pw r x h
theorem str_ext {a b : Str} (h : a.cps.toList = b.cps.toList) : a = b := by
  obtain ⟨x⟩ := a
  obtain ⟨y⟩ := b
  exact congrArg Str.mk (Array.toList_inj.mp h)
theorem sorted_uniq {xs ys : List Str} (h1 : sortedS xs = true) (h2 : sortedS ys = true) (n1 : xs.Nodup) (n2 : ys.Nodup) (m : ∀ x, x ∈ xs ↔ x ∈ ys) : xs = ys := by
  have p : xs.Perm ys := (List.perm_ext_iff_of_nodup n1 n2).mpr m
  exact List.Perm.eq_of_pairwise (le := leS) (fun a b _ _ q1 q2 => str_ext (List.le_antisymm q1 q2)) (sorted_pw h1) (sorted_pw h2) p
theorem NamesOk.uniq {a b l : List Str} (h1 : NamesOk a l) (h2 : NamesOk b l) : a = b := sorted_uniq h1.srt h2.srt h1.nd h2.nd fun x => (h1.mem x).trans (h2.mem x).symm
/-! ### repr of words and of tuples of words -/
def wordB (x : Str) : Bool := decide (x.length ≤ 20) && signsD (.str x)
theorem word_repr {x : Str} (h : wordB x = true) : (reprText x).length ≤ sizeLine := by
  unfold wordB at h
  rw [Bool.and_eq_true, decide_eq_true_eq] at h
  have := shown_le (.str x) rfl h.2
  have e : (PyData.str x).shown = reprText x := rfl
  rw [e] at this
  have c : costD (.str x) = 10 * x.length + 2 := rfl
  rw [sizeLine_eq]
  omega
theorem words_facts {K : PySem.W.Frag} {a : Addr} {ns : List Str} {H : Hp} (hq : SqT K H a (ns.map V.str)) (hw : ∀ x ∈ ns, wordB x = true) (few : ns.length ≤ 1000) :
    Dp K H (.ref a) (.tuple (ns.map .str)) ∧ (PyData.tuple (ns.map .str)).showable = true ∧ (PyData.tuple (ns.map .str)).hasDict = false ∧ (PyData.tuple (ns.map .str)).depth ≤ 60 ∧ (PyData.tuple (ns.map .str)).shown.length ≤ sizeLine := by
  have all : ∀ l : List Str, DpAll K H (l.map V.str) (l.map PyData.str) := by
    intro l
    induction l with
    | nil => exact .nil
    | cons x r ih => exact .cons (.str x) ih
  have cost : costL (ns.map PyData.str) ≤ ns.length * (202 + 2) := cost_map PyData.str 202 ns fun x hx => by
    have := hw x hx
    unfold wordB at this
    rw [Bool.and_eq_true, decide_eq_true_eq] at this
    show 10 * x.length + 2 ≤ 202
    omega
  have h1 : (PyData.tuple (ns.map .str)).showable = true := by
    show PyData.showableAll _ = true
    exact showable_map _ ns fun x hx => rfl
  have h2 : signsD (PyData.tuple (ns.map .str)) = true := by
    show signsL _ = true
    exact signs_map _ ns fun x hx => by
      have := hw x hx
      unfold wordB at this
      rw [Bool.and_eq_true] at this
      exact this.2
  refine ⟨.tup hq (all ns), h1, ?_, ?_, ?_⟩
  · show PyData.hasDictAll _ = false
    exact nodict_map _ ns fun x _ => rfl
  · have := depth_map PyData.str 0 ns fun x _ => Nat.le_refl _
    show PyData.depthAll _ + 1 ≤ 60
    omega
  · have s := shown_le _ h1 h2
    have c : costD (PyData.tuple (ns.map .str)) = costL (ns.map PyData.str) + 3 := rfl
    have : ns.length * (202 + 2) ≤ 1000 * (202 + 2) := Nat.mul_le_mul_right _ few
    rw [sizeLine_eq]
    omega
/-! ### zip of two tuples -/
theorem walk_zipT {K : PySem.W.Frag} {a b : Addr} {xs ys : List V} (hl : xs.length = ys.length) : Walk (RZ.ItzT K a b) xs.length (fun H => SqT K H a xs ∧ SqT K H b ys) (YPair (fun i => xs[i]?) (fun i => ys[i]?)) := by
  refine ⟨fun i _ hi q => ⟨xs, ys, xs[i], ys[i]'(hl ▸ hi), q.1, q.2, by simp [hi], by simp [← hl, hi]⟩, fun _ q => ⟨xs, ys, q.1, q.2, .inl (Nat.le_refl _)⟩, fun i H v H' _ q y => ?_⟩
  obtain ⟨T, x, y, h1, h2, h3, h4, h5⟩ := y
  exact ⟨T, x, y, h1, h2, h3, h4 xs q.1, h5 ys q.2⟩
end PX
namespace PX
open PySem PySem.Spec PyProof.Rows L2
/-! ### rules in the place of names -/
mutual
def substR (ρ : Str → Option RT) : RT → RT
  | .base n => (ρ n).getD (.base n)
  | .op w ps => .op w (substRs ρ ps)
def substRs (ρ : Str → Option RT) : List RT → List RT
  | [] => []
  | p :: r => substR ρ p :: substRs ρ r
end
variable {ρ : Str → Option RT}
theorem substRs_len : ∀ ps : List RT, (substRs ρ ps).length = ps.length
  | [] => rfl
  | p :: r => congrArg (· + 1) (substRs_len r)
theorem substRs_map : ∀ ps : List RT, substRs ρ ps = ps.map (substR ρ)
  | [] => rfl
  | p :: r => congrArg (substR ρ p :: ·) (substRs_map r)
/-- the tables with the results of the rules under their names -/
def besideT (ρ : Str → Option RT) (tb : Str → Tab) (n : Str) : Tab := ((ρ n).map (evalT tb)).getD (tb n)
mutual
theorem eval_subst (tb : Str → Tab) : ∀ r : RT, evalT tb (substR ρ r) = evalT (besideT ρ tb) r
  | .base n => by
    show evalT tb ((ρ n).getD (.base n)) = besideT ρ tb n
    unfold besideT
    cases ρ n with
    | none => rfl
    | some q => rfl
  | .op w ps => by
    show combT w (evalTs tb (substRs ρ ps)) = combT w (evalTs (besideT ρ tb) ps)
    rw [eval_substs tb ps]
theorem eval_substs (tb : Str → Tab) : ∀ ps : List RT, evalTs tb (substRs ρ ps) = evalTs (besideT ρ tb) ps
  | [] => rfl
  | p :: r => by
    show evalT tb (substR ρ p) :: evalTs tb (substRs ρ r) = evalT (besideT ρ tb) p :: evalTs (besideT ρ tb) r
    rw [eval_subst tb p, eval_substs tb r]
end
/-! ### the stack of replaced -/
def pushS (ρ : Str → Option RT) (stk : List RT) : RT → List RT
  | .base n => stk ++ [(ρ n).getD (.base n)]
  | .op w ps => stk.take (stk.length - ps.length) ++ [.op w (stk.drop (stk.length - ps.length))]
theorem push_on (w : Str) (ps : List RT) (st ts : List RT) (h : ts.length = ps.length) : pushS ρ (st ++ ts) (.op w ps) = st ++ [.op w ts] := by
  have e : (st ++ ts).length - ps.length = st.length := by rw [List.length_append]; omega
  show (st ++ ts).take ((st ++ ts).length - ps.length) ++ [RT.op w ((st ++ ts).drop ((st ++ ts).length - ps.length))] = _
  rw [e, List.take_left, List.drop_left]
mutual
theorem push_subs : ∀ (r : RT) (stk : List RT), r.subs.foldl (pushS ρ) stk = stk ++ [substR ρ r]
  | .base n, stk => rfl
  | .op w ps, stk => by
    rw [RT.subs_kids, List.foldl_append]
    show pushS ρ ((subsL ps).foldl (pushS ρ) stk) (.op w ps) = _
    rw [push_subsL ps stk, push_on _ _ _ _ (substRs_len ps)]
    rfl
theorem push_subsL : ∀ (ps : List RT) (stk : List RT), (subsL ps).foldl (pushS ρ) stk = stk ++ substRs ρ ps
  | [], stk => (List.append_nil stk).symm
  | p :: r, stk => by
    show (p.subs ++ subsL r).foldl (pushS ρ) stk = _
    rw [List.foldl_append, push_subs p stk, push_subsL r, List.append_assoc]
    rfl
end
mutual
theorem at_push : ∀ (r : RT) (pre : List RT) (x : RT) (post : List RT) (stk : List RT), r.subs = pre ++ x :: post → ∃ st, pre.foldl (pushS ρ) stk = st ++ substRs ρ x.kids
  | .base n, pre, x, post, stk, h => by
    match pre, (show [RT.base n] = pre ++ x :: post from h) with
    | [], h =>
      cases h
      exact ⟨stk, (List.append_nil stk).symm⟩
    | a :: q, h =>
      have := congrArg List.length h
      simp at this
  | .op w ps, pre, x, post, stk, h => by
    rw [RT.subs_kids] at h
    rcases List.append_eq_append_iff.mp (show subsL ps ++ [RT.op w ps] = pre ++ x :: post from h) with ⟨q, e1, e2⟩ | ⟨q, e1, e2⟩
    · match q, e1, e2 with
      | [], e1, e2 =>
        rw [List.append_nil] at e1
        obtain rfl : RT.op w ps = x := (List.cons.inj e2).1
        exact ⟨stk, e1 ▸ push_subsL ps stk⟩
      | a :: q, e1, e2 =>
        have := congrArg List.length e2
        simp at this
    · match q, e1, e2 with
      | [], e1, e2 =>
        rw [List.append_nil] at e1
        obtain rfl : x = RT.op w ps := (List.cons.inj e2).1
        exact ⟨stk, e1 ▸ push_subsL ps stk⟩
      | a :: q, e1, e2 =>
        obtain rfl : x = a := (List.cons.inj e2).1
        exact at_pushL ps pre x q stk e1
theorem at_pushL : ∀ (ps : List RT) (pre : List RT) (x : RT) (post : List RT) (stk : List RT), subsL ps = pre ++ x :: post → ∃ st, pre.foldl (pushS ρ) stk = st ++ substRs ρ x.kids
  | [], pre, x, post, stk, h => by
    have := congrArg List.length h
    simp [subsL] at this
  | p :: r, pre, x, post, stk, h => by
    rcases List.append_eq_append_iff.mp (show p.subs ++ subsL r = pre ++ x :: post from h) with ⟨q, e1, e2⟩ | ⟨q, e1, e2⟩
    · rw [e1, List.foldl_append]
      exact at_pushL r q x post _ e2
    · match q, e1, e2 with
      | [], e1, e2 =>
        rw [List.append_nil] at e1
        obtain ⟨st, e⟩ := at_pushL r [] x post (pre.foldl (pushS ρ) stk) e2.symm
        exact ⟨st, e⟩
      | a :: q, e1, e2 =>
        obtain rfl : x = a := (List.cons.inj e2).1
        exact at_push p pre x q stk e1
end
/-! ### sizes -/
/-- the rules that come in are small -/
structure SmallR (ns : List Str) (K Z : Nat) (ρ : Str → Option RT) : Prop where
  k1 : 1 ≤ K
  z1 : 1 ≤ Z
  nodes : ∀ n q, ρ n = some q → q.subs.length ≤ K
  wt : ∀ n q, ρ n = some q → q.wt ≤ Z
  bs : ∀ n q, ρ n = some q → ∀ x ∈ q.bases, x ∈ ns
  base : ∀ n q, ρ n = some q → ∀ x, RT.base x ∈ q.subs → x ∈ ns
  fits : ∀ n q, ρ n = some q → ∀ w ps, RT.op w ps ∈ q.subs → fitsW w ps.length
mutual
theorem subst_nodes {ns : List Str} {K Z : Nat} (S : SmallR ns K Z ρ) : ∀ r : RT, (substR ρ r).subs.length ≤ r.subs.length * K
  | .base n => by
    show ((ρ n).getD (.base n)).subs.length ≤ 1 * K
    have k1 := S.k1
    cases e : ρ n with
    | none =>
      show 1 ≤ 1 * K
      omega
    | some q =>
      have := S.nodes n q e
      show q.subs.length ≤ 1 * K
      omega
  | .op w ps => by
    have h := subst_nodesL S ps
    have k1 := S.k1
    show (subsL (substRs ρ ps) ++ [RT.op w (substRs ρ ps)]).length ≤ (subsL ps ++ [RT.op w ps]).length * K
    rw [List.length_append, List.length_append, List.length_singleton, List.length_singleton, Nat.add_mul]
    omega
theorem subst_nodesL {ns : List Str} {K Z : Nat} (S : SmallR ns K Z ρ) : ∀ ps : List RT, (subsL (substRs ρ ps)).length ≤ (subsL ps).length * K
  | [] => Nat.zero_le _
  | p :: r => by
    have h1 := subst_nodes S p
    have h2 := subst_nodesL S r
    show ((substR ρ p).subs ++ subsL (substRs ρ r)).length ≤ (p.subs ++ subsL r).length * K
    rw [List.length_append, List.length_append, Nat.add_mul]
    omega
end
mutual
theorem subst_wt {ns : List Str} {K Z : Nat} (S : SmallR ns K Z ρ) : ∀ r : RT, (substR ρ r).wt ≤ r.wt * Z
  | .base n => by
    show ((ρ n).getD (.base n)).wt ≤ (n.length + 1) * Z
    have z1 := S.z1
    have h : 1 * Z ≤ (n.length + 1) * Z := Nat.mul_le_mul_right Z (by omega)
    cases e : ρ n with
    | none =>
      show n.length + 1 ≤ (n.length + 1) * Z
      exact Nat.le_mul_of_pos_right _ z1
    | some q =>
      have := S.wt n q e
      show q.wt ≤ _
      omega
  | .op w ps => by
    have h := subst_wtL S ps
    have z1 := S.z1
    have h2 : w.length + 3 ≤ (w.length + 3) * Z := Nat.le_mul_of_pos_right _ z1
    show w.length + 3 + wts (substRs ρ ps) ≤ (w.length + 3 + wts ps) * Z
    rw [Nat.add_mul]
    omega
theorem subst_wtL {ns : List Str} {K Z : Nat} (S : SmallR ns K Z ρ) : ∀ ps : List RT, wts (substRs ρ ps) ≤ wts ps * Z
  | [] => Nat.zero_le _
  | p :: r => by
    have h1 := subst_wt S p
    have h2 := subst_wtL S r
    have z1 := S.z1
    show (substR ρ p).wt + 2 + wts (substRs ρ r) ≤ (p.wt + 2 + wts r) * Z
    rw [Nat.add_mul, Nat.add_mul]
    omega
end
mutual
theorem subst_bases {ns : List Str} {K Z : Nat} (S : SmallR ns K Z ρ) : ∀ r : RT, (∀ x ∈ r.bases, x ∈ ns) → ∀ x ∈ (substR ρ r).bases, x ∈ ns
  | .base n, h, x, hx => by
    have hx : x ∈ ((ρ n).getD (.base n)).bases := hx
    cases e : ρ n with
    | none =>
      rw [e] at hx
      exact h x hx
    | some q =>
      rw [e] at hx
      exact S.bs n q e x hx
  | .op w ps, h, x, hx => subst_basesL S ps h x hx
theorem subst_basesL {ns : List Str} {K Z : Nat} (S : SmallR ns K Z ρ) : ∀ ps : List RT, (∀ x ∈ basesL ps, x ∈ ns) → ∀ x ∈ basesL (substRs ρ ps), x ∈ ns
  | [], _, x, hx => nomatch hx
  | p :: r, h, x, hx => by
    rcases List.mem_append.mp (show x ∈ (substR ρ p).bases ++ basesL (substRs ρ r) from hx) with z | z
    · exact subst_bases S p (fun y hy => h y (List.mem_append_left _ hy)) x z
    · exact subst_basesL S r (fun y hy => h y (List.mem_append_right _ hy)) x z
end
mutual
theorem subst_mem : ∀ (r : RT) (x : RT), x ∈ (substR ρ r).subs → (∃ n q, ρ n = some q ∧ x ∈ q.subs) ∨ (∃ n, x = .base n ∧ RT.base n ∈ r.subs) ∨ ∃ w ps, x = .op w (substRs ρ ps) ∧ RT.op w ps ∈ r.subs
  | .base n, x, hx => by
    have hx : x ∈ ((ρ n).getD (.base n)).subs := hx
    cases e : ρ n with
    | none =>
      rw [e] at hx
      exact .inr (.inl ⟨n, List.mem_singleton.mp hx, List.mem_cons_self⟩)
    | some q =>
      rw [e] at hx
      exact .inl ⟨n, q, e, hx⟩
  | .op w ps, x, hx => by
    rcases List.mem_append.mp (show x ∈ subsL (substRs ρ ps) ++ [RT.op w (substRs ρ ps)] from hx) with z | z
    · rcases subst_memL ps x z with h | ⟨n, h1, h2⟩ | ⟨v, qs, h1, h2⟩
      · exact .inl h
      · exact .inr (.inl ⟨n, h1, List.mem_append_left _ h2⟩)
      · exact .inr (.inr ⟨v, qs, h1, List.mem_append_left _ h2⟩)
    · exact .inr (.inr ⟨w, ps, List.mem_singleton.mp z, List.mem_append_right _ List.mem_cons_self⟩)
theorem subst_memL : ∀ (ps : List RT) (x : RT), x ∈ subsL (substRs ρ ps) → (∃ n q, ρ n = some q ∧ x ∈ q.subs) ∨ (∃ n, x = .base n ∧ RT.base n ∈ subsL ps) ∨ ∃ w qs, x = .op w (substRs ρ qs) ∧ RT.op w qs ∈ subsL ps
  | [], x, hx => nomatch hx
  | p :: r, x, hx => by
    rcases List.mem_append.mp (show x ∈ (substR ρ p).subs ++ subsL (substRs ρ r) from hx) with z | z
    · rcases subst_mem p x z with h | ⟨n, h1, h2⟩ | ⟨v, qs, h1, h2⟩
      · exact .inl h
      · exact .inr (.inl ⟨n, h1, List.mem_append_left _ h2⟩)
      · exact .inr (.inr ⟨v, qs, h1, List.mem_append_left _ h2⟩)
    · rcases subst_memL r x z with h | ⟨n, h1, h2⟩ | ⟨v, qs, h1, h2⟩
      · exact .inl h
      · exact .inr (.inl ⟨n, h1, List.mem_append_right _ h2⟩)
      · exact .inr (.inr ⟨v, qs, h1, List.mem_append_right _ h2⟩)
end
theorem leafs_le (tb : Str → Tab) (m : Nat) (h : ∀ n, (tb n).length ≤ m) : ∀ l : List RT, leafs tb l ≤ l.length * m
  | [] => Nat.zero_le _
  | .base n :: r => by
    have := leafs_le tb m h r
    have := h n
    simp only [leafs, List.length_cons, Nat.succ_mul]
    omega
  | .op _ _ :: r => by
    have := leafs_le tb m h r
    simp only [leafs, List.length_cons, Nat.succ_mul]
    omega
theorem Fit.subst {ns : List Str} {K Z k l z : Nat} {r : RT} (S : SmallR ns K Z ρ) (f : Fit ns k l z r) : Fit ns (k * K) (k * K) (z * Z) (substR ρ r) := by
  have hn : (substR ρ r).subs.length ≤ k * K := Nat.le_trans (subst_nodes S r) (Nat.mul_le_mul_right K f.fine.cnt)
  refine ⟨⟨hn, fun n hx => ?_, fun w ps hx => ?_, fun tb m hm => Nat.le_trans (leafs_le tb m hm _) (Nat.mul_le_mul_right m hn)⟩, Nat.le_trans (subst_wt S r) (Nat.mul_le_mul_right Z f.wt), subst_bases S r f.bs⟩
  · rcases subst_mem r _ hx with ⟨y, q, h1, h2⟩ | ⟨y, h1, h2⟩ | ⟨v, qs, h1, h2⟩
    · exact S.base y q h1 n h2
    · cases h1
      exact f.fine.base n h2
    · cases h1
  · rcases subst_mem r _ hx with ⟨y, q, h1, h2⟩ | ⟨y, h1, h2⟩ | ⟨v, qs, h1, h2⟩
    · exact S.fits y q h1 w ps h2
    · cases h1
    · cases h1
      rw [substRs_len]
      exact f.fine.fits w qs h2
mutual
theorem subs_wt : ∀ (r x : RT), x ∈ r.subs → x.wt ≤ r.wt
  | .base n, x, h => by
    rw [List.mem_singleton.mp (show x ∈ [RT.base n] from h)]
    exact Nat.le_refl _
  | .op w ps, x, h => by
    rcases List.mem_append.mp (show x ∈ subsL ps ++ [RT.op w ps] from h) with z | z
    · have := subsL_wt ps x z
      show x.wt ≤ w.length + 3 + wts ps
      omega
    · rw [List.mem_singleton.mp z]
      exact Nat.le_refl _
theorem subsL_wt : ∀ (ps : List RT) (x : RT), x ∈ subsL ps → x.wt ≤ wts ps
  | [], x, h => nomatch h
  | p :: r, x, h => by
    rcases List.mem_append.mp (show x ∈ p.subs ++ subsL r from h) with z | z
    · have := subs_wt p x z
      show x.wt ≤ p.wt + 2 + wts r
      omega
    · have := subsL_wt r x z
      show x.wt ≤ p.wt + 2 + wts r
      omega
end
mutual
theorem subs_bases : ∀ (r x : RT), x ∈ r.subs → ∀ y ∈ x.bases, y ∈ r.bases
  | .base n, x, h, y, hy => by
    rw [List.mem_singleton.mp (show x ∈ [RT.base n] from h)] at hy
    exact hy
  | .op w ps, x, h, y, hy => by
    rcases List.mem_append.mp (show x ∈ subsL ps ++ [RT.op w ps] from h) with z | z
    · exact subsL_bases ps x z y hy
    · rw [List.mem_singleton.mp z] at hy
      exact hy
theorem subsL_bases : ∀ (ps : List RT) (x : RT), x ∈ subsL ps → ∀ y ∈ x.bases, y ∈ basesL ps
  | [], x, h, _, _ => nomatch h
  | p :: r, x, h, y, hy => by
    rcases List.mem_append.mp (show x ∈ p.subs ++ subsL r from h) with z | z
    · exact List.mem_append_left _ (subs_bases p x z y hy)
    · exact List.mem_append_right _ (subsL_bases r x z y hy)
end
mutual
theorem flat_subs : ∀ r : RT, r.flat.length = r.subs.length
  | .base n => rfl
  | .op w ps => by
    have h := flats_subs ps
    show (w :: flats ps).length = (subsL ps ++ [RT.op w ps]).length
    rw [List.length_cons, List.length_append, h]
    rfl
theorem flats_subs : ∀ ps : List RT, (flats ps).length = (subsL ps).length
  | [] => rfl
  | p :: r => by
    show (p.flat ++ flats r).length = (p.subs ++ subsL r).length
    rw [List.length_append, List.length_append, flat_subs p, flats_subs r]
end
mutual
/-- what a rule weighs, by its nodes -/
theorem wt_nodes {ns : List Str} (hn : ∀ n ∈ ns, n.length ≤ 6) : ∀ r : RT, (∀ x ∈ r.bases, x ∈ ns) → (∀ w ps, RT.op w ps ∈ r.subs → w.length ≤ 7) → r.wt + 2 ≤ r.subs.length * 14
  | .base n, h, _ => by
    have := hn n (h n List.mem_cons_self)
    show n.length + 1 + 2 ≤ 1 * 14
    omega
  | .op w ps, h, hw => by
    have h1 := wt_nodesL hn ps h fun v qs hq => hw v qs (List.mem_append_left _ hq)
    have h2 := hw w ps (List.mem_append_right _ List.mem_cons_self)
    show w.length + 3 + wts ps + 2 ≤ (subsL ps ++ [RT.op w ps]).length * 14
    rw [List.length_append, List.length_singleton, Nat.add_mul]
    omega
theorem wt_nodesL {ns : List Str} (hn : ∀ n ∈ ns, n.length ≤ 6) : ∀ ps : List RT, (∀ x ∈ basesL ps, x ∈ ns) → (∀ w qs, RT.op w qs ∈ subsL ps → w.length ≤ 7) → wts ps ≤ (subsL ps).length * 14
  | [], _, _ => Nat.zero_le _
  | p :: r, h, hw => by
    have h1 := wt_nodes hn p (fun x hx => h x (List.mem_append_left _ hx)) fun v qs hq => hw v qs (List.mem_append_left _ hq)
    have h2 := wt_nodesL hn r (fun x hx => h x (List.mem_append_right _ hx)) fun v qs hq => hw v qs (List.mem_append_right _ hq)
    show p.wt + 2 + wts r ≤ (p.subs ++ subsL r).length * 14
    rw [List.length_append, Nat.add_mul]
    omega
end
end PX
/-! Own exception classes over any built-in one, whose __init__ calls the built-in's and sets fields: made, to be raised. -/
namespace PX
open PySem PySem.Spec PyProof.Rows L2
/-- what is known of the built-in class above -/
structure BaseX (B newId initId : String) (bmB : List Value) : Prop where
  ini : ∀ {prog : Program} {w : World} {A : Around} {R : Result → Shared → Prop} {h : Heap} {g : Array GenState} {d : Drawn} {t : Nat} {os : OsState} {nm q : Str} {C N : Addr} {bs bm : List Value} {hdct : Bool} {sn : List Str} {sub : List Value} {ab : Bool} {col : Option Bool} {dd : Option Addr} {k0 k1 k2 k3 k5 : Option Value}
    (_ : ∀ X : String, bm.contains (.type X) = bmB.contains (.type X)) {e t0 : Addr} {rest : List Value} (_ : h.get? C = some (excClassObj nm q C N bs bm hdct sn sub ab col dd k0 k1 k2 k3 k5 newId)) (_ : h.get? e = some (PySem.HandSPX.excO C t0)) (_ : rest.length ≤ sizeLine)
    (_ : ∀ h' t1, (∀ b o, b ≠ e → h.get? b = some o → h'.get? b = some o) → h'.get? e = some (PySem.HandSPX.excO C t1) → R (.ok (.ret .none)) ⟨h', g, d, t, os⟩), codeAny (model prog w) A (.call (.builtin initId) ⟨.ref e :: rest, []⟩) R ⟨h, g, d, t, os⟩
  own : ∀ {prog : Program} {w : World} {A : Around} {R : Result → Shared → Prop} {h : Heap} {g : Array GenState} {d : Drawn} {t : Nat} {os : OsState} {nm q : Str} {C N : Addr} {bs bm : List Value} {hdct : Bool} {sn : List Str} {sub : List Value} {ab : Bool} {col : Option Bool} {dd : Option Addr} {k0 k1 k2 k3 k5 : Option Value}
    (_ : ∀ X : String, bm.contains (.type X) = bmB.contains (.type X)) {rest : List Value} {fI : Addr} (_ : h.get? C = some (excClassObj nm q C N bs bm hdct sn sub ab col dd k0 k1 k2 k3 k5 newId))
    (_ : PySem.W.Looks (model prog w) h (typeLookup (.ref C) "__init__") (some (.ref fI))) (_ : ∀ self, PySem.W.Looks (model prog w) h (bindSpecial (.ref fI) self) (.ref fI, [self])) (_ : rest.length ≤ sizeLine)
    (_ : codeAny (model prog w) (A.under (.builtin "type.__call__" ⟨.ref C :: rest, []⟩)) (.call (.ref fI) ⟨.ref (h.objs.size + 1) :: rest, []⟩) (PySem.W.InitBack (h.objs.size + 1) R) ⟨(h.push (PySem.W.kdv_tup rest)).push (PySem.HandSPX.excO C h.objs.size), g, d, t, os⟩),
    codeAny (model prog w) A (.call (.ref C) ⟨rest, []⟩) R ⟨h, g, d, t, os⟩
  store : StoreFacts B bmB "object.__setattr__" "object"
  typ : typeOf (.type B) = pure (.type "type")
  stub : Manifest.isStub B = false
theorem BaseX.of {B newId initId : String} {bmB : List Value} (F : ExcBaseFacts B newId initId bmB) (S : StoreFacts B bmB "object.__setattr__" "object") (T : typeOf (.type B) = pure (.type "type")) (st : Manifest.isStub B = false) : BaseX B newId initId bmB :=
  ⟨by intros _ _ _ _ _ _ _ _ _ _ _ _ _ _ _ _ _ _ _ _ _ _ _ _ _ _ hT _ _ _ hC he hr hq; exact PySem.HandSPX.init_base F hT hC he hr hq, by intros _ _ _ _ _ _ _ _ _ _ _ _ _ _ _ _ _ _ _ _ _ _ _ _ _ _ hT _ _ hC hi hb hr hq; exact PySem.HandSPX.call_own F hT hC hi hb hr hq, S, T, st⟩
/-- what the written part says of the class -/
structure OwnX (K : PySem.W.Frag) (C : Addr) (B newId : String) (bmB : List Value) : Prop where
  ini : PySem.W.excInitIn K C bmB newId = true
  over : PySem.W.excOver K C bmB = true
  hasD : PySem.W.hasDictIn K C = true
  sa : PySem.W.findIn K (.ref C) "__setattr__" = some (some (.builtin "object.__setattr__"))
  exC : PySem.W.subIn K (.ref C) (.type "BaseException") = some true
  tyC : PySem.W.typeIn K (.ref C) = some (.type "type")
  kC : PySem.W.keepIn K (.ref C) = true
section
open Builtin Builtin.ObjectAttr
variable {prog : Program} {w : World} {A : Around} {E : Value → Shared → Prop} {R : Result → Shared → Prop} {hp : Heap} {g : Array GenState} {d : Drawn} {t : Nat} {os : OsState} {K : PySem.W.Frag} {x C : Addr} {B : String} {bmB : List Value}
theorem cls_hasD (h : PySem.W.hasDictIn K C = true) : ∃ cd, PySem.W.clsIn K C = some cd ∧ cd.hasDict = true := PySem.W.any_some h
theorem set_first {name : Str} {tk : Tok} {v : Value} {fv : Array Value} (SF : StoreFacts B bmB "object.__setattr__" "object") (X : K.In hp) (hx : hp.get? x = some { cls := .ref C, data := .fields fv }) (ho : PySem.W.excOver K C bmB = true) (hd : PySem.W.hasDictIn K C = true) (ht : PySem.W.takerIn K C name = some none)
    (hq : ∀ h' tk' dx, (∀ b o, b ≠ x → hp.get? b = some o → h'.get? b = some o) → hp.objs.size ≤ dx → dx ≠ x → h'.get? x = some { cls := .ref C, dict := some dx, data := .fields fv } → h'.Ns1 dx (fun y => if y = name then some v else none) → R (.ok (.ret .none)) ⟨h', g, d, tk', os⟩) :
    codeAny (model prog w) A (.call (.builtin "object.__setattr__") ⟨[.ref x, .str name tk, v], []⟩) R ⟨hp, g, d, t, os⟩ := by
  have xs : x ≠ hp.objs.size := Nat.ne_of_lt (Heap.lt_size hx)
  obtain ⟨cd, hc, has⟩ := cls_hasD hd
  have look : PySem.W.Looks (model prog w) hp (classData C) cd := PySem.W.looks_clsIn X hc
  refine PySem.W.osa_openX (s := ⟨hp, g, d, t, os⟩) (od := none) SF X ⟨hx, rfl, rfl, trivial⟩ ho ht fun b => ?_
  show wpAny _ _ (storeInOwnDict (.ref x) (.ref C) (.str name tk) name v b) _ _ _
  obtain ⟨nm, bs, mro, ns, qn, hasDict, sn, sb, ab, col, del⟩ := cd
  dsimp only at has
  subst has
  unfold storeInOwnDict ownDictForStores
  repeat (first | with_reducible refine PySem.HandSPX.store_in_new ?_ ?_ | with_reducible refine wpAny_loadPart_at hx ?_ | with_reducible refine look.at ?_ | wp_step)
  · exact ⟨_, #[], _, (Heap.get?_update_ne _ _ _ _ xs.symm).trans (Heap.get?_push_at rfl rfl), rfl, fun e he => absurd he (by simp), fun _ => rfl⟩
  · intro h' tk' hn same
    have hx1 : (hp.push { cls := .type "dict", data := .dict #[] }).get? x = some { cls := .ref C, data := .fields fv } := Heap.get?_push_of_some _ hx
    refine hq h' tk' hp.objs.size (fun b o nb e => ?_) (Nat.le_refl _) xs.symm ?_ hn
    · exact (same.2 b (Nat.ne_of_lt (Heap.lt_size e))).trans ((Heap.get?_update_ne _ _ _ _ nb).trans (Heap.get?_push_of_some _ e))
    · exact (same.2 x xs).trans (Heap.get?_update_self _ hx1 rfl)
theorem set_next {dx : Addr} {name : Str} {tk : Tok} {v : Value} {fv : Array Value} {m0 : Str → Option Value} {nl : List Str} (SF : StoreFacts B bmB "object.__setattr__" "object") (X : K.In hp) (hx : hp.get? x = some { cls := .ref C, dict := some dx, data := .fields fv }) (hns : hp.Ns1 dx m0) (hw : Within m0 nl) (hz : nl.length ≤ 1000)
    (ho : PySem.W.excOver K C bmB = true) (hd : PySem.W.hasDictIn K C = true) (ht : PySem.W.takerIn K C name = some none)
    (hq : ∀ h' tk', (∀ b o, b ≠ dx → hp.get? b = some o → h'.get? b = some o) → h'.Ns1 dx (fun y => if y = name then some v else m0 y) → R (.ok (.ret .none)) ⟨h', g, d, tk', os⟩) :
    codeAny (model prog w) A (.call (.builtin "object.__setattr__") ⟨[.ref x, .str name tk, v], []⟩) R ⟨hp, g, d, t, os⟩ := by
  obtain ⟨oD, esD, epD, hoD, hdD, _⟩ := hns.count hw
  obtain ⟨cd, hc, has⟩ := cls_hasD hd
  have look : PySem.W.Looks (model prog w) hp (classData C) cd := PySem.W.looks_clsIn X hc
  refine PySem.W.osa_openX (s := ⟨hp, g, d, t, os⟩) (od := some oD) SF X ⟨hx, rfl, rfl, hoD⟩ ho ht fun b => ?_
  show wpAny _ _ (storeInOwnDict (.ref x) (.ref C) (.str name tk) name v b) _ _ _
  obtain ⟨nm, bs, mro, ns, qn, hasDict, sn, sb, ab, col, del⟩ := cd
  dsimp only at has
  subst has
  unfold storeInOwnDict ownDictForStores
  repeat (first | with_reducible refine PySem.OEX.store_in_old hns hw hz ?_ | with_reducible refine wpAny_loadPart_at hx ?_ | with_reducible refine look.at ?_ | wp_step)
  intro h' tk' hn same
  exact hq h' tk' (fun b o nb e => (same.2 b nb).trans e) hn
end
section
variable {X : Cx} {pins : List (Addr × Obj)} {σ : L2.St} {H : Hp} {s : Shared} {a C dx : Addr} {f : Str} {y : V} {u : Value} {fs : List (Str × V)} {Q : Unit → Shared → Prop} {E : Value → Shared → Prop} {A : Around} {B newId initId : String} {bmB : List Value}
/-- self.f = y, the first field -/
theorem fld_first (BX : BaseX B newId initId bmB) (T : OwnX X.K C B newId bmB) (I : Inv X pins σ H s) (e : H a = some (exo a C none)) (hno : PySem.W.takerIn X.K C f = some none) (ry : RelV y u)
    (h : ∀ dx s', H dx = none → dx ≠ a → Inv X pins σ (upd (upd H dx (exd dx [(f, y)])) a (exo a C (some dx))) s' → Q () s') : wpAny (model X.prog X.w) A (setAttr (.ref a) f u) Q E s := by
  obtain ⟨t1, ho⟩ := exo_at I.hok e
  obtain ⟨hp, g, d, t, os⟩ := s
  refine PySem.W.set_plain I.kIn (ox := { cls := .ref C, dict := none, data := .fields #[.ref t1, .none, .none, .none, .bool false, .none] }) (od := none) ⟨ho, rfl, rfl, trivial⟩ T.sa ?_
  refine set_first BX.store I.kIn ho T.over T.hasD hno (fun h' tk' dx k dn dne hx hn => ?_)
  have newD : H dx = none := I.hok.fresh dn
  have old : ∀ {b : Addr} {o : Obj}, hp.get? b = some o → b ≠ dx := fun {b o} q => Nat.ne_of_lt (Nat.lt_of_lt_of_le (Heap.lt_size q) dn)
  have nota : ∀ {b : Addr}, H b = none → b ≠ a := fun {b} n z => by
    rw [z, e] at n
    cases n
  have step : Un X.fs [] H (upd (upd H dx (exd dx [(f, y)])) a (exo a C (some dx))) hp h' := {
    keep := fun b o q n _ _ => k b o (nota n) q
    slot := fun b o q n _ _ => ⟨o.slots, k b o (nota n) q⟩
    free := fun b o q n _ => by rw [upd_ne (nota n), upd_ne (old q)]; exact n
    there := fun b o q _ => by
      by_cases hb : b = a
      · exact ⟨_, by rw [hb]; exact hx⟩
      · exact ⟨o, k b o hb q⟩
    tups := fun b xs q => by rw [upd_ne (at_ne e q exo_tup), upd_ne (ne_of_none q newD)]; exact q
    frzs := fun b o v q => by rw [upd_ne (at_ne e q exo_frz), upd_ne (ne_of_none q newD)]; exact q
    tbls := fun b ps q => ⟨#[], by rw [upd_ne (at_ne e q exo_tbl), upd_ne (ne_of_none q newD), q]; simp⟩ }
  refine h dx _ newD dne (I.un (t' := tk') step fun b o q => ?_)
  by_cases hb : b = a
  · subst hb
    rw [upd_same] at q
    cases q
    exact exo_ok hx
  · rw [upd_ne hb] at q
    by_cases hd : b = dx
    · subst hd
      rw [upd_same] at q
      cases q
      exact exd_ok hn (relO_put (fs := []) ry fun g => True.intro)
    · rw [upd_ne hd] at q
      refine (I.hok b o q).stay (fun c v hc z => ?_) (fun c hc => ?_) fun c xs hc => ?_
      · have ca : c ≠ a := by
          rcases hc with hc | hc
          · rw [hc]
            exact hb
          · exact at_ne e hc exo_own
        exact k c v ca z
      · rw [upd_ne (at_ne e hc exo_own), upd_ne (ne_of_none hc newD)]
        exact hc
      · rw [upd_ne (at_ne e hc exo_tup), upd_ne (ne_of_none hc newD)]
        exact hc
/-- self.f = y, a further field -/
theorem fld_next (BX : BaseX B newId initId bmB) (T : OwnX X.K C B newId bmB) (I : Inv X pins σ H s) (e : H a = some (exo a C (some dx))) (ed : H dx = some (exd dx fs)) (hl : fs.length ≤ 900) (hno : PySem.W.takerIn X.K C f = some none) (ry : RelV y u)
    (h : ∀ s', Inv X pins σ (upd H dx (exd dx ((f, y) :: fs))) s' → Q () s') : wpAny (model X.prog X.w) A (setAttr (.ref a) f u) Q E s := by
  obtain ⟨t1, ho⟩ := exo_at I.hok e
  obtain ⟨mA, hns, rel⟩ := exd_at I.hok ed
  have hw := within_of rel
  obtain ⟨hp, g, d, t, os⟩ := s
  obtain ⟨oD, _, _, hoD, _, _⟩ := hns.count hw
  refine PySem.W.set_plain I.kIn (ox := { cls := .ref C, dict := some dx, data := .fields #[.ref t1, .none, .none, .none, .bool false, .none] }) (od := some oD) ⟨ho, rfl, rfl, hoD⟩ T.sa ?_
  refine set_next BX.store I.kIn ho hns hw (by rw [List.length_map]; omega) T.over T.hasD hno (fun h' tk' k hn => ?_)
  have there : ∃ o, h'.get? dx = some o := by
    obtain ⟨o, _, _, e', _⟩ := hn
    exact ⟨o, e'⟩
  exact h _ (I.write (t' := tk') (x := dx) (e := dx) (o := exd dx ((f, y) :: fs)) (by rw [ed]; exact True.intro) (.inl rfl) k there (exd_ok hn (relO_put ry rel)))
/-- B.__init__(self, ..): nothing of it is told -/
theorem base_init {us : List Value} {Q : Value → Shared → Prop} (BX : BaseX B newId initId bmB) (T : OwnX X.K C B newId bmB) (I : Inv X pins σ H s) (e : H a = some (exo a C none)) (hl : us.length ≤ sizeLine) (h : ∀ s', Inv X pins σ H s' → Q .none s') :
    wpAny (model X.prog X.w) A (call (.builtin initId) (.ref a :: us)) Q E s := by
  obtain ⟨nm, N, q, bs, bm, hdct, sn, sub, ab, col, dd, k0, k1, k2, k3, k5, hC, hT⟩ := PySem.W.excInit_of I.kIn T.ini
  obtain ⟨t1, ho⟩ := exo_at I.hok e
  obtain ⟨hp, g, d, t, os⟩ := s
  refine wpAny_call (BX.ini hT hC ho hl fun h' t2 k hx => ?_)
  have J := I.write (t' := t) (x := a) (e := a) (o := exo a C none) (by rw [e]; exact True.intro) (.inl rfl) k ⟨_, hx⟩ (exo_ok hx)
  have same : upd H a (exo a C none) = H := by
    funext b
    by_cases hb : b = a
    · rw [hb, upd_same, e]
    · rw [upd_ne hb]
  rw [same] at J
  exact h _ J
end
/-! ### readings and rules -/
/-- B.__init__(self, ..) -/
def tInitX (K : PySem.W.Frag) (B newId : String) (bmB : List Value) (ta : TA) : TE := fun σ H Q => ta σ H fun vs H1 => ∃ (a C : Addr) (ws : List V), vs = .ref a :: ws ∧ ws.length ≤ 1000 ∧ OwnX K C B newId bmB ∧ H1 a = some (exo a C none) ∧ Q .non H1
/-- self.f = e -/
def tSetX (K : PySem.W.Frag) (B newId : String) (bmB : List Value) (f : Str) (to te : TE) : TS := fun D σ H => te σ H fun y H1 => to σ H1 fun x H2 => ∃ a C : Addr, x = .ref a ∧ OwnX K C B newId bmB ∧ PySem.W.takerIn K C f = some none ∧
  ((H2 a = some (exo a C none) ∧ ∀ dx, H2 dx = none → dx ≠ a → D.nx σ (upd (upd H2 dx (exd dx [(f, y)])) a (exo a C (some dx)))) ∨
    ∃ (dx : Addr) (fs : List (Str × V)), H2 a = some (exo a C (some dx)) ∧ H2 dx = some (exd dx fs) ∧ fs.length ≤ 900 ∧ D.nx σ (upd H2 dx (exd dx ((f, y) :: fs))))
section
variable {X : Cx} {o e : Expr} {es : List Expr} {to te : TE} {ta : TA} {f : Str} {p p' p1 p2 pos : Pos} {B newId initId : String} {bmB : List Value} {x : Str}
theorem pe_initX {pl : Sem Bool} (BX : BaseX B newId initId bmB) (hg : Gl X x) (hm : X.mg x = none) (hv : bootBuiltins x = some (.type B)) (vV : PySem.W.findCls X.K (.type B) (.type "type") "__init__" = some (.val (.builtin initId))) (hand : PySem.W.handedIn (.builtin initId) = true) (ha : PA X (e :: es) ta)
    (hn : x ≠ "__name__" := by decide) (hdb : (x == ("__debug__" : Str)) = false := by decide)
    (hc : eval (.Call (.Attribute (.Name x p1) "__init__" p2) (e :: es) [] pos) X.env = (do
      let ov ← eval (.Name x p1) X.env
      standAt p2.atName
      let (f, first) ← holding [ov] (getMethod ov "__init__" pl)
      callWith pos f first (backTo pos (starEach (e :: es) X.env)) (backToKw pos (keywordEach [] X.env))) := by rfl)
    (he : starEach (e :: es) X.env = (false, eval e X.env) :: starEach es X.env := by rfl) (hpl : (backTo pos (starEach es X.env)).any (·.1) = false := by rfl) :
    PE X (.Call (.Attribute (.Name x p1) "__init__" p2) (e :: es) [] pos) (tInitX X.K B newId bmB ta) := by
  refine ⟨fun pins s σ H Q I h => ?_⟩
  refine PySem.W.methodCall_KW (ld_blt I hg hm hv ?_ hn hdb) hc
  obtain ⟨m, fr⟩ := I.fr
  refine PySem.W.method_type fr I.ok.mod.kin BX.typ BX.stub vV hand ?_
  show wpAny _ _ (callWith pos (Value.builtin initId) [] (backTo pos (starEach (e :: es) X.env)) []) _ _ _
  refine PyProof.Rows.callWith_method1 (thn (ha.run pos pins _ σ H _ (I.tok _) h) fun us s1 ⟨vs, H1, I1, r1, a, C, ws, ev, hl, T, ea, q⟩ => ?_) he hpl
  subst ev
  cases r1 with
  | @cons _ u0 _ ur ra rw' =>
    obtain rfl : u0 = Value.ref a := ra
    have hlen : ur.length ≤ sizeLine := by
      rw [← Paired.length rw', sizeLine_eq]
      omega
    exact base_init BX T I1 ea hlen fun s' J => ⟨.non, H1, J, rfl, q⟩
theorem ps_setX (BX : BaseX B newId initId bmB) (ho : PE X o to) (he : PE X e te) (hs : swapsWith e (some (.Attribute o f p')) pos.line X.env = pure false := by rfl) : PS X (.Assign [.Attribute o f p'] e pos) (tSetX X.K B newId bmB f to te) := by
  refine ⟨fun pins s σ H D I h => ?_⟩
  refine plainObj_wpAny_Assign_Attribute (thn (he.run pins s σ H _ I h) fun v s1 ⟨y, H1, I1, r1, q1⟩ => thn (ho.run pins s1 σ H1 _ I1 q1) fun u s2 ⟨x, H2, I2, r2, a, C, ex, T, hno, q⟩ => ?_) hs
  subst ex
  obtain rfl : u = Value.ref a := r2
  rcases q with ⟨ea, q⟩ | ⟨dx, fs, ea, ed, hl, q⟩
  · exact fld_first BX T I2 ea hno r1 fun dx s' n ne J => ⟨σ, _, J, q dx n ne⟩
  · exact fld_next BX T I2 ea ed hl hno r1 fun s' J => ⟨σ, _, J, q⟩
theorem pmk_own_init {CX : CXT} {C fI : Addr} {k : Nat} {fd : FuncData} {ps : List Str} {sp : Sp} {ds : List Value} {dvs : List V} (BX : BaseX B newId initId bmB) (T : OwnX X.K C B newId bmB) (iC : PySem.W.findIn X.K (.ref C) "__init__" = some (some (.ref fI))) (tI : PySem.W.typeIn X.K (.ref fI) = some (.type "function"))
    (F1 : FnOk X.prog X.w X.K X.mg X.base CX k fI fd ps sp) (hr : Room (k + 1) X.A) (hb : Binds X.K fd ps ds) (hd : Vals dvs ds) (hx : Passes CX X (fun _ _ _ => False)) (hg : Gl X x) (hm : X.mg x = some (.ref C)) (ha : PA X (e :: es) ta)
    (hdb : (x == ("__debug__" : Str)) = false := by decide) (he : starEach (e :: es) X.env = (false, eval e X.env) :: starEach es X.env := by rfl) (hpl : (backTo pos (starEach es X.env)).any (·.1) = false := by rfl) :
    PMk X (.Call (.Name x p) (e :: es) [] pos) (tMkO C sp dvs ta) := by
  intro pins s σ H Q I h
  refine wpAny_Call_Name_kw (ld_glob I hg hm ?_ hdb)
  refine PySem.W.callWith_K (h₀ := X.base) I.ok.mod.kin T.kC (thn (ha.run pos pins s σ H _ I h) fun us s1 ⟨vs, H1, I1, r1, hz, q1⟩ => ⟨I1.kIn, ?_⟩) he hpl
  show wpAny _ _ (call (.ref C) us) _ _ _
  obtain ⟨nm, N, q, bs, bm, hdct, sn, sub, ab, col, dd, k0, k1, k2, k3, k5, hC, hT⟩ := PySem.W.excInit_of I1.kIn T.ini
  obtain ⟨hp, g, dr, tk, os⟩ := s1
  have up : hp.objs.size ≤ hp.objs.size + 1 := Nat.le_succ _
  have new : H1 (hp.objs.size + 1) = none := I1.hok.fresh up
  have got := q1 (hp.objs.size + 1) new
  have kk : ∀ b o, hp.get? b = some o → ((hp.push (PySem.W.kdv_tup us)).push (PySem.HandSPX.excO C hp.objs.size)).get? b = some o := fun b o e => Heap.get?_push_of_some _ (Heap.get?_push_of_some _ e)
  have hget : ((hp.push (PySem.W.kdv_tup us)).push (PySem.HandSPX.excO C hp.objs.size)).get? (hp.objs.size + 1) = some (PySem.HandSPX.excO C hp.objs.size) := by heap_get
  have I2 : Inv X pins σ (upd H1 (hp.objs.size + 1) (exo (hp.objs.size + 1) C none)) ⟨(hp.push (PySem.W.kdv_tup us)).push (PySem.HandSPX.excO C hp.objs.size), g, dr, tk, os⟩ :=
    I1.laid (t' := tk) (a := hp.objs.size + 1) (o := exo (hp.objs.size + 1) C none) (h' := (hp.push (PySem.W.kdv_tup us)).push (PySem.HandSPX.excO C hp.objs.size)) kk up (exo_ok hget)
  have r2 : Vals (V.ref (hp.objs.size + 1) :: (vs ++ dvs)) (Value.ref (hp.objs.size + 1) :: (us ++ ds)) := .cons rfl (r1.append hd)
  have hl : (Value.ref (hp.objs.size + 1) :: us ++ ds).length = ps.length := by
    have e := r2.length
    rw [F1.len _ _ _ _ got] at e
    exact e.symm
  have hus : us.length ≤ sizeLine := by
    rw [← Paired.length r1, sizeLine_eq]
    omega
  refine wpAny_call (BX.own hT hC (PySem.W.looks_findIn I1.kIn iC) (fun self => PySem.W.bind_fn I1.kIn self tI) hus
    (codeAny_mono (F1.run _ X.stack _ _ ⟨Value.ref (hp.objs.size + 1) :: us, []⟩ (Value.ref (hp.objs.size + 1) :: (us ++ ds)) _ _ (fun _ _ _ => False) (hr.make C us []) (I2.env0.make C us []) (hb _ (Value.ref (hp.objs.size + 1) :: us) I2.kIn hl) r2 got) fun r s' back => ?_))
  cases r with
  | error er => exact hx pins σ _ _ er s' I2 back
  | ok fl =>
    cases fl with
    | ret u =>
      obtain ⟨v, H2, os2, bare2, un2, hok2, rv, ev, d, fs, ea, ed, hd1, q2⟩ := back
      subst ev
      obtain ⟨h2, g2, d2, t2, os'⟩ := s'
      exact ⟨rv, mk_end (raises_own T.exC T.tyC) I1 up kk un2 hok2 os2 bare2 ea ed hd1 q2⟩
    | next => exact False.elim back
    | brk => exact False.elim back
    | cont => exact False.elim back
end
/-! ### the built-in classes -/
abbrev bmOverflow : List Value := [.type "OverflowError", .type "ArithmeticError", .type "Exception", .type "BaseException", .type "object"]
theorem baseOverflow : BaseX "OverflowError" "OverflowError.__new__" "OverflowError.__init__" bmOverflow := .of PySem.F.excBase_OverflowError PySem.F.store_OverflowError (by kernel_rfl) (by decide +kernel)
abbrev bmRuntime : List Value := [.type "RuntimeError", .type "Exception", .type "BaseException", .type "object"]
theorem baseRuntime : BaseX "RuntimeError" "RuntimeError.__new__" "RuntimeError.__init__" bmRuntime := .of PySem.F.excBase_RuntimeError PySem.F.store_RuntimeError (by kernel_rfl) (by decide +kernel)
abbrev bmLookup : List Value := [.type "LookupError", .type "Exception", .type "BaseException", .type "object"]
theorem baseLookup : BaseX "LookupError" "LookupError.__new__" "LookupError.__init__" bmLookup := .of PySem.F.excBase_LookupError PySem.F.store_LookupError (by kernel_rfl) (by decide +kernel)
abbrev bmIndex : List Value := [.type "IndexError", .type "LookupError", .type "Exception", .type "BaseException", .type "object"]
theorem baseIndex : BaseX "IndexError" "IndexError.__new__" "IndexError.__init__" bmIndex := .of PySem.F.excBase_IndexError PySem.F.store_IndexError (by kernel_rfl) (by decide +kernel)
abbrev bmValue : List Value := [.type "ValueError", .type "Exception", .type "BaseException", .type "object"]
theorem baseValue : BaseX "ValueError" "ValueError.__new__" "ValueError.__init__" bmValue := .of PySem.F.excBase_ValueError PySem.F.store_ValueError (by kernel_rfl) (by decide +kernel)
/-! ### KeyError: its __new__ is LookupError's -/
section
open Builtin Builtin.ObjectAttr
abbrev bmKey : List Value := [.type "KeyError", .type "LookupError", .type "Exception", .type "BaseException", .type "object"]
theorem store_Key : StoreFacts "KeyError" bmKey "object.__setattr__" "object" where
  mro := by kernel_rfl
  slot := .of (owner := "object") (n := "__setattr__") (by rw [typeLookup_type, builtinLookup_eq_fast]; kernel_rfl) (by decide +kernel) (by decide +kernel) (by decide +kernel)
    (by first | exact .inl (by decide +kernel) | exact .inr (by decide +kernel)) (by rw [isSubtype_type]; kernel_rfl)
  entry := PySem.F.store_LookupError.entry
  kind := by decide +kernel
  split := by decide +kernel
  hasOwner := by decide +kernel
  args := fun a b c => by unfold argsOk; kernel_rfl
  passes := fun self => by kernel_rfl
variable {M : Model} {prog : Program} {w : World} {A : Around} {E : Value → Shared → Prop} {R : Result → Shared → Prop} {h : Heap} {g : Array GenState} {d : Drawn} {t : Nat} {os : OsState}
variable {nm q : Str} {C N : Addr} {bs bm : List Value} {hdct : Bool} {sn : List Str} {sub : List Value} {ab : Bool} {col : Option Bool} {dd : Option Addr} {k0 k1 k2 k3 k5 : Option Value}
theorem key_check_new (hT : ∀ X : String, bm.contains (.type X) = bmKey.contains (.type X)) {rest : List Value} {Q : Unit → Shared → Prop}
    (hC : h.get? C = some (excClassObj nm q C N bs bm hdct sn sub ab col dd k0 k1 k2 k3 k5 "LookupError.__new__")) (hq : Q () ⟨h, g, d, t, os⟩) : wpAny M A (checkBuiltinCall "LookupError.__new__" ⟨.ref C :: rest, []⟩) Q E ⟨h, g, d, t, os⟩ := by
  have F := PySem.F.excBase_LookupError
  have hcont : (Value.ref C :: bm).contains (.type "LookupError") = true := by rw [List.contains_cons, hT, show bmKey.contains (.type "LookupError") = true by decide +kernel, Bool.or_true]
  have hstar := F.noStar
  simp only [checkBuiltinCall, F.newKind, F.newSplit, F.newRow]
  repeat (first | refine wpAny_loadPart_at hC ?_ | (refine wpAny_isSubtype_exc hC ?_; rw [hcont]) | refine wpAny_staticBase_exc hC ?_ | refine wpAny_madeBy_exc hC ?_ | simp only [bne_self_eq_false, Bool.false_eq_true, if_false] | wp_step)
  exact hq
theorem key_check_init (hT : ∀ X : String, bm.contains (.type X) = bmKey.contains (.type X)) {e : Addr} {oe : Obj} {rest : List Value} {Q : Unit → Shared → Prop}
    (hC : h.get? C = some (excClassObj nm q C N bs bm hdct sn sub ab col dd k0 k1 k2 k3 k5 "LookupError.__new__")) (he : h.get? e = some oe) (hcls : oe.cls = .ref C) (hq : Q () ⟨h, g, d, t, os⟩) :
    wpAny M A (checkBuiltinCall "KeyError.__init__" ⟨.ref e :: rest, []⟩) Q E ⟨h, g, d, t, os⟩ := by
  have F := PyProof.Rows.excClass_KeyError
  have hcB : (Value.ref C :: bm).contains (.type "KeyError") = true := by rw [List.contains_cons, hT, show bmKey.contains (.type "KeyError") = true by decide +kernel, Bool.or_true]
  have hshort := F.notStar
  simp only [checkBuiltinCall, F.initKind, F.initSplit, F.initSig]
  repeat (first | (with_reducible refine wpAny_loadPart_at he ?_; rw [hcls]) | with_reducible refine wpAny_loadPart_at hC ?_ | (with_reducible refine wpAny_isSubtype_exc hC ?_; rw [hcB]) | wp_step)
  refine wpAny_onRaise ?_
  rw [show ∀ (a b : String) (n : Nat), Bind.check ⟨.positional, "*", "KeyError", .self, [⟨"args", .varPos, false⟩]⟩ a b n (List.map (fun x => x.fst) ({ pos := Value.ref e :: rest } : Args).kw) = pure () from
    fun a b n => check_star_args _ _ _ _ _ _]
  exact wpAny_pure hq
theorem key_new (hT : ∀ X : String, bm.contains (.type X) = bmKey.contains (.type X)) {rest : List Value}
    (hC : h.get? C = some (excClassObj nm q C N bs bm hdct sn sub ab col dd k0 k1 k2 k3 k5 "LookupError.__new__"))
    (hq : R (.ok (.ret (.ref (h.objs.size + 1)))) ⟨(h.push { cls := .type "tuple", data := .seq rest.toArray }).push
      { cls := .ref C, data := .fields #[.ref h.objs.size, .none, .none, .none, .bool false, .none] }, g, d, t, os⟩) (hrest : rest.length ≤ sizeLine) :
    codeAny (model prog w) A (.builtin "LookupError.__new__" ⟨.ref C :: rest, []⟩) R ⟨h, g, d, t, os⟩ := by
  have F := PySem.F.excBase_LookupError
  have hends := F.ends
  have hcB : (Value.ref C :: bm).contains (.type "LookupError") = true := by rw [List.contains_cons, hT, show bmKey.contains (.type "LookupError") = true by decide +kernel, Bool.or_true]
  have hcA : (Value.ref C :: bm).contains (.type "AttributeError") = false := by rw [List.contains_cons, hT, show bmKey.contains (.type "AttributeError") = false by decide +kernel]; rfl
  have hcN : (Value.ref C :: bm).contains (.type "NameError") = false := by rw [List.contains_cons, hT, show bmKey.contains (.type "NameError") = false by decide +kernel]; rfl
  refine codeAny_builtinAt F.entry ?_
  unfold Builtin.«BaseException.__new__»
  refine PySem.wpAt_bind ?_
  show PySem.wpAt _ _ _ (stack >>= _) _ _ _
  refine PySem.wpAt_bind (PySem.wpAt_stack fun p below => PySem.wpAt_of_wpAny ?_)
  wp_walk
  refine PySem.wpAt_of_wpAny ?_
  rw [F.owner]
  repeat (first | with_reducible refine wpAny_madeHere_exc F.canon hC ?_ | with_reducible refine wpAny_loadPart_at hC ?_ | (with_reducible refine wpAny_isSubtype_exc hC ?_; first | rw [hcB] | rw [hcA] | rw [hcN]) | wp_step)
  show R _ _
  rw [Heap.size_push]
  exact hq
theorem key_type_call (hT : ∀ X : String, bm.contains (.type X) = bmKey.contains (.type X)) {rest : List Value} {fI : Addr} {Q : Fin → Shared → Prop}
    (hC : h.get? C = some (excClassObj nm q C N bs bm hdct sn sub ab col dd k0 k1 k2 k3 k5 "LookupError.__new__"))
    (hi : PySem.W.Looks (model prog w) h (typeLookup (.ref C) "__init__") (some (.ref fI))) (hb : ∀ self, PySem.W.Looks (model prog w) h (bindSpecial (.ref fI) self) (.ref fI, [self])) (hrest : rest.length ≤ sizeLine)
    (hq : codeAny (model prog w) A (.call (.ref fI) ⟨.ref (h.objs.size + 1) :: rest, []⟩)
      (fun r s' => match r with | .ok (.ret v) => v = .none ∧ Q (.done (.ret (.ref (h.objs.size + 1)))) s' | .ok _ => False | .error e => E e s')
      ⟨(h.push (PySem.W.kdv_tup rest)).push (PySem.HandSPX.excO C h.objs.size), g, d, t, os⟩) :
    wpAny (model prog w) A (Builtin.«type.__call__» ⟨.ref C :: rest, []⟩) Q E ⟨h, g, d, t, os⟩ := by
  have F := PySem.F.excBase_LookupError
  repeat (first | with_reducible refine wpAny_loadPart_at hC ?_ | with_reducible refine wpAny_madeBy_exc hC ?_ | wp_step)
  refine codeAny_call_builtin_code (Code.quiet_builtin _ F.quiet) (key_check_new hT hC ?_)
  refine key_new hT hC ?_ hrest
  show wpAny _ _ _ _ _ _
  have k : ∀ b o, h.get? b = some o → ((h.push (PySem.W.kdv_tup rest)).push (PySem.HandSPX.excO C h.objs.size)).get? b = some o := fun b o e => Heap.get?_push_of_some _ (Heap.get?_push_of_some _ e)
  have hC₁ := k _ _ hC
  have hget : ((h.push (PySem.W.kdv_tup rest)).push (PySem.HandSPX.excO C h.objs.size)).get? (h.objs.size + 1) = some (PySem.HandSPX.excO C h.objs.size) := by heap_get
  have hcC : (Value.ref C :: bm).contains (.ref C) = true := by simp
  have i1 := hi.keeps k
  have b1 := (hb (.ref (h.objs.size + 1))).keeps k
  unfold isInstance
  repeat (first | with_reducible refine wpAny_loadPart_at hget ?_ | (with_reducible refine wpAny_isSubtype_exc hC₁ ?_; rw [hcC]) | wp_step)
  show wpAny _ _ (typeLookup (.ref C) _) _ _ _
  refine i1.at ?_
  refine wpAny_holding (wpAny_bind (b1.at ?_))
  refine wpAny_bind (wpAny_call (codeAny_mono hq fun r s' z => ?_))
  rcases r with e | (v | _ | _ | _) <;> first | exact z | exact z.elim | skip
  obtain ⟨rfl, z⟩ := z
  first
    | exact wpAny_pure (wpAny_pure z)
    | (wp_walk; exact z)
theorem baseKey : BaseX "KeyError" "LookupError.__new__" "KeyError.__init__" bmKey where
  ini := fun {prog w A R h g d t os nm q C N bs bm hdct sn sub ab col dd k0 k1 k2 k3 k5} hT {e t0 rest} hC he hr hq => by
    refine codeAny_call_builtin PyProof.Rows.excClass_KeyError.init.plain PyProof.Rows.excClass_KeyError.initEntry (key_check_init hT hC he rfl ?_)
    wp_walk
    show R _ _
    refine hq _ h.objs.size (fun b o hb ho => ?_) ?_
    rotate_left
    · rw [Heap.get?_update_self _ (Heap.get?_push_of_some _ he) rfl]
      rfl
    · rw [Heap.get?_update_other _ _ (Ne.symm hb)]
      exact Heap.get?_push_of_some _ ho
  own := fun {prog w A R h g d t os nm q C N bs bm hdct sn sub ab col dd k0 k1 k2 k3 k5} hT {rest fI} hC hi hb hr hq => by
    have f1 := tc_lookup
    have f2 := tc_bind (.ref C)
    have hTy : (⟨h, g, d, t, os⟩ : Shared).TypeIs (.ref C) "type" := ⟨_, hC, rfl⟩
    refine codeAny_of_tree ?_
    show wpAny _ _ (callAny (.ref C) _) _ _ _
    repeat (any_goals (first | assumption | with_reducible refine wpAny_loadPart_at hC ?_ | wp_step))
    refine ⟨rfl, ?_⟩
    refine codeAny_call_builtin_at (Code.quiet_builtin _ (by decide +kernel)) entry_typeCall (wpAny_check_type_call_sub hC (key_type_call hT hC hi hb hr ?_))
    refine codeAny_mono hq fun r s' z => ?_
    rcases r with e | (v | _ | _ | _) <;> exact z
  store := store_Key
  typ := by kernel_rfl
  stub := by decide +kernel
end
end PX
/-! Defs that raise own exceptions with one field. -/
namespace PX
open PySem PySem.Spec PyProof.Rows L2
/-- what a callee lets out goes out of a def that raises -/
theorem passE {X : Cx} {E : XK} (hs : X.stack = X.env :: X.outer) (hf : X.env.frame = some X.env.locals) (hex : X.ex = []) {E₁ : Value → Shared → Prop}
    (hx : X.xe = fun e s' => wpAny (model X.prog X.w) X.A (leaving X.env e) (fun _ s'' => L2.CX X.prog X.w X.outer X.H_0 X.s_0 E e s'') E₁ s') : Passes (L2.CX X.prog X.w) X E :=
  fun pins σ H s e s' I c => passes_call (takes_of hs hf hex hx) (fun _ _ _ _ h => h) pins σ H s e s' I c
/-- the promise of an own __init__ that sets one field -/
def spX1 (C : Addr) (f : Str) : Sp := fun vs H Q _ => ∃ (a : Addr) (v : V), vs = [.ref a, v] ∧ H a = some (exo a C none) ∧ ∀ dx, H dx = none → dx ≠ a → Q .non (upd (upd H dx (exd dx [(f, v)])) a (exo a C (some dx)))
/-- C(e), to be raised: its dict is new -/
def tMkX (C : Addr) (f : Str) (ta : TA) : L2.St → Hp → XK → Prop := fun σ H Q => ta σ H fun vs H1 => ∃ v, vs = [v] ∧ ∀ d, H1 d = none → Q (.ref C) (some d) (upd H1 d (.xd [(f, v)]))
section
variable {X : Cx} {e : Expr} {ta : TA} {f x : Str} {p pos : Pos} {C fI : Addr} {B newId initId : String} {bmB : List Value}
theorem pmk_x1 {CX : CXT} {k : Nat} {fd : FuncData} {ps : List Str} (BX : BaseX B newId initId bmB) (T : OwnX X.K C B newId bmB) (iC : PySem.W.findIn X.K (.ref C) "__init__" = some (some (.ref fI))) (tI : PySem.W.typeIn X.K (.ref fI) = some (.type "function"))
    (F1 : FnOk X.prog X.w X.K X.mg X.base CX k fI fd ps (spX1 C f)) (hr : Room (k + 1) X.A) (hb : Binds X.K fd ps []) (hx : Passes CX X (fun _ _ _ => False)) (hg : Gl X x) (hm : X.mg x = some (.ref C)) (ha : PA X [e] ta)
    (hdb : (x == ("__debug__" : Str)) = false := by decide) (he : starEach (e :: []) X.env = (false, eval e X.env) :: starEach [] X.env := by rfl) (hpl : (backTo pos (starEach [] X.env)).any (·.1) = false := by rfl) :
    PMk X (.Call (.Name x p) [e] [] pos) (tMkX C f ta) := by
  have cut : PA X [e] (fun σ H Q => ∃ R, ta σ H R ∧ ∀ vs H', R vs H' → Q vs H') := ⟨fun pos pins s σ H Q I ⟨R, h, k⟩ => thn (ha.run pos pins s σ H R I h) fun us s1 ⟨vs, H1, I1, r, q⟩ => ⟨vs, H1, I1, r, k vs H1 q⟩⟩
  have M := pmk_own_init (p := p) (pos := pos) BX T iC tI F1 hr hb .nil hx hg hm cut hdb he hpl
  intro pins s σ H Q I h
  refine M pins s σ H Q I ⟨_, h, fun vs H1 ⟨v, ev, q⟩ => ?_⟩
  · subst ev
    refine ⟨by show 1 ≤ 1000; decide, fun a na => ?_⟩
    refine ⟨a, v, rfl, upd_same, fun dx n ne => ⟨rfl, dx, [(f, v)], upd_same, ?_, ?_, ?_⟩⟩
    · rw [upd_ne ne, upd_same]
    · rw [upd_ne ne] at n
      exact n
    · rw [upd_ne ne] at n
      have z : upd (del (upd (upd (upd H1 a (exo a C none)) dx (exd dx [(f, v)])) a (exo a C (some dx))) a) dx (.xd [(f, v)]) = upd H1 dx (.xd [(f, v)]) := by
        funext b
        by_cases hb : b = dx
        · rw [hb, upd_same, upd_same]
        · rw [upd_ne hb, upd_ne hb]
          by_cases hc : b = a
          · rw [hc, del_same, na]
          · rw [del_ne hc, upd_ne hc, upd_ne hb, upd_ne hc]
      rw [z]
      exact q dx n
end
section
variable {P : Program} {w : World} {K : PySem.W.Frag} {mg : Str → Option Value} {base : Heap}
/-- a def f(*v) by its body, which may raise -/
theorem okStarX {x qual pv : Str} {st : Stmt} {f : Addr} {fd : FuncData} {N : List Str} {k : Nat} {sp : Sp} (F : Fun K x qual st f fd) (S : FnScope N [pv] (defScope st))
    (hb0 : ∀ (kV doc pm : Value) (an : Option Addr) (cdv ct : Value), bindArgs (PySem.W.fnOf x qual (defArgs st) (defBody st) (defScope st) .none kV doc pm an cdv ct) ⟨[], []⟩ = (newTuple [] >>= fun t => pure [(pv, t)]))
    (hb1 : ∀ (kV doc pm : Value) (an : Option Addr) (cdv ct u : Value) (us : List Value), bindArgs (PySem.W.fnOf x qual (defArgs st) (defBody st) (defScope st) .none kV doc pm an cdv ct) ⟨u :: us, []⟩ = (newTuple (u :: us) >>= fun t => pure [(pv, t)]))
    (hbody : ∀ (cdv : Value) (A : Around) (outer : List Env) (s : Shared) (H : Hp) (vs : List V) (Q : VK) (E : XK), Room k (A.deeper (envOfC qual (defScope st) s.heap.objs.size f cdv)) → sp vs H Q E →
      ∃ t, PSs (cxOf (L2.CX P w) P w K mg base N qual (defScope st) f cdv A outer s H E) (defBody st) t ∧ t { nx := fun _ H' => Q .non H', rt := Q } (start N vs) H) :
    FnR P w K mg base (L2.CX P w) (k + 1) f (fun vs H Q E => vs.length ≤ sizeLine ∧ ∀ p, H p = none → sp [V.ref p] (upd H p (.tup vs)) Q E) := by
  obtain ⟨oc, od, kV, doc, pm, an, cdv, ct, osl, rfl, lk, hcd⟩ := F.ex
  have G := StX.fn_star (P := P) (w := w) (mg := mg) (base := base) (CX := L2.CX P w) (k := k) (sp := sp) (ps := []) (pv := pv) lk hcd S StX.cxUp (fun us rest h => by
    obtain rfl : us = [] := List.length_eq_zero_iff.mp h
    cases rest with
    | nil => exact hb0 kV doc pm an cdv ct
    | cons u r => exact hb1 kV doc pm an cdv ct u r) fun A outer s H vs Q E hr hs => by
      exact hbody cdv A outer s H vs Q E hr hs
  exact G.imp fun vs H Q E h => ⟨[], vs, rfl, rfl, h.1, h.2⟩
end
/-- an error of the class at S is what «except S» names -/
theorem exm_self {K : PySem.W.Frag} {S : Addr} (h1 : PySem.W.subIn K (.ref S) (.type "BaseException") = some true) (h2 : PySem.W.isClsIn K S = true) (h3 : PySem.W.typeIn K (.ref S) = some (.type "type")) (h4 : PySem.W.subIn K (.ref S) (.ref S) = some true) :
    PySem.W.exmOne K (.ref S) (.ref S) = some true := by
  have e1 : (PySem.W.subIn K (.ref S) (.type "BaseException") == some true) = true := by rw [h1] <;> rfl
  have e2 : ((PySem.W.clsIn K S).isSome && PySem.W.typeIn K (.ref S) == some (.type "type")) = true := by
    rw [show (PySem.W.clsIn K S).isSome = true from h2, h3] <;> rfl
  show (if (PySem.W.subIn K (.ref S) (.type "BaseException") == some true) = true then (if ((PySem.W.clsIn K S).isSome && PySem.W.typeIn K (.ref S) == some (.type "type")) = true then PySem.W.subIn K (.ref S) (.ref S) else none) else none) = some true
  rw [if_pos e1, if_pos e2]
  exact h4
/-- what a law's text says of an own exception with one field -/
structure XOne (K : PySem.W.Frag) (C fI : Addr) (B newId initId : String) (bmB : List Value) (f : Str) : Prop where
  own : OwnX K C B newId bmB
  iC : PySem.W.findIn K (.ref C) "__init__" = some (some (.ref fI))
  tI : PySem.W.typeIn K (.ref fI) = some (.type "function")
  tk : PySem.W.takerIn K C f = some none
  nf : PySem.W.findIn K (.ref C) f = some none
  vI : PySem.W.findCls K (.type B) (.type "type") "__init__" = some (.val (.builtin initId))
  xf : XfC K C
  ex : PySem.W.exmOne K (.ref C) (.ref C) = some true
end PX
/-! Lambdas handed to a def: the heap but for the table of code objects; the head of such a law. -/
namespace PX
open PySem PySem.Spec PyProof.Rows L2 LamX
/-- a def whose code object stands at c -/
structure FunC (K : PySem.W.Frag) (x qual : Str) (st : Stmt) (f c : Addr) (fd : FuncData) : Prop where
  ex : ∃ (oc : Value) (od : Option Addr) (kV doc pm : Value) (an : Option Addr) (ct : Value) (osl : Array (Option Value)),
    fd = PySem.W.fnOf x qual (defArgs st) (defBody st) (defScope st) .none kV doc pm an (.ref c) ct ∧ K.lookup f = some ⟨oc, od, .func fd, osl⟩ ∧ PySem.W.codeIn K (.ref c) qual = true
section
variable {P : Program} {w : World} {K : PySem.W.Frag} {mg : Str → Option Value} {base : Heap}
theorem okGC {x qual : Str} {st : Stmt} {f c : Addr} {fd : FuncData} {N ps : List Str} {k : Nat} {sp : Sp} (F : FunC K x qual st f c fd) (S : FnScope N ps (defScope st)) (many : ∀ vs H Q E, sp vs H Q E → vs.length = ps.length)
    (hb : ∀ (A : Around) (outer : List Env) (s : Shared) (H : Hp) (vs : List V) (Q : VK) (E : XK), Room k (A.deeper (envOfC qual (defScope st) s.heap.objs.size f (.ref c))) → NoG A → sp vs H Q E →
      ∃ t, PSs (cxOf CX0 P w K mg base N qual (defScope st) f (.ref c) A outer s H E).nox (defBody st) t ∧ t { nx := fun _ H' => Q .non H', rt := Q } (start N vs) H) : FnG P w K mg base CX0 (k + 1) f fd ps sp := by
  obtain ⟨oc, od, kV, doc, pm, an, ct, osl, rfl, lk, hcd⟩ := F.ex
  refine fnG_of lk hcd S many fun A outer s H vs Q E hr hg hs => ?_
  obtain ⟨t, h, q⟩ := hb A outer s H vs Q E hr hg hs
  exact ⟨t, h.nox, q⟩
/-- what never raises, of a def that may raise -/
theorem FnOk.calm {k : Nat} {f : Addr} {fd : FuncData} {ps : List Str} {sp : Sp} (F : FnOk P w K mg base (L2.CX P w) k f fd ps sp) : FnOk P w K mg base CX0 k f fd ps (fun vs H Q _ => sp vs H Q fun _ _ _ => False) := by
  refine ⟨fun vs H Q _ h => F.len vs H Q _ h, fun A outer s H args us vs Q E hr e0 hb r h => ?_⟩
  refine codeAny_mono (F.run A outer s H args us vs Q (fun _ _ _ => False) hr e0 hb r h) fun r s' z => ?_
  match r, z with
  | .error e, z =>
    obtain ⟨_, _, _, _, _, _, _, _, _, _, _, _, _, _, _, z⟩ := z
  | .ok .next, z => exact z
  | .ok .brk, z => exact z
  | .ok .cont, z => exact z
  | .ok (.ret u), z => exact z
end
/-- what is asked of a code object, asked of it alone -/
theorem codeHd_by {K : PySem.W.Frag} {c P : Addr} {o : Obj} (hk : K.lookup c = some o) (h : PySem.W.codeHdIn [(c, o)] c P = true) : PySem.W.codeHdIn K c P = true := by
  have e : List.lookup c [(c, o)] = some o := by simp [List.lookup]
  unfold PySem.W.codeHdIn at h ⊢
  rw [e] at h
  rw [hk]
  exact h
/-! ### the head -/
theorem law_callT {P : Program} {w : World} {K : PySem.W.Frag} {mg mb : Str → Option Value} {CX : CXT} {k : Nat} {fa a c T : Addr} {fd : FuncData} {x : Str} {sp : Sp} {s₁ : Shared} {vs : List Value} {ns : List Int}
    (KX : K.In s₁.heap) (hns : s₁.heap.Ns mainGlobals mg) (hb : s₁.heap.Ns builtinsNs mb) (hbb : ∀ x : Str, x ≠ "__name__" → mb x = bootBuiltins x) (hlim : s₁.heap.NoLimit) (hg : s₁.gens = #[])
    (hTab : s₁.heap.get? T = some { cls := .none, data := .fields #[] }) (nTab : K.lookup T = none) (hCode : PySem.W.CodeHd s₁.heap c T)
    (hmain : ∃ (bm : Addr) (ob : Obj), mg "__builtins__" = some (.ref bm) ∧ bm ≠ builtinsNs ∧ s₁.heap.get? bm = some ob ∧ ob.cls = .type "module" ∧ ob.dict = some builtinsNs ∧ ob.data = .plain)
    (ha : s₁.heap.get? a = some { cls := .type "list", data := .seq vs.toArray }) (hi : IntsAre vs ns) (hl : ns.length ≤ sizeLine) (hr : Room k callerA)
    (F : ∀ base : Heap, K.In base → base.Ns mainGlobals mg → TabB base mg c T → FnG P w K mg base CX k fa fd [x] sp) (hbind : ∀ (s : Shared) (u : Value), BindsTo s fd ⟨[u], []⟩ [(x, u)])
    (hsp : ∀ H : Hp, H T = some (.tbl #[]) → SqL K H a (ns.map V.int) → sp [.ref a] H (fun v _ => v = .bl true) fun _ _ _ => False)
    (hCX : ∀ H e s', CX [] H s₁ (fun _ _ _ => False) e s' → False) :
    codeAny (model P w) callerA (.call (.ref fa) ⟨[.ref a], []⟩) (fun r s' => r = .ok (.ret (.bool true)) ∧ OldK s₁.heap s'.heap ∧ s'.os = s₁.os ∧ AllBare s'.gens) s₁ := by
  have rv := vals_ints hi
  have lenV := hi.length
  have aT : a ≠ T := fun z => by
    rw [z, hTab] at ha
    cases (show Data.fields #[] = Data.seq vs.toArray _ from congrArg Obj.data (Option.some.inj ha))
  have main : ∀ H : Hp, H T = some (.tbl #[]) → (∀ b, H b = none ∨ b = T ∨ ∃ o xs, H b = some (.frz o (.lst xs))) → SqL K H a (ns.map V.int) → HOk P w H s₁.heap → (∀ b, H b ≠ none → b = a ∨ b = T) → (H a ≠ none → K.lookup a = none) →
      codeAny (model P w) callerA (.call (.ref fa) ⟨[.ref a], []⟩) (fun r s' => r = .ok (.ret (.bool true)) ∧ OldK s₁.heap s'.heap ∧ s'.os = s₁.os ∧ AllBare s'.gens) s₁ := by
    intro H hT hO hS hok hA hK
    have free_of : ∀ {b : Addr} {o : Obj}, s₁.heap.get? b = some o → (∀ n, o.data ≠ .seq vs.toArray n) → o.data ≠ .fields #[] → H b = none := fun {b o} e n1 n2 => by
      cases q : H b with
      | none => rfl
      | some u =>
        rcases hA b (by rw [q]; exact fun y => nomatch y) with z | z
        · rw [z, ha] at e
          cases e
          exact (n1 _ rfl).elim
        · rw [z, hTab] at e
          cases e
          exact (n2 rfl).elim
    have at_ : ∀ {b : Addr} {o : Obj}, s₁.heap.get? b = some o → (∀ n, o.data ≠ .seq vs.toArray n) → o.data ≠ .fields #[] → (hidT s₁.heap H).get? b = some o := fun e n1 n2 => hidT_get e (free_of e n1 n2)
    have nsT : ∀ {b : Addr} {m : Str → Option Value}, s₁.heap.Ns b m → (hidT s₁.heap H).Ns b m := fun {b m} z => by
      obtain ⟨o, es, ep, e, d, r⟩ := z
      exact ⟨o, es, ep, at_ e (fun n z => by rw [d] at z; cases z) (fun z => by rw [d] at z; cases z), d, r⟩
    have hKb : K.In (hidT s₁.heap H) := fun b o e => hidT_get (KX b o e) (by
      cases q : H b with
      | none => rfl
      | some u =>
        rcases hA b (by rw [q]; exact fun y => nomatch y) with e' | e'
        · rw [e'] at e q
          rw [hK (by rw [q]; exact fun y => nomatch y)] at e
          cases e
        · rw [e', nTab] at e
          cases e)
    have hM : Mod K mg (hidT s₁.heap H) := ⟨hKb, nsT hns, ⟨mb, nsT hb, hbb⟩, by obtain ⟨mc, h1, h2⟩ := hlim; exact ⟨mc, nsT h1, h2⟩⟩
    have gT : mainGlobals ≠ T := fun z => by
      obtain ⟨o, es, ep, e, d, _⟩ := hns
      rw [z, hTab] at e
      cases e
      cases d
    have hTB : TabB (hidT s₁.heap H) mg c T := by
      refine ⟨?_, ?_, gT⟩
      · obtain ⟨o, us, v1, v2, v3, v4, v5, v6, v7, e1, r1, r2, r3, r4⟩ := hCode
        refine ⟨o, us, v1, v2, v3, v4, v5, v6, v7, at_ e1 (fun n z => by rw [r2] at z; cases z) (fun z => ?_), r1, r2, r3, r4⟩
        rw [r2] at z
        injection z with z
        rw [z] at r3
        cases r3
      · obtain ⟨bm, ob, b1, b2, b3, b4, b5, b6⟩ := hmain
        refine ⟨bm, ob, b1, b2, fun z => ?_, fun z => ?_, at_ b3 (fun n z => by rw [b6] at z; cases z) (fun z => by rw [b6] at z; cases z), b4, b5, b6⟩
        · obtain ⟨o, es, ep, e, d, _⟩ := hns
          rw [z, e] at b3
          cases b3
          rw [d] at b6
          cases b6
        · rw [z, hTab] at b3
          cases b3
          cases b6
    have e0 : Env0 P w K mg (hidT s₁.heap H) callerA [] s₁ H := ⟨rfl, hM, fun b o e => of_hidT e, Nat.le_of_eq (hidT_size _ _), True.intro, fun b hb => absurd (show b ∈ ([] : List Addr) from hb) List.not_mem_nil, hok, .of_eq hg⟩
    refine codeAny_mono ((F _ hKb (nsT hns) hTB).goes callerA [] s₁ H ⟨[.ref a], []⟩ [.ref a] [.ref a] _ _ hr rfl e0 (hbind s₁ (.ref a)) (.cons rfl .nil) (hsp H hT hS)) fun r s' h => ?_
    match r, h with
    | .error e, h => exact (hCX H e s' h).elim
    | .ok .next, h => exact False.elim h
    | .ok .brk, h => exact False.elim h
    | .ok .cont, h => exact False.elim h
    | .ok (.ret u), h =>
      obtain ⟨v, H', os, bare, un, hok', r', q⟩ := h
      obtain rfl : v = V.bl true := q
      obtain rfl : u = Value.bool true := r'
      obtain ⟨more, zT⟩ := un.tbls T #[] hT
      have newT : s'.heap.get? T = some { cls := .none, data := .fields more } := by
        have := hok' T _ zT
        rw [Array.empty_append] at this
        exact this
      have stay : ∀ b o, b ≠ T → s₁.heap.get? b = some o → s'.heap.get? b = some o := fun b o nb e => by
        rcases hO b with z | z | ⟨ob, xs, z⟩
        · exact un.keep b o e z (fun y => absurd (show b ∈ ([] : List Addr) from y) List.not_mem_nil) List.not_mem_nil
        · exact absurd z nb
        · have e1 := (hok b _ z).1
          have e2 := (hok' b _ (un.frzs b ob _ z)).1
          rw [e] at e1
          cases e1
          exact e2
      refine ⟨rfl, ⟨fun b o e => ?_, fun b o e => ?_⟩, os, bare⟩
      · by_cases nb : b = T
        · subst nb
          rw [hTab] at e
          cases e
          exact .inr (.inl ⟨(hCode.tab hTab).isCodeTable, rfl, #[], more, rfl, by rw [Array.empty_append]; exact newT⟩)
        · exact .inl (stay b o nb e)
      · by_cases nb : b = T
        · subst nb
          exact ⟨_, newT⟩
        · exact ⟨o, stay b o nb e⟩
  cases hk : K.lookup a with
  | some o =>
    have e := KX a o hk
    rw [ha] at e
    cases e
    refine main (fun b => if b = T then some (.tbl #[]) else none) (if_pos rfl) (fun b => ?_) (.inr ⟨_, vs.toArray, _, hk, rfl, rfl, rfl, by rw [List.size_toArray, lenV]; exact hl, by simpa using rv⟩) (fun b u z => ?_) (fun b z => ?_) fun z => absurd (if_neg aT) z
    · by_cases hb : b = T
      · exact .inr (.inl hb)
      · exact .inl (if_neg hb)
    · by_cases hb : b = T
      · have z' := (if_pos hb).symm.trans z
        cases z'
        subst hb
        exact hTab
      · have z' := (if_neg hb).symm.trans z
        cases z'
    · by_cases hb : b = T
      · exact .inr hb
      · exact absurd (if_neg hb) z
  | none =>
    refine main (fun b => if b = a then some (.frz { cls := .type "list", data := .seq vs.toArray } (.lst (ns.map V.int))) else if b = T then some (.tbl #[]) else none) ((if_neg aT.symm).trans (if_pos rfl)) (fun b => ?_) (.inl (.inr ⟨{ cls := .type "list", data := .seq vs.toArray }, if_pos rfl⟩)) (fun b u z => ?_) (fun b z => ?_) fun _ => hk
    · by_cases hb : b = a
      · exact .inr (.inr ⟨_, _, if_pos hb⟩)
      · by_cases hb2 : b = T
        · exact .inr (.inl hb2)
        · exact .inl ((if_neg hb).trans (if_neg hb2))
    · by_cases hb : b = a
      · have z' := (if_pos hb).symm.trans z
        cases z'
        subst hb
        exact ⟨ha, by rw [List.length_map]; exact hl, vs, _, rv, ha⟩
      · have z1 := (if_neg hb).symm.trans z
        by_cases hb2 : b = T
        · have z' := (if_pos hb2).symm.trans z1
          cases z'
          subst hb2
          exact hTab
        · have z' := (if_neg hb2).symm.trans z1
          cases z'
    · by_cases hb : b = a
      · exact .inl hb
      · by_cases hb2 : b = T
        · exact .inr hb2
        · exact absurd ((if_neg hb).trans (if_neg hb2)) z
theorem walkT {l : PySem.W.OpenLaw} {n k : Nat} {q : Program} {loose : List Str} {XP : (Str → Option Value) → Heap → Prop} {YP : World → Heap → Prop} {d : DefRec} {K : Params → PySem.W.Frag} {CX : World → CXT} {sp : World → Addr → Sp} {x : Str}
    (hn : l.most = some n) (hn2 : n ≤ sizeLine) (hdf : d.params.defaults = []) (hr : Room k callerA) (hrec : ((recsOf q).any fun e => e.name == d.name) = true)
    (hY : ∀ (w : World) (h : Heap), YP w h → (K w.params).In h)
    (F : ∀ (w : World) (mg : Str → Option Value) (fa : Addr) (h : Heap), (K w.params).In h → h.Ns mainGlobals mg → mg d.name = some (.ref fa) →
      ∃ (fd : FuncData) (c T : Addr) (e : Value) (dd : Option Addr) (sl : Array (Option Value)), (∀ (s : Shared) (u : Value), BindsTo s fd ⟨[u], []⟩ [(x, u)]) ∧ (K w.params).lookup fa = some ⟨e, dd, .func fd, sl⟩ ∧ fd.code = .ref c ∧ PySem.W.codeHdIn (K w.params) c T = true ∧ (K w.params).lookup T = none ∧
        ∀ base : Heap, (K w.params).In base → base.Ns mainGlobals mg → TabB base mg c T → FnG l.prog w (K w.params) mg base (CX w) k fa fd [x] (sp w T))
    (hsp : ∀ (w : World) (T : Addr) (H : Hp) (a : Addr) (ns : List Int), ns.length ≤ n → H T = some (.tbl #[]) → SqL (K w.params) H a (ns.map V.int) → sp w T [.ref a] H (fun v _ => v = .bl true) fun _ _ _ => False)
    (hCX : ∀ (w : World) (H : Hp) (s : Shared) (e : Value) (s' : Shared), CX w [] H s (fun _ _ _ => False) e s' → False) :
    PySem.W.WalkO q loose XP YP l.row.toRowW d [] (fun f vs => PySem.call f vs) := by
  refine Att.attach_callB hn hdf fun w s₀ s₁ mg mb fa o pm cd doc a vs ns G Y ho hd hcd hmg hobj hints hlen hbits hg => ?_
  have KX := hY w _ Y
  obtain ⟨fd, c, T, e, dd, sl, hb, hlk, hfc, hch, nT, hF⟩ := F w mg fa _ KX G.T.g hmg
  have hC := PySem.W.codeHd_of_K KX hch
  obtain ⟨dL, hm, hname⟩ := List.any_eq_true.mp hrec
  obtain ⟨a', o', fd', c', P', h1, h2, h3, h4, h5, ⟨oc, vc, e1, _, e3, e4⟩, hP⟩ := G.T.tab dL hm
  rw [show dL.name = d.name from beq_iff_eq.mp hname, hmg] at h1
  cases h1
  rw [KX _ _ hlk] at h2
  cases h2
  cases h3
  rw [hfc] at h4
  cases h4
  have eT : P' = T := by
    obtain ⟨o2, us, _, _, _, _, _, _, _, f1, _, f3, f4, _⟩ := hC
    rw [e1] at f1
    cases f1
    rw [e3] at f3
    cases f3
    rw [e4] at f4
    cases f4
    rfl
  subst eT
  exact law_callT KX G.T.g G.T.b G.T.builtins G.T.nolimit hg hP nT hC G.T.bmain hobj hints (Nat.le_trans hlen hn2) hr hF hb (fun H hH hS => hsp w P' H a ns hlen hH hS) fun H e s' => hCX w H s₁ e s'
/-! ### the call -/
section
variable {X : Cx}
/-- x(lambda: body), x a def of the module -/
theorem pe_lamF {x a : Str} {st : Stmt} {g c P : Addr} {fd : FuncData} {Ng : List Str} {k : Nat} {params : Arguments} {body : Expr} {scope : Scope} {t : XK → TE} {TT : (XK → Hp → VK → Prop) → Hp → VK → Prop} {p lpos pos : Pos}
    (F : Fun X.K x x st g fd) (hm : X.mg x = some (.ref g)) (hb : L2.Binds X.K fd [a] []) (Sg : FnScope Ng [a] (defScope st)) (hNg : Ng[0]? = some a) (hva : Vis (defScope st) a)
    (hG : ∀ cdg : Value, GivesTo X Ng x (defScope st) g cdg (defBody st) a (X.env.qual ++ "<lambda>") TT) (TB : TabB X.base X.mg c P) (hcode : X.env.code = .ref c) (hg : Gl X x) (hr : Room (k + 2) X.A) (L : LamS X.env.scope scope) (hdef : defaultsOf params X.env = ([], []))
    (hbind : ∀ (q : Str) (cl : List (Str × Addr)) (pm cv ctv : Value), bindArgs (PySem.W.kla_fn "<lambda>" q params body scope cl pm cv ctv) ⟨[], []⟩ = pure [])
    (hbody : ∀ (A : Around) (outer : List Env) (s : Shared) (H : Hp) (E : XK) (f c' : Addr), Room k (A.deeper (lamEnv X scope s.heap.objs.size f c')) → PE (lamCx X A outer s H E scope f c') body (t E))
    (hdb : (x == ("__debug__" : Str)) = false := by decide) (hd : (a == ("__debug__" : Str)) = false := by decide) (hcd : (a == ("__classdict__" : Str)) = false := by decide) :
    PE X (.Call (.Name x p) [.Lambda params body scope lpos] [] pos) (tLam [(P, X.env.qual ++ "<lambda>")] TT t) := by
  obtain ⟨oc, od, kV, doc, pm, an, cdv, ct, osl, rfl, lk, hcd2⟩ := F.ex
  exact pe_lamcall hg hm F.kp lk hcd2 hb Sg hNg hva (hG cdv) TB hcode (List.mem_singleton.mpr rfl) (fun q hq _ => by rw [List.mem_singleton.mp hq]) hr L hdef hbind hbody hdb hd hcd
end
/-- the slots are as many as the names -/
theorem takesLen {Z : Cx} {W : WX} (tk : Takes Z W) : Takes Z (fun cls d σ H => σ.length = Z.N.length → W cls d σ H) := fun u s' ⟨a, B, sI, pins, σ, H, cls, d, e, I, nb, up, sky, na, os, ag, w⟩ =>
  tk u s' ⟨a, B, sI, pins, σ, H, cls, d, e, I, nb, up, sky, na, os, ag, w I.len⟩
/-- a(), a the lambda that was handed in, in a try -/
theorem pe_actW {Z : Cx} {W : WX} {f c' : Addr} {q a : Str} {tl : XK → Hp → VK → Prop} {pn : List (Addr × Obj)} {xe : Value → Shared → Prop} {p1 p2 : Pos}
    (act : ∀ (W : WX) (pn : List (Addr × Obj)) (xe : Value → Shared → Prop) (E : XK) (p1 p2 : Pos), Takes (Z.tr pn xe) W → (∀ cls d σ' H', E cls d H' → W cls d σ' H') →
      PE (Z.tr pn xe) (.Call (.Name a p1) [] [] p2) (fun σZ HZ Q => σZ[0]? = some (some (.ref f)) ∧ HZ c' = some (CodeO c' q) ∧ tl E HZ Q)) (tk : Takes (Z.tr pn xe) W) :
    PE (Z.tr pn xe) (.Call (.Name a p1) [] [] p2) (fun σZ HZ Q => ∃ Ech : XK, (∀ (cls : Value) (d : Option Addr) (σ' : L2.St) (H' : Hp), σ'.length = Z.N.length → Ech cls d H' → W cls d σ' H') ∧ σZ[0]? = some (some (.ref f)) ∧ HZ c' = some (CodeO c' q) ∧ tl Ech HZ Q) :=
  ⟨fun pins s σ H Q I ⟨Ech, hW, h1, h2, h3⟩ => (act _ pn xe Ech p1 p2 (takesLen tk) (fun cls d σ' H' e l => hW cls d σ' H' l e)).run pins s σ H Q I ⟨h1, h2, h3⟩⟩
/-! ### heaps but for the tables -/
theorem ExtN.gr {H H1 H2 : Hp} {p : Addr} (e : ExtN H H1) (g : Gr p H1 H2) (hp : H p = none) : ExtN H H2 := fun b o h n => g _ _ (ne_of_none h hp) (e b o h n)
theorem ExtN.same {H H1 H2 : Hp} (e : ExtN H H1) (s : Same H1 H2) : ExtN H H2 := fun b o h n => s _ _ (e b o h n)
theorem Tabs.keep {T : List (Addr × Str)} {H H' : Hp} (t : Tabs T H) (s : ∀ b o, H b = some o → (∀ xs, o ≠ .lst xs) → H' b = some o) : Tabs T H' := fun p hp => by
  obtain ⟨ps, h1, h2, h3⟩ := t p hp
  refine ⟨ps, s _ _ h1 (fun _ z => nomatch z), h2, fun pos cv hc => ?_⟩
  obtain ⟨c, e1, e2⟩ := h3 pos cv hc
  exact ⟨c, e1, s _ _ e2 fun xs z => by unfold CodeO at z; cases z⟩
/-- what is no list and no table stays -/
abbrev KeepN (H H' : Hp) : Prop := ∀ b o, H b = some o → (∀ xs, o ≠ .lst xs) → (∀ ps, o ≠ .tbl ps) → H' b = some o
mutual
theorem RuleAt.keepN {C : Addr} {H H' : Hp} (s : KeepN H H') : ∀ (r : RT) (a : Addr), RuleAt C H r a → RuleAt C H' r a
  | .base n, a, h => by
    obtain ⟨dx, t, f, b, h1, h2, h3, h4⟩ := h
    exact ⟨dx, t, f, b, s _ _ h1 (fun _ z => nomatch z) (fun _ z => nomatch z), s _ _ h2 (fun _ z => nomatch z) (fun _ z => nomatch z), s _ _ h3 (fun _ z => nomatch z) (fun _ z => nomatch z), s _ _ h4 (fun _ z => nomatch z) (fun _ z => nomatch z)⟩
  | .op w ps, a, h => by
    obtain ⟨dx, t, f, b, ls, ns, h1, h2, h3, h4, h5, h6⟩ := h
    exact ⟨dx, t, f, b, ls, ns, s _ _ h1 (fun _ z => nomatch z) (fun _ z => nomatch z), s _ _ h2 (fun _ z => nomatch z) (fun _ z => nomatch z), RulesAt.keepN s ps ls h3, s _ _ h4 (fun _ z => nomatch z) (fun _ z => nomatch z), s _ _ h5 (fun _ z => nomatch z) (fun _ z => nomatch z), h6⟩
theorem RulesAt.keepN {C : Addr} {H H' : Hp} (s : KeepN H H') : ∀ (ps : List RT) (ls : List Addr), RulesAt C H ps ls → RulesAt C H' ps ls
  | [], _, h => h
  | p :: ps, _, h => by
    obtain ⟨a, r, e, h1, h2⟩ := h
    exact ⟨a, r, e, RuleAt.keepN s p a h1, RulesAt.keepN s ps r h2⟩
end
theorem ExtN.keepN {H H' : Hp} (e : ExtN H H') : KeepN H H' := fun b o h _ n => e b o h n
/-- weaker facts suffice -/
theorem FnOk.weaken {P : Program} {w : World} {K : PySem.W.Frag} {mg : Str → Option Value} {base : Heap} {CX : CXT} {k : Nat} {f : Addr} {fd : FuncData} {ps : List Str} {sp sp' : Sp} (F : FnOk P w K mg base CX k f fd ps sp) (h : ∀ vs H Q E, sp' vs H Q E → sp vs H Q E) : FnOk P w K mg base CX k f fd ps sp' :=
  ⟨fun vs H Q E z => F.len vs H Q E (h _ _ _ _ z), fun A outer s H args us vs Q E hr e0 hb r z => F.run A outer s H args us vs Q E hr e0 hb r (h _ _ _ _ z)⟩
end PX
/-! try with several clauses 'except C as e'; isinstance(e, ..) of a caught exception with fields; C.m(..) in a try. -/
namespace PX
open PySem PySem.Spec PyProof.Rows L2
/-- what the clauses wish of an exception of the body, one after the other -/
def wManyAs (K : PySem.W.Frag) (Wout : WX) (D : Ends) : List (Value × Nat × (Addr → Value → Option Addr → TS)) → WX
  | [] => Wout
  | (c, i, ts) :: r => fun cls d σ H => ∃ b, PySem.W.exmOne K cls c = some b ∧
      (b = true → ∀ a, H a = none → ts a cls d { nx := fun σ' H' => D.nx (σ'.set i none) H', rt := D.rt, bk := fun σ' H' => D.bk (σ'.set i none) H', ct := fun σ' H' => D.ct (σ'.set i none) H' } (σ.set i (some (.ref a))) H) ∧
      (b = false → wManyAs K Wout D r cls d σ H)
inductive HdsAs (X : Cx) : List ExceptHandler → List (Value × Nat × (Addr → Value → Option Addr → TS)) → Prop
  | nil : HdsAs X [] []
  | cons {x n : Str} {c : Value} {i : Nat} {ts : Addr → Value → Option Addr → TS} {b₀ : Stmt} {suite : List Stmt} {np pos' : Pos} {hds : List ExceptHandler} {l : List (Value × Nat × (Addr → Value → Option Addr → TS))} (hi : X.N[i]? = some n) (hln : X.env.kindOf n = some .local) (hc : Names X x c)
      (hsu : ∀ (a : Addr) (oe : Obj) (cls : Value) (d : Option Addr) (pn : List (Addr × Obj)), Zc cls d oe → (∃ vs, oe.data = .fields vs) → PSs (X.suite a ((a, oe) :: pn)) (b₀ :: suite) (ts a cls d)) (r : HdsAs X hds l) :
      HdsAs X (.ExceptHandler (some (.Name x np)) (some n) (b₀ :: suite) pos' :: hds) ((c, i, ts) :: l)
section
variable {X : Cx} {body : List Stmt} {h₀ : ExceptHandler} {hds : List ExceptHandler} {l : List (Value × Nat × (Addr → Value → Option Addr → TS))} {pos : Pos} {tb : WX → TS} {Wout : WX}
theorem ps_try_asM (hs : X.stack = X.env :: X.outer) (hf : X.env.frame = some X.env.locals) (hN : X.N.Nodup) (tk : Takes X Wout)
    (hb : ∀ (W : WX) (pn : List (Addr × Obj)) (xe : Value → Shared → Prop), Takes (X.tr pn xe) W → PassesOwn (model X.prog X.w) X.A X.env xe → PSs (X.tr pn xe) body (tb W))
    (hh : HdsAs X (h₀ :: hds) l) : PS X (.Try body (h₀ :: hds) [] [] pos) (fun D σ H => tb (wManyAs X.K Wout D l) D σ H) := by
  refine ⟨fun pins s σ H D I h => ?_⟩
  have ok := I.ok
  have hfr : X.A.frames = some (X.env :: X.outer) := by rw [ok.frames, hs]
  refine wpAny_Try_except ?_
  refine wpAny_mono ((hb (wManyAs X.K Wout D l) (X.pn ++ pins) (fun e s₁ => wpAny (model X.prog X.w) X.A (noteFrame e X.env) (fun _ s₂ => wpAny (model X.prog X.w) X.A (setFlight e none) (fun _ s₃ =>
    wpAny (model X.prog X.w) X.A (handleBy e X.env (h₀ :: hds)) (SP X pins D) X.xe s₃) X.xe s₂) X.xe s₁) (fun u s' xx => ?_) PassesOwn.looking).run [] s σ H D (I.toTry _) h) (fun f s1 hsp => ?_) (fun e s1 he => he)
  · -- the catch
    obtain ⟨a, B, sI, pins', σ', H', cls, d, rfl, J', nb, up, sky, na, os, ag, w⟩ := xx
    have J : Inv X pins σ' H' sI := J'.ofTry ok
    have sky' : Sky B (X.env :: X.outer) a (Zc cls d) X.env.locals s'.heap := by rw [← hs]; exact sky
    show wpAny (model X.prog X.w) X.A (noteFrame (.ref a) X.env) _ _ _
    refine Sky.land Zc.steady hfr hf sky' fun h3 fl3 up3 => ?_
    have J3 : Inv X pins σ' H' { s' with heap := h3 } := J.landed nb fl3.1 (up.trans up3) os ag
    obtain ⟨oe3, vs3, he3, hz3, hd3⟩ := fl3.there
    have notFr : ∀ {h : Heap} {o : Obj} {vs : Array Value}, h.FunFrames B (X.env :: X.outer) → h.get? a = some o → o.data = .fields vs → a ∉ frs (X.env :: X.outer) := fun {h o vs} ff e dd hm => by
      obtain ⟨_, o', e', hnf⟩ := ff.mem hm
      rw [e] at e'; cases e'
      exact hnf _ dd
    have nfr := notFr fl3.2.2.1 he3 hd3
    have nL : a ≠ X.env.locals := fun z => nfr (List.mem_filterMap.mpr ⟨X.env, List.mem_cons_self, by rw [hf, z]⟩)
    have nF : a ∉ X.fs := fun hm => by
      obtain ⟨e, he, q⟩ := List.mem_filterMap.mp hm
      exact nfr (List.mem_filterMap.mpr ⟨e, List.mem_cons_of_mem _ he, q⟩)
    have S3 := J3.suite he3 hd3 na nL nF
    have go : ∀ {hds' : List ExceptHandler} {l' : List (Value × Nat × (Addr → Value → Option Addr → TS))}, HdsAs X hds' l' → wManyAs X.K Wout D l' cls d σ' H' →
        wpAny (model X.prog X.w) X.A (handleBy (.ref a) X.env hds') (SP X pins D) X.xe { s' with heap := h3 } := by
      intro hds' l' hk
      induction hk with
      | nil =>
        intro w
        refine wpAny_handleBy_nil ?_
        obtain ⟨k1, k2, k3, oe, vs, T, oT, ts', he, hz, hd, h1, hr⟩ := id fl3
        unfold PySem.passOn
        refine wpAny_bind (wpAny_field he hd h1 ?_)
        rw [if_neg (show ¬ ((Value.ref T == Value.none) = true) from by simp)]
        have fin : wpAny (model X.prog X.w) X.A (setFlight (.ref a) X.env.frame) (fun _ s4 => wpAny (model X.prog X.w) X.A (throw (.ref a) : Sem Flow) (SP X pins D) X.xe s4) X.xe { s' with heap := h3 } := by
          rw [hf]
          refine HandSPX.setFlight_upZ fl3 fun h4 hh4 up4 => wpAny_throw (tk _ _ ?_)
          exact ⟨a, B, sI, pins, σ', H', cls, d, rfl, J, nb, (up.trans up3).trans up4, .inr (.inr (by rw [hs]; exact hh4)), na, os, ag, w⟩
        first
          | exact wpAny_bind (wpAny_pure (wpAny_bind fin))
          | exact wpAny_bind fin
      | @cons x n c i ts b₀ suite np pos' hds2 l2 hi hln hc hsu r ih =>
        intro w
        obtain ⟨b, hb1, hyes, hno⟩ := w
        refine wpAny_handleBy_cons (codeAny_handlers_test ?_) (by intro q; cases q)
        have LT : PySem.W.Looks (model X.prog X.w) h3 (typeOf (.ref a)) cls := fun A Q E s k q => wpAny_typeOf_ref (k _ _ he3) (by rw [hz3.1]; exact q)
        have LM := PySem.W.exm_one (M := model X.prog X.w) (J3.kIn) LT hb1
        have test : ∀ {Q : Value → Shared → Prop} {E : Value → Shared → Prop}, Q c { s' with heap := h3 } → wpAny (model X.prog X.w) (X.A.mark (some (.ref a))) (eval (.Name x np) X.env) Q E { s' with heap := h3 } := fun {Q E} q => by
          obtain ⟨hg, hdbg, hm | ⟨hm, hv, hnn⟩⟩ := hc
          · exact ld_glob (X := X.suite a ((a, oe3) :: (X.pn ++ pins))) S3 hg hm q hdbg
          · exact ld_blt (X := X.suite a ((a, oe3) :: (X.pn ++ pins))) S3 hg hm hv q hnn hdbg
        refine test (LM.here ?_)
        cases b with
        | true =>
          refine codeAny_handlers_suite_as ?_
          refine HandSPX.lands_againZ fl3 fun h4 fl4 up4 => ?_
          have J4 : Inv X pins σ' H' { s' with heap := h4 } := J.landed nb fl4.1 ((up.trans up3).trans up4) os ag
          obtain ⟨oe4, vs4, he4, hz4, hd4⟩ := fl4.there
          have S4 := J4.suite he4 hd4 na nL nF
          refine store_ok (X := X.suite a ((a, oe4) :: (X.pn ++ pins))) (v := .ref a) S4 hN hi (.inl hln) rfl (fun s5 S5 => ?_) (.inr hln)
          refine wpAny_mono ((hsu a oe4 cls d (X.pn ++ pins) hz4 ⟨_, hd4⟩).run [] s5 _ H' _ S5 (hyes rfl a na)) (fun f s6 hsp => ?_) (fun _ _ z => False.elim z)
          have end_ : ∀ {σ6 : L2.St} {H6 : Hp} {Q : Shared → Prop}, Inv (X.suite a ((a, oe4) :: (X.pn ++ pins))) [] σ6 H6 s6 → (∀ s7, Inv X pins (σ6.set i none) H6 s7 → Q s7) →
              wpAny (model X.prog X.w) X.A (do bindName X.env n .none; unbindBehindTheSuite X.env n pos') (fun _ s7 => Q s7) X.xe s6 := fun {σ6 H6 Q} S6 hq => gone_ok (S6.unsuite ok) hN hi hln hq
          cases f with
          | next =>
            obtain ⟨σ6, H6, S6, q6⟩ := hsp
            exact end_ S6 fun s7 J7 => ⟨_, _, J7, q6⟩
          | brk =>
            obtain ⟨σ6, H6, S6, q6⟩ := hsp
            exact end_ S6 fun s7 J7 => ⟨_, _, J7, q6⟩
          | cont =>
            obtain ⟨σ6, H6, S6, q6⟩ := hsp
            exact end_ S6 fun s7 J7 => ⟨_, _, J7, q6⟩
          | ret u =>
            obtain ⟨v6, σ6, H6, S6, r6, q6⟩ := hsp
            exact end_ S6 fun s7 J7 => ⟨_, _, _, J7, r6, q6⟩
        | false =>
          show wpAny _ X.A (handleBy (.ref a) X.env hds2) _ _ _
          exact ih (hno rfl)
    exact go hh w
  · cases f with
    | next =>
      obtain ⟨σ', H', J', q⟩ := hsp
      exact wpAny_execs_nil ⟨σ', H', J'.ofTry ok, q⟩
    | brk =>
      obtain ⟨σ', H', J', q⟩ := hsp
      exact ⟨σ', H', J'.ofTry ok, q⟩
    | cont =>
      obtain ⟨σ', H', J', q⟩ := hsp
      exact ⟨σ', H', J'.ofTry ok, q⟩
    | ret u =>
      obtain ⟨v, σ', H', J', r, q⟩ := hsp
      exact ⟨v, σ', H', J'.ofTry ok, r, q⟩
end
section
variable {prog : Program} {w : World} {A : Around} {E : Value → Shared → Prop} {s : Shared} {K : PySem.W.Frag} {x D : Addr} {ox od : Obj}
open PySem.W
theorem kin_classD {Q : Option Value → Shared → Prop} (hga : findIn K (.ref D) "__getattribute__" = some (some (.builtin "BaseException.__getattribute__"))) (hgt : findIn K (.ref D) "__getattr__" = some none) (hsub : subIn K (.ref D) (.type "BaseException") = some true)
    (hdct : hasDictIn K D = true) (ha : findIn K (.ref D) "__class__" = some (some (.builtin "object.__class__")))
    (hn : specialIn K (.builtin "object.__class__") "__get__" = some (some (.builtin "getset_descriptor.__get__"))) (htk : takesIn K (.builtin "object.__class__") = some true) (hm : mroIn K D (.type "object") = some true)
    (X : K.In s.heap) (I : InstAt s.heap x ox D (some od)) (h : Q (some (.ref D)) { s with toks := s.toks + 1 }) : wpAny (model prog w) A (getAttr? (.ref x) "__class__") Q E s := by
  have hf : findObj K D (some od) "__class__" = some (.bind (.builtin "getset_descriptor.__get__") (.builtin "object.__class__")) := findObj_data (by obtain ⟨cd, hc, _⟩ := any_some hdct; rw [hc]; rfl) ha hn htk
  obtain ⟨hp, g, d, t, os⟩ := s
  have L0 := I.type (M := model prog w)
  have L1 := looks_findIn (M := model prog w) X hga
  have L2 := looks_findIn (M := model prog w) X hgt
  have L3 := looks_find (M := model prog w) X I hf
  have sub : Looks (model prog w) hp (isInstance (.ref x) (.type "BaseException")) true := L0.andThen (looks_subIn X hsub)
  have hx0 : (false && onTheHeap (Value.builtin "BaseException.__getattribute__")) = false := rfl
  have hx2 : (Value.builtin "BaseException.__getattribute__" == Value.builtin "object.__getattribute__") = false := by decide +kernel
  have hx1 : (onTheHeap (Value.ref D) && Value.builtin "BaseException.__getattribute__" == Value.builtin "object.__getattribute__") = false := by rw [hx2]; rfl
  unfold getAttr? getAttrBy? getAttrBy
  refine wpAny_bind (wpAny_mkText (wpAny_bind (wpAny_attempt (wpAny_holding (wpAny_bind (L0.at (wpAny_bind (L1.at ?_))))))))
  show wpAny _ _ (if (onTheHeap (Value.ref D) && Value.builtin "BaseException.__getattribute__" == Value.builtin "object.__getattribute__") = true then _ else _) _ _ _
  rw [hx1, if_neg Bool.false_ne_true]
  unfold getAttrByItsOwn hookBefore
  refine wpAny_bind ?_
  rw [if_pos (show onTheHeap (Value.ref D) = true from rfl)]
  refine L2.at ?_
  refine wpAny_bind (wpAny_attempt (wpAny_holding ?_))
  unfold callGetattribute
  rw [hx0, if_neg Bool.false_ne_true]
  unfold boundAndCalled
  rw [PySem.F.excAttr_ValueError.ga.bind (.ref x)]
  refine wpAny_bind (wpAny_pure ?_)
  show wpAny _ _ (call (.builtin "BaseException.__getattribute__") [.ref x, .str "__class__" t]) _ _ _
  refine wpAny_call (codeAny_call_builtin PySem.F.excAttr_ValueError.ga.plain PySem.F.entry_bexc_ga ?_)
  refine @check_slot (model prog w) _ _ ⟨hp, g, d, t + 1, os⟩ "BaseException.__getattribute__" "BaseException" "__getattribute__" (.ref x) [.str "__class__" t] [] _ (by decide +kernel) (by decide +kernel) sub (PySem.F.args_bexc_ga (.ref x) (.str "__class__" t)) ?_
  unfold Builtin.«object.__getattribute__»
  refine wpAny_bind (wpAny_of_eq (a := ((Value.ref x : Value), [Value.str "__class__" t])) (by first | rfl | (simp only [slotArgs]; rfl)) ?_)
  refine wpAny_bind (wpAny_pure (wpAny_bind (L0.at (wpAny_bind (L3.at ?_)))))
  show wpAny _ _ (holding [Value.builtin "object.__class__"] (call (.builtin "getset_descriptor.__get__") [.builtin "object.__class__", .ref x, .ref D]) >>= ret) _ _ _
  refine wpAny_bind (wpAny_holding (wpAny_call (class_get (s := ⟨hp, g, d, t + 1, os⟩) (ox := ox) (od := some od) X I hm ?_)))
  refine wpAny_pure ?_
  show wpAny _ _ (handedOut (.ref D)) _ _ _
  rw [handedOut_of (v := .ref D) rfl]
  first
    | exact wpAny_pure (wpAny_pure h)
    | exact wpAny_pure h
    | exact wpAny_pure (wpAny_bind (wpAny_pure (wpAny_pure h)))
theorem kitx_excD (hga : findIn K (.ref D) "__getattribute__" = some (some (.builtin "BaseException.__getattribute__"))) (hgt : findIn K (.ref D) "__getattr__" = some none) (hsub : subIn K (.ref D) (.type "BaseException") = some true) (hdct : hasDictIn K D = true) (ha : findIn K (.ref D) "__class__" = some (some (.builtin "object.__class__")))
    (hn : specialIn K (.builtin "object.__class__") "__get__" = some (some (.builtin "getset_descriptor.__get__"))) (htk : takesIn K (.builtin "object.__class__") = some true) (hm : mroIn K D (.type "object") = some true) :
    KitX K (.ref x) (.ref D) (fun h => ∃ od, InstAt h x ox D (some od)) where
  ty := fun _ _ _ ⟨_, I⟩ => I.type
  it := fun _ _ X _ => by
    obtain ⟨cdD, hcD, _⟩ := any_some hdct
    unfold clsIn at hcD
    split at hcD
    · rename_i c' d' cd' sl' ho
      intro A' Q' E' s' k q
      unfold isType loadHead
      exact wpAny_bind (wpAny_loadPart (k _ _ (X _ _ ho)) (wpAny_pure q))
    · cases hcD
  ne := fun h tp dd its n sl X htp => by
    obtain ⟨cdD, hcD, _⟩ := any_some hdct
    refine Bool.eq_false_iff.mpr fun q => ?_
    have e : D = tp := Value.ref.inj (beq_iff_eq.mp q)
    subst e
    unfold clsIn at hcD
    split at hcD
    · rename_i c' d' cd' sl' ho
      have z := (X _ _ ho).symm.trans htp
      cases z
    · cases hcD
  ca := fun X ⟨_, I⟩ k => kin_classD hga hgt hsub hdct ha hn htk hm X I k
end
/-- isinstance(e, c), e the exception that the suite holds, c a class or a tuple of classes that was just laid -/
def rIsED (K : PySem.W.Frag) (D a : Addr) (cls : Value) (d : Option Addr) : List V → Hp → VK → Prop := fun xs H Q => ∃ (c : V) (cv : Value) (b : Bool) (dd : Addr) (fs : List (Str × V)), xs = [.ref a, c] ∧ cls = .ref D ∧ d = some dd ∧ H dd = some (.xd fs) ∧ ClsV c cv ∧ PySem.W.kitOne K (.ref D) cv = some b ∧ Q (.bl b) H
def rIsEDT (K : PySem.W.Frag) (D a : Addr) (cls : Value) (d : Option Addr) : List V → Hp → VK → Prop := fun xs H Q => ∃ (tp : Addr) (cs : List V) (us : List Value) (b : Bool) (dd : Addr) (fs : List (Str × V)), xs = [.ref a, .ref tp] ∧ cls = .ref D ∧ d = some dd ∧ H dd = some (.xd fs) ∧ H tp = some (.tup cs) ∧ Paired ClsV cs us ∧ PySem.W.kitAny K (.ref D) us = some b ∧ Q (.bl b) H
section
variable {X : Cx} {a D : Addr} {oe : Obj} {pn : List (Addr × Obj)} {cls : Value} {d : Option Addr}
theorem inst_xd {pins : List (Addr × Obj)} {σ : L2.St} {H : Hp} {s : Shared} {dd : Addr} {fs : List (Str × V)} (I : Inv (X.suite a ((a, oe) :: pn)) pins σ H s) (hz : Zc (.ref D) (some dd) oe) (hf : ∃ vs, oe.data = .fields vs) (ea : H dd = some (.xd fs)) : ∃ od, PySem.W.InstAt s.heap a oe D (some od) := by
  obtain ⟨ha, _⟩ := I.pin (a, oe) (List.mem_append_left _ List.mem_cons_self)
  obtain ⟨vs, hd⟩ := hf
  have hx : ObjOk X.prog X.w H s.heap dd (.xd fs) := I.hok dd _ ea
  obtain ⟨mA, hns, hr⟩ := hx
  obtain ⟨od, ho, hl⟩ := lookIn_ns hns
  exact ⟨od, ha, hz.1, by unfold PySem.W.notCls; rw [hd] <;> rfl, by rw [hz.2]; exact ho⟩
theorem call_isED (C : ExcC X.K D) (hz : Zc cls d oe) (hf : ∃ vs, oe.data = .fields vs) : CallR (X.suite a ((a, oe) :: pn)) (.builtin "isinstance") (rIsED X.K D a cls d) := by
  intro pins s σ H xs us Q I r h
  obtain ⟨c, cv, b, dd, fs, rfl, rfl, rfl, ed, hcv, e, q⟩ := h
  obtain ⟨u1, u2, rfl, r1, r2⟩ := vals2 r
  cases r1
  have ec := hcv.eq r2
  subst ec
  exact PySem.W.kia_one (kitx_excD C.hg C.hk C.hs C.hd C.ha C.hn C.ht C.hm) I.kIn (inst_xd I hz hf ed) e (fun z => nomatch z) fun tk => ⟨.bl b, H, I.kept (t' := tk) fun _ _ z => z, rfl, q⟩
theorem call_isEDT (C : ExcC X.K D) (hz : Zc cls d oe) (hf : ∃ vs, oe.data = .fields vs) : CallR (X.suite a ((a, oe) :: pn)) (.builtin "isinstance") (rIsEDT X.K D a cls d) := by
  intro pins s σ H xs us Q I r h
  obtain ⟨tp, cs, ws, b, dd, fs, rfl, rfl, rfl, ed, hT, hcv, e, q⟩ := h
  obtain ⟨u1, u2, rfl, r1, r2⟩ := vals2 r
  cases r1
  cases (show u2 = Value.ref tp from r2)
  obtain ⟨_, its, rv, o, h1, h2, n, h3⟩ := (show ObjOk X.prog X.w H s.heap tp (.tup cs) from I.hok tp _ hT)
  have e3 := ClsV.all hcv rv
  subst e3
  obtain ⟨oc, od, dt, sl⟩ := o
  simp only at h2 h3
  subst h2 h3
  exact PySem.W.kia_tup (kitx_excD C.hg C.hk C.hs C.hd C.ha C.hn C.ht C.hm) I.kIn (inst_xd I hz hf ed) h1 e (fun z => nomatch z) fun tk => ⟨.bl b, H, I.kept (t' := tk) fun _ _ z => z, rfl, q⟩
end
/-! ### C.m(..) in a try -/
def tSMethS (C : Addr) (sp : Sp) (E : L2.St → XK) (ta : TE) (t : TA) : TE := fun σ H Q => ta σ H fun x H1 => x = .ref C ∧ t σ H1 fun vs H2 => sp vs H2 Q (E σ)
section
variable {X : Cx} {CX : CXT} {k : Nat} {C p g : Addr} {fd : FuncData} {ps : List Str} {mc : Value} {sp : Sp} {E : L2.St → XK} {o e : Expr} {es : List Expr} {m : Str} {pos apos : Pos} {ta : TE} {t : TA} {pl : Sem Bool}
theorem pe_smethS (he : PE X o ta) (r : ClX.CRead X.K C mc) (c : SMet X.K C mc m p g) (F : FnOk X.prog X.w X.K X.mg X.base CX k g fd ps sp) (hr : Room k X.A) (hk : PySem.W.keepIn X.K (.ref g) = true) (hb : Binds X.K fd ps []) (hx : ∀ σ, PassesAt CX X σ (E σ)) (ha : PA X (e :: es) t)
    (hst : starEach (e :: es) X.env = (false, eval e X.env) :: starEach es X.env := by rfl) (hpl : (backTo pos (starEach es X.env)).any (·.1) = false := by rfl)
    (ht : eval (.Call (.Attribute o m apos) (e :: es) [] pos) X.env = (do
      let v ← eval o X.env
      standAt apos.atName
      let (f, first) ← holding [v] (getMethod v m pl)
      callWith pos f first (backTo pos (starEach (e :: es) X.env)) (backToKw pos (keywordEach [] X.env))) := by rfl) :
    PE X (.Call (.Attribute o m apos) (e :: es) [] pos) (tSMethS C sp E ta t) := by
  constructor
  intro pins s σ H Q I h
  refine PySem.W.methodCall_KW (pl := pl) (thn (he.run pins s σ H _ I h) fun u s1 z => ?_) ht
  obtain ⟨x, H1, I1, rx, rfl, q⟩ := z
  cases rx
  obtain ⟨rest, hp⟩ := c.rc
  refine PySem.W.method_cls I1.kIn r.ga ?_
  refine PySem.W.cls_bind I1.kIn r.rd c.at_ (wpAny_call (PySem.W.sm_get (s := { s1 with toks := s1.toks + 1 }) I1.kIn hp (PySem.W.handed_on rfl ?_)))
  have I2 : Inv X pins σ H1 { s1 with toks := s1.toks + 1 } := I1.tok _
  refine PySem.W.callWith_K (first := []) (h₀ := X.base) I2.ok.mod.kin hk (thn (ha.run pos pins _ σ H1 _ I2 q) fun us s3 z => ?_) hst hpl
  obtain ⟨vs, H2, I3, rv, q2⟩ := z
  refine ⟨I3.kIn, ?_⟩
  exact run_fnS F hr hb (hx σ) I3 rv q2
end
end PX
/-! enumerate(a text). -/
namespace PX
open PySem PySem.Spec PyProof.Rows L2
theorem enum_text {prog : Program} {w : World} {A : Around} {E : Value → Shared → Prop} {s : Shared} {x : Str} {t : Tok} {Q : Value → Shared → Prop}
    (h : ∀ h', IsEnum h' (s.heap.objs.size + 1) s.heap.objs.size 0 .none → h'.IsStrIter s.heap.objs.size (strIterType x) x t 0 → (∀ b o, s.heap.get? b = some o → h'.get? b = some o) → Q (.ref (s.heap.objs.size + 1)) { s with heap := h' }) :
    wpAny (model prog w) A (call (.type "enumerate") [.str x t]) Q E s := by
  refine callType_new F.called_enumerate (by decide) (F.typeCall_enumerate_1 _) (F.newCall_enumerate_1 _) (fun obj => F.args_object_init_2 obj _) F.entry_enumerate_new (meets_enum1 (begins_text x t)) ⟨trivial, ?_⟩
  have hz : (s.heap.push { cls := .type (strIterType x), data := .fields #[.str x t, .int 0 0] }).objs.size = s.heap.objs.size + 1 := Heap.size_push ..
  show _ ∧ _
  rw [hz]
  have lies := Heap.get?_push_size (s.heap.push { cls := .type (strIterType x), data := .fields #[.str x t, .int 0 0] }) (o := { cls := .type "enumerate", data := .fields #[.none, .bool false, .ref s.heap.objs.size, rawInt 0, .none, .none] }) rfl
  rw [hz] at lies
  exact ⟨⟨_, lies, rfl⟩, h _ lies ⟨_, Heap.get?_push_of_some _ (Heap.get?_push_size _ rfl), rfl, rfl⟩ fun b o x => Heap.get?_push_of_some _ (Heap.get?_push_of_some _ x)⟩
theorem nextOf_text_end {prog : Program} {w : World} {A : Around} {E : Value → Shared → Prop} {s : Shared} {it : Addr} {x : Str} {t : Tok} {i : Nat} {Q : Value → Shared → Prop} (hh : A.handled = none)
    (hit : s.heap.IsStrIter it (strIterType x) x t i) (hx : x.cps[i]? = none)
    (hE : ∀ h' e, Heap.ExtBut it s.heap h' → (∃ o, h'.get? e = some o ∧ o.cls = .type "StopIteration") → E (.ref e) { s with heap := h' }) :
    wpAny (model prog w) A (Builtin.SmallTypes.nextOf (.ref it)) Q E s := by
  cases ha : x.cps.all (· < 128)
  · rw [show strIterType x = "str_iterator" by simp [strIterType, ha]] at hit
    exact wpAny_nextOf_wide_end hh hit hx hE
  · rw [show strIterType x = "str_ascii_iterator" by simp [strIterType, ha]] at hit
    exact wpAny_nextOf_ascii_end hh hit hx hE

/-- the text x, each sign in a new pair -/
def IteS (x : Str) : It :=
  ⟨fun i H => i < x.cps.size, fun i H v H' => ∃ (T : Addr) (c : Nat), v = .ref T ∧ H T = none ∧ H' = upd H T (.tup [.int (i : Nat), .str ⟨#[c]⟩]) ∧ x.cps[i]? = some c, fun i H => x.cps.size ≤ i⟩
theorem turn_enumS {P : Program} {w : World} {K : PySem.W.Frag} {elts : List Expr} {kk : Nat} {tpos : Pos} (x : Str) (t : Tok) (e it : Addr) :
    Turn P w K (.Tuple elts kk tpos) (IteS x) [e, it] e (fun i h => (∃ old, IsEnum h e it ((i : Nat) : Int) old) ∧ h.IsStrIter it (strIterType x) x t i ∧ e ≠ it) where
  mem := by simp
  obj := fun i h st b hb => by
    obtain ⟨⟨old, lies⟩, ⟨o, ho, hc, hd⟩, _⟩ := st
    rcases (by simpa using hb : b = e ∨ b = it) with z | z
    · rw [z]
      exact ⟨_, lies, fun v q => nomatch q⟩
    · rw [z]
      exact ⟨o, ho, fun v q => by rw [hd] at q; cases q⟩
  keep := fun i h h' st k => by
    obtain ⟨⟨old, lies⟩, ⟨o, ho, r⟩, apart⟩ := st
    exact ⟨⟨old, k e (by simp) _ lies⟩, ⟨o, k it (by simp) o ho, r⟩, apart⟩
  item := by
    intro X hP hw hK hc i pins s σ H E I hf st hg
    subst hP hw hK
    obtain ⟨⟨old, lies⟩, iter, apart⟩ := st
    have lo := Heap.lt_size lies
    have lt : it < s.heap.objs.size := by
      obtain ⟨_, q, _⟩ := iter
      exact Heap.lt_size q
    refine wpAny_pyNext_enum_itemC (Draws.text (A := X.A.in1) (I.ok.hd hc) it x t) lies iter hg apart (by simp [apart]) fun y h' tk hy ho st' hT hsz hk => ?_
    obtain ⟨c, u, hcx, rfl⟩ := hy
    refine ⟨_, rfl, wpAny_letOwnedTupleGo_enum (s := { s with heap := h', toks := tk + 1 }) ho fun h2 he2 but => ?_⟩
    have new2 : h2.get? s.heap.objs.size = some { cls := .type "tuple", data := .seq #[.int i tk, .str ⟨#[c]⟩ u] } := (but.2 _ (Nat.ne_of_gt lo)).trans hT
    have new : ObjOk X.prog X.w (upd H s.heap.objs.size (.tup [.int (i : Nat), .str ⟨#[c]⟩])) h2 s.heap.objs.size (.tup [.int (i : Nat), .str ⟨#[c]⟩]) := ⟨by show 2 ≤ sizeLine; decide, [.int i tk, .str ⟨#[c]⟩ u], .cons ⟨_, rfl⟩ (.cons ⟨_, rfl⟩ .nil), ⟨_, new2, rfl, _, rfl⟩⟩
    have I1 : Inv X pins σ (upd H s.heap.objs.size (.tup [.int (i : Nat), .str ⟨#[c]⟩])) { s with heap := h2, toks := tk + 1 } :=
      I.turnedNew (ch := [e, it]) (fun b ob hb q => (but.2 b (fun z => hb (by simp [z]))).trans (hk b ob (fun z => hb (by simp [z])) (fun z => hb (by simp [z])) q)) hf (Nat.le_refl _) new
    have st2 : h2.IsStrIter it (strIterType x) x t (i + 1) := by
      obtain ⟨o, q, r⟩ := st'
      exact ⟨o, (but.2 it apart.symm).trans q, r⟩
    refine ⟨.ref s.heap.objs.size, _, I1, rfl, ⟨_, c, rfl, I.hok.fresh (Nat.le_refl _), rfl, hcx⟩, ⟨⟨.str ⟨#[c]⟩ u, ?_⟩, st2, apart⟩, fun b hb => ?_⟩
    · have z : ((i + 1 : Nat) : Int) = (i : Int) + 1 := by omega
      rw [z]
      exact he2
    · have less : b < s.heap.objs.size := by
        rcases (by simpa using hb : b = e ∨ b = it) with z | z
        · rw [z]; exact lo
        · rw [z]; exact lt
      rw [upd_ne (Nat.ne_of_lt less)]
      exact (hf b hb).1
  done := by
    intro X hP hw hK hc i pins s σ H E I hf st hg
    subst hP hw hK
    obtain ⟨⟨old, lies⟩, iter, apart⟩ := st
    obtain ⟨k0, k1, k2, k3, k4, k5⟩ := hf it (by simp)
    have none_at : x.cps[i]? = none := Array.getElem?_eq_none hg
    unfold pyNext
    have ty : s.TypeIs (.ref e) "enumerate" := ⟨_, lies, rfl⟩
    refine wpAny_bind (wpAny_attempt (wpAny_callSpecial?_slot (name := Str.ofString "__next__") ty F.slot_enumerate_next (wpAny_call_entry F.slot_enumerate_next ty F.entry_enumerate_next ?_ (F.args_enumerate_next_1 _))))
    show wpAny _ _ (field (.ref e) 2 >>= _) _ _ _
    refine wpAny_bind (wpAny_field lies rfl (x := .ref it) rfl (wpAny_bind (nextOf_text_end (I.ok.hd hc) iter none_at fun h' x ext stop => ?_)))
    obtain ⟨o, ho, hcl⟩ := stop
    refine wpAny_bind (wpAny_isInstance (T := "StopIteration") (b := true) ⟨o, ho, hcl⟩ isSubtype_stop ?_)
    exact wpAny_pure ⟨rfl, I.turned (t' := s.toks) (fun b o hb q => ext b o hb q) k0 k1 k3 k4 k5⟩
  self := fun A i s Q E st h => by
    obtain ⟨⟨_, lies⟩, _⟩ := st
    exact wpAny_pyIter_enum lies h
def iEnumS (ta : TA) : TI := fun σ H R => ta σ H fun vs H1 => ∃ x : Str, vs = [.str x] ∧ R (IteS x) H1
theorem pi_enumS {X : Cx} {e : Expr} {ta : TA} {p pos tpos : Pos} {elts : List Expr} {kk : Nat} (hg : Gl X "enumerate") (hm : X.mg "enumerate" = none) (ha : PA X [e] ta) (hs : starEach [e] X.env = [(false, eval e X.env)] := by rfl) :
    PI X (.Tuple elts kk tpos) (.Call (.Name "enumerate" p) [e] [] pos) (iEnumS ta) := by
  refine ⟨fun pins s σ H R I h => Call_ (ld_blt I hg hm boot_enumerate (PyProof.Rows.callWith_type1 (thn (ha.run pos pins s σ H _ I h) fun us s1 ⟨vs, H1, I1, r1, x, ex, q⟩ => ?_) hs rfl))⟩
  subst ex
  obtain ⟨u, rfl, ru⟩ := vals1 r1
  obtain ⟨t, rfl⟩ := ru
  refine enum_text fun h' lies iter hk => wpAny_pyIter_enum lies ?_
  have I2 : Inv X pins σ H1 { s1 with heap := h' } := I1.kept (t' := s1.toks) hk
  refine ⟨s1.heap.objs.size + 1, [s1.heap.objs.size + 1, s1.heap.objs.size], _, _, H1, rfl, I2, turn_enumS x t (s1.heap.objs.size + 1) s1.heap.objs.size, ⟨⟨.none, lies⟩, iter, Nat.succ_ne_self _⟩, fun b hb => ?_, q⟩
  have above : s1.heap.objs.size ≤ b := by
    rcases (by simpa using hb : b = s1.heap.objs.size + 1 ∨ b = s1.heap.objs.size) with z | z
    · rw [z]; exact Nat.le_add_right _ _
    · rw [z]; exact Nat.le_refl _
  exact I1.fpOk above (I1.hok.fresh above)
theorem walk_enumS {x : Str} : Walk (IteS x) x.cps.size (fun _ => True) (YPair (fun i => some (.int (i : Nat))) (fun i => x.cps[i]?.map fun c => .str ⟨#[c]⟩)) := by
  refine ⟨fun i _ hi q => hi, fun _ q => Nat.le_refl _, fun i H v H' _ q y => ?_⟩
  obtain ⟨T, c, h1, h2, h3, h4⟩ := y
  exact ⟨T, .int (i : Nat), .str ⟨#[c]⟩, h1, h2, h3, rfl, by dsimp only; rw [h4]; rfl⟩
/-- x * 0, x * 1 -/
def rMulS : R2 := fun x y H Q => ∃ (z : Str) (b : Bool), x = .str z ∧ y = .int (b2i b) ∧ z.length ≤ 1000 ∧ Q (.str (if b = true then z else "")) H
theorem op_mulS {X : Cx} : OpR X (binaryOp .Mult) rMulS := by
  intro pins s σ H x y v u Q I rx ry h
  obtain ⟨z, b, rfl, rfl, hz, q⟩ := h
  obtain ⟨t, rfl⟩ := rx
  obtain ⟨t', rfl⟩ := ry
  cases b with
  | false => exact PySem.P.mul_str_none (by decide) (by decide) ⟨.str Str.empty, H, I.tok _, ⟨_, rfl⟩, q⟩
  | true =>
    refine PySem.P.mul_str (by decide) (fun _ h => ?_) (fun _ h => ?_) ?_
    · exact absurd h (by simp [b2i])
    · exact absurd h (by simp [b2i])
    · rw [if_neg (by decide)]
      simp only [b2i]
      exact ⟨.str z, H, I, ⟨_, rfl⟩, q⟩
end PX
/-! repr of lists of data in which a dict {text: int} may stand, at any depth of lists. -/
namespace PX
open PySem PySem.Spec PyProof.Rows L2
mutual
inductive DpX (K : PySem.W.Frag) (H : Hp) : V → PyData → Prop
  | data {v : V} {d : PyData} : Dp K H v d → d.showable = true → d.hasDict = false → DpX K H v d
  | dic {a : Addr} {x : Str} {i : Int} : H a = some (.dK [(Sum.inr x, .int i)]) → i.natAbs.log2 < 1920 → DpX K H (.ref a) (.dict [(.str x, .int i)])
  | lst {a : Addr} {xs : List V} {ds : List PyData} : SqL K H a xs → DpXs K H xs ds → DpX K H (.ref a) (.list ds)
inductive DpXs (K : PySem.W.Frag) (H : Hp) : List V → List PyData → Prop
  | nil : DpXs K H [] []
  | cons {v : V} {vs : List V} {d : PyData} {ds : List PyData} : DpX K H v d → DpXs K H vs ds → DpXs K H (v :: vs) (d :: ds)
end
section
variable {X : Cx} {pins : List (Addr × Obj)} {σ : L2.St} {H : Hp} {s : Shared}
mutual
theorem DpX.repr (I : Inv X pins σ H s) : ∀ {v : V} {d : PyData} {u : Value}, DpX X.K H v d → RelV v u → d.shown.length ≤ sizeLine →
    ∃ bs as, Reads s.heap u d as ∧ ReadAtMost s.heap d.depth bs ∧ ReprK X.prog X.w bs s.heap d.depth u d.shown
  | _, _, _, .data h hs hn, ru, hz => by
    obtain ⟨as, rd⟩ := Dp.reads I _ _ _ h ru
    obtain ⟨bs, h1, h2⟩ := ReprK.of_reads (prog := X.prog) (w := X.w) rd hs (PyData.noDict_hsm hn) hz
    exact ⟨bs, as, rd, h1, h2⟩
  | _, _, _, .dic (a := a) (x := x) (i := i) ea hi, ru, hz => by
    cases ru
    obtain ⟨_, hsys, vs, kv, o, es, ep, ho, hc, hd, _, hp, _⟩ := dk_of I.hok ea
    cases kv with
    | @cons _ p _ ps hq t =>
      cases t
      obtain ⟨p1, p2⟩ := p
      obtain ⟨e1, tk, e2⟩ := hq
      dsimp only at e1 e2
      subst e1 e2
      generalize hes : es.toList = l at hp
      cases hp with
      | @cons e _ l' _ h1 h2 h3 =>
        cases h3
        obtain ⟨t1, e1⟩ := Value.isStrOf_shape (x := x) (v := e.key) h1
        have r1 : ReadsAll s.heap (es.toList.map (·.key)) [.str x] ([] ++ []) := by
          rw [hes]
          show ReadsAll _ [e.key] [.str x] ([] ++ [])
          rw [e1]
          exact .cons (.str x t1) .nil
        have r2 : ReadsAll s.heap (es.toList.map (·.val)) [.int i] ([] ++ []) := by
          rw [hes]
          show ReadsAll _ [e.val] [.int i] ([] ++ [])
          rw [h2]
          exact .cons (.int i tk) .nil
        have r : Reads s.heap (.ref a) (.dict [(.str x, .int i)]) _ := Reads.dict ho hc.1 hd r1 r2
        have hz1 : (PyData.dict [(.str x, .int i)]).shown.length ≤ sizeLine := hz
        obtain ⟨b, hb, hk⟩ := ReprK.of_reads (prog := X.prog) (w := X.w) r (by simpa [PyData.showable, PyData.showableKv] using hi) (fun _ hm => by
          simp only [List.append_nil, List.mem_singleton] at hm
          rw [← hm] at hsys
          cases hsys) hz1
        exact ⟨b, _, r, hb, hk⟩
  | _, _, _, .lst (a := a) (xs := xs) (ds := ds) hs hd, ru, hz => by
    cases ru
    have hz' : (listText (PyData.shownAll ds)).length ≤ sizeLine := by simpa only [PyData.shown] using hz
    obtain ⟨its, rv, ⟨o, n, ho, hc, _, hdt⟩, _⟩ := I.list hs
    obtain ⟨bs, as, rs, hb, hk⟩ := DpXs.repr I hd rv (fun t ht => Nat.le_trans (listText_mem_le ht) hz')
    have r : Reads s.heap (.ref a) (.list ds) _ := .list ho hc hdt (by simpa using rs)
    have hna : a ∉ bs := not_mem_of_deeper r (by simp only [PyData.depth]; omega) hb
    refine ⟨a :: bs, _, r, ReadAtMost.cons r (by simp only [PyData.depth]; omega) hb, ?_⟩
    simp only [PyData.depth, PyData.shown]
    cases its with
    | nil =>
      cases rs
      simp only [PyData.shownAll, listText_nil]
      exact ReprK.listEmpty ho hc hdt
    | cons x l => exact ReprK.list ho hc hdt hna (by simpa using hk.length_eq) (fun i y e => hk.item i y (by simpa using e))
theorem DpXs.repr (I : Inv X pins σ H s) : ∀ {vs : List V} {ds : List PyData} {us : List Value}, DpXs X.K H vs ds → Vals vs us → (∀ t ∈ PyData.shownAll ds, t.length ≤ sizeLine) →
    ∃ bs as, ReadsAll s.heap us ds as ∧ ReadAtMost s.heap (PyData.depthAll ds) bs ∧ ReprAllK X.prog X.w bs s.heap (PyData.depthAll ds) us (PyData.shownAll ds)
  | _, _, _, .nil, rv, _ => by
    cases rv
    exact ⟨[], _, .nil, (fun _ h => nomatch h), by simp only [PyData.shownAll]; exact .nil⟩
  | _, _, _, .cons (d := d) (ds := ds) h hs, rv, hz => by
    cases rv with
    | cons r1 r2 =>
      obtain ⟨b1, a1, q1, hb1, k1⟩ := DpX.repr I h r1 (hz _ (by simp only [PyData.shownAll]; exact List.mem_cons_self ..))
      obtain ⟨b2, a2, q2, hb2, k2⟩ := DpXs.repr I hs r2 (fun t ht => hz t (by simp only [PyData.shownAll]; exact List.mem_cons_of_mem _ ht))
      refine ⟨b1 ++ b2, _, .cons q1 q2, ?_, ?_⟩
      · simp only [PyData.depthAll]
        exact (hb1.mono (Nat.le_max_left _ _)).append (hb2.mono (Nat.le_max_right _ _))
      · simp only [PyData.depthAll, PyData.shownAll]
        exact .cons ((k1.more fun b hb => List.mem_append_left _ hb).level_le (Nat.le_max_left _ _)) (k2.more_le (fun b hb => List.mem_append_right _ hb) (Nat.le_max_right _ _))
end
end
/-- repr of a list of such data -/
def rReprX (K : PySem.W.Frag) : List V → Hp → VK → Prop := fun xs H Q => ∃ (a : Addr) (ds : List PyData), xs = [.ref a] ∧ DpX K H (.ref a) (.list ds) ∧ (PyData.list ds).depth ≤ 60 ∧ (PyData.list ds).shown.length ≤ sizeLine ∧ Q (.str (PyData.list ds).shown) H
theorem call_reprX {X : Cx} (hu : X.A.units + 64 < cLine) (hg : NoG X.A) : CallR X (.builtin "repr") (rReprX X.K) := by
  intro pins s σ H xs us Q I r h
  obtain ⟨a, ds, rfl, hd, hp, hz, q⟩ := h
  obtain ⟨u, rfl, ru⟩ := vals1 r
  cases ru
  have hz' : (listText (PyData.shownAll ds)).length ≤ sizeLine := by simpa only [PyData.shown] using hz
  have out : ∀ (h' : Heap) (u : Tok) (tk : Nat), (∀ b o, s.heap.get? b = some o → h'.get? b = some o) → (fun r s₁ => ∃ x t, r = Value.str x t ∧ EP X pins σ Q r s₁) (.str (PyData.list ds).shown u) { s with heap := h', toks := tk } :=
    fun h' u tk kp => ⟨_, _, rfl, .str (PyData.list ds).shown, H, I.kept kp, ⟨u, rfl⟩, q⟩
  cases hd with
  | data h hs hn =>
    obtain ⟨as, rd⟩ := Dp.reads I _ _ (Value.ref a) h rfl
    exact repr_of_reads' rd hs (PyData.noDict_hsm hn) hg (by omega) (fun _ _ e => e) (fun h' u tk kp => ⟨.str _, H, I.kept kp, ⟨u, rfl⟩, q⟩) hz
  | lst hs hd =>
    obtain ⟨its, rv, ⟨o, n, ho, hc, _, hdt⟩, _⟩ := I.list hs
    obtain ⟨bs, as, rs, hb, hk⟩ := DpXs.repr I hd rv (fun t ht => Nat.le_trans (listText_mem_le ht) hz')
    have r : Reads s.heap (.ref a) (.list ds) _ := .list ho hc hdt (by simpa using rs)
    have hna : a ∉ bs := not_mem_of_deeper r (by simp only [PyData.depth]; omega) hb
    simp only [PyData.depth] at hp
    refine call_repr_slot (by omega) ⟨o, ho, hc⟩ F.slot_list_repr.toG ?_
    cases its with
    | nil =>
      cases rs
      simp only [PyData.shown, PyData.shownAll, listText_nil] at out
      exact call_list_repr_empty ⟨o, ho, hc⟩ ho hdt (out s.heap _ _ fun _ _ e => e)
    | cons x l =>
      simp only [PyData.shown] at out
      exact call_list_reprK ho hc hdt hna (by simpa using hk.length_eq) (fun i y e => hk.item i y (by simpa using e)) hg (fun b _ => Clear.nil b) (by show X.A.units + 1 + _ < _; omega) (fun _ _ e => e) out hz'
end PX
namespace PX
open PySem PySem.Spec PyProof.Rows L2
mutual
theorem DpX.same {K : PySem.W.Frag} {H H' : Hp} (s : Same H H') : ∀ {v : V} {d : PyData}, DpX K H v d → DpX K H' v d
  | _, _, .data h1 h2 h3 => .data (dp_same s _ _ h1) h2 h3
  | _, _, .dic h1 h2 => .dic (s _ _ h1) h2
  | _, _, .lst h1 h2 => .lst (sqL_same s h1) (DpXs.same s h2)
theorem DpXs.same {K : PySem.W.Frag} {H H' : Hp} (s : Same H H') : ∀ {vs : List V} {ds : List PyData}, DpXs K H vs ds → DpXs K H' vs ds
  | _, _, .nil => .nil
  | _, _, .cons h1 h2 => .cons (DpX.same s h1) (DpXs.same s h2)
end
/-- data that is not long -/
structure OkD (d : PyData) : Prop where
  sh : d.showable = true
  sg : signsD d = true
  co : costD d ≤ 5000
  de : d.depth ≤ 2
end PX
/-! Own exceptions as values: made by position and by keywords, tracked, their fields read, isinstance. -/
namespace PX
open PySem PySem.Spec PyProof.Rows L2
section
variable {M : Model} {prog : Program} {w : World} {A : Around} {E : Value → Shared → Prop} {R : Result → Shared → Prop} {h : Heap} {g : Array GenState} {d : Drawn} {t : Nat} {os : OsState}
variable {nm q : Str} {C N : Addr} {bs bm : List Value} {hdct : Bool} {sn : List Str} {sub : List Value} {ab : Bool} {col : Option Bool} {dd : Option Addr} {k0 k1 k2 k3 k5 : Option Value}
variable {Bn newId iN : String} {bmN bmB : List Value}
theorem kw_check_new (F : ExcBaseFacts Bn newId iN bmN) (hT : ∀ X : String, bm.contains (.type X) = bmB.contains (.type X)) (hB : bmB.contains (.type Bn) = true) {rest : List Value} {kw : List (Str × Value)} {Q : Unit → Shared → Prop}
    (hC : h.get? C = some (excClassObj nm q C N bs bm hdct sn sub ab col dd k0 k1 k2 k3 k5 newId)) (hq : Q () ⟨h, g, d, t, os⟩) : wpAny M A (checkBuiltinCall newId ⟨.ref C :: rest, kw⟩) Q E ⟨h, g, d, t, os⟩ := by
  have hcont : (Value.ref C :: bm).contains (.type Bn) = true := by rw [List.contains_cons, hT, hB, Bool.or_true]
  have hstar := F.noStar
  simp only [checkBuiltinCall, F.newKind, F.newSplit, F.newRow]
  repeat (first | refine wpAny_loadPart_at hC ?_ | (refine wpAny_isSubtype_exc hC ?_; rw [hcont]) | refine wpAny_staticBase_exc hC ?_ | refine wpAny_madeBy_exc hC ?_ | simp only [bne_self_eq_false, Bool.false_eq_true, if_false] | wp_step)
  exact hq
theorem kw_new (F : ExcBaseFacts Bn newId iN bmN) (hT : ∀ X : String, bm.contains (.type X) = bmB.contains (.type X)) (hB : bmB.contains (.type Bn) = true) (hA : bmB.contains (.type "AttributeError") = false) (hN : bmB.contains (.type "NameError") = false) {rest : List Value} {kw : List (Str × Value)}
    (hC : h.get? C = some (excClassObj nm q C N bs bm hdct sn sub ab col dd k0 k1 k2 k3 k5 newId))
    (hq : R (.ok (.ret (.ref (h.objs.size + 1)))) ⟨(h.push { cls := .type "tuple", data := .seq rest.toArray }).push
      { cls := .ref C, data := .fields #[.ref h.objs.size, .none, .none, .none, .bool false, .none] }, g, d, t, os⟩) (hrest : rest.length ≤ sizeLine) :
    codeAny (model prog w) A (.builtin newId ⟨.ref C :: rest, kw⟩) R ⟨h, g, d, t, os⟩ := by
  have hends := F.ends
  have hcB : (Value.ref C :: bm).contains (.type Bn) = true := by rw [List.contains_cons, hT, hB, Bool.or_true]
  have hcA : (Value.ref C :: bm).contains (.type "AttributeError") = false := by rw [List.contains_cons, hT, hA]; rfl
  have hcN : (Value.ref C :: bm).contains (.type "NameError") = false := by rw [List.contains_cons, hT, hN]; rfl
  refine codeAny_builtinAt F.entry ?_
  unfold Builtin.«BaseException.__new__»
  refine PySem.wpAt_bind ?_
  show PySem.wpAt _ _ _ (stack >>= _) _ _ _
  refine PySem.wpAt_bind (PySem.wpAt_stack fun p below => PySem.wpAt_of_wpAny ?_)
  wp_walk
  refine PySem.wpAt_of_wpAny ?_
  rw [F.owner]
  repeat (first | with_reducible refine wpAny_madeHere_exc F.canon hC ?_ | with_reducible refine wpAny_loadPart_at hC ?_ | (with_reducible refine wpAny_isSubtype_exc hC ?_; first | rw [hcB] | rw [hcA] | rw [hcN]) | wp_step)
  show R _ _
  rw [Heap.size_push]
  exact hq
theorem kw_type_call (F : ExcBaseFacts Bn newId iN bmN) (hT : ∀ X : String, bm.contains (.type X) = bmB.contains (.type X)) (hB : bmB.contains (.type Bn) = true) (hA : bmB.contains (.type "AttributeError") = false) (hN : bmB.contains (.type "NameError") = false) {rest : List Value} {kw : List (Str × Value)} {fI : Addr} {Q : Fin → Shared → Prop}
    (hC : h.get? C = some (excClassObj nm q C N bs bm hdct sn sub ab col dd k0 k1 k2 k3 k5 newId))
    (hi : PySem.W.Looks (model prog w) h (typeLookup (.ref C) "__init__") (some (.ref fI))) (hb : ∀ self, PySem.W.Looks (model prog w) h (bindSpecial (.ref fI) self) (.ref fI, [self])) (hrest : rest.length ≤ sizeLine)
    (hq : codeAny (model prog w) A (.call (.ref fI) ⟨.ref (h.objs.size + 1) :: rest, kw⟩)
      (fun r s' => match r with | .ok (.ret v) => v = .none ∧ Q (.done (.ret (.ref (h.objs.size + 1)))) s' | .ok _ => False | .error e => E e s')
      ⟨(h.push (PySem.W.kdv_tup rest)).push (PySem.HandSPX.excO C h.objs.size), g, d, t, os⟩) :
    wpAny (model prog w) A (Builtin.«type.__call__» ⟨.ref C :: rest, kw⟩) Q E ⟨h, g, d, t, os⟩ := by
  repeat (first | with_reducible refine wpAny_loadPart_at hC ?_ | with_reducible refine wpAny_madeBy_exc hC ?_ | wp_step)
  refine codeAny_call_builtin_code (Code.quiet_builtin _ F.quiet) (kw_check_new F hT hB hC ?_)
  refine kw_new F hT hB hA hN hC ?_ hrest
  show wpAny _ _ _ _ _ _
  have k : ∀ b o, h.get? b = some o → ((h.push (PySem.W.kdv_tup rest)).push (PySem.HandSPX.excO C h.objs.size)).get? b = some o := fun b o e => Heap.get?_push_of_some _ (Heap.get?_push_of_some _ e)
  have hC₁ := k _ _ hC
  have hget : ((h.push (PySem.W.kdv_tup rest)).push (PySem.HandSPX.excO C h.objs.size)).get? (h.objs.size + 1) = some (PySem.HandSPX.excO C h.objs.size) := by heap_get
  have hcC : (Value.ref C :: bm).contains (.ref C) = true := by simp
  have i1 := hi.keeps k
  have b1 := (hb (.ref (h.objs.size + 1))).keeps k
  unfold isInstance
  repeat (first | with_reducible refine wpAny_loadPart_at hget ?_ | (with_reducible refine wpAny_isSubtype_exc hC₁ ?_; rw [hcC]) | wp_step)
  show wpAny _ _ (typeLookup (.ref C) _) _ _ _
  refine i1.at ?_
  refine wpAny_holding (wpAny_bind (b1.at ?_))
  refine wpAny_bind (wpAny_call (codeAny_mono hq fun r s' z => ?_))
  rcases r with e | (v | _ | _ | _) <;> first | exact z | exact z.elim | skip
  obtain ⟨rfl, z⟩ := z
  first
    | exact wpAny_pure (wpAny_pure z)
    | (wp_walk; exact z)
theorem kw_own (F : ExcBaseFacts Bn newId iN bmN) (hT : ∀ X : String, bm.contains (.type X) = bmB.contains (.type X)) (hB : bmB.contains (.type Bn) = true) (hA : bmB.contains (.type "AttributeError") = false) (hN : bmB.contains (.type "NameError") = false) {rest : List Value} {kw : List (Str × Value)} {fI : Addr}
    (hC : h.get? C = some (excClassObj nm q C N bs bm hdct sn sub ab col dd k0 k1 k2 k3 k5 newId))
    (hi : PySem.W.Looks (model prog w) h (typeLookup (.ref C) "__init__") (some (.ref fI))) (hb : ∀ self, PySem.W.Looks (model prog w) h (bindSpecial (.ref fI) self) (.ref fI, [self])) (hrest : rest.length ≤ sizeLine)
    (hq : codeAny (model prog w) (A.under (.builtin "type.__call__" ⟨.ref C :: rest, kw⟩)) (.call (.ref fI) ⟨.ref (h.objs.size + 1) :: rest, kw⟩) (PySem.W.InitBack (h.objs.size + 1) R) ⟨(h.push (PySem.W.kdv_tup rest)).push (PySem.HandSPX.excO C h.objs.size), g, d, t, os⟩) :
    codeAny (model prog w) A (.call (.ref C) ⟨rest, kw⟩) R ⟨h, g, d, t, os⟩ := by
  have f1 := tc_lookup
  have f2 := tc_bind (.ref C)
  have hTy : (⟨h, g, d, t, os⟩ : Shared).TypeIs (.ref C) "type" := ⟨_, hC, rfl⟩
  refine codeAny_of_tree ?_
  show wpAny _ _ (callAny (.ref C) _) _ _ _
  repeat (any_goals (first | assumption | with_reducible refine wpAny_loadPart_at hC ?_ | wp_step))
  refine ⟨rfl, ?_⟩
  refine codeAny_call_builtin_at (Code.quiet_builtin _ (by decide +kernel)) entry_typeCall (wpAny_check_type_call_sub hC (kw_type_call F hT hB hA hN hC hi hb hrest ?_))
  refine codeAny_mono hq fun r s' z => ?_
  rcases r with e | (v | _ | _ | _) <;> exact z
end
/-- the built-in class above: its instances' own classes called by position and by keywords -/
structure BaseK (newId : String) (bmB : List Value) : Prop where
  own : ∀ {prog : Program} {w : World} {A : Around} {R : Result → Shared → Prop} {h : Heap} {g : Array GenState} {d : Drawn} {t : Nat} {os : OsState} {nm q : Str} {C N : Addr} {bs bm : List Value} {hdct : Bool} {sn : List Str} {sub : List Value} {ab : Bool} {col : Option Bool} {dd : Option Addr} {k0 k1 k2 k3 k5 : Option Value}
    (_ : ∀ X : String, bm.contains (.type X) = bmB.contains (.type X)) {rest : List Value} {kw : List (Str × Value)} {fI : Addr} (_ : h.get? C = some (excClassObj nm q C N bs bm hdct sn sub ab col dd k0 k1 k2 k3 k5 newId))
    (_ : PySem.W.Looks (model prog w) h (typeLookup (.ref C) "__init__") (some (.ref fI))) (_ : ∀ self, PySem.W.Looks (model prog w) h (bindSpecial (.ref fI) self) (.ref fI, [self])) (_ : rest.length ≤ sizeLine)
    (_ : codeAny (model prog w) (A.under (.builtin "type.__call__" ⟨.ref C :: rest, kw⟩)) (.call (.ref fI) ⟨.ref (h.objs.size + 1) :: rest, kw⟩) (PySem.W.InitBack (h.objs.size + 1) R) ⟨(h.push (PySem.W.kdv_tup rest)).push (PySem.HandSPX.excO C h.objs.size), g, d, t, os⟩),
    codeAny (model prog w) A (.call (.ref C) ⟨rest, kw⟩) R ⟨h, g, d, t, os⟩
theorem BaseK.of {Bn newId iN : String} {bmN bmB : List Value} (F : ExcBaseFacts Bn newId iN bmN) (hB : bmB.contains (.type Bn) = true) (hA : bmB.contains (.type "AttributeError") = false) (hN : bmB.contains (.type "NameError") = false) : BaseK newId bmB :=
  ⟨by intros _ _ _ _ _ _ _ _ _ _ _ _ _ _ _ _ _ _ _ _ _ _ _ _ _ _ hT _ _ _ hC hi hb hr hq; exact kw_own F hT hB hA hN hC hi hb hr hq⟩
theorem kOverflow : BaseK "OverflowError.__new__" bmOverflow := .of PySem.F.excBase_OverflowError (by decide +kernel) (by decide +kernel) (by decide +kernel)
theorem kRuntime : BaseK "RuntimeError.__new__" bmRuntime := .of PySem.F.excBase_RuntimeError (by decide +kernel) (by decide +kernel) (by decide +kernel)
theorem kLookup : BaseK "LookupError.__new__" bmLookup := .of PySem.F.excBase_LookupError (by decide +kernel) (by decide +kernel) (by decide +kernel)
theorem kIndex : BaseK "IndexError.__new__" bmIndex := .of PySem.F.excBase_IndexError (by decide +kernel) (by decide +kernel) (by decide +kernel)
theorem kValue : BaseK "ValueError.__new__" bmValue := .of PySem.F.excBase_ValueError (by decide +kernel) (by decide +kernel) (by decide +kernel)
theorem kKey : BaseK "LookupError.__new__" bmKey := .of PySem.F.excBase_LookupError (by decide +kernel) (by decide +kernel) (by decide +kernel)
/-! ### C(..) as a value -/
section
variable {X : Cx} {CX : CXT} {pins : List (Addr × Obj)} {σ : L2.St} {H : Hp} {s : Shared} {C fI : Addr} {k : Nat} {fd : FuncData} {ps ks : List Str} {sp : Sp} {B newId : String} {bmB : List Value} {x : Str} {p pos : Pos} {e : Expr} {es : List Expr} {kws : List Keyword} {ta tk : TA}
  {g : List Value → List Value → List Value} {gV : List V → List V → List V}
/-- what C(..) comes to: an instance that is tracked -/
def mkV (C : Addr) (sp : Sp) (gV : List V → List V → List V) (vs zs : List V) (H : Hp) (Q : VK) : Prop := vs.length ≤ 1000 ∧ ∀ a, H a = none → sp (gV (.ref a :: vs) zs) (upd H a (exo a C none)) (fun v H2 => v = .non ∧ Q (.ref a) H2) (fun _ _ _ => False)
theorem run_ownV {us ws : List Value} {vs zs : List V} {Q : VK} (BK : BaseK newId bmB) (T : OwnX X.K C B newId bmB) (iC : PySem.W.findIn X.K (.ref C) "__init__" = some (some (.ref fI))) (tI : PySem.W.typeIn X.K (.ref fI) = some (.type "function"))
    (F1 : FnOk X.prog X.w X.K X.mg X.base CX k fI fd ps sp) (hr : Room (k + 1) X.A) (hb : KBinds X.K fd ps ks g gV) (hx : Passes CX X (fun _ _ _ => False)) (I1 : Inv X pins σ H s) (r1 : Vals vs us) (rz : Vals zs ws) (h : mkV C sp gV vs zs H Q) :
    wpAny (model X.prog X.w) X.A (call (.ref C) us (ks.zip ws)) (EP X pins σ Q) X.xe s := by
  obtain ⟨hz, q1⟩ := h
  obtain ⟨nm, N, q, bs, bm, hdct, sn, sub, ab, col, dd, k0, k1, k2, k3, k5, hC, hT⟩ := PySem.W.excInit_of I1.kIn T.ini
  obtain ⟨hp, g0, dr, tk, os⟩ := s
  have up : hp.objs.size ≤ hp.objs.size + 1 := Nat.le_succ _
  have new : H (hp.objs.size + 1) = none := I1.hok.fresh up
  have got := q1 (hp.objs.size + 1) new
  have kk : ∀ b o, hp.get? b = some o → ((hp.push (PySem.W.kdv_tup us)).push (PySem.HandSPX.excO C hp.objs.size)).get? b = some o := fun b o e => Heap.get?_push_of_some _ (Heap.get?_push_of_some _ e)
  have hget : ((hp.push (PySem.W.kdv_tup us)).push (PySem.HandSPX.excO C hp.objs.size)).get? (hp.objs.size + 1) = some (PySem.HandSPX.excO C hp.objs.size) := by heap_get
  have I2 : Inv X pins σ (upd H (hp.objs.size + 1) (exo (hp.objs.size + 1) C none)) ⟨(hp.push (PySem.W.kdv_tup us)).push (PySem.HandSPX.excO C hp.objs.size), g0, dr, tk, os⟩ :=
    I1.laid (t' := tk) (a := hp.objs.size + 1) (o := exo (hp.objs.size + 1) C none) (h' := (hp.push (PySem.W.kdv_tup us)).push (PySem.HandSPX.excO C hp.objs.size)) kk up (exo_ok hget)
  have r2 : Vals (V.ref (hp.objs.size + 1) :: vs) (Value.ref (hp.objs.size + 1) :: us) := .cons rfl r1
  have r3 := hb.rel r2 rz
  have hl : (g (Value.ref (hp.objs.size + 1) :: us) ws).length = ps.length := by
    rw [← r3.length]
    exact F1.len _ _ _ _ got
  have hus : us.length ≤ sizeLine := by
    rw [← Paired.length r1, sizeLine_eq]
    omega
  refine wpAny_call (BK.own hT hC (PySem.W.looks_findIn I1.kIn iC) (fun self => PySem.W.bind_fn I1.kIn self tI) hus
    (codeAny_mono (F1.run _ X.stack _ _ ⟨Value.ref (hp.objs.size + 1) :: us, ks.zip ws⟩ (g (Value.ref (hp.objs.size + 1) :: us) ws) _ _ (fun _ _ _ => False) (hr.make C us (ks.zip ws)) (I2.env0.make C us (ks.zip ws)) (hb.to _ (Value.ref (hp.objs.size + 1) :: us) ws I2.kIn hl) r3 got) fun r s' back => ?_))
  cases r with
  | error er => exact hx pins σ _ _ er s' I2 back
  | ok fl =>
    cases fl with
    | ret u =>
      obtain ⟨v, H2, J, rv, ev, q2⟩ := I2.after back
      subst ev
      exact ⟨rv, .ref (hp.objs.size + 1), H2, J, rfl, q2⟩
    | next => exact False.elim back
    | brk => exact False.elim back
    | cont => exact False.elim back
theorem kb_pos (hb : Binds X.K fd ps []) : KBinds X.K fd ps [] (fun us _ => us) (fun vs _ => vs) :=
  ⟨fun s us ws I hl => by
    have z := hb s us I (by rw [List.append_nil]; exact hl)
    rw [List.append_nil] at z
    exact z, fun r _ => r⟩
def tMkV (C : Addr) (sp : Sp) (gV : List V → List V → List V) (ta tk : TA) : TE := fun σ H Q => ta σ H fun vs H1 => tk σ H1 fun zs H2 => mkV C sp gV vs zs H2 Q
/-- C(e, ..) -/
theorem pe_ownV (BK : BaseK newId bmB) (T : OwnX X.K C B newId bmB) (iC : PySem.W.findIn X.K (.ref C) "__init__" = some (some (.ref fI))) (tI : PySem.W.typeIn X.K (.ref fI) = some (.type "function"))
    (F1 : FnOk X.prog X.w X.K X.mg X.base CX k fI fd ps sp) (hr : Room (k + 1) X.A) (hb : Binds X.K fd ps []) (hx : Passes CX X (fun _ _ _ => False)) (hg : Gl X x) (hm : X.mg x = some (.ref C)) (ha : PA X (e :: es) ta)
    (hdb : (x == ("__debug__" : Str)) = false := by decide) (he : starEach (e :: es) X.env = (false, eval e X.env) :: starEach es X.env := by rfl) (hpl : (backTo pos (starEach es X.env)).any (·.1) = false := by rfl) :
    PE X (.Call (.Name x p) (e :: es) [] pos) (tMkV C sp (fun vs _ => vs) ta tNil) := by
  refine ⟨fun pins s σ H Q I h => ?_⟩
  refine wpAny_Call_Name_kw (ld_glob I hg hm ?_ hdb)
  refine PySem.W.callWith_K (h₀ := X.base) I.ok.mod.kin T.kC (thn (ha.run pos pins s σ H _ I h) fun us s1 ⟨vs, H1, I1, r1, q⟩ => ⟨I1.kIn, ?_⟩) he hpl
  exact run_ownV (ks := []) (us := us) (ws := []) (zs := []) BK T iC tI F1 hr (kb_pos hb) hx I1 r1 .nil q
/-- C() -/
theorem pe_ownV0 (BK : BaseK newId bmB) (T : OwnX X.K C B newId bmB) (iC : PySem.W.findIn X.K (.ref C) "__init__" = some (some (.ref fI))) (tI : PySem.W.typeIn X.K (.ref fI) = some (.type "function"))
    (F1 : FnOk X.prog X.w X.K X.mg X.base CX k fI fd ps sp) (hr : Room (k + 1) X.A) (hb : Binds X.K fd ps []) (hx : Passes CX X (fun _ _ _ => False)) (hg : Gl X x) (hm : X.mg x = some (.ref C))
    (hdb : (x == ("__debug__" : Str)) = false := by decide) : PE X (.Call (.Name x p) [] [] pos) (tMkV C sp (fun vs _ => vs) tNil tNil) := by
  refine ⟨fun pins s σ H Q I h => ?_⟩
  refine wpAny_Call_Name_kw (ld_glob I hg hm ?_ hdb)
  exact PySem.W.callWith_K0 I.kIn T.kC (run_ownV (ks := []) (us := []) (ws := []) (zs := []) BK T iC tI F1 hr (kb_pos hb) hx I .nil .nil h)
/-- C(k=e, ..) -/
theorem pe_ownVK (BK : BaseK newId bmB) (T : OwnX X.K C B newId bmB) (iC : PySem.W.findIn X.K (.ref C) "__init__" = some (some (.ref fI))) (tI : PySem.W.typeIn X.K (.ref fI) = some (.type "function"))
    (F1 : FnOk X.prog X.w X.K X.mg X.base CX k fI fd ps sp) (hr : Room (k + 1) X.A) (hb : KBinds X.K fd ps ks g gV) (hx : Passes CX X (fun _ _ _ => False)) (hg : Gl X x) (hm : X.mg x = some (.ref C)) (hkw : PK X kws tk)
    (hall : (backToKw pos (keywordEach kws X.env)).all (·.1.isSome) = true := by rfl) (hks : (backToKw pos (keywordEach kws X.env)).filterMap (·.1) = ks := by rfl)
    (hdb : (x == ("__debug__" : Str)) = false := by decide) (hpl : ((backTo pos (starEach [] X.env)).any (·.1) || (backToKw pos (keywordEach kws X.env)).any (·.1.isNone)) = false := by rfl) :
    PE X (.Call (.Name x p) [] kws pos) (tMkV C sp gV tNil tk) := by
  refine ⟨fun pins s σ H Q I h => ?_⟩
  refine wpAny_Call_Name_kw (ld_glob I hg hm ?_ hdb)
  refine PySem.W.callWith_KW0 (h₀ := X.base) I.ok.mod.kin T.kC hall ?_ hpl
  refine thn (hkw.run pos pins s σ H _ I h) fun ws s2 z => ?_
  obtain ⟨zs, H2, I2, rz, q⟩ := z
  refine ⟨I2.kIn, ?_⟩
  rw [hks]
  exact run_ownV (us := []) (vs := []) BK T iC tI F1 hr hb hx I2 .nil rz q
end
/-! ### how __init__ binds one or two keywords behind self -/
def kw1 {α : Type} : List α → List α → List α
  | [s], [a] => [s, a]
  | _, _ => []
def kw2 {α : Type} : List α → List α → List α
  | [s], [b, a] => [s, a, b]
  | _, _ => []
theorem kb_m1 {K : PySem.W.Frag} {x qual : Str} {st : Stmt} {f : Addr} {fd : FuncData} {p0 p1 : Str} (F : Fun K x qual st f fd)
    (h : ∀ (kV doc pm : Value) (an : Option Addr) (cdv ct s a : Value), bindArgs (PySem.W.fnOf x qual (defArgs st) (defBody st) (defScope st) .none kV doc pm an cdv ct) ⟨[s], [(p1, a)]⟩ = pure [(p0, s), (p1, a)]) :
    KBinds K fd [p0, p1] [p1] kw1 kw1 := by
  obtain ⟨oc, od, kV, doc, pm, an, cdv, ct, osl, rfl, lk, hcd⟩ := F.ex
  refine ⟨fun s us ws _ hl => ?_, fun {vs us zs ws} r z => ?_⟩
  · match us, ws, hl with
    | [s0], [a], _ => exact .of_eq (h kV doc pm an cdv ct s0 a)
  · match vs, us, zs, ws, r, z with
    | [_], [_], [_], [_], r, z =>
      obtain ⟨u1, e1, r1⟩ := vals1 r
      obtain ⟨u2, e2, r2⟩ := vals1 z
      cases e1
      cases e2
      exact .cons r1 (.cons r2 .nil)
    | [], [], _, _, _, _ => exact .nil
    | _ :: _ :: _, _ :: _ :: _, _, _, _, _ => exact .nil
    | [_], [_], [], [], _, _ => exact .nil
    | [_], [_], _ :: _ :: _, _ :: _ :: _, _, _ => exact .nil
theorem kb_m2 {K : PySem.W.Frag} {x qual : Str} {st : Stmt} {f : Addr} {fd : FuncData} {p0 p1 p2 : Str} (F : Fun K x qual st f fd)
    (h : ∀ (kV doc pm : Value) (an : Option Addr) (cdv ct s b a : Value), bindArgs (PySem.W.fnOf x qual (defArgs st) (defBody st) (defScope st) .none kV doc pm an cdv ct) ⟨[s], [(p2, b), (p1, a)]⟩ = pure [(p0, s), (p1, a), (p2, b)]) :
    KBinds K fd [p0, p1, p2] [p2, p1] kw2 kw2 := by
  obtain ⟨oc, od, kV, doc, pm, an, cdv, ct, osl, rfl, lk, hcd⟩ := F.ex
  refine ⟨fun s us ws _ hl => ?_, fun {vs us zs ws} r z => ?_⟩
  · match us, ws, hl with
    | [s0], [b, a], _ => exact .of_eq (h kV doc pm an cdv ct s0 b a)
  · match vs, us, zs, ws, r, z with
    | [_], [_], [_, _], [_, _], r, z =>
      obtain ⟨u1, e1, r1⟩ := vals1 r
      obtain ⟨u2, u3, e2, r2, r3⟩ := vals2 z
      cases e1
      cases e2
      exact .cons r1 (.cons r3 (.cons r2 .nil))
    | [], [], _, _, _, _ => exact .nil
    | _ :: _ :: _, _ :: _ :: _, _, _, _, _ => exact .nil
    | [_], [_], [], [], _, _ => exact .nil
    | [_], [_], [_], [_], _, _ => exact .nil
    | [_], [_], _ :: _ :: _ :: _, _ :: _ :: _ :: _, _, _ => exact .nil
/-! ### fields, isinstance -/
/-- an own exception, tracked, with its fields (none: no dict) -/
def ExcAt (H : Hp) (C a : Addr) (fs : List (Str × V)) : Prop := (fs = [] ∧ H a = some (exo a C none)) ∨ ∃ dx, H a = some (exo a C (some dx)) ∧ H dx = some (exd dx fs)
theorem ExcAt.same {H H' : Hp} {C a : Addr} {fs : List (Str × V)} (s : Same H H') (h : ExcAt H C a fs) : ExcAt H' C a fs := by
  rcases h with ⟨e, h⟩ | ⟨dx, h1, h2⟩
  · exact .inl ⟨e, s _ _ h⟩
  · exact .inr ⟨dx, s _ _ h1, s _ _ h2⟩
def tFldV (K : PySem.W.Frag) (f : Str) (te : TE) : TE := fun σ H Q => te σ H fun x H1 => ∃ (a C : Addr) (fs : List (Str × V)) (v : V), x = .ref a ∧ XfC K C ∧ PySem.W.findIn K (.ref C) f = some none ∧ ExcAt H1 C a fs ∧ fs.lookup f = some v ∧ Q v H1
section
variable {X : Cx}
theorem exc_inst {pins : List (Addr × Obj)} {σ : L2.St} {H : Hp} {s : Shared} {a C dx : Addr} {fs : List (Str × V)} (I : Inv X pins σ H s) (h1 : H a = some (exo a C (some dx))) (h2 : H dx = some (exd dx fs)) :
    ∃ ox od, PySem.W.InstAt s.heap a ox C (some od) ∧ ∃ mA : Str → Option Value, (∀ name : Str, PySem.W.lookIn name od = some (mA name)) ∧ ∀ f, RelO (fs.lookup f) (mA f) := by
  obtain ⟨t1, ho⟩ := exo_at I.hok h1
  obtain ⟨mA, hns, hr⟩ := exd_at I.hok h2
  obtain ⟨od, ho2, hl⟩ := lookIn_ns hns
  exact ⟨_, od, ⟨ho, rfl, rfl, ho2⟩, mA, hl, hr⟩
theorem pe_fldV {e : Expr} {te : TE} {pos : Pos} {n : Str} (he : PE X e te) (hb : attributeBase e n X.env (eval e X.env) = eval e X.env := by rfl) : PE X (.Attribute e n pos) (tFldV X.K n te) := by
  refine ⟨fun pins s σ H Q I h => ?_⟩
  refine attr_of hb (thn (he.run pins s σ H _ I h) fun u s1 hh => ?_)
  obtain ⟨x, H1, I1, rx, a, C, fs, v, ex, T, hno, hx, l, q⟩ := hh
  subst ex
  obtain rfl : u = Value.ref a := rx
  rcases hx with ⟨e0, _⟩ | ⟨dx, h1, h2⟩
  · subst e0
    cases l
  obtain ⟨ox, od, J, mA, hl, hr⟩ := exc_inst I1 h1 h2
  obtain ⟨u, hu, ru⟩ := RelO.some_of (v := v) (o := mA n) (by rw [← l]; exact hr n)
  exact HandSPX.exc_get I1.kIn J T.ga T.gg T.exC (PySem.W.findObj_own T.hdC hno rfl (by rw [hl, hu])) (handed_of ru) ⟨v, H1, I1.tok _, ru, q⟩
/-- isinstance(e, c), e a tracked exception -/
def rIsV (K : PySem.W.Frag) : List V → Hp → VK → Prop := fun xs H Q => ∃ (a D : Addr) (fs : List (Str × V)) (c : V) (cv : Value) (b : Bool), xs = [.ref a, c] ∧ ExcAt H D a fs ∧ ExcC K D ∧ ClsV c cv ∧ PySem.W.kitOne K (.ref D) cv = some b ∧ Q (.bl b) H
theorem call_isV : CallR X (.builtin "isinstance") (rIsV X.K) := by
  intro pins s σ H xs us Q I r h
  obtain ⟨a, D, fs, c, cv, b, rfl, hx, C, hcv, e, q⟩ := h
  obtain ⟨u1, u2, rfl, r1, r2⟩ := vals2 r
  cases r1
  have ec := hcv.eq r2
  subst ec
  rcases hx with ⟨_, h1⟩ | ⟨dx, h1, h2⟩
  · obtain ⟨t1, ho⟩ := exo_at I.hok h1
    exact PySem.W.kia_one (PySem.W.handS_kitx_exc C.hg C.hk C.hs C.hd C.ha C.hn C.ht C.hm) I.kIn (⟨ho, rfl, rfl, trivial⟩ : PySem.W.InstAt s.heap a _ D none) e (fun z => nomatch z) fun tk => ⟨.bl b, H, I.kept (t' := tk) fun _ _ z => z, rfl, q⟩
  · obtain ⟨ox, od, J, _⟩ := exc_inst I h1 h2
    exact PySem.W.kia_one (kitx_excD C.hg C.hk C.hs C.hd C.ha C.hn C.ht C.hm) I.kIn ⟨od, J⟩ e (fun z => nomatch z) fun tk => ⟨.bl b, H, I.kept (t' := tk) fun _ _ z => z, rfl, q⟩
end
end PX
namespace PX
open PySem PySem.Spec PyProof.Rows L2
/-- what an __init__ of no field, of two fields promises -/
def spX0 (C : Addr) : Sp := fun vs H Q _ => ∃ a : Addr, vs = [.ref a] ∧ H a = some (exo a C none) ∧ Q .non H
def spX2 (C : Addr) (f g : Str) : Sp := fun vs H Q _ => ∃ (a : Addr) (v u : V), vs = [.ref a, v, u] ∧ H a = some (exo a C none) ∧ ∀ dx, H dx = none → dx ≠ a → Q .non (upd (upd (upd H dx (exd dx [(f, v)])) a (exo a C (some dx))) dx (exd dx [(g, u), (f, v)]))
/-- the heap behind C(..) -/
theorem made0 {H : Hp} {C a : Addr} (na : H a = none) : Same H (upd H a (exo a C none)) ∧ ExcAt (upd H a (exo a C none)) C a [] := ⟨Same.mk1 na, .inl ⟨rfl, upd_same⟩⟩
theorem made1 {H : Hp} {C a dx : Addr} {f : Str} {v : V} (na : H a = none) (nd : upd H a (exo a C none) dx = none) (ne : dx ≠ a) :
    Same H (upd (upd (upd H a (exo a C none)) dx (exd dx [(f, v)])) a (exo a C (some dx))) ∧ ExcAt (upd (upd (upd H a (exo a C none)) dx (exd dx [(f, v)])) a (exo a C (some dx))) C a [(f, v)] :=
  ⟨Same.put ((Same.mk1 na).trans (Same.mk1 nd)) na, .inr ⟨dx, upd_same, (upd_ne ne).trans upd_same⟩⟩
theorem made2 {H : Hp} {C a dx : Addr} {f g : Str} {v u : V} (na : H a = none) (nd : upd H a (exo a C none) dx = none) (ne : dx ≠ a) :
    Same H (upd (upd (upd (upd H a (exo a C none)) dx (exd dx [(f, v)])) a (exo a C (some dx))) dx (exd dx [(g, u), (f, v)])) ∧
      ExcAt (upd (upd (upd (upd H a (exo a C none)) dx (exd dx [(f, v)])) a (exo a C (some dx))) dx (exd dx [(g, u), (f, v)])) C a [(g, u), (f, v)] :=
  ⟨Same.put (Same.put ((Same.mk1 na).trans (Same.mk1 nd)) na) ((Same.mk1 (o := exo a C none) na).free nd), .inr ⟨dx, (upd_ne (Ne.symm ne)).trans upd_same, upd_same⟩⟩
end PX
namespace PX
open PySem PySem.Spec PyProof.Rows L2
/-- exceptions by their classes and fields -/
abbrev ExcsAt (H : Hp) (tab : List (Addr × List (Str × V))) (es : List Addr) : Prop := Paired (fun (c : Addr × List (Str × V)) a => ExcAt H c.1 a c.2) tab es
theorem ExcsAt.same {H H' : Hp} {tab : List (Addr × List (Str × V))} {es : List Addr} (s : Same H H') (p : ExcsAt H tab es) : ExcsAt H' tab es := Paired.mapP p fun _ _ h => h.same s
theorem snocX {H H' : Hp} {tab : List (Addr × List (Str × V))} {es : List Addr} {C a : Addr} {fs : List (Str × V)} (p : ExcsAt H tab es) (s : Same H H') (x : ExcAt H' C a fs) : ExcsAt H' (tab ++ [(C, fs)]) (es ++ [a]) := Paired.snoc (p.same s) x
/-- at l a list of them -/
def MadeX (H : Hp) (tab : List (Addr × List (Str × V))) (l : Addr) : Prop := ∃ es : List Addr, H l = some (.lst (es.map V.ref)) ∧ ExcsAt H tab es
theorem MadeX.same {H H' : Hp} {tab : List (Addr × List (Str × V))} {l : Addr} (s : Same H H') (m : MadeX H tab l) : MadeX H' tab l := by
  obtain ⟨es, h, p⟩ := m
  exact ⟨es, s _ _ h, p.same s⟩
def spMade (tab : V → V → List (Addr × List (Str × V))) : Sp := fun vs H Q _ => ∃ one two : V, vs = [one, two] ∧ ∀ (l : Addr) (H' : Hp), H l = none → Same H H' → MadeX H' (tab one two) l → Q (.ref l) H'
end PX
namespace PX
open PySem PySem.Spec PyProof.Rows L2
def top (i : Nat) : Stmt := PySem.Challenge.pw_dictorders_k89_exceptions_made_by_hand.main.body.getD i (.Pass ⟨0, 0, 0, 0⟩)
abbrev s_BadName_init : Stmt := inClass (top 1) 0
abbrev N_BadName_init : List Str := ["self", "name"]
theorem sc_BadName_init : FnScope N_BadName_init ["self", "name"] (defScope s_BadName_init) := ⟨rfl, rfl, rfl, by decide +kernel, rfl, by decide +kernel, by decide +kernel⟩
abbrev s_BadRule_init : Stmt := inClass (top 2) 0
abbrev N_BadRule_init : List Str := ["self", "place"]
theorem sc_BadRule_init : FnScope N_BadRule_init ["self", "place"] (defScope s_BadRule_init) := ⟨rfl, rfl, rfl, by decide +kernel, rfl, by decide +kernel, by decide +kernel⟩
abbrev s_BadText_init : Stmt := inClass (top 3) 0
abbrev N_BadText_init : List Str := ["self", "place"]
theorem sc_BadText_init : FnScope N_BadText_init ["self", "place"] (defScope s_BadText_init) := ⟨rfl, rfl, rfl, by decide +kernel, rfl, by decide +kernel, by decide +kernel⟩
abbrev s_BadForm_init : Stmt := inClass (top 4) 0
abbrev N_BadForm_init : List Str := ["self", "place"]
theorem sc_BadForm_init : FnScope N_BadForm_init ["self", "place"] (defScope s_BadForm_init) := ⟨rfl, rfl, rfl, by decide +kernel, rfl, by decide +kernel, by decide +kernel⟩
abbrev s_BadPattern_init : Stmt := inClass (top 5) 0
abbrev N_BadPattern_init : List Str := ["self", "pattern"]
theorem sc_BadPattern_init : FnScope N_BadPattern_init ["self", "pattern"] (defScope s_BadPattern_init) := ⟨rfl, rfl, rfl, by decide +kernel, rfl, by decide +kernel, by decide +kernel⟩
abbrev s_BadFact_init : Stmt := inClass (top 6) 0
abbrev N_BadFact_init : List Str := ["self", "place"]
theorem sc_BadFact_init : FnScope N_BadFact_init ["self", "place"] (defScope s_BadFact_init) := ⟨rfl, rfl, rfl, by decide +kernel, rfl, by decide +kernel, by decide +kernel⟩
abbrev s_BadLevel_init : Stmt := inClass (top 7) 0
abbrev N_BadLevel_init : List Str := ["self", "level"]
theorem sc_BadLevel_init : FnScope N_BadLevel_init ["self", "level"] (defScope s_BadLevel_init) := ⟨rfl, rfl, rfl, by decide +kernel, rfl, by decide +kernel, by decide +kernel⟩
abbrev s_BadInteger_init : Stmt := inClass (top 8) 0
abbrev N_BadInteger_init : List Str := ["self", "value"]
theorem sc_BadInteger_init : FnScope N_BadInteger_init ["self", "value"] (defScope s_BadInteger_init) := ⟨rfl, rfl, rfl, by decide +kernel, rfl, by decide +kernel, by decide +kernel⟩
abbrev s_BadGoal_init : Stmt := inClass (top 9) 0
abbrev N_BadGoal_init : List Str := ["self", "goal"]
theorem sc_BadGoal_init : FnScope N_BadGoal_init ["self", "goal"] (defScope s_BadGoal_init) := ⟨rfl, rfl, rfl, by decide +kernel, rfl, by decide +kernel, by decide +kernel⟩
abbrev s_BadCommand_init : Stmt := inClass (top 10) 0
abbrev N_BadCommand_init : List Str := ["self"]
theorem sc_BadCommand_init : FnScope N_BadCommand_init ["self"] (defScope s_BadCommand_init) := ⟨rfl, rfl, rfl, by decide +kernel, rfl, by decide +kernel, by decide +kernel⟩
abbrev s_UnknownName_init : Stmt := inClass (top 11) 0
abbrev N_UnknownName_init : List Str := ["self", "name"]
theorem sc_UnknownName_init : FnScope N_UnknownName_init ["self", "name"] (defScope s_UnknownName_init) := ⟨rfl, rfl, rfl, by decide +kernel, rfl, by decide +kernel, by decide +kernel⟩
abbrev s_NoKey_init : Stmt := inClass (top 12) 0
abbrev N_NoKey_init : List Str := ["self", "name", "key"]
theorem sc_NoKey_init : FnScope N_NoKey_init ["self", "name", "key"] (defScope s_NoKey_init) := ⟨rfl, rfl, rfl, by decide +kernel, rfl, by decide +kernel, by decide +kernel⟩
abbrev s_NoBase_init : Stmt := inClass (top 13) 0
abbrev N_NoBase_init : List Str := ["self", "name"]
theorem sc_NoBase_init : FnScope N_NoBase_init ["self", "name"] (defScope s_NoBase_init) := ⟨rfl, rfl, rfl, by decide +kernel, rfl, by decide +kernel, by decide +kernel⟩
abbrev s_NoPlace_init : Stmt := inClass (top 14) 0
abbrev N_NoPlace_init : List Str := ["self", "place"]
theorem sc_NoPlace_init : FnScope N_NoPlace_init ["self", "place"] (defScope s_NoPlace_init) := ⟨rfl, rfl, rfl, by decide +kernel, rfl, by decide +kernel, by decide +kernel⟩
abbrev s_TooMany_init : Stmt := inClass (top 15) 0
abbrev N_TooMany_init : List Str := ["self", "limit"]
theorem sc_TooMany_init : FnScope N_TooMany_init ["self", "limit"] (defScope s_TooMany_init) := ⟨rfl, rfl, rfl, by decide +kernel, rfl, by decide +kernel, by decide +kernel⟩
abbrev s_Taken_init : Stmt := inClass (top 16) 0
abbrev N_Taken_init : List Str := ["self", "name"]
theorem sc_Taken_init : FnScope N_Taken_init ["self", "name"] (defScope s_Taken_init) := ⟨rfl, rfl, rfl, by decide +kernel, rfl, by decide +kernel, by decide +kernel⟩
abbrev s_InUse_init : Stmt := inClass (top 17) 0
abbrev N_InUse_init : List Str := ["self", "name"]
theorem sc_InUse_init : FnScope N_InUse_init ["self", "name"] (defScope s_InUse_init) := ⟨rfl, rfl, rfl, by decide +kernel, rfl, by decide +kernel, by decide +kernel⟩
abbrev s_Stale_init : Stmt := inClass (top 18) 0
abbrev N_Stale_init : List Str := ["self", "key"]
theorem sc_Stale_init : FnScope N_Stale_init ["self", "key"] (defScope s_Stale_init) := ⟨rfl, rfl, rfl, by decide +kernel, rfl, by decide +kernel, by decide +kernel⟩
abbrev s_Busy_init : Stmt := inClass (top 19) 0
abbrev N_Busy_init : List Str := ["self"]
theorem sc_Busy_init : FnScope N_Busy_init ["self"] (defScope s_Busy_init) := ⟨rfl, rfl, rfl, by decide +kernel, rfl, by decide +kernel, by decide +kernel⟩
abbrev s_NothingLeft_init : Stmt := inClass (top 20) 0
abbrev N_NothingLeft_init : List Str := ["self"]
theorem sc_NothingLeft_init : FnScope N_NothingLeft_init ["self"] (defScope s_NothingLeft_init) := ⟨rfl, rfl, rfl, by decide +kernel, rfl, by decide +kernel, by decide +kernel⟩
abbrev s_law_bag : Stmt := top 22
abbrev N_law_bag : List Str := ["_law_script", "_law_at", "_law_cell", "_law_great"]
theorem sc_law_bag : FnScope N_law_bag ["_law_script", "_law_at"] (defScope s_law_bag) := ⟨rfl, rfl, rfl, by decide +kernel, rfl, by decide +kernel, by decide +kernel⟩
abbrev s_law_take : Stmt := top 23
abbrev N_law_take : List Str := ["_law_bag_here", "_law_many", "_law_digit", "_law_mixed"]
theorem sc_law_take : FnScope N_law_take ["_law_bag_here", "_law_many"] (defScope s_law_take) := ⟨rfl, rfl, rfl, by decide +kernel, rfl, by decide +kernel, by decide +kernel⟩
abbrev s_law_thing : Stmt := top 24
abbrev N_law_thing : List Str := ["_law_bag_here", "_law_some"]
theorem sc_law_thing : FnScope N_law_thing ["_law_bag_here"] (defScope s_law_thing) := ⟨rfl, rfl, rfl, by decide +kernel, rfl, by decide +kernel, by decide +kernel⟩
abbrev s_law_by_position : Stmt := top 25
abbrev N_law_by_position : List Str := ["_law_one", "_law_two", "_law_some"]
theorem sc_law_by_position : FnScope N_law_by_position ["_law_one", "_law_two"] (defScope s_law_by_position) := ⟨rfl, rfl, rfl, by decide +kernel, rfl, by decide +kernel, by decide +kernel⟩
abbrev s_law_by_parameters : Stmt := top 26
abbrev N_law_by_parameters : List Str := ["_law_one", "_law_two", "_law_some"]
theorem sc_law_by_parameters : FnScope N_law_by_parameters ["_law_one", "_law_two"] (defScope s_law_by_parameters) := ⟨rfl, rfl, rfl, by decide +kernel, rfl, by decide +kernel, by decide +kernel⟩
abbrev s_law_fields : Stmt := top 27
abbrev N_law_fields : List Str := ["_law_some", "_law_found"]
theorem sc_law_fields : FnScope N_law_fields ["_law_some"] (defScope s_law_fields) := ⟨rfl, rfl, rfl, by decide +kernel, rfl, by decide +kernel, by decide +kernel⟩
abbrev s_law_kinds : Stmt := top 28
abbrev N_law_kinds : List Str := ["_law_e", "_law_found"]
theorem sc_law_kinds : FnScope N_law_kinds ["_law_e"] (defScope s_law_kinds) := ⟨rfl, rfl, rfl, by decide +kernel, rfl, by decide +kernel, by decide +kernel⟩
abbrev s_law_above : Stmt := top 29
abbrev N_law_above : List Str := ["_law_e", "_law_found"]
theorem sc_law_above : FnScope N_law_above ["_law_e"] (defScope s_law_above) := ⟨rfl, rfl, rfl, by decide +kernel, rfl, by decide +kernel, by decide +kernel⟩
abbrev s_law : Stmt := top 30
abbrev N_law : List Str := ["_law_script", "_law_above_here", "_law_at", "_law_bag_here", "_law_turn", "_law_one", "_law_two", "_law_due", "_law_k", "_law_some", "_law_e", "_law_spot"]
theorem sc_law : FnScope N_law ["_law_script"] (defScope s_law) := ⟨rfl, rfl, rfl, by decide +kernel, rfl, by decide +kernel, by decide +kernel⟩
/-- what the top has made, as far as it is asked -/
structure Txt (K : PySem.W.Frag) (mg : Str → Option Value) where
  f_BadName_init : Addr
  d_BadName_init : FuncData
  F_BadName_init : Fun K "__init__" "BadName.__init__" s_BadName_init f_BadName_init d_BadName_init
  b_BadName_init : Binds K d_BadName_init ["self", "name"] []
  f_BadRule_init : Addr
  d_BadRule_init : FuncData
  F_BadRule_init : Fun K "__init__" "BadRule.__init__" s_BadRule_init f_BadRule_init d_BadRule_init
  b_BadRule_init : Binds K d_BadRule_init ["self", "place"] []
  f_BadText_init : Addr
  d_BadText_init : FuncData
  F_BadText_init : Fun K "__init__" "BadText.__init__" s_BadText_init f_BadText_init d_BadText_init
  b_BadText_init : Binds K d_BadText_init ["self", "place"] []
  f_BadForm_init : Addr
  d_BadForm_init : FuncData
  F_BadForm_init : Fun K "__init__" "BadForm.__init__" s_BadForm_init f_BadForm_init d_BadForm_init
  b_BadForm_init : Binds K d_BadForm_init ["self", "place"] []
  f_BadPattern_init : Addr
  d_BadPattern_init : FuncData
  F_BadPattern_init : Fun K "__init__" "BadPattern.__init__" s_BadPattern_init f_BadPattern_init d_BadPattern_init
  b_BadPattern_init : Binds K d_BadPattern_init ["self", "pattern"] []
  f_BadFact_init : Addr
  d_BadFact_init : FuncData
  F_BadFact_init : Fun K "__init__" "BadFact.__init__" s_BadFact_init f_BadFact_init d_BadFact_init
  b_BadFact_init : Binds K d_BadFact_init ["self", "place"] []
  f_BadLevel_init : Addr
  d_BadLevel_init : FuncData
  F_BadLevel_init : Fun K "__init__" "BadLevel.__init__" s_BadLevel_init f_BadLevel_init d_BadLevel_init
  b_BadLevel_init : Binds K d_BadLevel_init ["self", "level"] []
  f_BadInteger_init : Addr
  d_BadInteger_init : FuncData
  F_BadInteger_init : Fun K "__init__" "BadInteger.__init__" s_BadInteger_init f_BadInteger_init d_BadInteger_init
  b_BadInteger_init : Binds K d_BadInteger_init ["self", "value"] []
  f_BadGoal_init : Addr
  d_BadGoal_init : FuncData
  F_BadGoal_init : Fun K "__init__" "BadGoal.__init__" s_BadGoal_init f_BadGoal_init d_BadGoal_init
  b_BadGoal_init : Binds K d_BadGoal_init ["self", "goal"] []
  f_BadCommand_init : Addr
  d_BadCommand_init : FuncData
  F_BadCommand_init : Fun K "__init__" "BadCommand.__init__" s_BadCommand_init f_BadCommand_init d_BadCommand_init
  b_BadCommand_init : Binds K d_BadCommand_init ["self"] []
  f_UnknownName_init : Addr
  d_UnknownName_init : FuncData
  F_UnknownName_init : Fun K "__init__" "UnknownName.__init__" s_UnknownName_init f_UnknownName_init d_UnknownName_init
  b_UnknownName_init : Binds K d_UnknownName_init ["self", "name"] []
  f_NoKey_init : Addr
  d_NoKey_init : FuncData
  F_NoKey_init : Fun K "__init__" "NoKey.__init__" s_NoKey_init f_NoKey_init d_NoKey_init
  b_NoKey_init : Binds K d_NoKey_init ["self", "name", "key"] []
  f_NoBase_init : Addr
  d_NoBase_init : FuncData
  F_NoBase_init : Fun K "__init__" "NoBase.__init__" s_NoBase_init f_NoBase_init d_NoBase_init
  b_NoBase_init : Binds K d_NoBase_init ["self", "name"] []
  f_NoPlace_init : Addr
  d_NoPlace_init : FuncData
  F_NoPlace_init : Fun K "__init__" "NoPlace.__init__" s_NoPlace_init f_NoPlace_init d_NoPlace_init
  b_NoPlace_init : Binds K d_NoPlace_init ["self", "place"] []
  f_TooMany_init : Addr
  d_TooMany_init : FuncData
  F_TooMany_init : Fun K "__init__" "TooMany.__init__" s_TooMany_init f_TooMany_init d_TooMany_init
  b_TooMany_init : Binds K d_TooMany_init ["self", "limit"] []
  f_Taken_init : Addr
  d_Taken_init : FuncData
  F_Taken_init : Fun K "__init__" "Taken.__init__" s_Taken_init f_Taken_init d_Taken_init
  b_Taken_init : Binds K d_Taken_init ["self", "name"] []
  f_InUse_init : Addr
  d_InUse_init : FuncData
  F_InUse_init : Fun K "__init__" "InUse.__init__" s_InUse_init f_InUse_init d_InUse_init
  b_InUse_init : Binds K d_InUse_init ["self", "name"] []
  f_Stale_init : Addr
  d_Stale_init : FuncData
  F_Stale_init : Fun K "__init__" "Stale.__init__" s_Stale_init f_Stale_init d_Stale_init
  b_Stale_init : Binds K d_Stale_init ["self", "key"] []
  f_Busy_init : Addr
  d_Busy_init : FuncData
  F_Busy_init : Fun K "__init__" "Busy.__init__" s_Busy_init f_Busy_init d_Busy_init
  b_Busy_init : Binds K d_Busy_init ["self"] []
  f_NothingLeft_init : Addr
  d_NothingLeft_init : FuncData
  F_NothingLeft_init : Fun K "__init__" "NothingLeft.__init__" s_NothingLeft_init f_NothingLeft_init d_NothingLeft_init
  b_NothingLeft_init : Binds K d_NothingLeft_init ["self"] []
  f_law_bag : Addr
  d_law_bag : FuncData
  F_law_bag : Fun K "_law_bag" "_law_bag" s_law_bag f_law_bag d_law_bag
  m_law_bag : mg "_law_bag" = some (.ref f_law_bag)
  b_law_bag : Binds K d_law_bag ["_law_script", "_law_at"] []
  f_law_take : Addr
  d_law_take : FuncData
  F_law_take : Fun K "_law_take" "_law_take" s_law_take f_law_take d_law_take
  m_law_take : mg "_law_take" = some (.ref f_law_take)
  b_law_take : Binds K d_law_take ["_law_bag_here", "_law_many"] []
  f_law_thing : Addr
  d_law_thing : FuncData
  F_law_thing : Fun K "_law_thing" "_law_thing" s_law_thing f_law_thing d_law_thing
  m_law_thing : mg "_law_thing" = some (.ref f_law_thing)
  b_law_thing : Binds K d_law_thing ["_law_bag_here"] []
  f_law_by_position : Addr
  d_law_by_position : FuncData
  F_law_by_position : Fun K "_law_by_position" "_law_by_position" s_law_by_position f_law_by_position d_law_by_position
  m_law_by_position : mg "_law_by_position" = some (.ref f_law_by_position)
  b_law_by_position : Binds K d_law_by_position ["_law_one", "_law_two"] []
  f_law_by_parameters : Addr
  d_law_by_parameters : FuncData
  F_law_by_parameters : Fun K "_law_by_parameters" "_law_by_parameters" s_law_by_parameters f_law_by_parameters d_law_by_parameters
  m_law_by_parameters : mg "_law_by_parameters" = some (.ref f_law_by_parameters)
  b_law_by_parameters : Binds K d_law_by_parameters ["_law_one", "_law_two"] []
  f_law_fields : Addr
  d_law_fields : FuncData
  F_law_fields : Fun K "_law_fields" "_law_fields" s_law_fields f_law_fields d_law_fields
  m_law_fields : mg "_law_fields" = some (.ref f_law_fields)
  b_law_fields : Binds K d_law_fields ["_law_some"] []
  f_law_kinds : Addr
  d_law_kinds : FuncData
  F_law_kinds : Fun K "_law_kinds" "_law_kinds" s_law_kinds f_law_kinds d_law_kinds
  m_law_kinds : mg "_law_kinds" = some (.ref f_law_kinds)
  b_law_kinds : Binds K d_law_kinds ["_law_e"] []
  f_law_above : Addr
  d_law_above : FuncData
  F_law_above : Fun K "_law_above" "_law_above" s_law_above f_law_above d_law_above
  m_law_above : mg "_law_above" = some (.ref f_law_above)
  b_law_above : Binds K d_law_above ["_law_e"] []
  f_law : Addr
  d_law : FuncData
  F_law : Fun K "law" "law" s_law f_law d_law
  m_law : mg "law" = some (.ref f_law)
  b_law : Binds K d_law ["_law_script"] []
  C_BadName : Addr
  m_BadName : mg "BadName" = some (.ref C_BadName)
  x_BadName : XOne K C_BadName f_BadName_init "ValueError" "ValueError.__new__" "ValueError.__init__" bmValue "name"
  C_BadRule : Addr
  m_BadRule : mg "BadRule" = some (.ref C_BadRule)
  x_BadRule : XOne K C_BadRule f_BadRule_init "ValueError" "ValueError.__new__" "ValueError.__init__" bmValue "place"
  C_BadText : Addr
  m_BadText : mg "BadText" = some (.ref C_BadText)
  x_BadText : XOne K C_BadText f_BadText_init "ValueError" "ValueError.__new__" "ValueError.__init__" bmValue "place"
  C_BadForm : Addr
  m_BadForm : mg "BadForm" = some (.ref C_BadForm)
  x_BadForm : XOne K C_BadForm f_BadForm_init "ValueError" "ValueError.__new__" "ValueError.__init__" bmValue "place"
  C_BadPattern : Addr
  m_BadPattern : mg "BadPattern" = some (.ref C_BadPattern)
  x_BadPattern : XOne K C_BadPattern f_BadPattern_init "ValueError" "ValueError.__new__" "ValueError.__init__" bmValue "pattern"
  C_BadFact : Addr
  m_BadFact : mg "BadFact" = some (.ref C_BadFact)
  x_BadFact : XOne K C_BadFact f_BadFact_init "ValueError" "ValueError.__new__" "ValueError.__init__" bmValue "place"
  C_BadLevel : Addr
  m_BadLevel : mg "BadLevel" = some (.ref C_BadLevel)
  x_BadLevel : XOne K C_BadLevel f_BadLevel_init "ValueError" "ValueError.__new__" "ValueError.__init__" bmValue "level"
  C_BadInteger : Addr
  m_BadInteger : mg "BadInteger" = some (.ref C_BadInteger)
  x_BadInteger : XOne K C_BadInteger f_BadInteger_init "ValueError" "ValueError.__new__" "ValueError.__init__" bmValue "value"
  C_BadGoal : Addr
  m_BadGoal : mg "BadGoal" = some (.ref C_BadGoal)
  x_BadGoal : XOne K C_BadGoal f_BadGoal_init "ValueError" "ValueError.__new__" "ValueError.__init__" bmValue "goal"
  C_BadCommand : Addr
  m_BadCommand : mg "BadCommand" = some (.ref C_BadCommand)
  x_BadCommand : XOne K C_BadCommand f_BadCommand_init "ValueError" "ValueError.__new__" "ValueError.__init__" bmValue "none_"
  C_UnknownName : Addr
  m_UnknownName : mg "UnknownName" = some (.ref C_UnknownName)
  x_UnknownName : XOne K C_UnknownName f_UnknownName_init "KeyError" "LookupError.__new__" "KeyError.__init__" bmKey "name"
  C_NoKey : Addr
  m_NoKey : mg "NoKey" = some (.ref C_NoKey)
  x_NoKey : XOne K C_NoKey f_NoKey_init "KeyError" "LookupError.__new__" "KeyError.__init__" bmKey "name"
  C_NoBase : Addr
  m_NoBase : mg "NoBase" = some (.ref C_NoBase)
  x_NoBase : XOne K C_NoBase f_NoBase_init "LookupError" "LookupError.__new__" "LookupError.__init__" bmLookup "name"
  C_NoPlace : Addr
  m_NoPlace : mg "NoPlace" = some (.ref C_NoPlace)
  x_NoPlace : XOne K C_NoPlace f_NoPlace_init "IndexError" "IndexError.__new__" "IndexError.__init__" bmIndex "place"
  C_TooMany : Addr
  m_TooMany : mg "TooMany" = some (.ref C_TooMany)
  x_TooMany : XOne K C_TooMany f_TooMany_init "OverflowError" "OverflowError.__new__" "OverflowError.__init__" bmOverflow "limit"
  C_Taken : Addr
  m_Taken : mg "Taken" = some (.ref C_Taken)
  x_Taken : XOne K C_Taken f_Taken_init "RuntimeError" "RuntimeError.__new__" "RuntimeError.__init__" bmRuntime "name"
  C_InUse : Addr
  m_InUse : mg "InUse" = some (.ref C_InUse)
  x_InUse : XOne K C_InUse f_InUse_init "RuntimeError" "RuntimeError.__new__" "RuntimeError.__init__" bmRuntime "name"
  C_Stale : Addr
  m_Stale : mg "Stale" = some (.ref C_Stale)
  x_Stale : XOne K C_Stale f_Stale_init "RuntimeError" "RuntimeError.__new__" "RuntimeError.__init__" bmRuntime "key"
  C_Busy : Addr
  m_Busy : mg "Busy" = some (.ref C_Busy)
  x_Busy : XOne K C_Busy f_Busy_init "RuntimeError" "RuntimeError.__new__" "RuntimeError.__init__" bmRuntime "none_"
  C_NothingLeft : Addr
  m_NothingLeft : mg "NothingLeft" = some (.ref C_NothingLeft)
  x_NothingLeft : XOne K C_NothingLeft f_NothingLeft_init "RuntimeError" "RuntimeError.__new__" "RuntimeError.__init__" bmRuntime "none_"
  kb_BadName_init_1 : KBinds K d_BadName_init ["self", "name"] ["name"] kw1 kw1
  kb_BadRule_init_1 : KBinds K d_BadRule_init ["self", "place"] ["place"] kw1 kw1
  kb_BadText_init_1 : KBinds K d_BadText_init ["self", "place"] ["place"] kw1 kw1
  kb_BadForm_init_1 : KBinds K d_BadForm_init ["self", "place"] ["place"] kw1 kw1
  kb_BadPattern_init_1 : KBinds K d_BadPattern_init ["self", "pattern"] ["pattern"] kw1 kw1
  kb_BadFact_init_1 : KBinds K d_BadFact_init ["self", "place"] ["place"] kw1 kw1
  kb_BadLevel_init_1 : KBinds K d_BadLevel_init ["self", "level"] ["level"] kw1 kw1
  kb_BadInteger_init_1 : KBinds K d_BadInteger_init ["self", "value"] ["value"] kw1 kw1
  kb_BadGoal_init_1 : KBinds K d_BadGoal_init ["self", "goal"] ["goal"] kw1 kw1
  kb_UnknownName_init_1 : KBinds K d_UnknownName_init ["self", "name"] ["name"] kw1 kw1
  tk2_NoKey : PySem.W.takerIn K C_NoKey "key" = some none
  nf2_NoKey : PySem.W.findIn K (.ref C_NoKey) "key" = some none
  kb_NoKey_init_1 : KBinds K d_NoKey_init ["self", "name", "key"] ["key", "name"] kw2 kw2
  kb_NoBase_init_1 : KBinds K d_NoBase_init ["self", "name"] ["name"] kw1 kw1
  kb_NoPlace_init_1 : KBinds K d_NoPlace_init ["self", "place"] ["place"] kw1 kw1
  kb_TooMany_init_1 : KBinds K d_TooMany_init ["self", "limit"] ["limit"] kw1 kw1
  kb_Taken_init_1 : KBinds K d_Taken_init ["self", "name"] ["name"] kw1 kw1
  kb_InUse_init_1 : KBinds K d_InUse_init ["self", "name"] ["name"] kw1 kw1
  kb_Stale_init_1 : KBinds K d_Stale_init ["self", "key"] ["key"] kw1 kw1
  ec_BadName : ExcC K C_BadName
  ec_BadRule : ExcC K C_BadRule
  ec_BadText : ExcC K C_BadText
  ec_BadForm : ExcC K C_BadForm
  ec_BadPattern : ExcC K C_BadPattern
  ec_BadFact : ExcC K C_BadFact
  ec_BadLevel : ExcC K C_BadLevel
  ec_BadInteger : ExcC K C_BadInteger
  ec_BadGoal : ExcC K C_BadGoal
  ec_BadCommand : ExcC K C_BadCommand
  ec_UnknownName : ExcC K C_UnknownName
  ec_NoKey : ExcC K C_NoKey
  ec_NoBase : ExcC K C_NoBase
  ec_NoPlace : ExcC K C_NoPlace
  ec_TooMany : ExcC K C_TooMany
  ec_Taken : ExcC K C_Taken
  ec_InUse : ExcC K C_InUse
  ec_Stale : ExcC K C_Stale
  ec_Busy : ExcC K C_Busy
  ec_NothingLeft : ExcC K C_NothingLeft
  kx_BadName_BadName : PySem.W.kitOne K (.ref C_BadName) (.ref C_BadName) = some true
  kx_BadName_BadRule : PySem.W.kitOne K (.ref C_BadName) (.ref C_BadRule) = some false
  kx_BadName_BadText : PySem.W.kitOne K (.ref C_BadName) (.ref C_BadText) = some false
  kx_BadName_BadForm : PySem.W.kitOne K (.ref C_BadName) (.ref C_BadForm) = some false
  kx_BadName_BadPattern : PySem.W.kitOne K (.ref C_BadName) (.ref C_BadPattern) = some false
  kx_BadName_BadFact : PySem.W.kitOne K (.ref C_BadName) (.ref C_BadFact) = some false
  kx_BadName_BadLevel : PySem.W.kitOne K (.ref C_BadName) (.ref C_BadLevel) = some false
  kx_BadName_BadInteger : PySem.W.kitOne K (.ref C_BadName) (.ref C_BadInteger) = some false
  kx_BadName_BadGoal : PySem.W.kitOne K (.ref C_BadName) (.ref C_BadGoal) = some false
  kx_BadName_BadCommand : PySem.W.kitOne K (.ref C_BadName) (.ref C_BadCommand) = some false
  kx_BadName_UnknownName : PySem.W.kitOne K (.ref C_BadName) (.ref C_UnknownName) = some false
  kx_BadName_NoKey : PySem.W.kitOne K (.ref C_BadName) (.ref C_NoKey) = some false
  kx_BadName_NoBase : PySem.W.kitOne K (.ref C_BadName) (.ref C_NoBase) = some false
  kx_BadName_NoPlace : PySem.W.kitOne K (.ref C_BadName) (.ref C_NoPlace) = some false
  kx_BadName_TooMany : PySem.W.kitOne K (.ref C_BadName) (.ref C_TooMany) = some false
  kx_BadName_Taken : PySem.W.kitOne K (.ref C_BadName) (.ref C_Taken) = some false
  kx_BadName_InUse : PySem.W.kitOne K (.ref C_BadName) (.ref C_InUse) = some false
  kx_BadName_Stale : PySem.W.kitOne K (.ref C_BadName) (.ref C_Stale) = some false
  kx_BadName_Busy : PySem.W.kitOne K (.ref C_BadName) (.ref C_Busy) = some false
  kx_BadName_NothingLeft : PySem.W.kitOne K (.ref C_BadName) (.ref C_NothingLeft) = some false
  kx_BadRule_BadName : PySem.W.kitOne K (.ref C_BadRule) (.ref C_BadName) = some false
  kx_BadRule_BadRule : PySem.W.kitOne K (.ref C_BadRule) (.ref C_BadRule) = some true
  kx_BadRule_BadText : PySem.W.kitOne K (.ref C_BadRule) (.ref C_BadText) = some false
  kx_BadRule_BadForm : PySem.W.kitOne K (.ref C_BadRule) (.ref C_BadForm) = some false
  kx_BadRule_BadPattern : PySem.W.kitOne K (.ref C_BadRule) (.ref C_BadPattern) = some false
  kx_BadRule_BadFact : PySem.W.kitOne K (.ref C_BadRule) (.ref C_BadFact) = some false
  kx_BadRule_BadLevel : PySem.W.kitOne K (.ref C_BadRule) (.ref C_BadLevel) = some false
  kx_BadRule_BadInteger : PySem.W.kitOne K (.ref C_BadRule) (.ref C_BadInteger) = some false
  kx_BadRule_BadGoal : PySem.W.kitOne K (.ref C_BadRule) (.ref C_BadGoal) = some false
  kx_BadRule_BadCommand : PySem.W.kitOne K (.ref C_BadRule) (.ref C_BadCommand) = some false
  kx_BadRule_UnknownName : PySem.W.kitOne K (.ref C_BadRule) (.ref C_UnknownName) = some false
  kx_BadRule_NoKey : PySem.W.kitOne K (.ref C_BadRule) (.ref C_NoKey) = some false
  kx_BadRule_NoBase : PySem.W.kitOne K (.ref C_BadRule) (.ref C_NoBase) = some false
  kx_BadRule_NoPlace : PySem.W.kitOne K (.ref C_BadRule) (.ref C_NoPlace) = some false
  kx_BadRule_TooMany : PySem.W.kitOne K (.ref C_BadRule) (.ref C_TooMany) = some false
  kx_BadRule_Taken : PySem.W.kitOne K (.ref C_BadRule) (.ref C_Taken) = some false
  kx_BadRule_InUse : PySem.W.kitOne K (.ref C_BadRule) (.ref C_InUse) = some false
  kx_BadRule_Stale : PySem.W.kitOne K (.ref C_BadRule) (.ref C_Stale) = some false
  kx_BadRule_Busy : PySem.W.kitOne K (.ref C_BadRule) (.ref C_Busy) = some false
  kx_BadRule_NothingLeft : PySem.W.kitOne K (.ref C_BadRule) (.ref C_NothingLeft) = some false
  kx_BadText_BadName : PySem.W.kitOne K (.ref C_BadText) (.ref C_BadName) = some false
  kx_BadText_BadRule : PySem.W.kitOne K (.ref C_BadText) (.ref C_BadRule) = some false
  kx_BadText_BadText : PySem.W.kitOne K (.ref C_BadText) (.ref C_BadText) = some true
  kx_BadText_BadForm : PySem.W.kitOne K (.ref C_BadText) (.ref C_BadForm) = some false
  kx_BadText_BadPattern : PySem.W.kitOne K (.ref C_BadText) (.ref C_BadPattern) = some false
  kx_BadText_BadFact : PySem.W.kitOne K (.ref C_BadText) (.ref C_BadFact) = some false
  kx_BadText_BadLevel : PySem.W.kitOne K (.ref C_BadText) (.ref C_BadLevel) = some false
  kx_BadText_BadInteger : PySem.W.kitOne K (.ref C_BadText) (.ref C_BadInteger) = some false
  kx_BadText_BadGoal : PySem.W.kitOne K (.ref C_BadText) (.ref C_BadGoal) = some false
  kx_BadText_BadCommand : PySem.W.kitOne K (.ref C_BadText) (.ref C_BadCommand) = some false
  kx_BadText_UnknownName : PySem.W.kitOne K (.ref C_BadText) (.ref C_UnknownName) = some false
  kx_BadText_NoKey : PySem.W.kitOne K (.ref C_BadText) (.ref C_NoKey) = some false
  kx_BadText_NoBase : PySem.W.kitOne K (.ref C_BadText) (.ref C_NoBase) = some false
  kx_BadText_NoPlace : PySem.W.kitOne K (.ref C_BadText) (.ref C_NoPlace) = some false
  kx_BadText_TooMany : PySem.W.kitOne K (.ref C_BadText) (.ref C_TooMany) = some false
  kx_BadText_Taken : PySem.W.kitOne K (.ref C_BadText) (.ref C_Taken) = some false
  kx_BadText_InUse : PySem.W.kitOne K (.ref C_BadText) (.ref C_InUse) = some false
  kx_BadText_Stale : PySem.W.kitOne K (.ref C_BadText) (.ref C_Stale) = some false
  kx_BadText_Busy : PySem.W.kitOne K (.ref C_BadText) (.ref C_Busy) = some false
  kx_BadText_NothingLeft : PySem.W.kitOne K (.ref C_BadText) (.ref C_NothingLeft) = some false
  kx_BadForm_BadName : PySem.W.kitOne K (.ref C_BadForm) (.ref C_BadName) = some false
  kx_BadForm_BadRule : PySem.W.kitOne K (.ref C_BadForm) (.ref C_BadRule) = some false
  kx_BadForm_BadText : PySem.W.kitOne K (.ref C_BadForm) (.ref C_BadText) = some false
  kx_BadForm_BadForm : PySem.W.kitOne K (.ref C_BadForm) (.ref C_BadForm) = some true
  kx_BadForm_BadPattern : PySem.W.kitOne K (.ref C_BadForm) (.ref C_BadPattern) = some false
  kx_BadForm_BadFact : PySem.W.kitOne K (.ref C_BadForm) (.ref C_BadFact) = some false
  kx_BadForm_BadLevel : PySem.W.kitOne K (.ref C_BadForm) (.ref C_BadLevel) = some false
  kx_BadForm_BadInteger : PySem.W.kitOne K (.ref C_BadForm) (.ref C_BadInteger) = some false
  kx_BadForm_BadGoal : PySem.W.kitOne K (.ref C_BadForm) (.ref C_BadGoal) = some false
  kx_BadForm_BadCommand : PySem.W.kitOne K (.ref C_BadForm) (.ref C_BadCommand) = some false
  kx_BadForm_UnknownName : PySem.W.kitOne K (.ref C_BadForm) (.ref C_UnknownName) = some false
  kx_BadForm_NoKey : PySem.W.kitOne K (.ref C_BadForm) (.ref C_NoKey) = some false
  kx_BadForm_NoBase : PySem.W.kitOne K (.ref C_BadForm) (.ref C_NoBase) = some false
  kx_BadForm_NoPlace : PySem.W.kitOne K (.ref C_BadForm) (.ref C_NoPlace) = some false
  kx_BadForm_TooMany : PySem.W.kitOne K (.ref C_BadForm) (.ref C_TooMany) = some false
  kx_BadForm_Taken : PySem.W.kitOne K (.ref C_BadForm) (.ref C_Taken) = some false
  kx_BadForm_InUse : PySem.W.kitOne K (.ref C_BadForm) (.ref C_InUse) = some false
  kx_BadForm_Stale : PySem.W.kitOne K (.ref C_BadForm) (.ref C_Stale) = some false
  kx_BadForm_Busy : PySem.W.kitOne K (.ref C_BadForm) (.ref C_Busy) = some false
  kx_BadForm_NothingLeft : PySem.W.kitOne K (.ref C_BadForm) (.ref C_NothingLeft) = some false
  kx_BadPattern_BadName : PySem.W.kitOne K (.ref C_BadPattern) (.ref C_BadName) = some false
  kx_BadPattern_BadRule : PySem.W.kitOne K (.ref C_BadPattern) (.ref C_BadRule) = some false
  kx_BadPattern_BadText : PySem.W.kitOne K (.ref C_BadPattern) (.ref C_BadText) = some false
  kx_BadPattern_BadForm : PySem.W.kitOne K (.ref C_BadPattern) (.ref C_BadForm) = some false
  kx_BadPattern_BadPattern : PySem.W.kitOne K (.ref C_BadPattern) (.ref C_BadPattern) = some true
  kx_BadPattern_BadFact : PySem.W.kitOne K (.ref C_BadPattern) (.ref C_BadFact) = some false
  kx_BadPattern_BadLevel : PySem.W.kitOne K (.ref C_BadPattern) (.ref C_BadLevel) = some false
  kx_BadPattern_BadInteger : PySem.W.kitOne K (.ref C_BadPattern) (.ref C_BadInteger) = some false
  kx_BadPattern_BadGoal : PySem.W.kitOne K (.ref C_BadPattern) (.ref C_BadGoal) = some false
  kx_BadPattern_BadCommand : PySem.W.kitOne K (.ref C_BadPattern) (.ref C_BadCommand) = some false
  kx_BadPattern_UnknownName : PySem.W.kitOne K (.ref C_BadPattern) (.ref C_UnknownName) = some false
  kx_BadPattern_NoKey : PySem.W.kitOne K (.ref C_BadPattern) (.ref C_NoKey) = some false
  kx_BadPattern_NoBase : PySem.W.kitOne K (.ref C_BadPattern) (.ref C_NoBase) = some false
  kx_BadPattern_NoPlace : PySem.W.kitOne K (.ref C_BadPattern) (.ref C_NoPlace) = some false
  kx_BadPattern_TooMany : PySem.W.kitOne K (.ref C_BadPattern) (.ref C_TooMany) = some false
  kx_BadPattern_Taken : PySem.W.kitOne K (.ref C_BadPattern) (.ref C_Taken) = some false
  kx_BadPattern_InUse : PySem.W.kitOne K (.ref C_BadPattern) (.ref C_InUse) = some false
  kx_BadPattern_Stale : PySem.W.kitOne K (.ref C_BadPattern) (.ref C_Stale) = some false
  kx_BadPattern_Busy : PySem.W.kitOne K (.ref C_BadPattern) (.ref C_Busy) = some false
  kx_BadPattern_NothingLeft : PySem.W.kitOne K (.ref C_BadPattern) (.ref C_NothingLeft) = some false
  kx_BadFact_BadName : PySem.W.kitOne K (.ref C_BadFact) (.ref C_BadName) = some false
  kx_BadFact_BadRule : PySem.W.kitOne K (.ref C_BadFact) (.ref C_BadRule) = some false
  kx_BadFact_BadText : PySem.W.kitOne K (.ref C_BadFact) (.ref C_BadText) = some false
  kx_BadFact_BadForm : PySem.W.kitOne K (.ref C_BadFact) (.ref C_BadForm) = some false
  kx_BadFact_BadPattern : PySem.W.kitOne K (.ref C_BadFact) (.ref C_BadPattern) = some false
  kx_BadFact_BadFact : PySem.W.kitOne K (.ref C_BadFact) (.ref C_BadFact) = some true
  kx_BadFact_BadLevel : PySem.W.kitOne K (.ref C_BadFact) (.ref C_BadLevel) = some false
  kx_BadFact_BadInteger : PySem.W.kitOne K (.ref C_BadFact) (.ref C_BadInteger) = some false
  kx_BadFact_BadGoal : PySem.W.kitOne K (.ref C_BadFact) (.ref C_BadGoal) = some false
  kx_BadFact_BadCommand : PySem.W.kitOne K (.ref C_BadFact) (.ref C_BadCommand) = some false
  kx_BadFact_UnknownName : PySem.W.kitOne K (.ref C_BadFact) (.ref C_UnknownName) = some false
  kx_BadFact_NoKey : PySem.W.kitOne K (.ref C_BadFact) (.ref C_NoKey) = some false
  kx_BadFact_NoBase : PySem.W.kitOne K (.ref C_BadFact) (.ref C_NoBase) = some false
  kx_BadFact_NoPlace : PySem.W.kitOne K (.ref C_BadFact) (.ref C_NoPlace) = some false
  kx_BadFact_TooMany : PySem.W.kitOne K (.ref C_BadFact) (.ref C_TooMany) = some false
  kx_BadFact_Taken : PySem.W.kitOne K (.ref C_BadFact) (.ref C_Taken) = some false
  kx_BadFact_InUse : PySem.W.kitOne K (.ref C_BadFact) (.ref C_InUse) = some false
  kx_BadFact_Stale : PySem.W.kitOne K (.ref C_BadFact) (.ref C_Stale) = some false
  kx_BadFact_Busy : PySem.W.kitOne K (.ref C_BadFact) (.ref C_Busy) = some false
  kx_BadFact_NothingLeft : PySem.W.kitOne K (.ref C_BadFact) (.ref C_NothingLeft) = some false
  kx_BadLevel_BadName : PySem.W.kitOne K (.ref C_BadLevel) (.ref C_BadName) = some false
  kx_BadLevel_BadRule : PySem.W.kitOne K (.ref C_BadLevel) (.ref C_BadRule) = some false
  kx_BadLevel_BadText : PySem.W.kitOne K (.ref C_BadLevel) (.ref C_BadText) = some false
  kx_BadLevel_BadForm : PySem.W.kitOne K (.ref C_BadLevel) (.ref C_BadForm) = some false
  kx_BadLevel_BadPattern : PySem.W.kitOne K (.ref C_BadLevel) (.ref C_BadPattern) = some false
  kx_BadLevel_BadFact : PySem.W.kitOne K (.ref C_BadLevel) (.ref C_BadFact) = some false
  kx_BadLevel_BadLevel : PySem.W.kitOne K (.ref C_BadLevel) (.ref C_BadLevel) = some true
  kx_BadLevel_BadInteger : PySem.W.kitOne K (.ref C_BadLevel) (.ref C_BadInteger) = some false
  kx_BadLevel_BadGoal : PySem.W.kitOne K (.ref C_BadLevel) (.ref C_BadGoal) = some false
  kx_BadLevel_BadCommand : PySem.W.kitOne K (.ref C_BadLevel) (.ref C_BadCommand) = some false
  kx_BadLevel_UnknownName : PySem.W.kitOne K (.ref C_BadLevel) (.ref C_UnknownName) = some false
  kx_BadLevel_NoKey : PySem.W.kitOne K (.ref C_BadLevel) (.ref C_NoKey) = some false
  kx_BadLevel_NoBase : PySem.W.kitOne K (.ref C_BadLevel) (.ref C_NoBase) = some false
  kx_BadLevel_NoPlace : PySem.W.kitOne K (.ref C_BadLevel) (.ref C_NoPlace) = some false
  kx_BadLevel_TooMany : PySem.W.kitOne K (.ref C_BadLevel) (.ref C_TooMany) = some false
  kx_BadLevel_Taken : PySem.W.kitOne K (.ref C_BadLevel) (.ref C_Taken) = some false
  kx_BadLevel_InUse : PySem.W.kitOne K (.ref C_BadLevel) (.ref C_InUse) = some false
  kx_BadLevel_Stale : PySem.W.kitOne K (.ref C_BadLevel) (.ref C_Stale) = some false
  kx_BadLevel_Busy : PySem.W.kitOne K (.ref C_BadLevel) (.ref C_Busy) = some false
  kx_BadLevel_NothingLeft : PySem.W.kitOne K (.ref C_BadLevel) (.ref C_NothingLeft) = some false
  kx_BadInteger_BadName : PySem.W.kitOne K (.ref C_BadInteger) (.ref C_BadName) = some false
  kx_BadInteger_BadRule : PySem.W.kitOne K (.ref C_BadInteger) (.ref C_BadRule) = some false
  kx_BadInteger_BadText : PySem.W.kitOne K (.ref C_BadInteger) (.ref C_BadText) = some false
  kx_BadInteger_BadForm : PySem.W.kitOne K (.ref C_BadInteger) (.ref C_BadForm) = some false
  kx_BadInteger_BadPattern : PySem.W.kitOne K (.ref C_BadInteger) (.ref C_BadPattern) = some false
  kx_BadInteger_BadFact : PySem.W.kitOne K (.ref C_BadInteger) (.ref C_BadFact) = some false
  kx_BadInteger_BadLevel : PySem.W.kitOne K (.ref C_BadInteger) (.ref C_BadLevel) = some false
  kx_BadInteger_BadInteger : PySem.W.kitOne K (.ref C_BadInteger) (.ref C_BadInteger) = some true
  kx_BadInteger_BadGoal : PySem.W.kitOne K (.ref C_BadInteger) (.ref C_BadGoal) = some false
  kx_BadInteger_BadCommand : PySem.W.kitOne K (.ref C_BadInteger) (.ref C_BadCommand) = some false
  kx_BadInteger_UnknownName : PySem.W.kitOne K (.ref C_BadInteger) (.ref C_UnknownName) = some false
  kx_BadInteger_NoKey : PySem.W.kitOne K (.ref C_BadInteger) (.ref C_NoKey) = some false
  kx_BadInteger_NoBase : PySem.W.kitOne K (.ref C_BadInteger) (.ref C_NoBase) = some false
  kx_BadInteger_NoPlace : PySem.W.kitOne K (.ref C_BadInteger) (.ref C_NoPlace) = some false
  kx_BadInteger_TooMany : PySem.W.kitOne K (.ref C_BadInteger) (.ref C_TooMany) = some false
  kx_BadInteger_Taken : PySem.W.kitOne K (.ref C_BadInteger) (.ref C_Taken) = some false
  kx_BadInteger_InUse : PySem.W.kitOne K (.ref C_BadInteger) (.ref C_InUse) = some false
  kx_BadInteger_Stale : PySem.W.kitOne K (.ref C_BadInteger) (.ref C_Stale) = some false
  kx_BadInteger_Busy : PySem.W.kitOne K (.ref C_BadInteger) (.ref C_Busy) = some false
  kx_BadInteger_NothingLeft : PySem.W.kitOne K (.ref C_BadInteger) (.ref C_NothingLeft) = some false
  kx_BadGoal_BadName : PySem.W.kitOne K (.ref C_BadGoal) (.ref C_BadName) = some false
  kx_BadGoal_BadRule : PySem.W.kitOne K (.ref C_BadGoal) (.ref C_BadRule) = some false
  kx_BadGoal_BadText : PySem.W.kitOne K (.ref C_BadGoal) (.ref C_BadText) = some false
  kx_BadGoal_BadForm : PySem.W.kitOne K (.ref C_BadGoal) (.ref C_BadForm) = some false
  kx_BadGoal_BadPattern : PySem.W.kitOne K (.ref C_BadGoal) (.ref C_BadPattern) = some false
  kx_BadGoal_BadFact : PySem.W.kitOne K (.ref C_BadGoal) (.ref C_BadFact) = some false
  kx_BadGoal_BadLevel : PySem.W.kitOne K (.ref C_BadGoal) (.ref C_BadLevel) = some false
  kx_BadGoal_BadInteger : PySem.W.kitOne K (.ref C_BadGoal) (.ref C_BadInteger) = some false
  kx_BadGoal_BadGoal : PySem.W.kitOne K (.ref C_BadGoal) (.ref C_BadGoal) = some true
  kx_BadGoal_BadCommand : PySem.W.kitOne K (.ref C_BadGoal) (.ref C_BadCommand) = some false
  kx_BadGoal_UnknownName : PySem.W.kitOne K (.ref C_BadGoal) (.ref C_UnknownName) = some false
  kx_BadGoal_NoKey : PySem.W.kitOne K (.ref C_BadGoal) (.ref C_NoKey) = some false
  kx_BadGoal_NoBase : PySem.W.kitOne K (.ref C_BadGoal) (.ref C_NoBase) = some false
  kx_BadGoal_NoPlace : PySem.W.kitOne K (.ref C_BadGoal) (.ref C_NoPlace) = some false
  kx_BadGoal_TooMany : PySem.W.kitOne K (.ref C_BadGoal) (.ref C_TooMany) = some false
  kx_BadGoal_Taken : PySem.W.kitOne K (.ref C_BadGoal) (.ref C_Taken) = some false
  kx_BadGoal_InUse : PySem.W.kitOne K (.ref C_BadGoal) (.ref C_InUse) = some false
  kx_BadGoal_Stale : PySem.W.kitOne K (.ref C_BadGoal) (.ref C_Stale) = some false
  kx_BadGoal_Busy : PySem.W.kitOne K (.ref C_BadGoal) (.ref C_Busy) = some false
  kx_BadGoal_NothingLeft : PySem.W.kitOne K (.ref C_BadGoal) (.ref C_NothingLeft) = some false
  kx_BadCommand_BadName : PySem.W.kitOne K (.ref C_BadCommand) (.ref C_BadName) = some false
  kx_BadCommand_BadRule : PySem.W.kitOne K (.ref C_BadCommand) (.ref C_BadRule) = some false
  kx_BadCommand_BadText : PySem.W.kitOne K (.ref C_BadCommand) (.ref C_BadText) = some false
  kx_BadCommand_BadForm : PySem.W.kitOne K (.ref C_BadCommand) (.ref C_BadForm) = some false
  kx_BadCommand_BadPattern : PySem.W.kitOne K (.ref C_BadCommand) (.ref C_BadPattern) = some false
  kx_BadCommand_BadFact : PySem.W.kitOne K (.ref C_BadCommand) (.ref C_BadFact) = some false
  kx_BadCommand_BadLevel : PySem.W.kitOne K (.ref C_BadCommand) (.ref C_BadLevel) = some false
  kx_BadCommand_BadInteger : PySem.W.kitOne K (.ref C_BadCommand) (.ref C_BadInteger) = some false
  kx_BadCommand_BadGoal : PySem.W.kitOne K (.ref C_BadCommand) (.ref C_BadGoal) = some false
  kx_BadCommand_BadCommand : PySem.W.kitOne K (.ref C_BadCommand) (.ref C_BadCommand) = some true
  kx_BadCommand_UnknownName : PySem.W.kitOne K (.ref C_BadCommand) (.ref C_UnknownName) = some false
  kx_BadCommand_NoKey : PySem.W.kitOne K (.ref C_BadCommand) (.ref C_NoKey) = some false
  kx_BadCommand_NoBase : PySem.W.kitOne K (.ref C_BadCommand) (.ref C_NoBase) = some false
  kx_BadCommand_NoPlace : PySem.W.kitOne K (.ref C_BadCommand) (.ref C_NoPlace) = some false
  kx_BadCommand_TooMany : PySem.W.kitOne K (.ref C_BadCommand) (.ref C_TooMany) = some false
  kx_BadCommand_Taken : PySem.W.kitOne K (.ref C_BadCommand) (.ref C_Taken) = some false
  kx_BadCommand_InUse : PySem.W.kitOne K (.ref C_BadCommand) (.ref C_InUse) = some false
  kx_BadCommand_Stale : PySem.W.kitOne K (.ref C_BadCommand) (.ref C_Stale) = some false
  kx_BadCommand_Busy : PySem.W.kitOne K (.ref C_BadCommand) (.ref C_Busy) = some false
  kx_BadCommand_NothingLeft : PySem.W.kitOne K (.ref C_BadCommand) (.ref C_NothingLeft) = some false
  kx_UnknownName_BadName : PySem.W.kitOne K (.ref C_UnknownName) (.ref C_BadName) = some false
  kx_UnknownName_BadRule : PySem.W.kitOne K (.ref C_UnknownName) (.ref C_BadRule) = some false
  kx_UnknownName_BadText : PySem.W.kitOne K (.ref C_UnknownName) (.ref C_BadText) = some false
  kx_UnknownName_BadForm : PySem.W.kitOne K (.ref C_UnknownName) (.ref C_BadForm) = some false
  kx_UnknownName_BadPattern : PySem.W.kitOne K (.ref C_UnknownName) (.ref C_BadPattern) = some false
  kx_UnknownName_BadFact : PySem.W.kitOne K (.ref C_UnknownName) (.ref C_BadFact) = some false
  kx_UnknownName_BadLevel : PySem.W.kitOne K (.ref C_UnknownName) (.ref C_BadLevel) = some false
  kx_UnknownName_BadInteger : PySem.W.kitOne K (.ref C_UnknownName) (.ref C_BadInteger) = some false
  kx_UnknownName_BadGoal : PySem.W.kitOne K (.ref C_UnknownName) (.ref C_BadGoal) = some false
  kx_UnknownName_BadCommand : PySem.W.kitOne K (.ref C_UnknownName) (.ref C_BadCommand) = some false
  kx_UnknownName_UnknownName : PySem.W.kitOne K (.ref C_UnknownName) (.ref C_UnknownName) = some true
  kx_UnknownName_NoKey : PySem.W.kitOne K (.ref C_UnknownName) (.ref C_NoKey) = some false
  kx_UnknownName_NoBase : PySem.W.kitOne K (.ref C_UnknownName) (.ref C_NoBase) = some false
  kx_UnknownName_NoPlace : PySem.W.kitOne K (.ref C_UnknownName) (.ref C_NoPlace) = some false
  kx_UnknownName_TooMany : PySem.W.kitOne K (.ref C_UnknownName) (.ref C_TooMany) = some false
  kx_UnknownName_Taken : PySem.W.kitOne K (.ref C_UnknownName) (.ref C_Taken) = some false
  kx_UnknownName_InUse : PySem.W.kitOne K (.ref C_UnknownName) (.ref C_InUse) = some false
  kx_UnknownName_Stale : PySem.W.kitOne K (.ref C_UnknownName) (.ref C_Stale) = some false
  kx_UnknownName_Busy : PySem.W.kitOne K (.ref C_UnknownName) (.ref C_Busy) = some false
  kx_UnknownName_NothingLeft : PySem.W.kitOne K (.ref C_UnknownName) (.ref C_NothingLeft) = some false
  kx_NoKey_BadName : PySem.W.kitOne K (.ref C_NoKey) (.ref C_BadName) = some false
  kx_NoKey_BadRule : PySem.W.kitOne K (.ref C_NoKey) (.ref C_BadRule) = some false
  kx_NoKey_BadText : PySem.W.kitOne K (.ref C_NoKey) (.ref C_BadText) = some false
  kx_NoKey_BadForm : PySem.W.kitOne K (.ref C_NoKey) (.ref C_BadForm) = some false
  kx_NoKey_BadPattern : PySem.W.kitOne K (.ref C_NoKey) (.ref C_BadPattern) = some false
  kx_NoKey_BadFact : PySem.W.kitOne K (.ref C_NoKey) (.ref C_BadFact) = some false
  kx_NoKey_BadLevel : PySem.W.kitOne K (.ref C_NoKey) (.ref C_BadLevel) = some false
  kx_NoKey_BadInteger : PySem.W.kitOne K (.ref C_NoKey) (.ref C_BadInteger) = some false
  kx_NoKey_BadGoal : PySem.W.kitOne K (.ref C_NoKey) (.ref C_BadGoal) = some false
  kx_NoKey_BadCommand : PySem.W.kitOne K (.ref C_NoKey) (.ref C_BadCommand) = some false
  kx_NoKey_UnknownName : PySem.W.kitOne K (.ref C_NoKey) (.ref C_UnknownName) = some false
  kx_NoKey_NoKey : PySem.W.kitOne K (.ref C_NoKey) (.ref C_NoKey) = some true
  kx_NoKey_NoBase : PySem.W.kitOne K (.ref C_NoKey) (.ref C_NoBase) = some false
  kx_NoKey_NoPlace : PySem.W.kitOne K (.ref C_NoKey) (.ref C_NoPlace) = some false
  kx_NoKey_TooMany : PySem.W.kitOne K (.ref C_NoKey) (.ref C_TooMany) = some false
  kx_NoKey_Taken : PySem.W.kitOne K (.ref C_NoKey) (.ref C_Taken) = some false
  kx_NoKey_InUse : PySem.W.kitOne K (.ref C_NoKey) (.ref C_InUse) = some false
  kx_NoKey_Stale : PySem.W.kitOne K (.ref C_NoKey) (.ref C_Stale) = some false
  kx_NoKey_Busy : PySem.W.kitOne K (.ref C_NoKey) (.ref C_Busy) = some false
  kx_NoKey_NothingLeft : PySem.W.kitOne K (.ref C_NoKey) (.ref C_NothingLeft) = some false
  kx_NoBase_BadName : PySem.W.kitOne K (.ref C_NoBase) (.ref C_BadName) = some false
  kx_NoBase_BadRule : PySem.W.kitOne K (.ref C_NoBase) (.ref C_BadRule) = some false
  kx_NoBase_BadText : PySem.W.kitOne K (.ref C_NoBase) (.ref C_BadText) = some false
  kx_NoBase_BadForm : PySem.W.kitOne K (.ref C_NoBase) (.ref C_BadForm) = some false
  kx_NoBase_BadPattern : PySem.W.kitOne K (.ref C_NoBase) (.ref C_BadPattern) = some false
  kx_NoBase_BadFact : PySem.W.kitOne K (.ref C_NoBase) (.ref C_BadFact) = some false
  kx_NoBase_BadLevel : PySem.W.kitOne K (.ref C_NoBase) (.ref C_BadLevel) = some false
  kx_NoBase_BadInteger : PySem.W.kitOne K (.ref C_NoBase) (.ref C_BadInteger) = some false
  kx_NoBase_BadGoal : PySem.W.kitOne K (.ref C_NoBase) (.ref C_BadGoal) = some false
  kx_NoBase_BadCommand : PySem.W.kitOne K (.ref C_NoBase) (.ref C_BadCommand) = some false
  kx_NoBase_UnknownName : PySem.W.kitOne K (.ref C_NoBase) (.ref C_UnknownName) = some false
  kx_NoBase_NoKey : PySem.W.kitOne K (.ref C_NoBase) (.ref C_NoKey) = some false
  kx_NoBase_NoBase : PySem.W.kitOne K (.ref C_NoBase) (.ref C_NoBase) = some true
  kx_NoBase_NoPlace : PySem.W.kitOne K (.ref C_NoBase) (.ref C_NoPlace) = some false
  kx_NoBase_TooMany : PySem.W.kitOne K (.ref C_NoBase) (.ref C_TooMany) = some false
  kx_NoBase_Taken : PySem.W.kitOne K (.ref C_NoBase) (.ref C_Taken) = some false
  kx_NoBase_InUse : PySem.W.kitOne K (.ref C_NoBase) (.ref C_InUse) = some false
  kx_NoBase_Stale : PySem.W.kitOne K (.ref C_NoBase) (.ref C_Stale) = some false
  kx_NoBase_Busy : PySem.W.kitOne K (.ref C_NoBase) (.ref C_Busy) = some false
  kx_NoBase_NothingLeft : PySem.W.kitOne K (.ref C_NoBase) (.ref C_NothingLeft) = some false
  kx_NoPlace_BadName : PySem.W.kitOne K (.ref C_NoPlace) (.ref C_BadName) = some false
  kx_NoPlace_BadRule : PySem.W.kitOne K (.ref C_NoPlace) (.ref C_BadRule) = some false
  kx_NoPlace_BadText : PySem.W.kitOne K (.ref C_NoPlace) (.ref C_BadText) = some false
  kx_NoPlace_BadForm : PySem.W.kitOne K (.ref C_NoPlace) (.ref C_BadForm) = some false
  kx_NoPlace_BadPattern : PySem.W.kitOne K (.ref C_NoPlace) (.ref C_BadPattern) = some false
  kx_NoPlace_BadFact : PySem.W.kitOne K (.ref C_NoPlace) (.ref C_BadFact) = some false
  kx_NoPlace_BadLevel : PySem.W.kitOne K (.ref C_NoPlace) (.ref C_BadLevel) = some false
  kx_NoPlace_BadInteger : PySem.W.kitOne K (.ref C_NoPlace) (.ref C_BadInteger) = some false
  kx_NoPlace_BadGoal : PySem.W.kitOne K (.ref C_NoPlace) (.ref C_BadGoal) = some false
  kx_NoPlace_BadCommand : PySem.W.kitOne K (.ref C_NoPlace) (.ref C_BadCommand) = some false
  kx_NoPlace_UnknownName : PySem.W.kitOne K (.ref C_NoPlace) (.ref C_UnknownName) = some false
  kx_NoPlace_NoKey : PySem.W.kitOne K (.ref C_NoPlace) (.ref C_NoKey) = some false
  kx_NoPlace_NoBase : PySem.W.kitOne K (.ref C_NoPlace) (.ref C_NoBase) = some false
  kx_NoPlace_NoPlace : PySem.W.kitOne K (.ref C_NoPlace) (.ref C_NoPlace) = some true
  kx_NoPlace_TooMany : PySem.W.kitOne K (.ref C_NoPlace) (.ref C_TooMany) = some false
  kx_NoPlace_Taken : PySem.W.kitOne K (.ref C_NoPlace) (.ref C_Taken) = some false
  kx_NoPlace_InUse : PySem.W.kitOne K (.ref C_NoPlace) (.ref C_InUse) = some false
  kx_NoPlace_Stale : PySem.W.kitOne K (.ref C_NoPlace) (.ref C_Stale) = some false
  kx_NoPlace_Busy : PySem.W.kitOne K (.ref C_NoPlace) (.ref C_Busy) = some false
  kx_NoPlace_NothingLeft : PySem.W.kitOne K (.ref C_NoPlace) (.ref C_NothingLeft) = some false
  kx_TooMany_BadName : PySem.W.kitOne K (.ref C_TooMany) (.ref C_BadName) = some false
  kx_TooMany_BadRule : PySem.W.kitOne K (.ref C_TooMany) (.ref C_BadRule) = some false
  kx_TooMany_BadText : PySem.W.kitOne K (.ref C_TooMany) (.ref C_BadText) = some false
  kx_TooMany_BadForm : PySem.W.kitOne K (.ref C_TooMany) (.ref C_BadForm) = some false
  kx_TooMany_BadPattern : PySem.W.kitOne K (.ref C_TooMany) (.ref C_BadPattern) = some false
  kx_TooMany_BadFact : PySem.W.kitOne K (.ref C_TooMany) (.ref C_BadFact) = some false
  kx_TooMany_BadLevel : PySem.W.kitOne K (.ref C_TooMany) (.ref C_BadLevel) = some false
  kx_TooMany_BadInteger : PySem.W.kitOne K (.ref C_TooMany) (.ref C_BadInteger) = some false
  kx_TooMany_BadGoal : PySem.W.kitOne K (.ref C_TooMany) (.ref C_BadGoal) = some false
  kx_TooMany_BadCommand : PySem.W.kitOne K (.ref C_TooMany) (.ref C_BadCommand) = some false
  kx_TooMany_UnknownName : PySem.W.kitOne K (.ref C_TooMany) (.ref C_UnknownName) = some false
  kx_TooMany_NoKey : PySem.W.kitOne K (.ref C_TooMany) (.ref C_NoKey) = some false
  kx_TooMany_NoBase : PySem.W.kitOne K (.ref C_TooMany) (.ref C_NoBase) = some false
  kx_TooMany_NoPlace : PySem.W.kitOne K (.ref C_TooMany) (.ref C_NoPlace) = some false
  kx_TooMany_TooMany : PySem.W.kitOne K (.ref C_TooMany) (.ref C_TooMany) = some true
  kx_TooMany_Taken : PySem.W.kitOne K (.ref C_TooMany) (.ref C_Taken) = some false
  kx_TooMany_InUse : PySem.W.kitOne K (.ref C_TooMany) (.ref C_InUse) = some false
  kx_TooMany_Stale : PySem.W.kitOne K (.ref C_TooMany) (.ref C_Stale) = some false
  kx_TooMany_Busy : PySem.W.kitOne K (.ref C_TooMany) (.ref C_Busy) = some false
  kx_TooMany_NothingLeft : PySem.W.kitOne K (.ref C_TooMany) (.ref C_NothingLeft) = some false
  kx_Taken_BadName : PySem.W.kitOne K (.ref C_Taken) (.ref C_BadName) = some false
  kx_Taken_BadRule : PySem.W.kitOne K (.ref C_Taken) (.ref C_BadRule) = some false
  kx_Taken_BadText : PySem.W.kitOne K (.ref C_Taken) (.ref C_BadText) = some false
  kx_Taken_BadForm : PySem.W.kitOne K (.ref C_Taken) (.ref C_BadForm) = some false
  kx_Taken_BadPattern : PySem.W.kitOne K (.ref C_Taken) (.ref C_BadPattern) = some false
  kx_Taken_BadFact : PySem.W.kitOne K (.ref C_Taken) (.ref C_BadFact) = some false
  kx_Taken_BadLevel : PySem.W.kitOne K (.ref C_Taken) (.ref C_BadLevel) = some false
  kx_Taken_BadInteger : PySem.W.kitOne K (.ref C_Taken) (.ref C_BadInteger) = some false
  kx_Taken_BadGoal : PySem.W.kitOne K (.ref C_Taken) (.ref C_BadGoal) = some false
  kx_Taken_BadCommand : PySem.W.kitOne K (.ref C_Taken) (.ref C_BadCommand) = some false
  kx_Taken_UnknownName : PySem.W.kitOne K (.ref C_Taken) (.ref C_UnknownName) = some false
  kx_Taken_NoKey : PySem.W.kitOne K (.ref C_Taken) (.ref C_NoKey) = some false
  kx_Taken_NoBase : PySem.W.kitOne K (.ref C_Taken) (.ref C_NoBase) = some false
  kx_Taken_NoPlace : PySem.W.kitOne K (.ref C_Taken) (.ref C_NoPlace) = some false
  kx_Taken_TooMany : PySem.W.kitOne K (.ref C_Taken) (.ref C_TooMany) = some false
  kx_Taken_Taken : PySem.W.kitOne K (.ref C_Taken) (.ref C_Taken) = some true
  kx_Taken_InUse : PySem.W.kitOne K (.ref C_Taken) (.ref C_InUse) = some false
  kx_Taken_Stale : PySem.W.kitOne K (.ref C_Taken) (.ref C_Stale) = some false
  kx_Taken_Busy : PySem.W.kitOne K (.ref C_Taken) (.ref C_Busy) = some false
  kx_Taken_NothingLeft : PySem.W.kitOne K (.ref C_Taken) (.ref C_NothingLeft) = some false
  kx_InUse_BadName : PySem.W.kitOne K (.ref C_InUse) (.ref C_BadName) = some false
  kx_InUse_BadRule : PySem.W.kitOne K (.ref C_InUse) (.ref C_BadRule) = some false
  kx_InUse_BadText : PySem.W.kitOne K (.ref C_InUse) (.ref C_BadText) = some false
  kx_InUse_BadForm : PySem.W.kitOne K (.ref C_InUse) (.ref C_BadForm) = some false
  kx_InUse_BadPattern : PySem.W.kitOne K (.ref C_InUse) (.ref C_BadPattern) = some false
  kx_InUse_BadFact : PySem.W.kitOne K (.ref C_InUse) (.ref C_BadFact) = some false
  kx_InUse_BadLevel : PySem.W.kitOne K (.ref C_InUse) (.ref C_BadLevel) = some false
  kx_InUse_BadInteger : PySem.W.kitOne K (.ref C_InUse) (.ref C_BadInteger) = some false
  kx_InUse_BadGoal : PySem.W.kitOne K (.ref C_InUse) (.ref C_BadGoal) = some false
  kx_InUse_BadCommand : PySem.W.kitOne K (.ref C_InUse) (.ref C_BadCommand) = some false
  kx_InUse_UnknownName : PySem.W.kitOne K (.ref C_InUse) (.ref C_UnknownName) = some false
  kx_InUse_NoKey : PySem.W.kitOne K (.ref C_InUse) (.ref C_NoKey) = some false
  kx_InUse_NoBase : PySem.W.kitOne K (.ref C_InUse) (.ref C_NoBase) = some false
  kx_InUse_NoPlace : PySem.W.kitOne K (.ref C_InUse) (.ref C_NoPlace) = some false
  kx_InUse_TooMany : PySem.W.kitOne K (.ref C_InUse) (.ref C_TooMany) = some false
  kx_InUse_Taken : PySem.W.kitOne K (.ref C_InUse) (.ref C_Taken) = some false
  kx_InUse_InUse : PySem.W.kitOne K (.ref C_InUse) (.ref C_InUse) = some true
  kx_InUse_Stale : PySem.W.kitOne K (.ref C_InUse) (.ref C_Stale) = some false
  kx_InUse_Busy : PySem.W.kitOne K (.ref C_InUse) (.ref C_Busy) = some false
  kx_InUse_NothingLeft : PySem.W.kitOne K (.ref C_InUse) (.ref C_NothingLeft) = some false
  kx_Stale_BadName : PySem.W.kitOne K (.ref C_Stale) (.ref C_BadName) = some false
  kx_Stale_BadRule : PySem.W.kitOne K (.ref C_Stale) (.ref C_BadRule) = some false
  kx_Stale_BadText : PySem.W.kitOne K (.ref C_Stale) (.ref C_BadText) = some false
  kx_Stale_BadForm : PySem.W.kitOne K (.ref C_Stale) (.ref C_BadForm) = some false
  kx_Stale_BadPattern : PySem.W.kitOne K (.ref C_Stale) (.ref C_BadPattern) = some false
  kx_Stale_BadFact : PySem.W.kitOne K (.ref C_Stale) (.ref C_BadFact) = some false
  kx_Stale_BadLevel : PySem.W.kitOne K (.ref C_Stale) (.ref C_BadLevel) = some false
  kx_Stale_BadInteger : PySem.W.kitOne K (.ref C_Stale) (.ref C_BadInteger) = some false
  kx_Stale_BadGoal : PySem.W.kitOne K (.ref C_Stale) (.ref C_BadGoal) = some false
  kx_Stale_BadCommand : PySem.W.kitOne K (.ref C_Stale) (.ref C_BadCommand) = some false
  kx_Stale_UnknownName : PySem.W.kitOne K (.ref C_Stale) (.ref C_UnknownName) = some false
  kx_Stale_NoKey : PySem.W.kitOne K (.ref C_Stale) (.ref C_NoKey) = some false
  kx_Stale_NoBase : PySem.W.kitOne K (.ref C_Stale) (.ref C_NoBase) = some false
  kx_Stale_NoPlace : PySem.W.kitOne K (.ref C_Stale) (.ref C_NoPlace) = some false
  kx_Stale_TooMany : PySem.W.kitOne K (.ref C_Stale) (.ref C_TooMany) = some false
  kx_Stale_Taken : PySem.W.kitOne K (.ref C_Stale) (.ref C_Taken) = some false
  kx_Stale_InUse : PySem.W.kitOne K (.ref C_Stale) (.ref C_InUse) = some false
  kx_Stale_Stale : PySem.W.kitOne K (.ref C_Stale) (.ref C_Stale) = some true
  kx_Stale_Busy : PySem.W.kitOne K (.ref C_Stale) (.ref C_Busy) = some false
  kx_Stale_NothingLeft : PySem.W.kitOne K (.ref C_Stale) (.ref C_NothingLeft) = some false
  kx_Busy_BadName : PySem.W.kitOne K (.ref C_Busy) (.ref C_BadName) = some false
  kx_Busy_BadRule : PySem.W.kitOne K (.ref C_Busy) (.ref C_BadRule) = some false
  kx_Busy_BadText : PySem.W.kitOne K (.ref C_Busy) (.ref C_BadText) = some false
  kx_Busy_BadForm : PySem.W.kitOne K (.ref C_Busy) (.ref C_BadForm) = some false
  kx_Busy_BadPattern : PySem.W.kitOne K (.ref C_Busy) (.ref C_BadPattern) = some false
  kx_Busy_BadFact : PySem.W.kitOne K (.ref C_Busy) (.ref C_BadFact) = some false
  kx_Busy_BadLevel : PySem.W.kitOne K (.ref C_Busy) (.ref C_BadLevel) = some false
  kx_Busy_BadInteger : PySem.W.kitOne K (.ref C_Busy) (.ref C_BadInteger) = some false
  kx_Busy_BadGoal : PySem.W.kitOne K (.ref C_Busy) (.ref C_BadGoal) = some false
  kx_Busy_BadCommand : PySem.W.kitOne K (.ref C_Busy) (.ref C_BadCommand) = some false
  kx_Busy_UnknownName : PySem.W.kitOne K (.ref C_Busy) (.ref C_UnknownName) = some false
  kx_Busy_NoKey : PySem.W.kitOne K (.ref C_Busy) (.ref C_NoKey) = some false
  kx_Busy_NoBase : PySem.W.kitOne K (.ref C_Busy) (.ref C_NoBase) = some false
  kx_Busy_NoPlace : PySem.W.kitOne K (.ref C_Busy) (.ref C_NoPlace) = some false
  kx_Busy_TooMany : PySem.W.kitOne K (.ref C_Busy) (.ref C_TooMany) = some false
  kx_Busy_Taken : PySem.W.kitOne K (.ref C_Busy) (.ref C_Taken) = some false
  kx_Busy_InUse : PySem.W.kitOne K (.ref C_Busy) (.ref C_InUse) = some false
  kx_Busy_Stale : PySem.W.kitOne K (.ref C_Busy) (.ref C_Stale) = some false
  kx_Busy_Busy : PySem.W.kitOne K (.ref C_Busy) (.ref C_Busy) = some true
  kx_Busy_NothingLeft : PySem.W.kitOne K (.ref C_Busy) (.ref C_NothingLeft) = some false
  kx_NothingLeft_BadName : PySem.W.kitOne K (.ref C_NothingLeft) (.ref C_BadName) = some false
  kx_NothingLeft_BadRule : PySem.W.kitOne K (.ref C_NothingLeft) (.ref C_BadRule) = some false
  kx_NothingLeft_BadText : PySem.W.kitOne K (.ref C_NothingLeft) (.ref C_BadText) = some false
  kx_NothingLeft_BadForm : PySem.W.kitOne K (.ref C_NothingLeft) (.ref C_BadForm) = some false
  kx_NothingLeft_BadPattern : PySem.W.kitOne K (.ref C_NothingLeft) (.ref C_BadPattern) = some false
  kx_NothingLeft_BadFact : PySem.W.kitOne K (.ref C_NothingLeft) (.ref C_BadFact) = some false
  kx_NothingLeft_BadLevel : PySem.W.kitOne K (.ref C_NothingLeft) (.ref C_BadLevel) = some false
  kx_NothingLeft_BadInteger : PySem.W.kitOne K (.ref C_NothingLeft) (.ref C_BadInteger) = some false
  kx_NothingLeft_BadGoal : PySem.W.kitOne K (.ref C_NothingLeft) (.ref C_BadGoal) = some false
  kx_NothingLeft_BadCommand : PySem.W.kitOne K (.ref C_NothingLeft) (.ref C_BadCommand) = some false
  kx_NothingLeft_UnknownName : PySem.W.kitOne K (.ref C_NothingLeft) (.ref C_UnknownName) = some false
  kx_NothingLeft_NoKey : PySem.W.kitOne K (.ref C_NothingLeft) (.ref C_NoKey) = some false
  kx_NothingLeft_NoBase : PySem.W.kitOne K (.ref C_NothingLeft) (.ref C_NoBase) = some false
  kx_NothingLeft_NoPlace : PySem.W.kitOne K (.ref C_NothingLeft) (.ref C_NoPlace) = some false
  kx_NothingLeft_TooMany : PySem.W.kitOne K (.ref C_NothingLeft) (.ref C_TooMany) = some false
  kx_NothingLeft_Taken : PySem.W.kitOne K (.ref C_NothingLeft) (.ref C_Taken) = some false
  kx_NothingLeft_InUse : PySem.W.kitOne K (.ref C_NothingLeft) (.ref C_InUse) = some false
  kx_NothingLeft_Stale : PySem.W.kitOne K (.ref C_NothingLeft) (.ref C_Stale) = some false
  kx_NothingLeft_Busy : PySem.W.kitOne K (.ref C_NothingLeft) (.ref C_Busy) = some false
  kx_NothingLeft_NothingLeft : PySem.W.kitOne K (.ref C_NothingLeft) (.ref C_NothingLeft) = some true
  kx_BadName_ValueError : PySem.W.kitOne K (.ref C_BadName) (.type "ValueError") = some true
  kx_BadName_KeyError : PySem.W.kitOne K (.ref C_BadName) (.type "KeyError") = some false
  kx_BadName_LookupError : PySem.W.kitOne K (.ref C_BadName) (.type "LookupError") = some false
  kx_BadName_IndexError : PySem.W.kitOne K (.ref C_BadName) (.type "IndexError") = some false
  kx_BadName_OverflowError : PySem.W.kitOne K (.ref C_BadName) (.type "OverflowError") = some false
  kx_BadName_ArithmeticError : PySem.W.kitOne K (.ref C_BadName) (.type "ArithmeticError") = some false
  kx_BadName_RuntimeError : PySem.W.kitOne K (.ref C_BadName) (.type "RuntimeError") = some false
  kx_BadName_NotImplementedError : PySem.W.kitOne K (.ref C_BadName) (.type "NotImplementedError") = some false
  kx_BadRule_ValueError : PySem.W.kitOne K (.ref C_BadRule) (.type "ValueError") = some true
  kx_BadRule_KeyError : PySem.W.kitOne K (.ref C_BadRule) (.type "KeyError") = some false
  kx_BadRule_LookupError : PySem.W.kitOne K (.ref C_BadRule) (.type "LookupError") = some false
  kx_BadRule_IndexError : PySem.W.kitOne K (.ref C_BadRule) (.type "IndexError") = some false
  kx_BadRule_OverflowError : PySem.W.kitOne K (.ref C_BadRule) (.type "OverflowError") = some false
  kx_BadRule_ArithmeticError : PySem.W.kitOne K (.ref C_BadRule) (.type "ArithmeticError") = some false
  kx_BadRule_RuntimeError : PySem.W.kitOne K (.ref C_BadRule) (.type "RuntimeError") = some false
  kx_BadRule_NotImplementedError : PySem.W.kitOne K (.ref C_BadRule) (.type "NotImplementedError") = some false
  kx_BadText_ValueError : PySem.W.kitOne K (.ref C_BadText) (.type "ValueError") = some true
  kx_BadText_KeyError : PySem.W.kitOne K (.ref C_BadText) (.type "KeyError") = some false
  kx_BadText_LookupError : PySem.W.kitOne K (.ref C_BadText) (.type "LookupError") = some false
  kx_BadText_IndexError : PySem.W.kitOne K (.ref C_BadText) (.type "IndexError") = some false
  kx_BadText_OverflowError : PySem.W.kitOne K (.ref C_BadText) (.type "OverflowError") = some false
  kx_BadText_ArithmeticError : PySem.W.kitOne K (.ref C_BadText) (.type "ArithmeticError") = some false
  kx_BadText_RuntimeError : PySem.W.kitOne K (.ref C_BadText) (.type "RuntimeError") = some false
  kx_BadText_NotImplementedError : PySem.W.kitOne K (.ref C_BadText) (.type "NotImplementedError") = some false
  kx_BadForm_ValueError : PySem.W.kitOne K (.ref C_BadForm) (.type "ValueError") = some true
  kx_BadForm_KeyError : PySem.W.kitOne K (.ref C_BadForm) (.type "KeyError") = some false
  kx_BadForm_LookupError : PySem.W.kitOne K (.ref C_BadForm) (.type "LookupError") = some false
  kx_BadForm_IndexError : PySem.W.kitOne K (.ref C_BadForm) (.type "IndexError") = some false
  kx_BadForm_OverflowError : PySem.W.kitOne K (.ref C_BadForm) (.type "OverflowError") = some false
  kx_BadForm_ArithmeticError : PySem.W.kitOne K (.ref C_BadForm) (.type "ArithmeticError") = some false
  kx_BadForm_RuntimeError : PySem.W.kitOne K (.ref C_BadForm) (.type "RuntimeError") = some false
  kx_BadForm_NotImplementedError : PySem.W.kitOne K (.ref C_BadForm) (.type "NotImplementedError") = some false
  kx_BadPattern_ValueError : PySem.W.kitOne K (.ref C_BadPattern) (.type "ValueError") = some true
  kx_BadPattern_KeyError : PySem.W.kitOne K (.ref C_BadPattern) (.type "KeyError") = some false
  kx_BadPattern_LookupError : PySem.W.kitOne K (.ref C_BadPattern) (.type "LookupError") = some false
  kx_BadPattern_IndexError : PySem.W.kitOne K (.ref C_BadPattern) (.type "IndexError") = some false
  kx_BadPattern_OverflowError : PySem.W.kitOne K (.ref C_BadPattern) (.type "OverflowError") = some false
  kx_BadPattern_ArithmeticError : PySem.W.kitOne K (.ref C_BadPattern) (.type "ArithmeticError") = some false
  kx_BadPattern_RuntimeError : PySem.W.kitOne K (.ref C_BadPattern) (.type "RuntimeError") = some false
  kx_BadPattern_NotImplementedError : PySem.W.kitOne K (.ref C_BadPattern) (.type "NotImplementedError") = some false
  kx_BadFact_ValueError : PySem.W.kitOne K (.ref C_BadFact) (.type "ValueError") = some true
  kx_BadFact_KeyError : PySem.W.kitOne K (.ref C_BadFact) (.type "KeyError") = some false
  kx_BadFact_LookupError : PySem.W.kitOne K (.ref C_BadFact) (.type "LookupError") = some false
  kx_BadFact_IndexError : PySem.W.kitOne K (.ref C_BadFact) (.type "IndexError") = some false
  kx_BadFact_OverflowError : PySem.W.kitOne K (.ref C_BadFact) (.type "OverflowError") = some false
  kx_BadFact_ArithmeticError : PySem.W.kitOne K (.ref C_BadFact) (.type "ArithmeticError") = some false
  kx_BadFact_RuntimeError : PySem.W.kitOne K (.ref C_BadFact) (.type "RuntimeError") = some false
  kx_BadFact_NotImplementedError : PySem.W.kitOne K (.ref C_BadFact) (.type "NotImplementedError") = some false
  kx_BadLevel_ValueError : PySem.W.kitOne K (.ref C_BadLevel) (.type "ValueError") = some true
  kx_BadLevel_KeyError : PySem.W.kitOne K (.ref C_BadLevel) (.type "KeyError") = some false
  kx_BadLevel_LookupError : PySem.W.kitOne K (.ref C_BadLevel) (.type "LookupError") = some false
  kx_BadLevel_IndexError : PySem.W.kitOne K (.ref C_BadLevel) (.type "IndexError") = some false
  kx_BadLevel_OverflowError : PySem.W.kitOne K (.ref C_BadLevel) (.type "OverflowError") = some false
  kx_BadLevel_ArithmeticError : PySem.W.kitOne K (.ref C_BadLevel) (.type "ArithmeticError") = some false
  kx_BadLevel_RuntimeError : PySem.W.kitOne K (.ref C_BadLevel) (.type "RuntimeError") = some false
  kx_BadLevel_NotImplementedError : PySem.W.kitOne K (.ref C_BadLevel) (.type "NotImplementedError") = some false
  kx_BadInteger_ValueError : PySem.W.kitOne K (.ref C_BadInteger) (.type "ValueError") = some true
  kx_BadInteger_KeyError : PySem.W.kitOne K (.ref C_BadInteger) (.type "KeyError") = some false
  kx_BadInteger_LookupError : PySem.W.kitOne K (.ref C_BadInteger) (.type "LookupError") = some false
  kx_BadInteger_IndexError : PySem.W.kitOne K (.ref C_BadInteger) (.type "IndexError") = some false
  kx_BadInteger_OverflowError : PySem.W.kitOne K (.ref C_BadInteger) (.type "OverflowError") = some false
  kx_BadInteger_ArithmeticError : PySem.W.kitOne K (.ref C_BadInteger) (.type "ArithmeticError") = some false
  kx_BadInteger_RuntimeError : PySem.W.kitOne K (.ref C_BadInteger) (.type "RuntimeError") = some false
  kx_BadInteger_NotImplementedError : PySem.W.kitOne K (.ref C_BadInteger) (.type "NotImplementedError") = some false
  kx_BadGoal_ValueError : PySem.W.kitOne K (.ref C_BadGoal) (.type "ValueError") = some true
  kx_BadGoal_KeyError : PySem.W.kitOne K (.ref C_BadGoal) (.type "KeyError") = some false
  kx_BadGoal_LookupError : PySem.W.kitOne K (.ref C_BadGoal) (.type "LookupError") = some false
  kx_BadGoal_IndexError : PySem.W.kitOne K (.ref C_BadGoal) (.type "IndexError") = some false
  kx_BadGoal_OverflowError : PySem.W.kitOne K (.ref C_BadGoal) (.type "OverflowError") = some false
  kx_BadGoal_ArithmeticError : PySem.W.kitOne K (.ref C_BadGoal) (.type "ArithmeticError") = some false
  kx_BadGoal_RuntimeError : PySem.W.kitOne K (.ref C_BadGoal) (.type "RuntimeError") = some false
  kx_BadGoal_NotImplementedError : PySem.W.kitOne K (.ref C_BadGoal) (.type "NotImplementedError") = some false
  kx_BadCommand_ValueError : PySem.W.kitOne K (.ref C_BadCommand) (.type "ValueError") = some true
  kx_BadCommand_KeyError : PySem.W.kitOne K (.ref C_BadCommand) (.type "KeyError") = some false
  kx_BadCommand_LookupError : PySem.W.kitOne K (.ref C_BadCommand) (.type "LookupError") = some false
  kx_BadCommand_IndexError : PySem.W.kitOne K (.ref C_BadCommand) (.type "IndexError") = some false
  kx_BadCommand_OverflowError : PySem.W.kitOne K (.ref C_BadCommand) (.type "OverflowError") = some false
  kx_BadCommand_ArithmeticError : PySem.W.kitOne K (.ref C_BadCommand) (.type "ArithmeticError") = some false
  kx_BadCommand_RuntimeError : PySem.W.kitOne K (.ref C_BadCommand) (.type "RuntimeError") = some false
  kx_BadCommand_NotImplementedError : PySem.W.kitOne K (.ref C_BadCommand) (.type "NotImplementedError") = some false
  kx_UnknownName_ValueError : PySem.W.kitOne K (.ref C_UnknownName) (.type "ValueError") = some false
  kx_UnknownName_KeyError : PySem.W.kitOne K (.ref C_UnknownName) (.type "KeyError") = some true
  kx_UnknownName_LookupError : PySem.W.kitOne K (.ref C_UnknownName) (.type "LookupError") = some true
  kx_UnknownName_IndexError : PySem.W.kitOne K (.ref C_UnknownName) (.type "IndexError") = some false
  kx_UnknownName_OverflowError : PySem.W.kitOne K (.ref C_UnknownName) (.type "OverflowError") = some false
  kx_UnknownName_ArithmeticError : PySem.W.kitOne K (.ref C_UnknownName) (.type "ArithmeticError") = some false
  kx_UnknownName_RuntimeError : PySem.W.kitOne K (.ref C_UnknownName) (.type "RuntimeError") = some false
  kx_UnknownName_NotImplementedError : PySem.W.kitOne K (.ref C_UnknownName) (.type "NotImplementedError") = some false
  kx_NoKey_ValueError : PySem.W.kitOne K (.ref C_NoKey) (.type "ValueError") = some false
  kx_NoKey_KeyError : PySem.W.kitOne K (.ref C_NoKey) (.type "KeyError") = some true
  kx_NoKey_LookupError : PySem.W.kitOne K (.ref C_NoKey) (.type "LookupError") = some true
  kx_NoKey_IndexError : PySem.W.kitOne K (.ref C_NoKey) (.type "IndexError") = some false
  kx_NoKey_OverflowError : PySem.W.kitOne K (.ref C_NoKey) (.type "OverflowError") = some false
  kx_NoKey_ArithmeticError : PySem.W.kitOne K (.ref C_NoKey) (.type "ArithmeticError") = some false
  kx_NoKey_RuntimeError : PySem.W.kitOne K (.ref C_NoKey) (.type "RuntimeError") = some false
  kx_NoKey_NotImplementedError : PySem.W.kitOne K (.ref C_NoKey) (.type "NotImplementedError") = some false
  kx_NoBase_ValueError : PySem.W.kitOne K (.ref C_NoBase) (.type "ValueError") = some false
  kx_NoBase_KeyError : PySem.W.kitOne K (.ref C_NoBase) (.type "KeyError") = some false
  kx_NoBase_LookupError : PySem.W.kitOne K (.ref C_NoBase) (.type "LookupError") = some true
  kx_NoBase_IndexError : PySem.W.kitOne K (.ref C_NoBase) (.type "IndexError") = some false
  kx_NoBase_OverflowError : PySem.W.kitOne K (.ref C_NoBase) (.type "OverflowError") = some false
  kx_NoBase_ArithmeticError : PySem.W.kitOne K (.ref C_NoBase) (.type "ArithmeticError") = some false
  kx_NoBase_RuntimeError : PySem.W.kitOne K (.ref C_NoBase) (.type "RuntimeError") = some false
  kx_NoBase_NotImplementedError : PySem.W.kitOne K (.ref C_NoBase) (.type "NotImplementedError") = some false
  kx_NoPlace_ValueError : PySem.W.kitOne K (.ref C_NoPlace) (.type "ValueError") = some false
  kx_NoPlace_KeyError : PySem.W.kitOne K (.ref C_NoPlace) (.type "KeyError") = some false
  kx_NoPlace_LookupError : PySem.W.kitOne K (.ref C_NoPlace) (.type "LookupError") = some true
  kx_NoPlace_IndexError : PySem.W.kitOne K (.ref C_NoPlace) (.type "IndexError") = some true
  kx_NoPlace_OverflowError : PySem.W.kitOne K (.ref C_NoPlace) (.type "OverflowError") = some false
  kx_NoPlace_ArithmeticError : PySem.W.kitOne K (.ref C_NoPlace) (.type "ArithmeticError") = some false
  kx_NoPlace_RuntimeError : PySem.W.kitOne K (.ref C_NoPlace) (.type "RuntimeError") = some false
  kx_NoPlace_NotImplementedError : PySem.W.kitOne K (.ref C_NoPlace) (.type "NotImplementedError") = some false
  kx_TooMany_ValueError : PySem.W.kitOne K (.ref C_TooMany) (.type "ValueError") = some false
  kx_TooMany_KeyError : PySem.W.kitOne K (.ref C_TooMany) (.type "KeyError") = some false
  kx_TooMany_LookupError : PySem.W.kitOne K (.ref C_TooMany) (.type "LookupError") = some false
  kx_TooMany_IndexError : PySem.W.kitOne K (.ref C_TooMany) (.type "IndexError") = some false
  kx_TooMany_OverflowError : PySem.W.kitOne K (.ref C_TooMany) (.type "OverflowError") = some true
  kx_TooMany_ArithmeticError : PySem.W.kitOne K (.ref C_TooMany) (.type "ArithmeticError") = some true
  kx_TooMany_RuntimeError : PySem.W.kitOne K (.ref C_TooMany) (.type "RuntimeError") = some false
  kx_TooMany_NotImplementedError : PySem.W.kitOne K (.ref C_TooMany) (.type "NotImplementedError") = some false
  kx_Taken_ValueError : PySem.W.kitOne K (.ref C_Taken) (.type "ValueError") = some false
  kx_Taken_KeyError : PySem.W.kitOne K (.ref C_Taken) (.type "KeyError") = some false
  kx_Taken_LookupError : PySem.W.kitOne K (.ref C_Taken) (.type "LookupError") = some false
  kx_Taken_IndexError : PySem.W.kitOne K (.ref C_Taken) (.type "IndexError") = some false
  kx_Taken_OverflowError : PySem.W.kitOne K (.ref C_Taken) (.type "OverflowError") = some false
  kx_Taken_ArithmeticError : PySem.W.kitOne K (.ref C_Taken) (.type "ArithmeticError") = some false
  kx_Taken_RuntimeError : PySem.W.kitOne K (.ref C_Taken) (.type "RuntimeError") = some true
  kx_Taken_NotImplementedError : PySem.W.kitOne K (.ref C_Taken) (.type "NotImplementedError") = some false
  kx_InUse_ValueError : PySem.W.kitOne K (.ref C_InUse) (.type "ValueError") = some false
  kx_InUse_KeyError : PySem.W.kitOne K (.ref C_InUse) (.type "KeyError") = some false
  kx_InUse_LookupError : PySem.W.kitOne K (.ref C_InUse) (.type "LookupError") = some false
  kx_InUse_IndexError : PySem.W.kitOne K (.ref C_InUse) (.type "IndexError") = some false
  kx_InUse_OverflowError : PySem.W.kitOne K (.ref C_InUse) (.type "OverflowError") = some false
  kx_InUse_ArithmeticError : PySem.W.kitOne K (.ref C_InUse) (.type "ArithmeticError") = some false
  kx_InUse_RuntimeError : PySem.W.kitOne K (.ref C_InUse) (.type "RuntimeError") = some true
  kx_InUse_NotImplementedError : PySem.W.kitOne K (.ref C_InUse) (.type "NotImplementedError") = some false
  kx_Stale_ValueError : PySem.W.kitOne K (.ref C_Stale) (.type "ValueError") = some false
  kx_Stale_KeyError : PySem.W.kitOne K (.ref C_Stale) (.type "KeyError") = some false
  kx_Stale_LookupError : PySem.W.kitOne K (.ref C_Stale) (.type "LookupError") = some false
  kx_Stale_IndexError : PySem.W.kitOne K (.ref C_Stale) (.type "IndexError") = some false
  kx_Stale_OverflowError : PySem.W.kitOne K (.ref C_Stale) (.type "OverflowError") = some false
  kx_Stale_ArithmeticError : PySem.W.kitOne K (.ref C_Stale) (.type "ArithmeticError") = some false
  kx_Stale_RuntimeError : PySem.W.kitOne K (.ref C_Stale) (.type "RuntimeError") = some true
  kx_Stale_NotImplementedError : PySem.W.kitOne K (.ref C_Stale) (.type "NotImplementedError") = some false
  kx_Busy_ValueError : PySem.W.kitOne K (.ref C_Busy) (.type "ValueError") = some false
  kx_Busy_KeyError : PySem.W.kitOne K (.ref C_Busy) (.type "KeyError") = some false
  kx_Busy_LookupError : PySem.W.kitOne K (.ref C_Busy) (.type "LookupError") = some false
  kx_Busy_IndexError : PySem.W.kitOne K (.ref C_Busy) (.type "IndexError") = some false
  kx_Busy_OverflowError : PySem.W.kitOne K (.ref C_Busy) (.type "OverflowError") = some false
  kx_Busy_ArithmeticError : PySem.W.kitOne K (.ref C_Busy) (.type "ArithmeticError") = some false
  kx_Busy_RuntimeError : PySem.W.kitOne K (.ref C_Busy) (.type "RuntimeError") = some true
  kx_Busy_NotImplementedError : PySem.W.kitOne K (.ref C_Busy) (.type "NotImplementedError") = some false
  kx_NothingLeft_ValueError : PySem.W.kitOne K (.ref C_NothingLeft) (.type "ValueError") = some false
  kx_NothingLeft_KeyError : PySem.W.kitOne K (.ref C_NothingLeft) (.type "KeyError") = some false
  kx_NothingLeft_LookupError : PySem.W.kitOne K (.ref C_NothingLeft) (.type "LookupError") = some false
  kx_NothingLeft_IndexError : PySem.W.kitOne K (.ref C_NothingLeft) (.type "IndexError") = some false
  kx_NothingLeft_OverflowError : PySem.W.kitOne K (.ref C_NothingLeft) (.type "OverflowError") = some false
  kx_NothingLeft_ArithmeticError : PySem.W.kitOne K (.ref C_NothingLeft) (.type "ArithmeticError") = some false
  kx_NothingLeft_RuntimeError : PySem.W.kitOne K (.ref C_NothingLeft) (.type "RuntimeError") = some true
  kx_NothingLeft_NotImplementedError : PySem.W.kitOne K (.ref C_NothingLeft) (.type "NotImplementedError") = some false
  z_ArithmeticError : mg "ArithmeticError" = none
  z_IndexError : mg "IndexError" = none
  z_KeyError : mg "KeyError" = none
  z_LookupError : mg "LookupError" = none
  z_NotImplementedError : mg "NotImplementedError" = none
  z_OverflowError : mg "OverflowError" = none
  z_RuntimeError : mg "RuntimeError" = none
  z_ValueError : mg "ValueError" = none
  z_abs : mg "abs" = none
  z_enumerate : mg "enumerate" = none
  z_int : mg "int" = none
  z_isinstance : mg "isinstance" = none
  z_len : mg "len" = none
  z_max : mg "max" = none
  z_min : mg "min" = none
  z_range : mg "range" = none
  z_repr : mg "repr" = none
section
variable {P : Program} {w : World} {K : PySem.W.Frag} {mg : Str → Option Value} {base : Heap}
theorem ok_BadName_init (T : Txt K mg) : FnOk P w K mg base CX0 2 T.f_BadName_init T.d_BadName_init ["self", "name"] (spX1 T.C_BadName "name") := by
  refine T.F_BadName_init.ok sc_BadName_init (fun vs H Q E h => ?_) (fun cdv A outer s H vs Q E hr h => ?_)
  · obtain ⟨a, v, rfl, _⟩ := h
    rfl
  · obtain ⟨a, v, rfl, ha, kk⟩ := h
    refine ⟨_, (pss_cons (ps_expr (pe_initX baseValue rfl T.z_ValueError PyProof.Rows.Boot.«ValueError» T.x_BadName.vI (by decide +kernel) (pa_cons (pv 0) (pa_cons pe_str pa_nil))))
        (pss_one (ps_setX baseValue (pv 0) (pv 1)))), ?_⟩
    exact ⟨_, rfl, _, _, _, rfl, (by show 1 ≤ 1000; decide), T.x_BadName.own, ha, _, rfl, _, rfl, a, _, rfl, T.x_BadName.own, T.x_BadName.tk, .inl ⟨ha, fun dx nd ne => kk dx nd ne⟩⟩

theorem ok_BadRule_init (T : Txt K mg) : FnOk P w K mg base CX0 2 T.f_BadRule_init T.d_BadRule_init ["self", "place"] (spX1 T.C_BadRule "place") := by
  refine T.F_BadRule_init.ok sc_BadRule_init (fun vs H Q E h => ?_) (fun cdv A outer s H vs Q E hr h => ?_)
  · obtain ⟨a, v, rfl, _⟩ := h
    rfl
  · obtain ⟨a, v, rfl, ha, kk⟩ := h
    refine ⟨_, (pss_cons (ps_expr (pe_initX baseValue rfl T.z_ValueError PyProof.Rows.Boot.«ValueError» T.x_BadRule.vI (by decide +kernel) (pa_cons (pv 0) (pa_cons pe_str pa_nil))))
        (pss_one (ps_setX baseValue (pv 0) (pv 1)))), ?_⟩
    exact ⟨_, rfl, _, _, _, rfl, (by show 1 ≤ 1000; decide), T.x_BadRule.own, ha, _, rfl, _, rfl, a, _, rfl, T.x_BadRule.own, T.x_BadRule.tk, .inl ⟨ha, fun dx nd ne => kk dx nd ne⟩⟩

theorem ok_BadText_init (T : Txt K mg) : FnOk P w K mg base CX0 2 T.f_BadText_init T.d_BadText_init ["self", "place"] (spX1 T.C_BadText "place") := by
  refine T.F_BadText_init.ok sc_BadText_init (fun vs H Q E h => ?_) (fun cdv A outer s H vs Q E hr h => ?_)
  · obtain ⟨a, v, rfl, _⟩ := h
    rfl
  · obtain ⟨a, v, rfl, ha, kk⟩ := h
    refine ⟨_, (pss_cons (ps_expr (pe_initX baseValue rfl T.z_ValueError PyProof.Rows.Boot.«ValueError» T.x_BadText.vI (by decide +kernel) (pa_cons (pv 0) (pa_cons pe_str pa_nil))))
        (pss_one (ps_setX baseValue (pv 0) (pv 1)))), ?_⟩
    exact ⟨_, rfl, _, _, _, rfl, (by show 1 ≤ 1000; decide), T.x_BadText.own, ha, _, rfl, _, rfl, a, _, rfl, T.x_BadText.own, T.x_BadText.tk, .inl ⟨ha, fun dx nd ne => kk dx nd ne⟩⟩

theorem ok_BadForm_init (T : Txt K mg) : FnOk P w K mg base CX0 2 T.f_BadForm_init T.d_BadForm_init ["self", "place"] (spX1 T.C_BadForm "place") := by
  refine T.F_BadForm_init.ok sc_BadForm_init (fun vs H Q E h => ?_) (fun cdv A outer s H vs Q E hr h => ?_)
  · obtain ⟨a, v, rfl, _⟩ := h
    rfl
  · obtain ⟨a, v, rfl, ha, kk⟩ := h
    refine ⟨_, (pss_cons (ps_expr (pe_initX baseValue rfl T.z_ValueError PyProof.Rows.Boot.«ValueError» T.x_BadForm.vI (by decide +kernel) (pa_cons (pv 0) (pa_cons pe_str pa_nil))))
        (pss_one (ps_setX baseValue (pv 0) (pv 1)))), ?_⟩
    exact ⟨_, rfl, _, _, _, rfl, (by show 1 ≤ 1000; decide), T.x_BadForm.own, ha, _, rfl, _, rfl, a, _, rfl, T.x_BadForm.own, T.x_BadForm.tk, .inl ⟨ha, fun dx nd ne => kk dx nd ne⟩⟩

theorem ok_BadPattern_init (T : Txt K mg) : FnOk P w K mg base CX0 2 T.f_BadPattern_init T.d_BadPattern_init ["self", "pattern"] (spX1 T.C_BadPattern "pattern") := by
  refine T.F_BadPattern_init.ok sc_BadPattern_init (fun vs H Q E h => ?_) (fun cdv A outer s H vs Q E hr h => ?_)
  · obtain ⟨a, v, rfl, _⟩ := h
    rfl
  · obtain ⟨a, v, rfl, ha, kk⟩ := h
    refine ⟨_, (pss_cons (ps_expr (pe_initX baseValue rfl T.z_ValueError PyProof.Rows.Boot.«ValueError» T.x_BadPattern.vI (by decide +kernel) (pa_cons (pv 0) (pa_cons pe_str pa_nil))))
        (pss_one (ps_setX baseValue (pv 0) (pv 1)))), ?_⟩
    exact ⟨_, rfl, _, _, _, rfl, (by show 1 ≤ 1000; decide), T.x_BadPattern.own, ha, _, rfl, _, rfl, a, _, rfl, T.x_BadPattern.own, T.x_BadPattern.tk, .inl ⟨ha, fun dx nd ne => kk dx nd ne⟩⟩

theorem ok_BadFact_init (T : Txt K mg) : FnOk P w K mg base CX0 2 T.f_BadFact_init T.d_BadFact_init ["self", "place"] (spX1 T.C_BadFact "place") := by
  refine T.F_BadFact_init.ok sc_BadFact_init (fun vs H Q E h => ?_) (fun cdv A outer s H vs Q E hr h => ?_)
  · obtain ⟨a, v, rfl, _⟩ := h
    rfl
  · obtain ⟨a, v, rfl, ha, kk⟩ := h
    refine ⟨_, (pss_cons (ps_expr (pe_initX baseValue rfl T.z_ValueError PyProof.Rows.Boot.«ValueError» T.x_BadFact.vI (by decide +kernel) (pa_cons (pv 0) (pa_cons pe_str pa_nil))))
        (pss_one (ps_setX baseValue (pv 0) (pv 1)))), ?_⟩
    exact ⟨_, rfl, _, _, _, rfl, (by show 1 ≤ 1000; decide), T.x_BadFact.own, ha, _, rfl, _, rfl, a, _, rfl, T.x_BadFact.own, T.x_BadFact.tk, .inl ⟨ha, fun dx nd ne => kk dx nd ne⟩⟩

theorem ok_BadLevel_init (T : Txt K mg) : FnOk P w K mg base CX0 2 T.f_BadLevel_init T.d_BadLevel_init ["self", "level"] (spX1 T.C_BadLevel "level") := by
  refine T.F_BadLevel_init.ok sc_BadLevel_init (fun vs H Q E h => ?_) (fun cdv A outer s H vs Q E hr h => ?_)
  · obtain ⟨a, v, rfl, _⟩ := h
    rfl
  · obtain ⟨a, v, rfl, ha, kk⟩ := h
    refine ⟨_, (pss_cons (ps_expr (pe_initX baseValue rfl T.z_ValueError PyProof.Rows.Boot.«ValueError» T.x_BadLevel.vI (by decide +kernel) (pa_cons (pv 0) (pa_cons pe_str pa_nil))))
        (pss_one (ps_setX baseValue (pv 0) (pv 1)))), ?_⟩
    exact ⟨_, rfl, _, _, _, rfl, (by show 1 ≤ 1000; decide), T.x_BadLevel.own, ha, _, rfl, _, rfl, a, _, rfl, T.x_BadLevel.own, T.x_BadLevel.tk, .inl ⟨ha, fun dx nd ne => kk dx nd ne⟩⟩

theorem ok_BadInteger_init (T : Txt K mg) : FnOk P w K mg base CX0 2 T.f_BadInteger_init T.d_BadInteger_init ["self", "value"] (spX1 T.C_BadInteger "value") := by
  refine T.F_BadInteger_init.ok sc_BadInteger_init (fun vs H Q E h => ?_) (fun cdv A outer s H vs Q E hr h => ?_)
  · obtain ⟨a, v, rfl, _⟩ := h
    rfl
  · obtain ⟨a, v, rfl, ha, kk⟩ := h
    refine ⟨_, (pss_cons (ps_expr (pe_initX baseValue rfl T.z_ValueError PyProof.Rows.Boot.«ValueError» T.x_BadInteger.vI (by decide +kernel) (pa_cons (pv 0) (pa_cons pe_str pa_nil))))
        (pss_one (ps_setX baseValue (pv 0) (pv 1)))), ?_⟩
    exact ⟨_, rfl, _, _, _, rfl, (by show 1 ≤ 1000; decide), T.x_BadInteger.own, ha, _, rfl, _, rfl, a, _, rfl, T.x_BadInteger.own, T.x_BadInteger.tk, .inl ⟨ha, fun dx nd ne => kk dx nd ne⟩⟩

theorem ok_BadGoal_init (T : Txt K mg) : FnOk P w K mg base CX0 2 T.f_BadGoal_init T.d_BadGoal_init ["self", "goal"] (spX1 T.C_BadGoal "goal") := by
  refine T.F_BadGoal_init.ok sc_BadGoal_init (fun vs H Q E h => ?_) (fun cdv A outer s H vs Q E hr h => ?_)
  · obtain ⟨a, v, rfl, _⟩ := h
    rfl
  · obtain ⟨a, v, rfl, ha, kk⟩ := h
    refine ⟨_, (pss_cons (ps_expr (pe_initX baseValue rfl T.z_ValueError PyProof.Rows.Boot.«ValueError» T.x_BadGoal.vI (by decide +kernel) (pa_cons (pv 0) (pa_cons pe_str pa_nil))))
        (pss_one (ps_setX baseValue (pv 0) (pv 1)))), ?_⟩
    exact ⟨_, rfl, _, _, _, rfl, (by show 1 ≤ 1000; decide), T.x_BadGoal.own, ha, _, rfl, _, rfl, a, _, rfl, T.x_BadGoal.own, T.x_BadGoal.tk, .inl ⟨ha, fun dx nd ne => kk dx nd ne⟩⟩

theorem ok_BadCommand_init (T : Txt K mg) : FnOk P w K mg base CX0 2 T.f_BadCommand_init T.d_BadCommand_init ["self"] (spX0 T.C_BadCommand) := by
  refine T.F_BadCommand_init.ok sc_BadCommand_init (fun vs H Q E h => ?_) (fun cdv A outer s H vs Q E hr h => ?_)
  · obtain ⟨a, rfl, _⟩ := h
    rfl
  · obtain ⟨a, rfl, ha, kk⟩ := h
    refine ⟨_, (pss_one (ps_expr (pe_initX baseValue rfl T.z_ValueError PyProof.Rows.Boot.«ValueError» T.x_BadCommand.vI (by decide +kernel) (pa_cons (pv 0) (pa_cons pe_str pa_nil))))), ?_⟩
    exact ⟨_, rfl, _, _, _, rfl, (by show 1 ≤ 1000; decide), T.x_BadCommand.own, ha, kk⟩

theorem ok_UnknownName_init (T : Txt K mg) : FnOk P w K mg base CX0 2 T.f_UnknownName_init T.d_UnknownName_init ["self", "name"] (spX1 T.C_UnknownName "name") := by
  refine T.F_UnknownName_init.ok sc_UnknownName_init (fun vs H Q E h => ?_) (fun cdv A outer s H vs Q E hr h => ?_)
  · obtain ⟨a, v, rfl, _⟩ := h
    rfl
  · obtain ⟨a, v, rfl, ha, kk⟩ := h
    refine ⟨_, (pss_cons (ps_expr (pe_initX baseKey rfl T.z_KeyError PyProof.Rows.Boot.«KeyError» T.x_UnknownName.vI (by decide +kernel) (pa_cons (pv 0) (pa_cons pe_str pa_nil))))
        (pss_one (ps_setX baseKey (pv 0) (pv 1)))), ?_⟩
    exact ⟨_, rfl, _, _, _, rfl, (by show 1 ≤ 1000; decide), T.x_UnknownName.own, ha, _, rfl, _, rfl, a, _, rfl, T.x_UnknownName.own, T.x_UnknownName.tk, .inl ⟨ha, fun dx nd ne => kk dx nd ne⟩⟩

theorem ok_NoKey_init (T : Txt K mg) : FnOk P w K mg base CX0 2 T.f_NoKey_init T.d_NoKey_init ["self", "name", "key"] (spX2 T.C_NoKey "name" "key") := by
  refine T.F_NoKey_init.ok sc_NoKey_init (fun vs H Q E h => ?_) (fun cdv A outer s H vs Q E hr h => ?_)
  · obtain ⟨a, v, u, rfl, _⟩ := h
    rfl
  · obtain ⟨a, v, u, rfl, ha, kk⟩ := h
    refine ⟨_, (pss_cons (ps_expr (pe_initX baseKey rfl T.z_KeyError PyProof.Rows.Boot.«KeyError» T.x_NoKey.vI (by decide +kernel) (pa_cons (pv 0) (pa_cons pe_str pa_nil))))
        (pss_cons (ps_setX baseKey (pv 0) (pv 1))
        (pss_one (ps_setX baseKey (pv 0) (pv 2))))), ?_⟩
    refine ⟨_, rfl, _, _, _, rfl, (by show 1 ≤ 1000; decide), T.x_NoKey.own, ha, _, rfl, _, rfl, a, _, rfl, T.x_NoKey.own, T.x_NoKey.tk, .inl ⟨ha, fun dx nd ne => ?_⟩⟩
    refine ⟨_, rfl, _, rfl, a, _, rfl, T.x_NoKey.own, T.tk2_NoKey, .inr ⟨dx, _, upd_same, (upd_ne ne).trans upd_same, (by show 1 ≤ 900; decide), ?_⟩⟩
    exact kk dx nd ne

theorem ok_NoBase_init (T : Txt K mg) : FnOk P w K mg base CX0 2 T.f_NoBase_init T.d_NoBase_init ["self", "name"] (spX1 T.C_NoBase "name") := by
  refine T.F_NoBase_init.ok sc_NoBase_init (fun vs H Q E h => ?_) (fun cdv A outer s H vs Q E hr h => ?_)
  · obtain ⟨a, v, rfl, _⟩ := h
    rfl
  · obtain ⟨a, v, rfl, ha, kk⟩ := h
    refine ⟨_, (pss_cons (ps_expr (pe_initX baseLookup rfl T.z_LookupError PyProof.Rows.Boot.«LookupError» T.x_NoBase.vI (by decide +kernel) (pa_cons (pv 0) (pa_cons pe_str pa_nil))))
        (pss_one (ps_setX baseLookup (pv 0) (pv 1)))), ?_⟩
    exact ⟨_, rfl, _, _, _, rfl, (by show 1 ≤ 1000; decide), T.x_NoBase.own, ha, _, rfl, _, rfl, a, _, rfl, T.x_NoBase.own, T.x_NoBase.tk, .inl ⟨ha, fun dx nd ne => kk dx nd ne⟩⟩

theorem ok_NoPlace_init (T : Txt K mg) : FnOk P w K mg base CX0 2 T.f_NoPlace_init T.d_NoPlace_init ["self", "place"] (spX1 T.C_NoPlace "place") := by
  refine T.F_NoPlace_init.ok sc_NoPlace_init (fun vs H Q E h => ?_) (fun cdv A outer s H vs Q E hr h => ?_)
  · obtain ⟨a, v, rfl, _⟩ := h
    rfl
  · obtain ⟨a, v, rfl, ha, kk⟩ := h
    refine ⟨_, (pss_cons (ps_expr (pe_initX baseIndex rfl T.z_IndexError PyProof.Rows.Boot.«IndexError» T.x_NoPlace.vI (by decide +kernel) (pa_cons (pv 0) (pa_cons pe_str pa_nil))))
        (pss_one (ps_setX baseIndex (pv 0) (pv 1)))), ?_⟩
    exact ⟨_, rfl, _, _, _, rfl, (by show 1 ≤ 1000; decide), T.x_NoPlace.own, ha, _, rfl, _, rfl, a, _, rfl, T.x_NoPlace.own, T.x_NoPlace.tk, .inl ⟨ha, fun dx nd ne => kk dx nd ne⟩⟩

theorem ok_TooMany_init (T : Txt K mg) : FnOk P w K mg base CX0 2 T.f_TooMany_init T.d_TooMany_init ["self", "limit"] (spX1 T.C_TooMany "limit") := by
  refine T.F_TooMany_init.ok sc_TooMany_init (fun vs H Q E h => ?_) (fun cdv A outer s H vs Q E hr h => ?_)
  · obtain ⟨a, v, rfl, _⟩ := h
    rfl
  · obtain ⟨a, v, rfl, ha, kk⟩ := h
    refine ⟨_, (pss_cons (ps_expr (pe_initX baseOverflow rfl T.z_OverflowError PyProof.Rows.Boot.«OverflowError» T.x_TooMany.vI (by decide +kernel) (pa_cons (pv 0) (pa_cons pe_str pa_nil))))
        (pss_one (ps_setX baseOverflow (pv 0) (pv 1)))), ?_⟩
    exact ⟨_, rfl, _, _, _, rfl, (by show 1 ≤ 1000; decide), T.x_TooMany.own, ha, _, rfl, _, rfl, a, _, rfl, T.x_TooMany.own, T.x_TooMany.tk, .inl ⟨ha, fun dx nd ne => kk dx nd ne⟩⟩

theorem ok_Taken_init (T : Txt K mg) : FnOk P w K mg base CX0 2 T.f_Taken_init T.d_Taken_init ["self", "name"] (spX1 T.C_Taken "name") := by
  refine T.F_Taken_init.ok sc_Taken_init (fun vs H Q E h => ?_) (fun cdv A outer s H vs Q E hr h => ?_)
  · obtain ⟨a, v, rfl, _⟩ := h
    rfl
  · obtain ⟨a, v, rfl, ha, kk⟩ := h
    refine ⟨_, (pss_cons (ps_expr (pe_initX baseRuntime rfl T.z_RuntimeError PyProof.Rows.Boot.«RuntimeError» T.x_Taken.vI (by decide +kernel) (pa_cons (pv 0) (pa_cons pe_str pa_nil))))
        (pss_one (ps_setX baseRuntime (pv 0) (pv 1)))), ?_⟩
    exact ⟨_, rfl, _, _, _, rfl, (by show 1 ≤ 1000; decide), T.x_Taken.own, ha, _, rfl, _, rfl, a, _, rfl, T.x_Taken.own, T.x_Taken.tk, .inl ⟨ha, fun dx nd ne => kk dx nd ne⟩⟩

theorem ok_InUse_init (T : Txt K mg) : FnOk P w K mg base CX0 2 T.f_InUse_init T.d_InUse_init ["self", "name"] (spX1 T.C_InUse "name") := by
  refine T.F_InUse_init.ok sc_InUse_init (fun vs H Q E h => ?_) (fun cdv A outer s H vs Q E hr h => ?_)
  · obtain ⟨a, v, rfl, _⟩ := h
    rfl
  · obtain ⟨a, v, rfl, ha, kk⟩ := h
    refine ⟨_, (pss_cons (ps_expr (pe_initX baseRuntime rfl T.z_RuntimeError PyProof.Rows.Boot.«RuntimeError» T.x_InUse.vI (by decide +kernel) (pa_cons (pv 0) (pa_cons pe_str pa_nil))))
        (pss_one (ps_setX baseRuntime (pv 0) (pv 1)))), ?_⟩
    exact ⟨_, rfl, _, _, _, rfl, (by show 1 ≤ 1000; decide), T.x_InUse.own, ha, _, rfl, _, rfl, a, _, rfl, T.x_InUse.own, T.x_InUse.tk, .inl ⟨ha, fun dx nd ne => kk dx nd ne⟩⟩

theorem ok_Stale_init (T : Txt K mg) : FnOk P w K mg base CX0 2 T.f_Stale_init T.d_Stale_init ["self", "key"] (spX1 T.C_Stale "key") := by
  refine T.F_Stale_init.ok sc_Stale_init (fun vs H Q E h => ?_) (fun cdv A outer s H vs Q E hr h => ?_)
  · obtain ⟨a, v, rfl, _⟩ := h
    rfl
  · obtain ⟨a, v, rfl, ha, kk⟩ := h
    refine ⟨_, (pss_cons (ps_expr (pe_initX baseRuntime rfl T.z_RuntimeError PyProof.Rows.Boot.«RuntimeError» T.x_Stale.vI (by decide +kernel) (pa_cons (pv 0) (pa_cons pe_str pa_nil))))
        (pss_one (ps_setX baseRuntime (pv 0) (pv 1)))), ?_⟩
    exact ⟨_, rfl, _, _, _, rfl, (by show 1 ≤ 1000; decide), T.x_Stale.own, ha, _, rfl, _, rfl, a, _, rfl, T.x_Stale.own, T.x_Stale.tk, .inl ⟨ha, fun dx nd ne => kk dx nd ne⟩⟩

theorem ok_Busy_init (T : Txt K mg) : FnOk P w K mg base CX0 2 T.f_Busy_init T.d_Busy_init ["self"] (spX0 T.C_Busy) := by
  refine T.F_Busy_init.ok sc_Busy_init (fun vs H Q E h => ?_) (fun cdv A outer s H vs Q E hr h => ?_)
  · obtain ⟨a, rfl, _⟩ := h
    rfl
  · obtain ⟨a, rfl, ha, kk⟩ := h
    refine ⟨_, (pss_one (ps_expr (pe_initX baseRuntime rfl T.z_RuntimeError PyProof.Rows.Boot.«RuntimeError» T.x_Busy.vI (by decide +kernel) (pa_cons (pv 0) (pa_cons pe_str pa_nil))))), ?_⟩
    exact ⟨_, rfl, _, _, _, rfl, (by show 1 ≤ 1000; decide), T.x_Busy.own, ha, kk⟩

theorem ok_NothingLeft_init (T : Txt K mg) : FnOk P w K mg base CX0 2 T.f_NothingLeft_init T.d_NothingLeft_init ["self"] (spX0 T.C_NothingLeft) := by
  refine T.F_NothingLeft_init.ok sc_NothingLeft_init (fun vs H Q E h => ?_) (fun cdv A outer s H vs Q E hr h => ?_)
  · obtain ⟨a, rfl, _⟩ := h
    rfl
  · obtain ⟨a, rfl, ha, kk⟩ := h
    refine ⟨_, (pss_one (ps_expr (pe_initX baseRuntime rfl T.z_RuntimeError PyProof.Rows.Boot.«RuntimeError» T.x_NothingLeft.vI (by decide +kernel) (pa_cons (pv 0) (pa_cons pe_str pa_nil))))), ?_⟩
    exact ⟨_, rfl, _, _, _, rfl, (by show 1 ≤ 1000; decide), T.x_NothingLeft.own, ha, kk⟩

/-! ### the draws -/
/-- at p the bag of draws, at most b mixed numbers taken -/
structure Bag (H : Hp) (p : Addr) (b : Nat) : Prop where
  ex : ∃ g m n : Int, H p = some (.lst [.int g, .int m, .int n]) ∧ 0 ≤ m ∧ m < 2147483587 ∧ 0 ≤ n ∧ n ≤ (b : Int)
theorem Bag.mono {H : Hp} {p : Addr} {b c : Nat} (B : Bag H p b) (h : b ≤ c) : Bag H p c := by
  obtain ⟨g, m, n, h1, h2, h3, h4, h5⟩ := B.ex
  exact ⟨g, m, n, h1, h2, h3, h4, by omega⟩
theorem Bag.grow {H H' : Hp} {p : Addr} {b : Nat} (B : Bag H p b) (s : Same H H') : Bag H' p b := by
  obtain ⟨g, m, n, h, r⟩ := B.ex
  exact ⟨g, m, n, s p _ h, r⟩
theorem Bag.some {H : Hp} {p : Addr} {b : Nat} (B : Bag H p b) : H p ≠ none := by
  obtain ⟨g, m, n, h, r⟩ := B.ex
  rw [h]
  exact fun z => nomatch z
theorem Bag.ne {H : Hp} {p q : Addr} {b : Nat} (B : Bag H p b) (h : H q = none) : q ≠ p := fun z => B.some (z ▸ h)
def sp_law_bag (K : PySem.W.Frag) : Sp := fun vs H Q _ => ∃ (a : Addr) (ns : List Int) (i : Int), vs = [.ref a, .int i] ∧ SqL K H a (ns.map V.int) ∧ 0 ≤ i ∧ i ≤ 100 ∧
  ∀ (p : Addr) (H' : Hp), H p = none → Same H H' → Bag H' p 0 → Q (.ref p) H'
theorem ok_law_bag (T : Txt K mg) : FnOk P w K mg base CX0 1 T.f_law_bag T.d_law_bag ["_law_script", "_law_at"] (sp_law_bag K) := by
  refine T.F_law_bag.ok sc_law_bag (fun vs H Q E h => ?_) (fun cdv A outer s H vs Q E hr h => ?_)
  · obtain ⟨a, ns, i, rfl, _⟩ := h
    rfl
  · obtain ⟨a, ns, i, rfl, hS, i0, i1, kk⟩ := h
    refine ⟨_, (pss_cons (ps_set (i := 2) sc_law_bag.nd rfl (.inl rfl) (pe_cut (pe_ifExp (pt_cmpR op_lt (pv 1) (pe_callB call_len_seq (by rfl) T.z_len (by decide +kernel) (pa_cons (pv 0) pa_nil)) (nomark _)) (pe_ix (ix_list : IxR _ (rIxL K)) (pv 0) (pv 1) (fun _ _ => rfl)) pe_int)))
        (pss_cons (ps_set (i := 3) sc_law_bag.nd rfl (.inl rfl) (pe_cut (pe_ifExp (pt_cmpR op_ge (pe_callB call_abs (by rfl) T.z_abs (by decide +kernel) (pa_cons (pv 2) pa_nil)) (pe_op op_pow pe_int pe_int) (nomark _)) (pe_callB call_abs (by rfl) T.z_abs (by decide +kernel) (pa_cons (pv 2) pa_nil)) pe_int)))
        (pss_one (ps_ret (pe_lst (pa_cons (pv 3) (pa_cons (pe_op op_mod (pe_op op_add (pe_op op_add (pe_op op_mul (pe_op op_mod (pv 2) pe_int) pe_int) (pe_op op_mul pe_int (pv 1))) pe_int) pe_int) (pa_cons pe_int pa_nil)))))))), ?_⟩
    refine ⟨fun v H' => (∃ c : Int, v = .int c) ∧ H' = H, ⟨_, rfl, _, rfl, a, _, rfl, .inl hS, _, _, rfl, rfl, _, rfl, ite2 (fun hc => ?_) (fun _ => ⟨⟨0, rfl⟩, rfl⟩)⟩, ?_⟩
    · have hc' : i < ((ns.map V.int).length : Int) := of_decide_eq_true hc
      rw [List.length_map] at hc'
      have hl : i.toNat < ns.length := by omega
      exact ⟨_, rfl, _, rfl, a, _, i, .int ns[i.toNat], rfl, rfl, hS, at_of (j := i.toNat) (by omega) (by rw [List.getElem?_map, List.getElem?_eq_getElem hl] <;> rfl), ⟨_, rfl⟩, rfl⟩
    rintro v H' ⟨⟨c, rfl⟩, rfl⟩
    refine ⟨fun v H1 => (∃ g : Int, v = .int g) ∧ H1 = H', ⟨_, rfl, c, rfl, _, _, rfl, rfl, ⟨by decide, by decide, by decide⟩, _, _, rfl, rfl, _, rfl, ite2 (fun _ => ⟨_, rfl, c, rfl, ⟨_, rfl⟩, rfl⟩) (fun _ => ⟨⟨0, rfl⟩, rfl⟩)⟩, ?_⟩
    rintro v H1 ⟨⟨g, rfl⟩, rfl⟩
    refine ⟨_, rfl, _, rfl, _, _, rfl, rfl, (by decide : (0 : Int) < 2147483629), _, _, rfl, rfl, .inr ⟨by decide, by decide⟩, _, rfl, _, _, rfl, rfl, .inl ⟨by decide, by decide⟩, _, _, rfl, rfl, _, _, rfl, rfl, _, _, rfl, rfl, (by decide : (0 : Int) < 2147483587), by show 3 ≤ sizeLine; decide, fun p hp => ?_⟩
    refine kk p _ hp (fun b o e => by rw [upd_ne (ne_of_none e hp)]; exact e) ⟨g, _, 0, upd_same, Int.emod_nonneg _ (by decide), Int.emod_lt_of_pos _ (by decide), by decide, by decide⟩

def sp_law_take : Sp := fun vs H Q _ => ∃ (p : Addr) (k : Int) (b : Nat), vs = [.ref p, .int k] ∧ 0 < k ∧ k < 2 ^ 30 ∧ Bag H p b ∧ b ≤ 1000000000 ∧
  ∀ (r : Int) (H' : Hp), 0 ≤ r → r < k → Bag H' p (b + 1) → Gr p H H' → Q (.int r) H'
theorem ok_law_take (T : Txt K mg) : FnOk P w K mg base CX0 1 T.f_law_take T.d_law_take ["_law_bag_here", "_law_many"] sp_law_take := by
  refine T.F_law_take.ok sc_law_take (fun vs H Q E h => ?_) (fun cdv A outer s H vs Q E hr h => ?_)
  · obtain ⟨p, k, b, rfl, _⟩ := h
    rfl
  · obtain ⟨p, k, b, rfl, k0, k1, ⟨g, m, n, hp, m0, m1, n0, n1⟩, hb, kk⟩ := h
    have hkd : CDivW 0 k := ⟨k0, by
      have h2 : k.natAbs < 2 ^ 30 := by omega
      have := PySem.Flt.log2_lt_of (by decide) h2
      omega⟩
    refine ⟨_, (pss_cons (ps_if (pt_cmpR op_gt (pe_ix (ix_list : IxR _ (rIxL K)) (pv 0) pe_int (fun _ _ => rfl)) pe_int (nomark _))
          (pss_cons (ps_set (i := 2) sc_law_take.nd rfl (.inl rfl) (pe_op op_mod (pe_ix (ix_list : IxR _ (rIxL K)) (pv 0) pe_int (fun _ _ => rfl)) (pv 1)))
          (pss_cons (ps_asg (pe_op op_fdivW (pe_ix (ix_list : IxR _ (rIxL K)) (pv 0) pe_int (fun _ _ => rfl)) (pv 1)) (pg_sub (pv 0) pe_int set_list))
          (pss_one (ps_ret (pv 2)))))
          pss_nil)
        (pss_cons (ps_asg (pe_op op_add (pe_ix (ix_list : IxR _ (rIxL K)) (pv 0) pe_int (fun _ _ => rfl)) pe_int) (pg_sub (pv 0) pe_int set_list))
        (pss_cons (ps_set (i := 3) sc_law_take.nd rfl (.inl rfl) (pe_op op_mod (pe_op op_pow (pe_op op_add (pe_ix (ix_list : IxR _ (rIxL K)) (pv 0) pe_int (fun _ _ => rfl)) (pe_op op_mul pe_int (pe_ix (ix_list : IxR _ (rIxL K)) (pv 0) pe_int (fun _ _ => rfl)))) pe_int) pe_int))
        (pss_one (ps_ret (pe_op op_mod (pe_op op_fdivW (pe_op op_mod (pe_op op_add (pe_op op_mul (pv 3) pe_int) (pe_op op_mul pe_int (pe_ix (ix_list : IxR _ (rIxL K)) (pv 0) pe_int (fun _ _ => rfl)))) pe_int) pe_int) (pv 1))))))), ?_⟩
    refine ⟨_, rfl, p, _, 0, _, rfl, rfl, SqL.of hp, rfl, _, _, rfl, rfl, _, rfl, ite2 (fun hc => ?_) (fun hc => ?_)⟩
    · refine ⟨_, rfl, p, _, 0, _, rfl, rfl, SqL.of hp, rfl, _, rfl, _, _, rfl, rfl, k0, ?_⟩
      refine ⟨_, rfl, p, _, 0, _, rfl, rfl, SqL.of hp, rfl, _, rfl, _, _, rfl, rfl, hkd, _, rfl, ?_⟩
      refine ⟨p, _, 0, 0, rfl, rfl, hp, rfl, ?_⟩
      refine ⟨_, rfl, ?_⟩
      exact kk _ _ (Int.emod_nonneg _ (by omega)) (Int.emod_lt_of_pos _ k0) ⟨_, m, n, upd_same, m0, m1, n0, by omega⟩ fun q o hq e => by rw [upd_ne hq]; exact e
    · refine ⟨_, rfl, p, _, 2, _, rfl, rfl, SqL.of hp, rfl, _, _, rfl, rfl, _, rfl, ?_⟩
      refine ⟨p, _, 2, 2, rfl, rfl, hp, rfl, ?_⟩
      have small : CPow (m + 79190251 * (n + 1)) 3 := ⟨by decide, by decide, by omega⟩
      refine ⟨_, rfl, p, _, 1, _, rfl, rfl, SqL.of upd_same, rfl, _, rfl, p, _, 2, _, rfl, rfl, SqL.of upd_same, rfl, _, _, rfl, rfl, .inl ⟨by decide, by decide⟩, _, _, rfl, rfl, _, _, rfl, rfl, small, _, _, rfl, rfl, (by decide : (0 : Int) < 2305843009213693951), ?_⟩
      refine ⟨_, rfl, _, _, rfl, rfl, .inr ⟨by decide, by decide⟩, _, rfl, p, _, 2, _, rfl, rfl, SqL.of upd_same, rfl, _, _, rfl, rfl, .inl ⟨by decide, by decide⟩, _, _, rfl, rfl, _, _, rfl, rfl, (by decide : (0 : Int) < 2305843009213693921), _, _, rfl, rfl, (⟨by decide, by decide +kernel⟩ : CDivW 0 4096), _, rfl, _, _, rfl, rfl, k0, ?_⟩
      exact kk _ _ (Int.emod_nonneg _ (by omega)) (Int.emod_lt_of_pos _ k0) ⟨_, _, _, upd_same, m0, m1, by omega, by omega⟩ fun q o hq e => by rw [upd_ne hq]; exact e

theorem bag_put {H : Hp} {p c : Addr} {o : HO} {b : Nat} (B : Bag H p b) (h : p ≠ c) : Bag (upd H c o) p b := by
  obtain ⟨_, _, _, e, d⟩ := B.ex
  exact ⟨⟨_, _, _, by rw [upd_ne h]; exact e, d⟩⟩
theorem bag_keep {H H' : Hp} {p : Addr} {b : Nat} (B : Bag H p b) (g : Gr p H H') : ∀ c o, H c = some o → (∀ xs, o ≠ .lst xs) → H' c = some o := fun c o e n => by
  obtain ⟨_, _, _, hp, _⟩ := B.ex
  exact g _ _ (fun z => by rw [z, hp] at e; exact n _ (Option.some.inj e).symm) e
def sp_law_thing (K : PySem.W.Frag) : Sp := fun vs H Q _ => ∃ (p : Addr) (b : Nat), vs = [.ref p] ∧ Bag H p b ∧ b ≤ 999999990 ∧ ∀ (v : V) (d : PyData) (H' : Hp), (∀ H2, Gr p H' H2 → DpX K H2 v d) → OkD d → Gr p H H' → Bag H' p (b + 1) → Q v H'
theorem ok_law_thing (T : Txt K mg) : FnOk P w K mg base CX0 2 T.f_law_thing T.d_law_thing ["_law_bag_here"] (sp_law_thing K) := by
  refine T.F_law_thing.ok sc_law_thing (fun vs H Q E h => ?_) (fun cdv A outer s H vs Q E hr h => ?_)
  · obtain ⟨p, b, rfl, _⟩ := h
    rfl
  · obtain ⟨p, b, rfl, B, hb, kk⟩ := h
    refine ⟨_, (pss_cons (ps_set (i := 1) sc_law_thing.nd rfl (.inl rfl) (pe_lst (pa_cons pe_int (pa_cons pe_int (pa_cons (pe_un un_neg pe_int) (pa_cons pe_int (pa_cons pe_int (pa_cons (pe_op op_pow pe_int pe_int) (pa_cons pe_non (pa_cons pe_bl (pa_cons pe_str (pa_cons pe_str (pa_cons pe_str (pa_cons pe_str (pa_cons (pe_tup pa_nil) (pa_cons (pe_tup (pa_cons pe_str (pa_cons pe_str pa_nil))) (pa_cons (pe_lst (pa_cons pe_int (pa_cons pe_int pa_nil))) (pa_cons (pe_lst pa_nil) (pa_cons (pe_disp (pps_cons pe_str pe_int pps_nil) (by rfl) (by rfl) (fun z => by cases z) (by decide)) pa_nil)))))))))))))))))))
        (pss_one (ps_ret (pe_ix (ix_list : IxR _ (rIxL K)) (pv 1) (pe_call (ok_law_take T) (hr.mono (by decide)) rfl T.m_law_take T.F_law_take.kp T.b_law_take .nil pass0 (pa_cons (pv 0) (pa_cons (pe_callB call_len_seq (by rfl) T.z_len (by decide +kernel) (pa_cons (pv 1) pa_nil)) pa_nil))) (fun _ _ => rfl))))), ?_⟩
    refine ⟨1, rfl, 10, 39, rfl, rfl, ⟨by decide, by decide, by decide⟩, ?_⟩
    refine ⟨by show 0 ≤ sizeLine; decide, fun u1 m1 => ?_⟩
    refine ⟨by show 2 ≤ sizeLine; decide, fun u2 m2 => ?_⟩
    refine ⟨by show 2 ≤ sizeLine; decide, fun l1 n1 => ?_⟩
    refine ⟨by show 0 ≤ sizeLine; decide, fun l2 n2 => ?_⟩
    intro d nd
    refine ⟨upd_same, [(Sum.inr "a", .int 1)], rfl, (by decide : 1 ≤ 15), ?_⟩
    have s1 := Same.mk1 (o := .tup []) m1
    have s2 := Same.mk1 (o := .tup [.str "a", .str "b"]) m2
    have s3 := Same.mk1 (o := .lst [.int 1, .int 2]) n1
    have s4 := Same.mk1 (o := .lst []) n2
    have s5 := Same.put (o := .dK (mergeK [] [(Sum.inr "a", .int 1)])) (Same.mk1 (o := .dK []) nd) nd
    refine ⟨by show 17 ≤ sizeLine; decide, fun L nL => ?_⟩
    have sL := Same.mk1 (o := .lst [.int 0, .int 1, .int (-1), .int 7, .int 60, .int ((10 : Int) ^ (39 : Int).toNat), .non, .bl true, .str "", .str "a", .str "merged", .str "a b", .ref u1, .ref u2, .ref l1, .ref l2, .ref d]) nL
    have s6 := s5.trans sL
    have lp1 : l1 ≠ p := (B.grow (s1.trans s2)).ne n1
    have lp2 : l2 ≠ p := (B.grow (s1.trans (s2.trans s3))).ne n2
    have Lp : L ≠ p := (B.grow (s1.trans (s2.trans (s3.trans (s4.trans s5))))).ne nL
    have all := s1.trans (s2.trans (s3.trans (s4.trans s6)))
    have k1 := s6 _ _ (s4 _ _ (s3 _ _ (s2 _ _ (upd_same (H := H) (a := u1) (o := .tup [])))))
    have k2 := s6 _ _ (s4 _ _ (s3 _ _ (upd_same (H := upd H u1 (.tup [])) (a := u2) (o := .tup [.str "a", .str "b"]))))
    have k3 := s6 _ _ (s4 _ _ (upd_same (a := l1) (o := .lst [.int 1, .int 2])))
    have k4 := s6 _ _ (upd_same (a := l2) (o := .lst []))
    have k5 := sL _ _ (upd_same (a := d) (o := .dK (mergeK [] [(Sum.inr "a", .int 1)])))
    have hL := upd_same (H := upd (upd (upd (upd (upd (upd H u1 (.tup [])) u2 (.tup [.str "a", .str "b"])) l1 (.lst [.int 1, .int 2])) l2 (.lst [])) d (.dK [])) d (.dK (mergeK [] [(Sum.inr "a", .int 1)]))) (a := L) (o := .lst [.int 0, .int 1, .int (-1), .int 7, .int 60, .int ((10 : Int) ^ (39 : Int).toNat), .non, .bl true, .str "", .str "a", .str "merged", .str "a b", .ref u1, .ref u2, .ref l1, .ref l2, .ref d])
    have BL := B.grow all
    refine ⟨_, rfl, _, rfl, _, rfl, L, _, rfl, .inl (SqL.of hL), p, 17, b, rfl, by decide, by decide, BL, by omega, fun r H8 r0 r1 B8 g8 => ?_⟩
    have hL8 := g8 _ _ Lp hL
    have k8 := bag_keep BL g8
    have gA := (Gr.same all).trans g8
    have q1 := k8 _ _ k1 (fun _ z => nomatch z)
    have q2 := k8 _ _ k2 (fun _ z => nomatch z)
    have q3 := g8 _ _ lp1 k3
    have q4 := g8 _ _ lp2 k4
    have q5 := k8 _ _ k5 (fun _ z => nomatch z)
    obtain ⟨n, rfl⟩ : ∃ n : Nat, r = (n : Int) := ⟨r.toNat, (Int.toNat_of_nonneg r0).symm⟩
    have hn : n < 17 := by omega
    clear k8 k5 k4 k3 k2 k1 all s6 sL nL s5 s4 s3 s2 s1 hL
    have cs : n = 0 ∨ n = 1 ∨ n = 2 ∨ n = 3 ∨ n = 4 ∨ n = 5 ∨ n = 6 ∨ n = 7 ∨ n = 8 ∨ n = 9 ∨ n = 10 ∨ n = 11 ∨ n = 12 ∨ n = 13 ∨ n = 14 ∨ n = 15 ∨ n = 16 := by omega
    have k8 : ∀ {H2 : Hp}, Gr p H8 H2 → ∀ c o, H8 c = some o → (∀ xs, o ≠ .lst xs) → H2 c = some o := fun g => bag_keep B8 g
    rcases cs with rfl | rfl | rfl | rfl | rfl | rfl | rfl | rfl | rfl | rfl | rfl | rfl | rfl | rfl | rfl | rfl | rfl
    · exact ⟨L, _, 0, _, rfl, rfl, SqL.of hL8, atI_nat (j := 0) rfl, kk _ _ _ (fun _ _ => .data (.int 0) rfl rfl) ⟨rfl, rfl, by decide, by decide⟩ gA B8⟩
    · exact ⟨L, _, 1, _, rfl, rfl, SqL.of hL8, atI_nat (j := 1) rfl, kk _ _ _ (fun _ _ => .data (.int 1) rfl rfl) ⟨rfl, rfl, by decide, by decide⟩ gA B8⟩
    · exact ⟨L, _, 2, _, rfl, rfl, SqL.of hL8, atI_nat (j := 2) rfl, kk _ _ _ (fun _ _ => .data (.int (-1)) rfl rfl) ⟨rfl, rfl, by decide, by decide⟩ gA B8⟩
    · exact ⟨L, _, 3, _, rfl, rfl, SqL.of hL8, atI_nat (j := 3) rfl, kk _ _ _ (fun _ _ => .data (.int 7) rfl rfl) ⟨rfl, rfl, by decide, by decide⟩ gA B8⟩
    · exact ⟨L, _, 4, _, rfl, rfl, SqL.of hL8, atI_nat (j := 4) rfl, kk _ _ _ (fun _ _ => .data (.int 60) rfl rfl) ⟨rfl, rfl, by decide, by decide⟩ gA B8⟩
    · exact ⟨L, _, 5, _, rfl, rfl, SqL.of hL8, atI_nat (j := 5) rfl, kk _ _ _ (fun _ _ => .data (.int _) (by decide +kernel) rfl) ⟨by decide +kernel, rfl, by decide, by decide⟩ gA B8⟩
    · exact ⟨L, _, 6, _, rfl, rfl, SqL.of hL8, atI_nat (j := 6) rfl, kk _ _ _ (fun _ _ => .data .non rfl rfl) ⟨rfl, rfl, by decide, by decide⟩ gA B8⟩
    · exact ⟨L, _, 7, _, rfl, rfl, SqL.of hL8, atI_nat (j := 7) rfl, kk _ _ _ (fun _ _ => .data (.bl true) rfl rfl) ⟨rfl, rfl, by decide, by decide⟩ gA B8⟩
    · exact ⟨L, _, 8, _, rfl, rfl, SqL.of hL8, atI_nat (j := 8) rfl, kk _ _ _ (fun _ _ => .data (.str _) rfl rfl) ⟨rfl, by decide +kernel, by decide +kernel, by decide⟩ gA B8⟩
    · exact ⟨L, _, 9, _, rfl, rfl, SqL.of hL8, atI_nat (j := 9) rfl, kk _ _ _ (fun _ _ => .data (.str _) rfl rfl) ⟨rfl, by decide +kernel, by decide +kernel, by decide⟩ gA B8⟩
    · exact ⟨L, _, 10, _, rfl, rfl, SqL.of hL8, atI_nat (j := 10) rfl, kk _ _ _ (fun _ _ => .data (.str _) rfl rfl) ⟨rfl, by decide +kernel, by decide +kernel, by decide⟩ gA B8⟩
    · exact ⟨L, _, 11, _, rfl, rfl, SqL.of hL8, atI_nat (j := 11) rfl, kk _ _ _ (fun _ _ => .data (.str _) rfl rfl) ⟨rfl, by decide +kernel, by decide +kernel, by decide⟩ gA B8⟩
    · exact ⟨L, _, 12, _, rfl, rfl, SqL.of hL8, atI_nat (j := 12) rfl, kk _ _ _ (fun _ g => .data (.tup (SqT.of (k8 g _ _ q1 (fun _ z => nomatch z))) .nil) rfl rfl) ⟨rfl, rfl, by decide, by decide⟩ gA B8⟩
    · exact ⟨L, _, 13, _, rfl, rfl, SqL.of hL8, atI_nat (j := 13) rfl, kk _ _ _ (fun _ g => .data (.tup (SqT.of (k8 g _ _ q2 (fun _ z => nomatch z))) (.cons (.str _) (.cons (.str _) .nil))) rfl rfl) ⟨rfl, by decide +kernel, by decide +kernel, by decide⟩ gA B8⟩
    · exact ⟨L, _, 14, _, rfl, rfl, SqL.of hL8, atI_nat (j := 14) rfl, kk _ _ _ (fun _ g => .data (.lst (SqL.of (g _ _ lp1 q3)) (.cons (.int _) (.cons (.int _) .nil))) rfl rfl) ⟨rfl, rfl, by decide, by decide⟩ gA B8⟩
    · exact ⟨L, _, 15, _, rfl, rfl, SqL.of hL8, atI_nat (j := 15) rfl, kk _ _ _ (fun _ g => .data (.lst (SqL.of (g _ _ lp2 q4)) .nil) rfl rfl) ⟨rfl, rfl, by decide, by decide⟩ gA B8⟩
    · exact ⟨L, _, 16, _, rfl, rfl, SqL.of hL8, atI_nat (j := 16) rfl, kk _ _ _ (fun _ g => .dic (k8 g _ _ q5 (fun _ z => nomatch z)) (by decide +kernel)) ⟨rfl, by decide +kernel, by decide +kernel, by decide⟩ gA B8⟩

def tabX (T : Txt K mg) (one two : V) : List (Addr × List (Str × V)) := [(T.C_BadName, [("name", one)]), (T.C_BadRule, [("place", one)]), (T.C_BadText, [("place", one)]), (T.C_BadForm, [("place", one)]), (T.C_BadPattern, [("pattern", one)]), (T.C_BadFact, [("place", one)]), (T.C_BadLevel, [("level", one)]), (T.C_BadInteger, [("value", one)]), (T.C_BadGoal, [("goal", one)]), (T.C_BadCommand, []), (T.C_UnknownName, [("name", one)]), (T.C_NoKey, [("key", two), ("name", one)]), (T.C_NoBase, [("name", one)]), (T.C_NoPlace, [("place", one)]), (T.C_TooMany, [("limit", one)]), (T.C_Taken, [("name", one)]), (T.C_InUse, [("name", one)]), (T.C_Stale, [("key", one)]), (T.C_Busy, []), (T.C_NothingLeft, [])]
theorem ok_law_by_position (T : Txt K mg) : FnOk P w K mg base CX0 4 T.f_law_by_position T.d_law_by_position ["_law_one", "_law_two"] (spMade (tabX T)) := by
  refine T.F_law_by_position.ok sc_law_by_position (fun vs H Q E h => ?_) (fun cdv A outer s H vs Q E hr h => ?_)
  · obtain ⟨one, two, rfl, _⟩ := h
    rfl
  · obtain ⟨one, two, rfl, kk⟩ := h
    refine ⟨_, (pss_cons (ps_set (i := 2) sc_law_by_position.nd rfl (.inl rfl) (pe_lst (pa_cons (pe_ownV kValue T.x_BadName.own T.x_BadName.iC T.x_BadName.tI (ok_BadName_init T) (hr.mono (by decide)) T.b_BadName_init pass0 rfl T.m_BadName (pa_cons (pv 0) pa_nil)) (pa_cons (pe_ownV kValue T.x_BadRule.own T.x_BadRule.iC T.x_BadRule.tI (ok_BadRule_init T) (hr.mono (by decide)) T.b_BadRule_init pass0 rfl T.m_BadRule (pa_cons (pv 0) pa_nil)) (pa_cons (pe_ownV kValue T.x_BadText.own T.x_BadText.iC T.x_BadText.tI (ok_BadText_init T) (hr.mono (by decide)) T.b_BadText_init pass0 rfl T.m_BadText (pa_cons (pv 0) pa_nil)) (pa_cons (pe_ownV kValue T.x_BadForm.own T.x_BadForm.iC T.x_BadForm.tI (ok_BadForm_init T) (hr.mono (by decide)) T.b_BadForm_init pass0 rfl T.m_BadForm (pa_cons (pv 0) pa_nil)) (pa_cons (pe_ownV kValue T.x_BadPattern.own T.x_BadPattern.iC T.x_BadPattern.tI (ok_BadPattern_init T) (hr.mono (by decide)) T.b_BadPattern_init pass0 rfl T.m_BadPattern (pa_cons (pv 0) pa_nil)) (pa_cons (pe_ownV kValue T.x_BadFact.own T.x_BadFact.iC T.x_BadFact.tI (ok_BadFact_init T) (hr.mono (by decide)) T.b_BadFact_init pass0 rfl T.m_BadFact (pa_cons (pv 0) pa_nil)) pa_nil))))))))
        (pss_cons (ps_set (i := 2) sc_law_by_position.nd rfl (.inl rfl) (pe_op op_cat (pv 2) (pe_lst (pa_cons (pe_ownV kValue T.x_BadLevel.own T.x_BadLevel.iC T.x_BadLevel.tI (ok_BadLevel_init T) (hr.mono (by decide)) T.b_BadLevel_init pass0 rfl T.m_BadLevel (pa_cons (pv 0) pa_nil)) (pa_cons (pe_ownV kValue T.x_BadInteger.own T.x_BadInteger.iC T.x_BadInteger.tI (ok_BadInteger_init T) (hr.mono (by decide)) T.b_BadInteger_init pass0 rfl T.m_BadInteger (pa_cons (pv 0) pa_nil)) (pa_cons (pe_ownV kValue T.x_BadGoal.own T.x_BadGoal.iC T.x_BadGoal.tI (ok_BadGoal_init T) (hr.mono (by decide)) T.b_BadGoal_init pass0 rfl T.m_BadGoal (pa_cons (pv 0) pa_nil)) (pa_cons (pe_ownV0 kValue T.x_BadCommand.own T.x_BadCommand.iC T.x_BadCommand.tI (ok_BadCommand_init T) (hr.mono (by decide)) T.b_BadCommand_init pass0 rfl T.m_BadCommand) (pa_cons (pe_ownV kKey T.x_UnknownName.own T.x_UnknownName.iC T.x_UnknownName.tI (ok_UnknownName_init T) (hr.mono (by decide)) T.b_UnknownName_init pass0 rfl T.m_UnknownName (pa_cons (pv 0) pa_nil)) pa_nil))))))))
        (pss_cons (ps_set (i := 2) sc_law_by_position.nd rfl (.inl rfl) (pe_op op_cat (pv 2) (pe_lst (pa_cons (pe_ownV kKey T.x_NoKey.own T.x_NoKey.iC T.x_NoKey.tI (ok_NoKey_init T) (hr.mono (by decide)) T.b_NoKey_init pass0 rfl T.m_NoKey (pa_cons (pv 0) (pa_cons (pv 1) pa_nil))) (pa_cons (pe_ownV kLookup T.x_NoBase.own T.x_NoBase.iC T.x_NoBase.tI (ok_NoBase_init T) (hr.mono (by decide)) T.b_NoBase_init pass0 rfl T.m_NoBase (pa_cons (pv 0) pa_nil)) (pa_cons (pe_ownV kIndex T.x_NoPlace.own T.x_NoPlace.iC T.x_NoPlace.tI (ok_NoPlace_init T) (hr.mono (by decide)) T.b_NoPlace_init pass0 rfl T.m_NoPlace (pa_cons (pv 0) pa_nil)) (pa_cons (pe_ownV kOverflow T.x_TooMany.own T.x_TooMany.iC T.x_TooMany.tI (ok_TooMany_init T) (hr.mono (by decide)) T.b_TooMany_init pass0 rfl T.m_TooMany (pa_cons (pv 0) pa_nil)) (pa_cons (pe_ownV kRuntime T.x_Taken.own T.x_Taken.iC T.x_Taken.tI (ok_Taken_init T) (hr.mono (by decide)) T.b_Taken_init pass0 rfl T.m_Taken (pa_cons (pv 0) pa_nil)) (pa_cons (pe_ownV kRuntime T.x_InUse.own T.x_InUse.iC T.x_InUse.tI (ok_InUse_init T) (hr.mono (by decide)) T.b_InUse_init pass0 rfl T.m_InUse (pa_cons (pv 0) pa_nil)) pa_nil)))))))))
        (pss_one (ps_ret (pe_op op_cat (pv 2) (pe_lst (pa_cons (pe_ownV kRuntime T.x_Stale.own T.x_Stale.iC T.x_Stale.tI (ok_Stale_init T) (hr.mono (by decide)) T.b_Stale_init pass0 rfl T.m_Stale (pa_cons (pv 0) pa_nil)) (pa_cons (pe_ownV0 kRuntime T.x_Busy.own T.x_Busy.iC T.x_Busy.tI (ok_Busy_init T) (hr.mono (by decide)) T.b_Busy_init pass0 rfl T.m_Busy) (pa_cons (pe_ownV0 kRuntime T.x_NothingLeft.own T.x_NothingLeft.iC T.x_NothingLeft.tI (ok_NothingLeft_init T) (hr.mono (by decide)) T.b_NothingLeft_init pass0 rfl T.m_NothingLeft) pa_nil)))))))))), ?_⟩
    have P0 : ExcsAt H [] [] := .nil
    have S0 : Same H H := Same.refl H
    refine ⟨_, rfl, (by show 1 ≤ 1000; decide), fun a0 n0 => ⟨a0, one, rfl, upd_same, fun d0 m0 k0 => ⟨rfl, ?_⟩⟩⟩
    obtain ⟨s0, x0⟩ := made1 (C := T.C_BadName) (f := "name") (v := one) n0 m0 k0
    revert s0 x0
    generalize upd (upd (upd H a0 (exo a0 T.C_BadName none)) d0 (exd d0 [("name", one)])) a0 (exo a0 T.C_BadName (some d0)) = H1
    intro s0 x0
    have P1 := snocX P0 s0 x0
    have S1 := S0.trans s0
    clear P0 S0 s0 x0
    refine ⟨_, rfl, (by show 1 ≤ 1000; decide), fun a1 n1 => ⟨a1, one, rfl, upd_same, fun d1 m1 k1 => ⟨rfl, ?_⟩⟩⟩
    obtain ⟨s1, x1⟩ := made1 (C := T.C_BadRule) (f := "place") (v := one) n1 m1 k1
    revert s1 x1
    generalize upd (upd (upd H1 a1 (exo a1 T.C_BadRule none)) d1 (exd d1 [("place", one)])) a1 (exo a1 T.C_BadRule (some d1)) = H2
    intro s1 x1
    have P2 := snocX P1 s1 x1
    have S2 := S1.trans s1
    clear P1 S1 s1 x1
    refine ⟨_, rfl, (by show 1 ≤ 1000; decide), fun a2 n2 => ⟨a2, one, rfl, upd_same, fun d2 m2 k2 => ⟨rfl, ?_⟩⟩⟩
    obtain ⟨s2, x2⟩ := made1 (C := T.C_BadText) (f := "place") (v := one) n2 m2 k2
    revert s2 x2
    generalize upd (upd (upd H2 a2 (exo a2 T.C_BadText none)) d2 (exd d2 [("place", one)])) a2 (exo a2 T.C_BadText (some d2)) = H3
    intro s2 x2
    have P3 := snocX P2 s2 x2
    have S3 := S2.trans s2
    clear P2 S2 s2 x2
    refine ⟨_, rfl, (by show 1 ≤ 1000; decide), fun a3 n3 => ⟨a3, one, rfl, upd_same, fun d3 m3 k3 => ⟨rfl, ?_⟩⟩⟩
    obtain ⟨s3, x3⟩ := made1 (C := T.C_BadForm) (f := "place") (v := one) n3 m3 k3
    revert s3 x3
    generalize upd (upd (upd H3 a3 (exo a3 T.C_BadForm none)) d3 (exd d3 [("place", one)])) a3 (exo a3 T.C_BadForm (some d3)) = H4
    intro s3 x3
    have P4 := snocX P3 s3 x3
    have S4 := S3.trans s3
    clear P3 S3 s3 x3
    refine ⟨_, rfl, (by show 1 ≤ 1000; decide), fun a4 n4 => ⟨a4, one, rfl, upd_same, fun d4 m4 k4 => ⟨rfl, ?_⟩⟩⟩
    obtain ⟨s4, x4⟩ := made1 (C := T.C_BadPattern) (f := "pattern") (v := one) n4 m4 k4
    revert s4 x4
    generalize upd (upd (upd H4 a4 (exo a4 T.C_BadPattern none)) d4 (exd d4 [("pattern", one)])) a4 (exo a4 T.C_BadPattern (some d4)) = H5
    intro s4 x4
    have P5 := snocX P4 s4 x4
    have S5 := S4.trans s4
    clear P4 S4 s4 x4
    refine ⟨_, rfl, (by show 1 ≤ 1000; decide), fun a5 n5 => ⟨a5, one, rfl, upd_same, fun d5 m5 k5 => ⟨rfl, ?_⟩⟩⟩
    obtain ⟨s5, x5⟩ := made1 (C := T.C_BadFact) (f := "place") (v := one) n5 m5 k5
    revert s5 x5
    generalize upd (upd (upd H5 a5 (exo a5 T.C_BadFact none)) d5 (exd d5 [("place", one)])) a5 (exo a5 T.C_BadFact (some d5)) = H6
    intro s5 x5
    have P6 := snocX P5 s5 x5
    have S6 := S5.trans s5
    clear P5 S5 s5 x5
    refine ⟨by show 6 ≤ sizeLine; decide, fun l0 q0 => ?_⟩
    have t0 := Same.mk1 (o := .lst [.ref a0, .ref a1, .ref a2, .ref a3, .ref a4, .ref a5]) q0
    have h0 : (upd H6 l0 (.lst [.ref a0, .ref a1, .ref a2, .ref a3, .ref a4, .ref a5])) l0 = some (.lst [.ref a0, .ref a1, .ref a2, .ref a3, .ref a4, .ref a5]) := upd_same
    replace P6 := P6.same t0
    replace S6 := S6.trans t0
    have hl := h0
    clear h0 t0 q0
    revert P6 S6 hl
    generalize upd H6 l0 (.lst [.ref a0, .ref a1, .ref a2, .ref a3, .ref a4, .ref a5]) = H7
    intro P6 S6 hl
    have P7 := P6
    have S7 := S6
    clear P6 S6
    refine ⟨_, rfl, ?_⟩
    refine ⟨_, rfl, (by show 1 ≤ 1000; decide), fun a6 n6 => ⟨a6, one, rfl, upd_same, fun d6 m6 k6 => ⟨rfl, ?_⟩⟩⟩
    obtain ⟨s6, x6⟩ := made1 (C := T.C_BadLevel) (f := "level") (v := one) n6 m6 k6
    revert s6 x6
    generalize upd (upd (upd H7 a6 (exo a6 T.C_BadLevel none)) d6 (exd d6 [("level", one)])) a6 (exo a6 T.C_BadLevel (some d6)) = H8
    intro s6 x6
    have P8 := snocX P7 s6 x6
    have S8 := S7.trans s6
    replace hl := s6 _ _ hl
    clear P7 S7 s6 x6
    refine ⟨_, rfl, (by show 1 ≤ 1000; decide), fun a7 n7 => ⟨a7, one, rfl, upd_same, fun d7 m7 k7 => ⟨rfl, ?_⟩⟩⟩
    obtain ⟨s7, x7⟩ := made1 (C := T.C_BadInteger) (f := "value") (v := one) n7 m7 k7
    revert s7 x7
    generalize upd (upd (upd H8 a7 (exo a7 T.C_BadInteger none)) d7 (exd d7 [("value", one)])) a7 (exo a7 T.C_BadInteger (some d7)) = H9
    intro s7 x7
    have P9 := snocX P8 s7 x7
    have S9 := S8.trans s7
    replace hl := s7 _ _ hl
    clear P8 S8 s7 x7
    refine ⟨_, rfl, (by show 1 ≤ 1000; decide), fun a8 n8 => ⟨a8, one, rfl, upd_same, fun d8 m8 k8 => ⟨rfl, ?_⟩⟩⟩
    obtain ⟨s8, x8⟩ := made1 (C := T.C_BadGoal) (f := "goal") (v := one) n8 m8 k8
    revert s8 x8
    generalize upd (upd (upd H9 a8 (exo a8 T.C_BadGoal none)) d8 (exd d8 [("goal", one)])) a8 (exo a8 T.C_BadGoal (some d8)) = H10
    intro s8 x8
    have P10 := snocX P9 s8 x8
    have S10 := S9.trans s8
    replace hl := s8 _ _ hl
    clear P9 S9 s8 x8
    refine ⟨(by show 0 ≤ 1000; decide), fun a9 n9 => ⟨a9, rfl, upd_same, rfl, ?_⟩⟩
    obtain ⟨s9, x9⟩ := made0 (C := T.C_BadCommand) n9
    revert s9 x9
    generalize upd H10 a9 (exo a9 T.C_BadCommand none) = H11
    intro s9 x9
    have P11 := snocX P10 s9 x9
    have S11 := S10.trans s9
    replace hl := s9 _ _ hl
    clear P10 S10 s9 x9
    refine ⟨_, rfl, (by show 1 ≤ 1000; decide), fun a10 n10 => ⟨a10, one, rfl, upd_same, fun d10 m10 k10 => ⟨rfl, ?_⟩⟩⟩
    obtain ⟨s10, x10⟩ := made1 (C := T.C_UnknownName) (f := "name") (v := one) n10 m10 k10
    revert s10 x10
    generalize upd (upd (upd H11 a10 (exo a10 T.C_UnknownName none)) d10 (exd d10 [("name", one)])) a10 (exo a10 T.C_UnknownName (some d10)) = H12
    intro s10 x10
    have P12 := snocX P11 s10 x10
    have S12 := S11.trans s10
    replace hl := s10 _ _ hl
    clear P11 S11 s10 x10
    refine ⟨by show 5 ≤ sizeLine; decide, fun l1 q1 => ?_⟩
    have t1 := Same.mk1 (o := .lst [.ref a6, .ref a7, .ref a8, .ref a9, .ref a10]) q1
    have h1 : (upd H12 l1 (.lst [.ref a6, .ref a7, .ref a8, .ref a9, .ref a10])) l1 = some (.lst [.ref a6, .ref a7, .ref a8, .ref a9, .ref a10]) := upd_same
    replace hl := t1 _ _ hl
    replace P12 := P12.same t1
    replace S12 := S12.trans t1
    clear t1 q1
    revert h1 hl P12 S12
    generalize upd H12 l1 (.lst [.ref a6, .ref a7, .ref a8, .ref a9, .ref a10]) = H13
    intro h1 hl P12 S12
    have P13 := P12
    have S13 := S12
    clear P12 S12
    refine ⟨_, l1, _, _, rfl, rfl, hl, h1, by show 6 + 5 ≤ sizeLine; decide, fun j1 r1 => ?_⟩
    have u1 := Same.mk1 (o := .lst ([.ref a0, .ref a1, .ref a2, .ref a3, .ref a4, .ref a5] ++ [.ref a6, .ref a7, .ref a8, .ref a9, .ref a10])) r1
    have f1 := S13.free r1
    have hm : (upd H13 j1 (.lst ([.ref a0, .ref a1, .ref a2, .ref a3, .ref a4, .ref a5] ++ [.ref a6, .ref a7, .ref a8, .ref a9, .ref a10]))) j1 = some (.lst [.ref a0, .ref a1, .ref a2, .ref a3, .ref a4, .ref a5, .ref a6, .ref a7, .ref a8, .ref a9, .ref a10]) := upd_same
    replace P13 := P13.same u1
    replace S13 := S13.trans u1
    clear hl h1 u1 r1
    have hl := hm
    clear hm
    revert P13 S13 hl
    generalize upd H13 j1 (.lst ([.ref a0, .ref a1, .ref a2, .ref a3, .ref a4, .ref a5] ++ [.ref a6, .ref a7, .ref a8, .ref a9, .ref a10])) = H14
    intro P13 S13 hl
    have P14 := P13
    have S14 := S13
    clear P13 S13
    refine ⟨_, rfl, ?_⟩
    refine ⟨_, rfl, _, rfl, (by show 2 ≤ 1000; decide), fun a11 n11 => ⟨a11, one, two, rfl, upd_same, fun d11 m11 k11 => ⟨rfl, ?_⟩⟩⟩
    obtain ⟨s11, x11⟩ := made2 (C := T.C_NoKey) (f := "name") (g := "key") (v := one) (u := two) n11 m11 k11
    revert s11 x11
    generalize upd (upd (upd (upd H14 a11 (exo a11 T.C_NoKey none)) d11 (exd d11 [("name", one)])) a11 (exo a11 T.C_NoKey (some d11))) d11 (exd d11 [("key", two), ("name", one)]) = H15
    intro s11 x11
    have P15 := snocX P14 s11 x11
    have S15 := S14.trans s11
    replace hl := s11 _ _ hl
    clear P14 S14 s11 x11
    refine ⟨_, rfl, (by show 1 ≤ 1000; decide), fun a12 n12 => ⟨a12, one, rfl, upd_same, fun d12 m12 k12 => ⟨rfl, ?_⟩⟩⟩
    obtain ⟨s12, x12⟩ := made1 (C := T.C_NoBase) (f := "name") (v := one) n12 m12 k12
    revert s12 x12
    generalize upd (upd (upd H15 a12 (exo a12 T.C_NoBase none)) d12 (exd d12 [("name", one)])) a12 (exo a12 T.C_NoBase (some d12)) = H16
    intro s12 x12
    have P16 := snocX P15 s12 x12
    have S16 := S15.trans s12
    replace hl := s12 _ _ hl
    clear P15 S15 s12 x12
    refine ⟨_, rfl, (by show 1 ≤ 1000; decide), fun a13 n13 => ⟨a13, one, rfl, upd_same, fun d13 m13 k13 => ⟨rfl, ?_⟩⟩⟩
    obtain ⟨s13, x13⟩ := made1 (C := T.C_NoPlace) (f := "place") (v := one) n13 m13 k13
    revert s13 x13
    generalize upd (upd (upd H16 a13 (exo a13 T.C_NoPlace none)) d13 (exd d13 [("place", one)])) a13 (exo a13 T.C_NoPlace (some d13)) = H17
    intro s13 x13
    have P17 := snocX P16 s13 x13
    have S17 := S16.trans s13
    replace hl := s13 _ _ hl
    clear P16 S16 s13 x13
    refine ⟨_, rfl, (by show 1 ≤ 1000; decide), fun a14 n14 => ⟨a14, one, rfl, upd_same, fun d14 m14 k14 => ⟨rfl, ?_⟩⟩⟩
    obtain ⟨s14, x14⟩ := made1 (C := T.C_TooMany) (f := "limit") (v := one) n14 m14 k14
    revert s14 x14
    generalize upd (upd (upd H17 a14 (exo a14 T.C_TooMany none)) d14 (exd d14 [("limit", one)])) a14 (exo a14 T.C_TooMany (some d14)) = H18
    intro s14 x14
    have P18 := snocX P17 s14 x14
    have S18 := S17.trans s14
    replace hl := s14 _ _ hl
    clear P17 S17 s14 x14
    refine ⟨_, rfl, (by show 1 ≤ 1000; decide), fun a15 n15 => ⟨a15, one, rfl, upd_same, fun d15 m15 k15 => ⟨rfl, ?_⟩⟩⟩
    obtain ⟨s15, x15⟩ := made1 (C := T.C_Taken) (f := "name") (v := one) n15 m15 k15
    revert s15 x15
    generalize upd (upd (upd H18 a15 (exo a15 T.C_Taken none)) d15 (exd d15 [("name", one)])) a15 (exo a15 T.C_Taken (some d15)) = H19
    intro s15 x15
    have P19 := snocX P18 s15 x15
    have S19 := S18.trans s15
    replace hl := s15 _ _ hl
    clear P18 S18 s15 x15
    refine ⟨_, rfl, (by show 1 ≤ 1000; decide), fun a16 n16 => ⟨a16, one, rfl, upd_same, fun d16 m16 k16 => ⟨rfl, ?_⟩⟩⟩
    obtain ⟨s16, x16⟩ := made1 (C := T.C_InUse) (f := "name") (v := one) n16 m16 k16
    revert s16 x16
    generalize upd (upd (upd H19 a16 (exo a16 T.C_InUse none)) d16 (exd d16 [("name", one)])) a16 (exo a16 T.C_InUse (some d16)) = H20
    intro s16 x16
    have P20 := snocX P19 s16 x16
    have S20 := S19.trans s16
    replace hl := s16 _ _ hl
    clear P19 S19 s16 x16
    refine ⟨by show 6 ≤ sizeLine; decide, fun l2 q2 => ?_⟩
    have t2 := Same.mk1 (o := .lst [.ref a11, .ref a12, .ref a13, .ref a14, .ref a15, .ref a16]) q2
    have h2 : (upd H20 l2 (.lst [.ref a11, .ref a12, .ref a13, .ref a14, .ref a15, .ref a16])) l2 = some (.lst [.ref a11, .ref a12, .ref a13, .ref a14, .ref a15, .ref a16]) := upd_same
    replace hl := t2 _ _ hl
    replace P20 := P20.same t2
    replace S20 := S20.trans t2
    clear t2 q2
    revert h2 hl P20 S20
    generalize upd H20 l2 (.lst [.ref a11, .ref a12, .ref a13, .ref a14, .ref a15, .ref a16]) = H21
    intro h2 hl P20 S20
    have P21 := P20
    have S21 := S20
    clear P20 S20
    refine ⟨_, l2, _, _, rfl, rfl, hl, h2, by show 11 + 6 ≤ sizeLine; decide, fun j2 r2 => ?_⟩
    have u2 := Same.mk1 (o := .lst ([.ref a0, .ref a1, .ref a2, .ref a3, .ref a4, .ref a5, .ref a6, .ref a7, .ref a8, .ref a9, .ref a10] ++ [.ref a11, .ref a12, .ref a13, .ref a14, .ref a15, .ref a16])) r2
    have f2 := S21.free r2
    have hm : (upd H21 j2 (.lst ([.ref a0, .ref a1, .ref a2, .ref a3, .ref a4, .ref a5, .ref a6, .ref a7, .ref a8, .ref a9, .ref a10] ++ [.ref a11, .ref a12, .ref a13, .ref a14, .ref a15, .ref a16]))) j2 = some (.lst [.ref a0, .ref a1, .ref a2, .ref a3, .ref a4, .ref a5, .ref a6, .ref a7, .ref a8, .ref a9, .ref a10, .ref a11, .ref a12, .ref a13, .ref a14, .ref a15, .ref a16]) := upd_same
    replace P21 := P21.same u2
    replace S21 := S21.trans u2
    clear hl h2 u2 r2
    have hl := hm
    clear hm
    revert P21 S21 hl
    generalize upd H21 j2 (.lst ([.ref a0, .ref a1, .ref a2, .ref a3, .ref a4, .ref a5, .ref a6, .ref a7, .ref a8, .ref a9, .ref a10] ++ [.ref a11, .ref a12, .ref a13, .ref a14, .ref a15, .ref a16])) = H22
    intro P21 S21 hl
    have P22 := P21
    have S22 := S21
    clear P21 S21
    refine ⟨_, rfl, ?_⟩
    refine ⟨_, rfl, (by show 1 ≤ 1000; decide), fun a17 n17 => ⟨a17, one, rfl, upd_same, fun d17 m17 k17 => ⟨rfl, ?_⟩⟩⟩
    obtain ⟨s17, x17⟩ := made1 (C := T.C_Stale) (f := "key") (v := one) n17 m17 k17
    revert s17 x17
    generalize upd (upd (upd H22 a17 (exo a17 T.C_Stale none)) d17 (exd d17 [("key", one)])) a17 (exo a17 T.C_Stale (some d17)) = H23
    intro s17 x17
    have P23 := snocX P22 s17 x17
    have S23 := S22.trans s17
    replace hl := s17 _ _ hl
    clear P22 S22 s17 x17
    refine ⟨(by show 0 ≤ 1000; decide), fun a18 n18 => ⟨a18, rfl, upd_same, rfl, ?_⟩⟩
    obtain ⟨s18, x18⟩ := made0 (C := T.C_Busy) n18
    revert s18 x18
    generalize upd H23 a18 (exo a18 T.C_Busy none) = H24
    intro s18 x18
    have P24 := snocX P23 s18 x18
    have S24 := S23.trans s18
    replace hl := s18 _ _ hl
    clear P23 S23 s18 x18
    refine ⟨(by show 0 ≤ 1000; decide), fun a19 n19 => ⟨a19, rfl, upd_same, rfl, ?_⟩⟩
    obtain ⟨s19, x19⟩ := made0 (C := T.C_NothingLeft) n19
    revert s19 x19
    generalize upd H24 a19 (exo a19 T.C_NothingLeft none) = H25
    intro s19 x19
    have P25 := snocX P24 s19 x19
    have S25 := S24.trans s19
    replace hl := s19 _ _ hl
    clear P24 S24 s19 x19
    refine ⟨by show 3 ≤ sizeLine; decide, fun l3 q3 => ?_⟩
    have t3 := Same.mk1 (o := .lst [.ref a17, .ref a18, .ref a19]) q3
    have h3 : (upd H25 l3 (.lst [.ref a17, .ref a18, .ref a19])) l3 = some (.lst [.ref a17, .ref a18, .ref a19]) := upd_same
    replace hl := t3 _ _ hl
    replace P25 := P25.same t3
    replace S25 := S25.trans t3
    clear t3 q3
    revert h3 hl P25 S25
    generalize upd H25 l3 (.lst [.ref a17, .ref a18, .ref a19]) = H26
    intro h3 hl P25 S25
    have P26 := P25
    have S26 := S25
    clear P25 S25
    refine ⟨_, l3, _, _, rfl, rfl, hl, h3, by show 17 + 3 ≤ sizeLine; decide, fun j3 r3 => ?_⟩
    exact kk j3 _ (S26.free r3) (S26.trans (Same.mk1 r3)) ⟨[a0, a1, a2, a3, a4, a5, a6, a7, a8, a9, a10, a11, a12, a13, a14, a15, a16, a17, a18, a19], upd_same, P26.same (Same.mk1 r3)⟩

theorem ok_law_by_parameters (T : Txt K mg) : FnOk P w K mg base CX0 4 T.f_law_by_parameters T.d_law_by_parameters ["_law_one", "_law_two"] (spMade (tabX T)) := by
  refine T.F_law_by_parameters.ok sc_law_by_parameters (fun vs H Q E h => ?_) (fun cdv A outer s H vs Q E hr h => ?_)
  · obtain ⟨one, two, rfl, _⟩ := h
    rfl
  · obtain ⟨one, two, rfl, kk⟩ := h
    refine ⟨_, (pss_cons (ps_set (i := 2) sc_law_by_parameters.nd rfl (.inl rfl) (pe_lst (pa_cons (pe_ownVK kValue T.x_BadName.own T.x_BadName.iC T.x_BadName.tI (ok_BadName_init T) (hr.mono (by decide)) T.kb_BadName_init_1 pass0 rfl T.m_BadName (pk_cons (pv 0) pk_nil)) (pa_cons (pe_ownVK kValue T.x_BadRule.own T.x_BadRule.iC T.x_BadRule.tI (ok_BadRule_init T) (hr.mono (by decide)) T.kb_BadRule_init_1 pass0 rfl T.m_BadRule (pk_cons (pv 0) pk_nil)) (pa_cons (pe_ownVK kValue T.x_BadText.own T.x_BadText.iC T.x_BadText.tI (ok_BadText_init T) (hr.mono (by decide)) T.kb_BadText_init_1 pass0 rfl T.m_BadText (pk_cons (pv 0) pk_nil)) (pa_cons (pe_ownVK kValue T.x_BadForm.own T.x_BadForm.iC T.x_BadForm.tI (ok_BadForm_init T) (hr.mono (by decide)) T.kb_BadForm_init_1 pass0 rfl T.m_BadForm (pk_cons (pv 0) pk_nil)) (pa_cons (pe_ownVK kValue T.x_BadPattern.own T.x_BadPattern.iC T.x_BadPattern.tI (ok_BadPattern_init T) (hr.mono (by decide)) T.kb_BadPattern_init_1 pass0 rfl T.m_BadPattern (pk_cons (pv 0) pk_nil)) pa_nil)))))))
        (pss_cons (ps_set (i := 2) sc_law_by_parameters.nd rfl (.inl rfl) (pe_op op_cat (pv 2) (pe_lst (pa_cons (pe_ownVK kValue T.x_BadFact.own T.x_BadFact.iC T.x_BadFact.tI (ok_BadFact_init T) (hr.mono (by decide)) T.kb_BadFact_init_1 pass0 rfl T.m_BadFact (pk_cons (pv 0) pk_nil)) (pa_cons (pe_ownVK kValue T.x_BadLevel.own T.x_BadLevel.iC T.x_BadLevel.tI (ok_BadLevel_init T) (hr.mono (by decide)) T.kb_BadLevel_init_1 pass0 rfl T.m_BadLevel (pk_cons (pv 0) pk_nil)) (pa_cons (pe_ownVK kValue T.x_BadInteger.own T.x_BadInteger.iC T.x_BadInteger.tI (ok_BadInteger_init T) (hr.mono (by decide)) T.kb_BadInteger_init_1 pass0 rfl T.m_BadInteger (pk_cons (pv 0) pk_nil)) (pa_cons (pe_ownVK kValue T.x_BadGoal.own T.x_BadGoal.iC T.x_BadGoal.tI (ok_BadGoal_init T) (hr.mono (by decide)) T.kb_BadGoal_init_1 pass0 rfl T.m_BadGoal (pk_cons (pv 0) pk_nil)) (pa_cons (pe_ownV0 kValue T.x_BadCommand.own T.x_BadCommand.iC T.x_BadCommand.tI (ok_BadCommand_init T) (hr.mono (by decide)) T.b_BadCommand_init pass0 rfl T.m_BadCommand) pa_nil))))))))
        (pss_cons (ps_set (i := 2) sc_law_by_parameters.nd rfl (.inl rfl) (pe_op op_cat (pv 2) (pe_lst (pa_cons (pe_ownVK kKey T.x_UnknownName.own T.x_UnknownName.iC T.x_UnknownName.tI (ok_UnknownName_init T) (hr.mono (by decide)) T.kb_UnknownName_init_1 pass0 rfl T.m_UnknownName (pk_cons (pv 0) pk_nil)) (pa_cons (pe_ownVK kKey T.x_NoKey.own T.x_NoKey.iC T.x_NoKey.tI (ok_NoKey_init T) (hr.mono (by decide)) T.kb_NoKey_init_1 pass0 rfl T.m_NoKey (pk_cons (pv 1) (pk_cons (pv 0) pk_nil))) (pa_cons (pe_ownVK kLookup T.x_NoBase.own T.x_NoBase.iC T.x_NoBase.tI (ok_NoBase_init T) (hr.mono (by decide)) T.kb_NoBase_init_1 pass0 rfl T.m_NoBase (pk_cons (pv 0) pk_nil)) (pa_cons (pe_ownVK kIndex T.x_NoPlace.own T.x_NoPlace.iC T.x_NoPlace.tI (ok_NoPlace_init T) (hr.mono (by decide)) T.kb_NoPlace_init_1 pass0 rfl T.m_NoPlace (pk_cons (pv 0) pk_nil)) pa_nil)))))))
        (pss_cons (ps_set (i := 2) sc_law_by_parameters.nd rfl (.inl rfl) (pe_op op_cat (pv 2) (pe_lst (pa_cons (pe_ownVK kOverflow T.x_TooMany.own T.x_TooMany.iC T.x_TooMany.tI (ok_TooMany_init T) (hr.mono (by decide)) T.kb_TooMany_init_1 pass0 rfl T.m_TooMany (pk_cons (pv 0) pk_nil)) (pa_cons (pe_ownVK kRuntime T.x_Taken.own T.x_Taken.iC T.x_Taken.tI (ok_Taken_init T) (hr.mono (by decide)) T.kb_Taken_init_1 pass0 rfl T.m_Taken (pk_cons (pv 0) pk_nil)) (pa_cons (pe_ownVK kRuntime T.x_InUse.own T.x_InUse.iC T.x_InUse.tI (ok_InUse_init T) (hr.mono (by decide)) T.kb_InUse_init_1 pass0 rfl T.m_InUse (pk_cons (pv 0) pk_nil)) (pa_cons (pe_ownVK kRuntime T.x_Stale.own T.x_Stale.iC T.x_Stale.tI (ok_Stale_init T) (hr.mono (by decide)) T.kb_Stale_init_1 pass0 rfl T.m_Stale (pk_cons (pv 0) pk_nil)) (pa_cons (pe_ownV0 kRuntime T.x_Busy.own T.x_Busy.iC T.x_Busy.tI (ok_Busy_init T) (hr.mono (by decide)) T.b_Busy_init pass0 rfl T.m_Busy) (pa_cons (pe_ownV0 kRuntime T.x_NothingLeft.own T.x_NothingLeft.iC T.x_NothingLeft.tI (ok_NothingLeft_init T) (hr.mono (by decide)) T.b_NothingLeft_init pass0 rfl T.m_NothingLeft) pa_nil)))))))))
        (pss_one (ps_ret (pv 2))))))), ?_⟩
    have P0 : ExcsAt H [] [] := .nil
    have S0 : Same H H := Same.refl H
    refine ⟨_, rfl, (by show 0 ≤ 1000; decide), fun a0 n0 => ⟨a0, one, rfl, upd_same, fun d0 m0 k0 => ⟨rfl, ?_⟩⟩⟩
    obtain ⟨s0, x0⟩ := made1 (C := T.C_BadName) (f := "name") (v := one) n0 m0 k0
    revert s0 x0
    generalize upd (upd (upd H a0 (exo a0 T.C_BadName none)) d0 (exd d0 [("name", one)])) a0 (exo a0 T.C_BadName (some d0)) = H1
    intro s0 x0
    have P1 := snocX P0 s0 x0
    have S1 := S0.trans s0
    clear P0 S0 s0 x0
    refine ⟨_, rfl, (by show 0 ≤ 1000; decide), fun a1 n1 => ⟨a1, one, rfl, upd_same, fun d1 m1 k1 => ⟨rfl, ?_⟩⟩⟩
    obtain ⟨s1, x1⟩ := made1 (C := T.C_BadRule) (f := "place") (v := one) n1 m1 k1
    revert s1 x1
    generalize upd (upd (upd H1 a1 (exo a1 T.C_BadRule none)) d1 (exd d1 [("place", one)])) a1 (exo a1 T.C_BadRule (some d1)) = H2
    intro s1 x1
    have P2 := snocX P1 s1 x1
    have S2 := S1.trans s1
    clear P1 S1 s1 x1
    refine ⟨_, rfl, (by show 0 ≤ 1000; decide), fun a2 n2 => ⟨a2, one, rfl, upd_same, fun d2 m2 k2 => ⟨rfl, ?_⟩⟩⟩
    obtain ⟨s2, x2⟩ := made1 (C := T.C_BadText) (f := "place") (v := one) n2 m2 k2
    revert s2 x2
    generalize upd (upd (upd H2 a2 (exo a2 T.C_BadText none)) d2 (exd d2 [("place", one)])) a2 (exo a2 T.C_BadText (some d2)) = H3
    intro s2 x2
    have P3 := snocX P2 s2 x2
    have S3 := S2.trans s2
    clear P2 S2 s2 x2
    refine ⟨_, rfl, (by show 0 ≤ 1000; decide), fun a3 n3 => ⟨a3, one, rfl, upd_same, fun d3 m3 k3 => ⟨rfl, ?_⟩⟩⟩
    obtain ⟨s3, x3⟩ := made1 (C := T.C_BadForm) (f := "place") (v := one) n3 m3 k3
    revert s3 x3
    generalize upd (upd (upd H3 a3 (exo a3 T.C_BadForm none)) d3 (exd d3 [("place", one)])) a3 (exo a3 T.C_BadForm (some d3)) = H4
    intro s3 x3
    have P4 := snocX P3 s3 x3
    have S4 := S3.trans s3
    clear P3 S3 s3 x3
    refine ⟨_, rfl, (by show 0 ≤ 1000; decide), fun a4 n4 => ⟨a4, one, rfl, upd_same, fun d4 m4 k4 => ⟨rfl, ?_⟩⟩⟩
    obtain ⟨s4, x4⟩ := made1 (C := T.C_BadPattern) (f := "pattern") (v := one) n4 m4 k4
    revert s4 x4
    generalize upd (upd (upd H4 a4 (exo a4 T.C_BadPattern none)) d4 (exd d4 [("pattern", one)])) a4 (exo a4 T.C_BadPattern (some d4)) = H5
    intro s4 x4
    have P5 := snocX P4 s4 x4
    have S5 := S4.trans s4
    clear P4 S4 s4 x4
    refine ⟨by show 5 ≤ sizeLine; decide, fun l0 q0 => ?_⟩
    have t0 := Same.mk1 (o := .lst [.ref a0, .ref a1, .ref a2, .ref a3, .ref a4]) q0
    have h0 : (upd H5 l0 (.lst [.ref a0, .ref a1, .ref a2, .ref a3, .ref a4])) l0 = some (.lst [.ref a0, .ref a1, .ref a2, .ref a3, .ref a4]) := upd_same
    replace P5 := P5.same t0
    replace S5 := S5.trans t0
    have hl := h0
    clear h0 t0 q0
    revert P5 S5 hl
    generalize upd H5 l0 (.lst [.ref a0, .ref a1, .ref a2, .ref a3, .ref a4]) = H6
    intro P5 S5 hl
    have P6 := P5
    have S6 := S5
    clear P5 S5
    refine ⟨_, rfl, ?_⟩
    refine ⟨_, rfl, (by show 0 ≤ 1000; decide), fun a5 n5 => ⟨a5, one, rfl, upd_same, fun d5 m5 k5 => ⟨rfl, ?_⟩⟩⟩
    obtain ⟨s5, x5⟩ := made1 (C := T.C_BadFact) (f := "place") (v := one) n5 m5 k5
    revert s5 x5
    generalize upd (upd (upd H6 a5 (exo a5 T.C_BadFact none)) d5 (exd d5 [("place", one)])) a5 (exo a5 T.C_BadFact (some d5)) = H7
    intro s5 x5
    have P7 := snocX P6 s5 x5
    have S7 := S6.trans s5
    replace hl := s5 _ _ hl
    clear P6 S6 s5 x5
    refine ⟨_, rfl, (by show 0 ≤ 1000; decide), fun a6 n6 => ⟨a6, one, rfl, upd_same, fun d6 m6 k6 => ⟨rfl, ?_⟩⟩⟩
    obtain ⟨s6, x6⟩ := made1 (C := T.C_BadLevel) (f := "level") (v := one) n6 m6 k6
    revert s6 x6
    generalize upd (upd (upd H7 a6 (exo a6 T.C_BadLevel none)) d6 (exd d6 [("level", one)])) a6 (exo a6 T.C_BadLevel (some d6)) = H8
    intro s6 x6
    have P8 := snocX P7 s6 x6
    have S8 := S7.trans s6
    replace hl := s6 _ _ hl
    clear P7 S7 s6 x6
    refine ⟨_, rfl, (by show 0 ≤ 1000; decide), fun a7 n7 => ⟨a7, one, rfl, upd_same, fun d7 m7 k7 => ⟨rfl, ?_⟩⟩⟩
    obtain ⟨s7, x7⟩ := made1 (C := T.C_BadInteger) (f := "value") (v := one) n7 m7 k7
    revert s7 x7
    generalize upd (upd (upd H8 a7 (exo a7 T.C_BadInteger none)) d7 (exd d7 [("value", one)])) a7 (exo a7 T.C_BadInteger (some d7)) = H9
    intro s7 x7
    have P9 := snocX P8 s7 x7
    have S9 := S8.trans s7
    replace hl := s7 _ _ hl
    clear P8 S8 s7 x7
    refine ⟨_, rfl, (by show 0 ≤ 1000; decide), fun a8 n8 => ⟨a8, one, rfl, upd_same, fun d8 m8 k8 => ⟨rfl, ?_⟩⟩⟩
    obtain ⟨s8, x8⟩ := made1 (C := T.C_BadGoal) (f := "goal") (v := one) n8 m8 k8
    revert s8 x8
    generalize upd (upd (upd H9 a8 (exo a8 T.C_BadGoal none)) d8 (exd d8 [("goal", one)])) a8 (exo a8 T.C_BadGoal (some d8)) = H10
    intro s8 x8
    have P10 := snocX P9 s8 x8
    have S10 := S9.trans s8
    replace hl := s8 _ _ hl
    clear P9 S9 s8 x8
    refine ⟨(by show 0 ≤ 1000; decide), fun a9 n9 => ⟨a9, rfl, upd_same, rfl, ?_⟩⟩
    obtain ⟨s9, x9⟩ := made0 (C := T.C_BadCommand) n9
    revert s9 x9
    generalize upd H10 a9 (exo a9 T.C_BadCommand none) = H11
    intro s9 x9
    have P11 := snocX P10 s9 x9
    have S11 := S10.trans s9
    replace hl := s9 _ _ hl
    clear P10 S10 s9 x9
    refine ⟨by show 5 ≤ sizeLine; decide, fun l1 q1 => ?_⟩
    have t1 := Same.mk1 (o := .lst [.ref a5, .ref a6, .ref a7, .ref a8, .ref a9]) q1
    have h1 : (upd H11 l1 (.lst [.ref a5, .ref a6, .ref a7, .ref a8, .ref a9])) l1 = some (.lst [.ref a5, .ref a6, .ref a7, .ref a8, .ref a9]) := upd_same
    replace hl := t1 _ _ hl
    replace P11 := P11.same t1
    replace S11 := S11.trans t1
    clear t1 q1
    revert h1 hl P11 S11
    generalize upd H11 l1 (.lst [.ref a5, .ref a6, .ref a7, .ref a8, .ref a9]) = H12
    intro h1 hl P11 S11
    have P12 := P11
    have S12 := S11
    clear P11 S11
    refine ⟨_, l1, _, _, rfl, rfl, hl, h1, by show 5 + 5 ≤ sizeLine; decide, fun j1 r1 => ?_⟩
    have u1 := Same.mk1 (o := .lst ([.ref a0, .ref a1, .ref a2, .ref a3, .ref a4] ++ [.ref a5, .ref a6, .ref a7, .ref a8, .ref a9])) r1
    have f1 := S12.free r1
    have hm : (upd H12 j1 (.lst ([.ref a0, .ref a1, .ref a2, .ref a3, .ref a4] ++ [.ref a5, .ref a6, .ref a7, .ref a8, .ref a9]))) j1 = some (.lst [.ref a0, .ref a1, .ref a2, .ref a3, .ref a4, .ref a5, .ref a6, .ref a7, .ref a8, .ref a9]) := upd_same
    replace P12 := P12.same u1
    replace S12 := S12.trans u1
    clear hl h1 u1 r1
    have hl := hm
    clear hm
    revert P12 S12 hl
    generalize upd H12 j1 (.lst ([.ref a0, .ref a1, .ref a2, .ref a3, .ref a4] ++ [.ref a5, .ref a6, .ref a7, .ref a8, .ref a9])) = H13
    intro P12 S12 hl
    have P13 := P12
    have S13 := S12
    clear P12 S12
    refine ⟨_, rfl, ?_⟩
    refine ⟨_, rfl, (by show 0 ≤ 1000; decide), fun a10 n10 => ⟨a10, one, rfl, upd_same, fun d10 m10 k10 => ⟨rfl, ?_⟩⟩⟩
    obtain ⟨s10, x10⟩ := made1 (C := T.C_UnknownName) (f := "name") (v := one) n10 m10 k10
    revert s10 x10
    generalize upd (upd (upd H13 a10 (exo a10 T.C_UnknownName none)) d10 (exd d10 [("name", one)])) a10 (exo a10 T.C_UnknownName (some d10)) = H14
    intro s10 x10
    have P14 := snocX P13 s10 x10
    have S14 := S13.trans s10
    replace hl := s10 _ _ hl
    clear P13 S13 s10 x10
    refine ⟨_, rfl, _, rfl, (by show 0 ≤ 1000; decide), fun a11 n11 => ⟨a11, one, two, rfl, upd_same, fun d11 m11 k11 => ⟨rfl, ?_⟩⟩⟩
    obtain ⟨s11, x11⟩ := made2 (C := T.C_NoKey) (f := "name") (g := "key") (v := one) (u := two) n11 m11 k11
    revert s11 x11
    generalize upd (upd (upd (upd H14 a11 (exo a11 T.C_NoKey none)) d11 (exd d11 [("name", one)])) a11 (exo a11 T.C_NoKey (some d11))) d11 (exd d11 [("key", two), ("name", one)]) = H15
    intro s11 x11
    have P15 := snocX P14 s11 x11
    have S15 := S14.trans s11
    replace hl := s11 _ _ hl
    clear P14 S14 s11 x11
    refine ⟨_, rfl, (by show 0 ≤ 1000; decide), fun a12 n12 => ⟨a12, one, rfl, upd_same, fun d12 m12 k12 => ⟨rfl, ?_⟩⟩⟩
    obtain ⟨s12, x12⟩ := made1 (C := T.C_NoBase) (f := "name") (v := one) n12 m12 k12
    revert s12 x12
    generalize upd (upd (upd H15 a12 (exo a12 T.C_NoBase none)) d12 (exd d12 [("name", one)])) a12 (exo a12 T.C_NoBase (some d12)) = H16
    intro s12 x12
    have P16 := snocX P15 s12 x12
    have S16 := S15.trans s12
    replace hl := s12 _ _ hl
    clear P15 S15 s12 x12
    refine ⟨_, rfl, (by show 0 ≤ 1000; decide), fun a13 n13 => ⟨a13, one, rfl, upd_same, fun d13 m13 k13 => ⟨rfl, ?_⟩⟩⟩
    obtain ⟨s13, x13⟩ := made1 (C := T.C_NoPlace) (f := "place") (v := one) n13 m13 k13
    revert s13 x13
    generalize upd (upd (upd H16 a13 (exo a13 T.C_NoPlace none)) d13 (exd d13 [("place", one)])) a13 (exo a13 T.C_NoPlace (some d13)) = H17
    intro s13 x13
    have P17 := snocX P16 s13 x13
    have S17 := S16.trans s13
    replace hl := s13 _ _ hl
    clear P16 S16 s13 x13
    refine ⟨by show 4 ≤ sizeLine; decide, fun l2 q2 => ?_⟩
    have t2 := Same.mk1 (o := .lst [.ref a10, .ref a11, .ref a12, .ref a13]) q2
    have h2 : (upd H17 l2 (.lst [.ref a10, .ref a11, .ref a12, .ref a13])) l2 = some (.lst [.ref a10, .ref a11, .ref a12, .ref a13]) := upd_same
    replace hl := t2 _ _ hl
    replace P17 := P17.same t2
    replace S17 := S17.trans t2
    clear t2 q2
    revert h2 hl P17 S17
    generalize upd H17 l2 (.lst [.ref a10, .ref a11, .ref a12, .ref a13]) = H18
    intro h2 hl P17 S17
    have P18 := P17
    have S18 := S17
    clear P17 S17
    refine ⟨_, l2, _, _, rfl, rfl, hl, h2, by show 10 + 4 ≤ sizeLine; decide, fun j2 r2 => ?_⟩
    have u2 := Same.mk1 (o := .lst ([.ref a0, .ref a1, .ref a2, .ref a3, .ref a4, .ref a5, .ref a6, .ref a7, .ref a8, .ref a9] ++ [.ref a10, .ref a11, .ref a12, .ref a13])) r2
    have f2 := S18.free r2
    have hm : (upd H18 j2 (.lst ([.ref a0, .ref a1, .ref a2, .ref a3, .ref a4, .ref a5, .ref a6, .ref a7, .ref a8, .ref a9] ++ [.ref a10, .ref a11, .ref a12, .ref a13]))) j2 = some (.lst [.ref a0, .ref a1, .ref a2, .ref a3, .ref a4, .ref a5, .ref a6, .ref a7, .ref a8, .ref a9, .ref a10, .ref a11, .ref a12, .ref a13]) := upd_same
    replace P18 := P18.same u2
    replace S18 := S18.trans u2
    clear hl h2 u2 r2
    have hl := hm
    clear hm
    revert P18 S18 hl
    generalize upd H18 j2 (.lst ([.ref a0, .ref a1, .ref a2, .ref a3, .ref a4, .ref a5, .ref a6, .ref a7, .ref a8, .ref a9] ++ [.ref a10, .ref a11, .ref a12, .ref a13])) = H19
    intro P18 S18 hl
    have P19 := P18
    have S19 := S18
    clear P18 S18
    refine ⟨_, rfl, ?_⟩
    refine ⟨_, rfl, (by show 0 ≤ 1000; decide), fun a14 n14 => ⟨a14, one, rfl, upd_same, fun d14 m14 k14 => ⟨rfl, ?_⟩⟩⟩
    obtain ⟨s14, x14⟩ := made1 (C := T.C_TooMany) (f := "limit") (v := one) n14 m14 k14
    revert s14 x14
    generalize upd (upd (upd H19 a14 (exo a14 T.C_TooMany none)) d14 (exd d14 [("limit", one)])) a14 (exo a14 T.C_TooMany (some d14)) = H20
    intro s14 x14
    have P20 := snocX P19 s14 x14
    have S20 := S19.trans s14
    replace hl := s14 _ _ hl
    clear P19 S19 s14 x14
    refine ⟨_, rfl, (by show 0 ≤ 1000; decide), fun a15 n15 => ⟨a15, one, rfl, upd_same, fun d15 m15 k15 => ⟨rfl, ?_⟩⟩⟩
    obtain ⟨s15, x15⟩ := made1 (C := T.C_Taken) (f := "name") (v := one) n15 m15 k15
    revert s15 x15
    generalize upd (upd (upd H20 a15 (exo a15 T.C_Taken none)) d15 (exd d15 [("name", one)])) a15 (exo a15 T.C_Taken (some d15)) = H21
    intro s15 x15
    have P21 := snocX P20 s15 x15
    have S21 := S20.trans s15
    replace hl := s15 _ _ hl
    clear P20 S20 s15 x15
    refine ⟨_, rfl, (by show 0 ≤ 1000; decide), fun a16 n16 => ⟨a16, one, rfl, upd_same, fun d16 m16 k16 => ⟨rfl, ?_⟩⟩⟩
    obtain ⟨s16, x16⟩ := made1 (C := T.C_InUse) (f := "name") (v := one) n16 m16 k16
    revert s16 x16
    generalize upd (upd (upd H21 a16 (exo a16 T.C_InUse none)) d16 (exd d16 [("name", one)])) a16 (exo a16 T.C_InUse (some d16)) = H22
    intro s16 x16
    have P22 := snocX P21 s16 x16
    have S22 := S21.trans s16
    replace hl := s16 _ _ hl
    clear P21 S21 s16 x16
    refine ⟨_, rfl, (by show 0 ≤ 1000; decide), fun a17 n17 => ⟨a17, one, rfl, upd_same, fun d17 m17 k17 => ⟨rfl, ?_⟩⟩⟩
    obtain ⟨s17, x17⟩ := made1 (C := T.C_Stale) (f := "key") (v := one) n17 m17 k17
    revert s17 x17
    generalize upd (upd (upd H22 a17 (exo a17 T.C_Stale none)) d17 (exd d17 [("key", one)])) a17 (exo a17 T.C_Stale (some d17)) = H23
    intro s17 x17
    have P23 := snocX P22 s17 x17
    have S23 := S22.trans s17
    replace hl := s17 _ _ hl
    clear P22 S22 s17 x17
    refine ⟨(by show 0 ≤ 1000; decide), fun a18 n18 => ⟨a18, rfl, upd_same, rfl, ?_⟩⟩
    obtain ⟨s18, x18⟩ := made0 (C := T.C_Busy) n18
    revert s18 x18
    generalize upd H23 a18 (exo a18 T.C_Busy none) = H24
    intro s18 x18
    have P24 := snocX P23 s18 x18
    have S24 := S23.trans s18
    replace hl := s18 _ _ hl
    clear P23 S23 s18 x18
    refine ⟨(by show 0 ≤ 1000; decide), fun a19 n19 => ⟨a19, rfl, upd_same, rfl, ?_⟩⟩
    obtain ⟨s19, x19⟩ := made0 (C := T.C_NothingLeft) n19
    revert s19 x19
    generalize upd H24 a19 (exo a19 T.C_NothingLeft none) = H25
    intro s19 x19
    have P25 := snocX P24 s19 x19
    have S25 := S24.trans s19
    replace hl := s19 _ _ hl
    clear P24 S24 s19 x19
    refine ⟨by show 6 ≤ sizeLine; decide, fun l3 q3 => ?_⟩
    have t3 := Same.mk1 (o := .lst [.ref a14, .ref a15, .ref a16, .ref a17, .ref a18, .ref a19]) q3
    have h3 : (upd H25 l3 (.lst [.ref a14, .ref a15, .ref a16, .ref a17, .ref a18, .ref a19])) l3 = some (.lst [.ref a14, .ref a15, .ref a16, .ref a17, .ref a18, .ref a19]) := upd_same
    replace hl := t3 _ _ hl
    replace P25 := P25.same t3
    replace S25 := S25.trans t3
    clear t3 q3
    revert h3 hl P25 S25
    generalize upd H25 l3 (.lst [.ref a14, .ref a15, .ref a16, .ref a17, .ref a18, .ref a19]) = H26
    intro h3 hl P25 S25
    have P26 := P25
    have S26 := S25
    clear P25 S25
    refine ⟨_, l3, _, _, rfl, rfl, hl, h3, by show 14 + 6 ≤ sizeLine; decide, fun j3 r3 => ?_⟩
    have u3 := Same.mk1 (o := .lst ([.ref a0, .ref a1, .ref a2, .ref a3, .ref a4, .ref a5, .ref a6, .ref a7, .ref a8, .ref a9, .ref a10, .ref a11, .ref a12, .ref a13] ++ [.ref a14, .ref a15, .ref a16, .ref a17, .ref a18, .ref a19])) r3
    have f3 := S26.free r3
    have hm : (upd H26 j3 (.lst ([.ref a0, .ref a1, .ref a2, .ref a3, .ref a4, .ref a5, .ref a6, .ref a7, .ref a8, .ref a9, .ref a10, .ref a11, .ref a12, .ref a13] ++ [.ref a14, .ref a15, .ref a16, .ref a17, .ref a18, .ref a19]))) j3 = some (.lst [.ref a0, .ref a1, .ref a2, .ref a3, .ref a4, .ref a5, .ref a6, .ref a7, .ref a8, .ref a9, .ref a10, .ref a11, .ref a12, .ref a13, .ref a14, .ref a15, .ref a16, .ref a17, .ref a18, .ref a19]) := upd_same
    replace P26 := P26.same u3
    replace S26 := S26.trans u3
    clear hl h3 u3 r3
    have hl := hm
    clear hm
    revert P26 S26 hl
    generalize upd H26 j3 (.lst ([.ref a0, .ref a1, .ref a2, .ref a3, .ref a4, .ref a5, .ref a6, .ref a7, .ref a8, .ref a9, .ref a10, .ref a11, .ref a12, .ref a13] ++ [.ref a14, .ref a15, .ref a16, .ref a17, .ref a18, .ref a19])) = H27
    intro P26 S26 hl
    have P27 := P26
    have S27 := S26
    clear P26 S26
    refine ⟨_, rfl, ?_⟩
    exact kk j3 _ f3 S27 ⟨[a0, a1, a2, a3, a4, a5, a6, a7, a8, a9, a10, a11, a12, a13, a14, a15, a16, a17, a18, a19], hl, P27⟩

/-- the fields, a list for each exception -/
def rowsX (one two : V) : List (List V) := [[one], [one], [one], [one], [one], [one], [one], [one], [one], [], [one], [one, two], [one], [one], [one], [one], [one], [one], [], []]
abbrev RowsAt (H : Hp) (rows : List (List V)) (fl : List Addr) : Prop := Paired (fun (xs : List V) a => H a = some (.lst xs)) rows fl
theorem RowsAt.same {H H' : Hp} {rows : List (List V)} {fl : List Addr} (s : Same H H') (p : RowsAt H rows fl) : RowsAt H' rows fl := Paired.mapP p fun _ _ h => s _ _ h
theorem snocR {H H' : Hp} {rows : List (List V)} {fl : List Addr} {xs : List V} {a : Addr} (p : RowsAt H rows fl) (s : Same H H') (h : H' a = some (.lst xs)) : RowsAt H' (rows ++ [xs]) (fl ++ [a]) := Paired.snoc (p.same s) h
theorem pconsX {α β : Type} {F : α → β → Prop} {c : α} {t : List α} {es : List β} (p : Paired F (c :: t) es) : ∃ a r, es = a :: r ∧ F c a ∧ Paired F t r := by
  cases p with
  | cons h r => exact ⟨_, _, rfl, h, r⟩
def FieldsAt (H : Hp) (one two : V) (l : Addr) : Prop := ∃ fl : List Addr, H l = some (.lst (fl.map V.ref)) ∧ RowsAt H (rowsX one two) fl
def sp_law_fields (T : Txt K mg) : Sp := fun vs H Q _ => ∃ (l : Addr) (one two : V), vs = [.ref l] ∧ MadeX H (tabX T one two) l ∧ ∀ (m : Addr) (H' : Hp), H m = none → Same H H' → FieldsAt H' one two m → Q (.ref m) H'
theorem ok_law_fields (T : Txt K mg) : FnOk P w K mg base CX0 1 T.f_law_fields T.d_law_fields ["_law_some"] (sp_law_fields T) := by
  refine T.F_law_fields.ok sc_law_fields (fun vs H Q E h => ?_) (fun cdv A outer s H vs Q E hr h => ?_)
  · obtain ⟨l, one, two, rfl, _⟩ := h
    rfl
  · obtain ⟨l, one, two, rfl, ⟨es, hl, P⟩, kk⟩ := h
    refine ⟨_, (pss_cons (ps_set (i := 1) sc_law_fields.nd rfl (.inl rfl) (pe_lst (pa_cons (pe_lst (pa_cons (pe_fldV (pe_ix (ix_list : IxR _ (rIxL K)) (pv 0) pe_int (fun _ _ => rfl))) pa_nil)) (pa_cons (pe_lst (pa_cons (pe_fldV (pe_ix (ix_list : IxR _ (rIxL K)) (pv 0) pe_int (fun _ _ => rfl))) pa_nil)) (pa_cons (pe_lst (pa_cons (pe_fldV (pe_ix (ix_list : IxR _ (rIxL K)) (pv 0) pe_int (fun _ _ => rfl))) pa_nil)) (pa_cons (pe_lst (pa_cons (pe_fldV (pe_ix (ix_list : IxR _ (rIxL K)) (pv 0) pe_int (fun _ _ => rfl))) pa_nil)) (pa_cons (pe_lst (pa_cons (pe_fldV (pe_ix (ix_list : IxR _ (rIxL K)) (pv 0) pe_int (fun _ _ => rfl))) pa_nil)) (pa_cons (pe_lst (pa_cons (pe_fldV (pe_ix (ix_list : IxR _ (rIxL K)) (pv 0) pe_int (fun _ _ => rfl))) pa_nil)) pa_nil))))))))
        (pss_cons (ps_set (i := 1) sc_law_fields.nd rfl (.inl rfl) (pe_op op_cat (pv 1) (pe_lst (pa_cons (pe_lst (pa_cons (pe_fldV (pe_ix (ix_list : IxR _ (rIxL K)) (pv 0) pe_int (fun _ _ => rfl))) pa_nil)) (pa_cons (pe_lst (pa_cons (pe_fldV (pe_ix (ix_list : IxR _ (rIxL K)) (pv 0) pe_int (fun _ _ => rfl))) pa_nil)) (pa_cons (pe_lst (pa_cons (pe_fldV (pe_ix (ix_list : IxR _ (rIxL K)) (pv 0) pe_int (fun _ _ => rfl))) pa_nil)) (pa_cons (pe_lst pa_nil) (pa_cons (pe_lst (pa_cons (pe_fldV (pe_ix (ix_list : IxR _ (rIxL K)) (pv 0) pe_int (fun _ _ => rfl))) pa_nil)) pa_nil))))))))
        (pss_cons (ps_set (i := 1) sc_law_fields.nd rfl (.inl rfl) (pe_op op_cat (pv 1) (pe_lst (pa_cons (pe_lst (pa_cons (pe_fldV (pe_ix (ix_list : IxR _ (rIxL K)) (pv 0) pe_int (fun _ _ => rfl))) (pa_cons (pe_fldV (pe_ix (ix_list : IxR _ (rIxL K)) (pv 0) pe_int (fun _ _ => rfl))) pa_nil))) (pa_cons (pe_lst (pa_cons (pe_fldV (pe_ix (ix_list : IxR _ (rIxL K)) (pv 0) pe_int (fun _ _ => rfl))) pa_nil)) (pa_cons (pe_lst (pa_cons (pe_fldV (pe_ix (ix_list : IxR _ (rIxL K)) (pv 0) pe_int (fun _ _ => rfl))) pa_nil)) (pa_cons (pe_lst (pa_cons (pe_fldV (pe_ix (ix_list : IxR _ (rIxL K)) (pv 0) pe_int (fun _ _ => rfl))) pa_nil)) pa_nil)))))))
        (pss_one (ps_ret (pe_op op_cat (pv 1) (pe_lst (pa_cons (pe_lst (pa_cons (pe_fldV (pe_ix (ix_list : IxR _ (rIxL K)) (pv 0) pe_int (fun _ _ => rfl))) pa_nil)) (pa_cons (pe_lst (pa_cons (pe_fldV (pe_ix (ix_list : IxR _ (rIxL K)) (pv 0) pe_int (fun _ _ => rfl))) pa_nil)) (pa_cons (pe_lst (pa_cons (pe_fldV (pe_ix (ix_list : IxR _ (rIxL K)) (pv 0) pe_int (fun _ _ => rfl))) pa_nil)) (pa_cons (pe_lst pa_nil) (pa_cons (pe_lst pa_nil) pa_nil)))))))))))), ?_⟩
    unfold tabX at P
    obtain ⟨a0, es0, rfl, x0, P0⟩ := pconsX P
    obtain ⟨a1, es1, rfl, x1, P1⟩ := pconsX P0
    obtain ⟨a2, es2, rfl, x2, P2⟩ := pconsX P1
    obtain ⟨a3, es3, rfl, x3, P3⟩ := pconsX P2
    obtain ⟨a4, es4, rfl, x4, P4⟩ := pconsX P3
    obtain ⟨a5, es5, rfl, x5, P5⟩ := pconsX P4
    obtain ⟨a6, es6, rfl, x6, P6⟩ := pconsX P5
    obtain ⟨a7, es7, rfl, x7, P7⟩ := pconsX P6
    obtain ⟨a8, es8, rfl, x8, P8⟩ := pconsX P7
    obtain ⟨a9, es9, rfl, x9, P9⟩ := pconsX P8
    obtain ⟨a10, es10, rfl, x10, P10⟩ := pconsX P9
    obtain ⟨a11, es11, rfl, x11, P11⟩ := pconsX P10
    obtain ⟨a12, es12, rfl, x12, P12⟩ := pconsX P11
    obtain ⟨a13, es13, rfl, x13, P13⟩ := pconsX P12
    obtain ⟨a14, es14, rfl, x14, P14⟩ := pconsX P13
    obtain ⟨a15, es15, rfl, x15, P15⟩ := pconsX P14
    obtain ⟨a16, es16, rfl, x16, P16⟩ := pconsX P15
    obtain ⟨a17, es17, rfl, x17, P17⟩ := pconsX P16
    obtain ⟨a18, es18, rfl, x18, P18⟩ := pconsX P17
    obtain ⟨a19, es19, rfl, x19, P19⟩ := pconsX P18
    cases P19
    have S0 : Same H H := Same.refl H
    have R0 : RowsAt H [] [] := .nil
    refine ⟨_, rfl, l, _, 0, _, rfl, rfl, SqL.of (S0 _ _ hl), atI_nat (j := 0) rfl, a0, T.C_BadName, _, one, rfl, T.x_BadName.xf, T.x_BadName.nf, x0.same S0, rfl, by show 1 ≤ sizeLine; decide, fun f0 q0 => ?_⟩
    have t0 := Same.mk1 (o := .lst [one]) q0
    have R1 := snocR R0 t0 (upd_same (H := H) (a := f0) (o := .lst [one]))
    have S1 := S0.trans t0
    clear t0 q0 S0 R0
    revert R1 S1
    generalize upd H f0 (.lst [one]) = H1
    intro R1 S1
    refine ⟨_, rfl, l, _, 1, _, rfl, rfl, SqL.of (S1 _ _ hl), atI_nat (j := 1) rfl, a1, T.C_BadRule, _, one, rfl, T.x_BadRule.xf, T.x_BadRule.nf, x1.same S1, rfl, by show 1 ≤ sizeLine; decide, fun f1 q1 => ?_⟩
    have t1 := Same.mk1 (o := .lst [one]) q1
    have R2 := snocR R1 t1 (upd_same (H := H1) (a := f1) (o := .lst [one]))
    have S2 := S1.trans t1
    clear t1 q1 S1 R1
    revert R2 S2
    generalize upd H1 f1 (.lst [one]) = H2
    intro R2 S2
    refine ⟨_, rfl, l, _, 2, _, rfl, rfl, SqL.of (S2 _ _ hl), atI_nat (j := 2) rfl, a2, T.C_BadText, _, one, rfl, T.x_BadText.xf, T.x_BadText.nf, x2.same S2, rfl, by show 1 ≤ sizeLine; decide, fun f2 q2 => ?_⟩
    have t2 := Same.mk1 (o := .lst [one]) q2
    have R3 := snocR R2 t2 (upd_same (H := H2) (a := f2) (o := .lst [one]))
    have S3 := S2.trans t2
    clear t2 q2 S2 R2
    revert R3 S3
    generalize upd H2 f2 (.lst [one]) = H3
    intro R3 S3
    refine ⟨_, rfl, l, _, 3, _, rfl, rfl, SqL.of (S3 _ _ hl), atI_nat (j := 3) rfl, a3, T.C_BadForm, _, one, rfl, T.x_BadForm.xf, T.x_BadForm.nf, x3.same S3, rfl, by show 1 ≤ sizeLine; decide, fun f3 q3 => ?_⟩
    have t3 := Same.mk1 (o := .lst [one]) q3
    have R4 := snocR R3 t3 (upd_same (H := H3) (a := f3) (o := .lst [one]))
    have S4 := S3.trans t3
    clear t3 q3 S3 R3
    revert R4 S4
    generalize upd H3 f3 (.lst [one]) = H4
    intro R4 S4
    refine ⟨_, rfl, l, _, 4, _, rfl, rfl, SqL.of (S4 _ _ hl), atI_nat (j := 4) rfl, a4, T.C_BadPattern, _, one, rfl, T.x_BadPattern.xf, T.x_BadPattern.nf, x4.same S4, rfl, by show 1 ≤ sizeLine; decide, fun f4 q4 => ?_⟩
    have t4 := Same.mk1 (o := .lst [one]) q4
    have R5 := snocR R4 t4 (upd_same (H := H4) (a := f4) (o := .lst [one]))
    have S5 := S4.trans t4
    clear t4 q4 S4 R4
    revert R5 S5
    generalize upd H4 f4 (.lst [one]) = H5
    intro R5 S5
    refine ⟨_, rfl, l, _, 5, _, rfl, rfl, SqL.of (S5 _ _ hl), atI_nat (j := 5) rfl, a5, T.C_BadFact, _, one, rfl, T.x_BadFact.xf, T.x_BadFact.nf, x5.same S5, rfl, by show 1 ≤ sizeLine; decide, fun f5 q5 => ?_⟩
    have t5 := Same.mk1 (o := .lst [one]) q5
    have R6 := snocR R5 t5 (upd_same (H := H5) (a := f5) (o := .lst [one]))
    have S6 := S5.trans t5
    clear t5 q5 S5 R5
    revert R6 S6
    generalize upd H5 f5 (.lst [one]) = H6
    intro R6 S6
    refine ⟨by show 6 ≤ sizeLine; decide, fun g0 w0 => ?_⟩
    have t := Same.mk1 (o := .lst [.ref f0, .ref f1, .ref f2, .ref f3, .ref f4, .ref f5]) w0
    have hg : (upd H6 g0 (.lst [.ref f0, .ref f1, .ref f2, .ref f3, .ref f4, .ref f5])) g0 = some (.lst [.ref f0, .ref f1, .ref f2, .ref f3, .ref f4, .ref f5]) := upd_same
    replace R6 := R6.same t
    replace S6 := S6.trans t
    clear t w0
    revert hg R6 S6
    generalize upd H6 g0 (.lst [.ref f0, .ref f1, .ref f2, .ref f3, .ref f4, .ref f5]) = H7
    intro hg R6 S6
    have R7 := R6
    have S7 := S6
    clear R6 S6
    have hm := hg
    clear hg
    refine ⟨_, rfl, ?_⟩
    refine ⟨_, rfl, l, _, 6, _, rfl, rfl, SqL.of (S7 _ _ hl), atI_nat (j := 6) rfl, a6, T.C_BadLevel, _, one, rfl, T.x_BadLevel.xf, T.x_BadLevel.nf, x6.same S7, rfl, by show 1 ≤ sizeLine; decide, fun f6 q6 => ?_⟩
    have t6 := Same.mk1 (o := .lst [one]) q6
    have R8 := snocR R7 t6 (upd_same (H := H7) (a := f6) (o := .lst [one]))
    have S8 := S7.trans t6
    replace hm := t6 _ _ hm
    clear t6 q6 S7 R7
    revert R8 S8 hm
    generalize upd H7 f6 (.lst [one]) = H8
    intro R8 S8 hm
    refine ⟨_, rfl, l, _, 7, _, rfl, rfl, SqL.of (S8 _ _ hl), atI_nat (j := 7) rfl, a7, T.C_BadInteger, _, one, rfl, T.x_BadInteger.xf, T.x_BadInteger.nf, x7.same S8, rfl, by show 1 ≤ sizeLine; decide, fun f7 q7 => ?_⟩
    have t7 := Same.mk1 (o := .lst [one]) q7
    have R9 := snocR R8 t7 (upd_same (H := H8) (a := f7) (o := .lst [one]))
    have S9 := S8.trans t7
    replace hm := t7 _ _ hm
    clear t7 q7 S8 R8
    revert R9 S9 hm
    generalize upd H8 f7 (.lst [one]) = H9
    intro R9 S9 hm
    refine ⟨_, rfl, l, _, 8, _, rfl, rfl, SqL.of (S9 _ _ hl), atI_nat (j := 8) rfl, a8, T.C_BadGoal, _, one, rfl, T.x_BadGoal.xf, T.x_BadGoal.nf, x8.same S9, rfl, by show 1 ≤ sizeLine; decide, fun f8 q8 => ?_⟩
    have t8 := Same.mk1 (o := .lst [one]) q8
    have R10 := snocR R9 t8 (upd_same (H := H9) (a := f8) (o := .lst [one]))
    have S10 := S9.trans t8
    replace hm := t8 _ _ hm
    clear t8 q8 S9 R9
    revert R10 S10 hm
    generalize upd H9 f8 (.lst [one]) = H10
    intro R10 S10 hm
    refine ⟨by show 0 ≤ sizeLine; decide, fun f9 q9 => ?_⟩
    have t9 := Same.mk1 (o := .lst []) q9
    have R11 := snocR R10 t9 (upd_same (H := H10) (a := f9) (o := .lst []))
    have S11 := S10.trans t9
    replace hm := t9 _ _ hm
    clear t9 q9 S10 R10
    revert R11 S11 hm
    generalize upd H10 f9 (.lst []) = H11
    intro R11 S11 hm
    refine ⟨_, rfl, l, _, 10, _, rfl, rfl, SqL.of (S11 _ _ hl), atI_nat (j := 10) rfl, a10, T.C_UnknownName, _, one, rfl, T.x_UnknownName.xf, T.x_UnknownName.nf, x10.same S11, rfl, by show 1 ≤ sizeLine; decide, fun f10 q10 => ?_⟩
    have t10 := Same.mk1 (o := .lst [one]) q10
    have R12 := snocR R11 t10 (upd_same (H := H11) (a := f10) (o := .lst [one]))
    have S12 := S11.trans t10
    replace hm := t10 _ _ hm
    clear t10 q10 S11 R11
    revert R12 S12 hm
    generalize upd H11 f10 (.lst [one]) = H12
    intro R12 S12 hm
    refine ⟨by show 5 ≤ sizeLine; decide, fun g1 w1 => ?_⟩
    have t := Same.mk1 (o := .lst [.ref f6, .ref f7, .ref f8, .ref f9, .ref f10]) w1
    have hg : (upd H12 g1 (.lst [.ref f6, .ref f7, .ref f8, .ref f9, .ref f10])) g1 = some (.lst [.ref f6, .ref f7, .ref f8, .ref f9, .ref f10]) := upd_same
    replace R12 := R12.same t
    replace S12 := S12.trans t
    replace hm := t _ _ hm
    clear t w1
    revert hg R12 S12 hm
    generalize upd H12 g1 (.lst [.ref f6, .ref f7, .ref f8, .ref f9, .ref f10]) = H13
    intro hg R12 S12 hm
    have R13 := R12
    have S13 := S12
    clear R12 S12
    refine ⟨_, g1, _, _, rfl, rfl, hm, hg, by show 6 + 5 ≤ sizeLine; decide, fun j1 r1 => ?_⟩
    have t := Same.mk1 (o := .lst ([.ref f0, .ref f1, .ref f2, .ref f3, .ref f4, .ref f5] ++ [.ref f6, .ref f7, .ref f8, .ref f9, .ref f10])) r1
    have hn : (upd H13 j1 (.lst ([.ref f0, .ref f1, .ref f2, .ref f3, .ref f4, .ref f5] ++ [.ref f6, .ref f7, .ref f8, .ref f9, .ref f10]))) j1 = some (.lst [.ref f0, .ref f1, .ref f2, .ref f3, .ref f4, .ref f5, .ref f6, .ref f7, .ref f8, .ref f9, .ref f10]) := upd_same
    replace R13 := R13.same t
    replace S13 := S13.trans t
    clear t r1 hm hg
    revert hn R13 S13
    generalize upd H13 j1 (.lst ([.ref f0, .ref f1, .ref f2, .ref f3, .ref f4, .ref f5] ++ [.ref f6, .ref f7, .ref f8, .ref f9, .ref f10])) = H14
    intro hn R13 S13
    have R14 := R13
    have S14 := S13
    clear R13 S13
    have hm := hn
    clear hn
    refine ⟨_, rfl, ?_⟩
    refine ⟨_, rfl, l, _, 11, _, rfl, rfl, SqL.of (S14 _ _ hl), atI_nat (j := 11) rfl, a11, T.C_NoKey, _, one, rfl, T.x_NoKey.xf, T.x_NoKey.nf, x11.same S14, rfl, _, rfl, l, _, 11, _, rfl, rfl, SqL.of (S14 _ _ hl), atI_nat (j := 11) rfl, a11, T.C_NoKey, _, two, rfl, T.x_NoKey.xf, T.nf2_NoKey, x11.same S14, rfl, by show 2 ≤ sizeLine; decide, fun f11 q11 => ?_⟩
    have t11 := Same.mk1 (o := .lst [one, two]) q11
    have R15 := snocR R14 t11 (upd_same (H := H14) (a := f11) (o := .lst [one, two]))
    have S15 := S14.trans t11
    replace hm := t11 _ _ hm
    clear t11 q11 S14 R14
    revert R15 S15 hm
    generalize upd H14 f11 (.lst [one, two]) = H15
    intro R15 S15 hm
    refine ⟨_, rfl, l, _, 12, _, rfl, rfl, SqL.of (S15 _ _ hl), atI_nat (j := 12) rfl, a12, T.C_NoBase, _, one, rfl, T.x_NoBase.xf, T.x_NoBase.nf, x12.same S15, rfl, by show 1 ≤ sizeLine; decide, fun f12 q12 => ?_⟩
    have t12 := Same.mk1 (o := .lst [one]) q12
    have R16 := snocR R15 t12 (upd_same (H := H15) (a := f12) (o := .lst [one]))
    have S16 := S15.trans t12
    replace hm := t12 _ _ hm
    clear t12 q12 S15 R15
    revert R16 S16 hm
    generalize upd H15 f12 (.lst [one]) = H16
    intro R16 S16 hm
    refine ⟨_, rfl, l, _, 13, _, rfl, rfl, SqL.of (S16 _ _ hl), atI_nat (j := 13) rfl, a13, T.C_NoPlace, _, one, rfl, T.x_NoPlace.xf, T.x_NoPlace.nf, x13.same S16, rfl, by show 1 ≤ sizeLine; decide, fun f13 q13 => ?_⟩
    have t13 := Same.mk1 (o := .lst [one]) q13
    have R17 := snocR R16 t13 (upd_same (H := H16) (a := f13) (o := .lst [one]))
    have S17 := S16.trans t13
    replace hm := t13 _ _ hm
    clear t13 q13 S16 R16
    revert R17 S17 hm
    generalize upd H16 f13 (.lst [one]) = H17
    intro R17 S17 hm
    refine ⟨_, rfl, l, _, 14, _, rfl, rfl, SqL.of (S17 _ _ hl), atI_nat (j := 14) rfl, a14, T.C_TooMany, _, one, rfl, T.x_TooMany.xf, T.x_TooMany.nf, x14.same S17, rfl, by show 1 ≤ sizeLine; decide, fun f14 q14 => ?_⟩
    have t14 := Same.mk1 (o := .lst [one]) q14
    have R18 := snocR R17 t14 (upd_same (H := H17) (a := f14) (o := .lst [one]))
    have S18 := S17.trans t14
    replace hm := t14 _ _ hm
    clear t14 q14 S17 R17
    revert R18 S18 hm
    generalize upd H17 f14 (.lst [one]) = H18
    intro R18 S18 hm
    refine ⟨by show 4 ≤ sizeLine; decide, fun g2 w2 => ?_⟩
    have t := Same.mk1 (o := .lst [.ref f11, .ref f12, .ref f13, .ref f14]) w2
    have hg : (upd H18 g2 (.lst [.ref f11, .ref f12, .ref f13, .ref f14])) g2 = some (.lst [.ref f11, .ref f12, .ref f13, .ref f14]) := upd_same
    replace R18 := R18.same t
    replace S18 := S18.trans t
    replace hm := t _ _ hm
    clear t w2
    revert hg R18 S18 hm
    generalize upd H18 g2 (.lst [.ref f11, .ref f12, .ref f13, .ref f14]) = H19
    intro hg R18 S18 hm
    have R19 := R18
    have S19 := S18
    clear R18 S18
    refine ⟨_, g2, _, _, rfl, rfl, hm, hg, by show 11 + 4 ≤ sizeLine; decide, fun j2 r2 => ?_⟩
    have t := Same.mk1 (o := .lst ([.ref f0, .ref f1, .ref f2, .ref f3, .ref f4, .ref f5, .ref f6, .ref f7, .ref f8, .ref f9, .ref f10] ++ [.ref f11, .ref f12, .ref f13, .ref f14])) r2
    have hn : (upd H19 j2 (.lst ([.ref f0, .ref f1, .ref f2, .ref f3, .ref f4, .ref f5, .ref f6, .ref f7, .ref f8, .ref f9, .ref f10] ++ [.ref f11, .ref f12, .ref f13, .ref f14]))) j2 = some (.lst [.ref f0, .ref f1, .ref f2, .ref f3, .ref f4, .ref f5, .ref f6, .ref f7, .ref f8, .ref f9, .ref f10, .ref f11, .ref f12, .ref f13, .ref f14]) := upd_same
    replace R19 := R19.same t
    replace S19 := S19.trans t
    clear t r2 hm hg
    revert hn R19 S19
    generalize upd H19 j2 (.lst ([.ref f0, .ref f1, .ref f2, .ref f3, .ref f4, .ref f5, .ref f6, .ref f7, .ref f8, .ref f9, .ref f10] ++ [.ref f11, .ref f12, .ref f13, .ref f14])) = H20
    intro hn R19 S19
    have R20 := R19
    have S20 := S19
    clear R19 S19
    have hm := hn
    clear hn
    refine ⟨_, rfl, ?_⟩
    refine ⟨_, rfl, l, _, 15, _, rfl, rfl, SqL.of (S20 _ _ hl), atI_nat (j := 15) rfl, a15, T.C_Taken, _, one, rfl, T.x_Taken.xf, T.x_Taken.nf, x15.same S20, rfl, by show 1 ≤ sizeLine; decide, fun f15 q15 => ?_⟩
    have t15 := Same.mk1 (o := .lst [one]) q15
    have R21 := snocR R20 t15 (upd_same (H := H20) (a := f15) (o := .lst [one]))
    have S21 := S20.trans t15
    replace hm := t15 _ _ hm
    clear t15 q15 S20 R20
    revert R21 S21 hm
    generalize upd H20 f15 (.lst [one]) = H21
    intro R21 S21 hm
    refine ⟨_, rfl, l, _, 16, _, rfl, rfl, SqL.of (S21 _ _ hl), atI_nat (j := 16) rfl, a16, T.C_InUse, _, one, rfl, T.x_InUse.xf, T.x_InUse.nf, x16.same S21, rfl, by show 1 ≤ sizeLine; decide, fun f16 q16 => ?_⟩
    have t16 := Same.mk1 (o := .lst [one]) q16
    have R22 := snocR R21 t16 (upd_same (H := H21) (a := f16) (o := .lst [one]))
    have S22 := S21.trans t16
    replace hm := t16 _ _ hm
    clear t16 q16 S21 R21
    revert R22 S22 hm
    generalize upd H21 f16 (.lst [one]) = H22
    intro R22 S22 hm
    refine ⟨_, rfl, l, _, 17, _, rfl, rfl, SqL.of (S22 _ _ hl), atI_nat (j := 17) rfl, a17, T.C_Stale, _, one, rfl, T.x_Stale.xf, T.x_Stale.nf, x17.same S22, rfl, by show 1 ≤ sizeLine; decide, fun f17 q17 => ?_⟩
    have t17 := Same.mk1 (o := .lst [one]) q17
    have R23 := snocR R22 t17 (upd_same (H := H22) (a := f17) (o := .lst [one]))
    have S23 := S22.trans t17
    replace hm := t17 _ _ hm
    clear t17 q17 S22 R22
    revert R23 S23 hm
    generalize upd H22 f17 (.lst [one]) = H23
    intro R23 S23 hm
    refine ⟨by show 0 ≤ sizeLine; decide, fun f18 q18 => ?_⟩
    have t18 := Same.mk1 (o := .lst []) q18
    have R24 := snocR R23 t18 (upd_same (H := H23) (a := f18) (o := .lst []))
    have S24 := S23.trans t18
    replace hm := t18 _ _ hm
    clear t18 q18 S23 R23
    revert R24 S24 hm
    generalize upd H23 f18 (.lst []) = H24
    intro R24 S24 hm
    refine ⟨by show 0 ≤ sizeLine; decide, fun f19 q19 => ?_⟩
    have t19 := Same.mk1 (o := .lst []) q19
    have R25 := snocR R24 t19 (upd_same (H := H24) (a := f19) (o := .lst []))
    have S25 := S24.trans t19
    replace hm := t19 _ _ hm
    clear t19 q19 S24 R24
    revert R25 S25 hm
    generalize upd H24 f19 (.lst []) = H25
    intro R25 S25 hm
    refine ⟨by show 5 ≤ sizeLine; decide, fun g3 w3 => ?_⟩
    have t := Same.mk1 (o := .lst [.ref f15, .ref f16, .ref f17, .ref f18, .ref f19]) w3
    have hg : (upd H25 g3 (.lst [.ref f15, .ref f16, .ref f17, .ref f18, .ref f19])) g3 = some (.lst [.ref f15, .ref f16, .ref f17, .ref f18, .ref f19]) := upd_same
    replace R25 := R25.same t
    replace S25 := S25.trans t
    replace hm := t _ _ hm
    clear t w3
    revert hg R25 S25 hm
    generalize upd H25 g3 (.lst [.ref f15, .ref f16, .ref f17, .ref f18, .ref f19]) = H26
    intro hg R25 S25 hm
    have R26 := R25
    have S26 := S25
    clear R25 S25
    refine ⟨_, g3, _, _, rfl, rfl, hm, hg, by show 15 + 5 ≤ sizeLine; decide, fun j3 r3 => ?_⟩
    exact kk j3 _ (S26.free r3) (S26.trans (Same.mk1 r3)) ⟨[f0, f1, f2, f3, f4, f5, f6, f7, f8, f9, f10, f11, f12, f13, f14, f15, f16, f17, f18, f19], upd_same, R26.same (Same.mk1 r3)⟩

/-- what an exception of the class i is -/
structure KindX (T : Txt K mg) (C : Addr) (i : Nat) : Prop where
  ec : ExcC K C
  xf : XfC K C
  k0 : PySem.W.kitOne K (.ref C) (.ref T.C_BadName) = some (Nat.beq 0 i)
  k1 : PySem.W.kitOne K (.ref C) (.ref T.C_BadRule) = some (Nat.beq 1 i)
  k2 : PySem.W.kitOne K (.ref C) (.ref T.C_BadText) = some (Nat.beq 2 i)
  k3 : PySem.W.kitOne K (.ref C) (.ref T.C_BadForm) = some (Nat.beq 3 i)
  k4 : PySem.W.kitOne K (.ref C) (.ref T.C_BadPattern) = some (Nat.beq 4 i)
  k5 : PySem.W.kitOne K (.ref C) (.ref T.C_BadFact) = some (Nat.beq 5 i)
  k6 : PySem.W.kitOne K (.ref C) (.ref T.C_BadLevel) = some (Nat.beq 6 i)
  k7 : PySem.W.kitOne K (.ref C) (.ref T.C_BadInteger) = some (Nat.beq 7 i)
  k8 : PySem.W.kitOne K (.ref C) (.ref T.C_BadGoal) = some (Nat.beq 8 i)
  k9 : PySem.W.kitOne K (.ref C) (.ref T.C_BadCommand) = some (Nat.beq 9 i)
  k10 : PySem.W.kitOne K (.ref C) (.ref T.C_UnknownName) = some (Nat.beq 10 i)
  k11 : PySem.W.kitOne K (.ref C) (.ref T.C_NoKey) = some (Nat.beq 11 i)
  k12 : PySem.W.kitOne K (.ref C) (.ref T.C_NoBase) = some (Nat.beq 12 i)
  k13 : PySem.W.kitOne K (.ref C) (.ref T.C_NoPlace) = some (Nat.beq 13 i)
  k14 : PySem.W.kitOne K (.ref C) (.ref T.C_TooMany) = some (Nat.beq 14 i)
  k15 : PySem.W.kitOne K (.ref C) (.ref T.C_Taken) = some (Nat.beq 15 i)
  k16 : PySem.W.kitOne K (.ref C) (.ref T.C_InUse) = some (Nat.beq 16 i)
  k17 : PySem.W.kitOne K (.ref C) (.ref T.C_Stale) = some (Nat.beq 17 i)
  k18 : PySem.W.kitOne K (.ref C) (.ref T.C_Busy) = some (Nat.beq 18 i)
  k19 : PySem.W.kitOne K (.ref C) (.ref T.C_NothingLeft) = some (Nat.beq 19 i)
  v0 : PySem.W.kitOne K (.ref C) (.type "ValueError") = some (Nat.blt i 10)
  v1 : PySem.W.kitOne K (.ref C) (.type "KeyError") = some (Nat.beq i 10 || Nat.beq i 11)
  v2 : PySem.W.kitOne K (.ref C) (.type "LookupError") = some (Nat.ble 10 i && Nat.ble i 13)
  v3 : PySem.W.kitOne K (.ref C) (.type "IndexError") = some (Nat.beq i 13)
  v4 : PySem.W.kitOne K (.ref C) (.type "OverflowError") = some (Nat.beq i 14)
  v5 : PySem.W.kitOne K (.ref C) (.type "ArithmeticError") = some (Nat.beq i 14)
  v6 : PySem.W.kitOne K (.ref C) (.type "RuntimeError") = some (Nat.ble 15 i)
  v7 : PySem.W.kitOne K (.ref C) (.type "NotImplementedError") = some (false)
theorem kind_BadName (T : Txt K mg) : KindX T T.C_BadName 0 := ⟨T.ec_BadName, T.x_BadName.xf, T.kx_BadName_BadName, T.kx_BadName_BadRule, T.kx_BadName_BadText, T.kx_BadName_BadForm, T.kx_BadName_BadPattern, T.kx_BadName_BadFact, T.kx_BadName_BadLevel, T.kx_BadName_BadInteger, T.kx_BadName_BadGoal, T.kx_BadName_BadCommand, T.kx_BadName_UnknownName, T.kx_BadName_NoKey, T.kx_BadName_NoBase, T.kx_BadName_NoPlace, T.kx_BadName_TooMany, T.kx_BadName_Taken, T.kx_BadName_InUse, T.kx_BadName_Stale, T.kx_BadName_Busy, T.kx_BadName_NothingLeft, T.kx_BadName_ValueError, T.kx_BadName_KeyError, T.kx_BadName_LookupError, T.kx_BadName_IndexError, T.kx_BadName_OverflowError, T.kx_BadName_ArithmeticError, T.kx_BadName_RuntimeError, T.kx_BadName_NotImplementedError⟩
theorem kind_BadRule (T : Txt K mg) : KindX T T.C_BadRule 1 := ⟨T.ec_BadRule, T.x_BadRule.xf, T.kx_BadRule_BadName, T.kx_BadRule_BadRule, T.kx_BadRule_BadText, T.kx_BadRule_BadForm, T.kx_BadRule_BadPattern, T.kx_BadRule_BadFact, T.kx_BadRule_BadLevel, T.kx_BadRule_BadInteger, T.kx_BadRule_BadGoal, T.kx_BadRule_BadCommand, T.kx_BadRule_UnknownName, T.kx_BadRule_NoKey, T.kx_BadRule_NoBase, T.kx_BadRule_NoPlace, T.kx_BadRule_TooMany, T.kx_BadRule_Taken, T.kx_BadRule_InUse, T.kx_BadRule_Stale, T.kx_BadRule_Busy, T.kx_BadRule_NothingLeft, T.kx_BadRule_ValueError, T.kx_BadRule_KeyError, T.kx_BadRule_LookupError, T.kx_BadRule_IndexError, T.kx_BadRule_OverflowError, T.kx_BadRule_ArithmeticError, T.kx_BadRule_RuntimeError, T.kx_BadRule_NotImplementedError⟩
theorem kind_BadText (T : Txt K mg) : KindX T T.C_BadText 2 := ⟨T.ec_BadText, T.x_BadText.xf, T.kx_BadText_BadName, T.kx_BadText_BadRule, T.kx_BadText_BadText, T.kx_BadText_BadForm, T.kx_BadText_BadPattern, T.kx_BadText_BadFact, T.kx_BadText_BadLevel, T.kx_BadText_BadInteger, T.kx_BadText_BadGoal, T.kx_BadText_BadCommand, T.kx_BadText_UnknownName, T.kx_BadText_NoKey, T.kx_BadText_NoBase, T.kx_BadText_NoPlace, T.kx_BadText_TooMany, T.kx_BadText_Taken, T.kx_BadText_InUse, T.kx_BadText_Stale, T.kx_BadText_Busy, T.kx_BadText_NothingLeft, T.kx_BadText_ValueError, T.kx_BadText_KeyError, T.kx_BadText_LookupError, T.kx_BadText_IndexError, T.kx_BadText_OverflowError, T.kx_BadText_ArithmeticError, T.kx_BadText_RuntimeError, T.kx_BadText_NotImplementedError⟩
theorem kind_BadForm (T : Txt K mg) : KindX T T.C_BadForm 3 := ⟨T.ec_BadForm, T.x_BadForm.xf, T.kx_BadForm_BadName, T.kx_BadForm_BadRule, T.kx_BadForm_BadText, T.kx_BadForm_BadForm, T.kx_BadForm_BadPattern, T.kx_BadForm_BadFact, T.kx_BadForm_BadLevel, T.kx_BadForm_BadInteger, T.kx_BadForm_BadGoal, T.kx_BadForm_BadCommand, T.kx_BadForm_UnknownName, T.kx_BadForm_NoKey, T.kx_BadForm_NoBase, T.kx_BadForm_NoPlace, T.kx_BadForm_TooMany, T.kx_BadForm_Taken, T.kx_BadForm_InUse, T.kx_BadForm_Stale, T.kx_BadForm_Busy, T.kx_BadForm_NothingLeft, T.kx_BadForm_ValueError, T.kx_BadForm_KeyError, T.kx_BadForm_LookupError, T.kx_BadForm_IndexError, T.kx_BadForm_OverflowError, T.kx_BadForm_ArithmeticError, T.kx_BadForm_RuntimeError, T.kx_BadForm_NotImplementedError⟩
theorem kind_BadPattern (T : Txt K mg) : KindX T T.C_BadPattern 4 := ⟨T.ec_BadPattern, T.x_BadPattern.xf, T.kx_BadPattern_BadName, T.kx_BadPattern_BadRule, T.kx_BadPattern_BadText, T.kx_BadPattern_BadForm, T.kx_BadPattern_BadPattern, T.kx_BadPattern_BadFact, T.kx_BadPattern_BadLevel, T.kx_BadPattern_BadInteger, T.kx_BadPattern_BadGoal, T.kx_BadPattern_BadCommand, T.kx_BadPattern_UnknownName, T.kx_BadPattern_NoKey, T.kx_BadPattern_NoBase, T.kx_BadPattern_NoPlace, T.kx_BadPattern_TooMany, T.kx_BadPattern_Taken, T.kx_BadPattern_InUse, T.kx_BadPattern_Stale, T.kx_BadPattern_Busy, T.kx_BadPattern_NothingLeft, T.kx_BadPattern_ValueError, T.kx_BadPattern_KeyError, T.kx_BadPattern_LookupError, T.kx_BadPattern_IndexError, T.kx_BadPattern_OverflowError, T.kx_BadPattern_ArithmeticError, T.kx_BadPattern_RuntimeError, T.kx_BadPattern_NotImplementedError⟩
theorem kind_BadFact (T : Txt K mg) : KindX T T.C_BadFact 5 := ⟨T.ec_BadFact, T.x_BadFact.xf, T.kx_BadFact_BadName, T.kx_BadFact_BadRule, T.kx_BadFact_BadText, T.kx_BadFact_BadForm, T.kx_BadFact_BadPattern, T.kx_BadFact_BadFact, T.kx_BadFact_BadLevel, T.kx_BadFact_BadInteger, T.kx_BadFact_BadGoal, T.kx_BadFact_BadCommand, T.kx_BadFact_UnknownName, T.kx_BadFact_NoKey, T.kx_BadFact_NoBase, T.kx_BadFact_NoPlace, T.kx_BadFact_TooMany, T.kx_BadFact_Taken, T.kx_BadFact_InUse, T.kx_BadFact_Stale, T.kx_BadFact_Busy, T.kx_BadFact_NothingLeft, T.kx_BadFact_ValueError, T.kx_BadFact_KeyError, T.kx_BadFact_LookupError, T.kx_BadFact_IndexError, T.kx_BadFact_OverflowError, T.kx_BadFact_ArithmeticError, T.kx_BadFact_RuntimeError, T.kx_BadFact_NotImplementedError⟩
theorem kind_BadLevel (T : Txt K mg) : KindX T T.C_BadLevel 6 := ⟨T.ec_BadLevel, T.x_BadLevel.xf, T.kx_BadLevel_BadName, T.kx_BadLevel_BadRule, T.kx_BadLevel_BadText, T.kx_BadLevel_BadForm, T.kx_BadLevel_BadPattern, T.kx_BadLevel_BadFact, T.kx_BadLevel_BadLevel, T.kx_BadLevel_BadInteger, T.kx_BadLevel_BadGoal, T.kx_BadLevel_BadCommand, T.kx_BadLevel_UnknownName, T.kx_BadLevel_NoKey, T.kx_BadLevel_NoBase, T.kx_BadLevel_NoPlace, T.kx_BadLevel_TooMany, T.kx_BadLevel_Taken, T.kx_BadLevel_InUse, T.kx_BadLevel_Stale, T.kx_BadLevel_Busy, T.kx_BadLevel_NothingLeft, T.kx_BadLevel_ValueError, T.kx_BadLevel_KeyError, T.kx_BadLevel_LookupError, T.kx_BadLevel_IndexError, T.kx_BadLevel_OverflowError, T.kx_BadLevel_ArithmeticError, T.kx_BadLevel_RuntimeError, T.kx_BadLevel_NotImplementedError⟩
theorem kind_BadInteger (T : Txt K mg) : KindX T T.C_BadInteger 7 := ⟨T.ec_BadInteger, T.x_BadInteger.xf, T.kx_BadInteger_BadName, T.kx_BadInteger_BadRule, T.kx_BadInteger_BadText, T.kx_BadInteger_BadForm, T.kx_BadInteger_BadPattern, T.kx_BadInteger_BadFact, T.kx_BadInteger_BadLevel, T.kx_BadInteger_BadInteger, T.kx_BadInteger_BadGoal, T.kx_BadInteger_BadCommand, T.kx_BadInteger_UnknownName, T.kx_BadInteger_NoKey, T.kx_BadInteger_NoBase, T.kx_BadInteger_NoPlace, T.kx_BadInteger_TooMany, T.kx_BadInteger_Taken, T.kx_BadInteger_InUse, T.kx_BadInteger_Stale, T.kx_BadInteger_Busy, T.kx_BadInteger_NothingLeft, T.kx_BadInteger_ValueError, T.kx_BadInteger_KeyError, T.kx_BadInteger_LookupError, T.kx_BadInteger_IndexError, T.kx_BadInteger_OverflowError, T.kx_BadInteger_ArithmeticError, T.kx_BadInteger_RuntimeError, T.kx_BadInteger_NotImplementedError⟩
theorem kind_BadGoal (T : Txt K mg) : KindX T T.C_BadGoal 8 := ⟨T.ec_BadGoal, T.x_BadGoal.xf, T.kx_BadGoal_BadName, T.kx_BadGoal_BadRule, T.kx_BadGoal_BadText, T.kx_BadGoal_BadForm, T.kx_BadGoal_BadPattern, T.kx_BadGoal_BadFact, T.kx_BadGoal_BadLevel, T.kx_BadGoal_BadInteger, T.kx_BadGoal_BadGoal, T.kx_BadGoal_BadCommand, T.kx_BadGoal_UnknownName, T.kx_BadGoal_NoKey, T.kx_BadGoal_NoBase, T.kx_BadGoal_NoPlace, T.kx_BadGoal_TooMany, T.kx_BadGoal_Taken, T.kx_BadGoal_InUse, T.kx_BadGoal_Stale, T.kx_BadGoal_Busy, T.kx_BadGoal_NothingLeft, T.kx_BadGoal_ValueError, T.kx_BadGoal_KeyError, T.kx_BadGoal_LookupError, T.kx_BadGoal_IndexError, T.kx_BadGoal_OverflowError, T.kx_BadGoal_ArithmeticError, T.kx_BadGoal_RuntimeError, T.kx_BadGoal_NotImplementedError⟩
theorem kind_BadCommand (T : Txt K mg) : KindX T T.C_BadCommand 9 := ⟨T.ec_BadCommand, T.x_BadCommand.xf, T.kx_BadCommand_BadName, T.kx_BadCommand_BadRule, T.kx_BadCommand_BadText, T.kx_BadCommand_BadForm, T.kx_BadCommand_BadPattern, T.kx_BadCommand_BadFact, T.kx_BadCommand_BadLevel, T.kx_BadCommand_BadInteger, T.kx_BadCommand_BadGoal, T.kx_BadCommand_BadCommand, T.kx_BadCommand_UnknownName, T.kx_BadCommand_NoKey, T.kx_BadCommand_NoBase, T.kx_BadCommand_NoPlace, T.kx_BadCommand_TooMany, T.kx_BadCommand_Taken, T.kx_BadCommand_InUse, T.kx_BadCommand_Stale, T.kx_BadCommand_Busy, T.kx_BadCommand_NothingLeft, T.kx_BadCommand_ValueError, T.kx_BadCommand_KeyError, T.kx_BadCommand_LookupError, T.kx_BadCommand_IndexError, T.kx_BadCommand_OverflowError, T.kx_BadCommand_ArithmeticError, T.kx_BadCommand_RuntimeError, T.kx_BadCommand_NotImplementedError⟩
theorem kind_UnknownName (T : Txt K mg) : KindX T T.C_UnknownName 10 := ⟨T.ec_UnknownName, T.x_UnknownName.xf, T.kx_UnknownName_BadName, T.kx_UnknownName_BadRule, T.kx_UnknownName_BadText, T.kx_UnknownName_BadForm, T.kx_UnknownName_BadPattern, T.kx_UnknownName_BadFact, T.kx_UnknownName_BadLevel, T.kx_UnknownName_BadInteger, T.kx_UnknownName_BadGoal, T.kx_UnknownName_BadCommand, T.kx_UnknownName_UnknownName, T.kx_UnknownName_NoKey, T.kx_UnknownName_NoBase, T.kx_UnknownName_NoPlace, T.kx_UnknownName_TooMany, T.kx_UnknownName_Taken, T.kx_UnknownName_InUse, T.kx_UnknownName_Stale, T.kx_UnknownName_Busy, T.kx_UnknownName_NothingLeft, T.kx_UnknownName_ValueError, T.kx_UnknownName_KeyError, T.kx_UnknownName_LookupError, T.kx_UnknownName_IndexError, T.kx_UnknownName_OverflowError, T.kx_UnknownName_ArithmeticError, T.kx_UnknownName_RuntimeError, T.kx_UnknownName_NotImplementedError⟩
theorem kind_NoKey (T : Txt K mg) : KindX T T.C_NoKey 11 := ⟨T.ec_NoKey, T.x_NoKey.xf, T.kx_NoKey_BadName, T.kx_NoKey_BadRule, T.kx_NoKey_BadText, T.kx_NoKey_BadForm, T.kx_NoKey_BadPattern, T.kx_NoKey_BadFact, T.kx_NoKey_BadLevel, T.kx_NoKey_BadInteger, T.kx_NoKey_BadGoal, T.kx_NoKey_BadCommand, T.kx_NoKey_UnknownName, T.kx_NoKey_NoKey, T.kx_NoKey_NoBase, T.kx_NoKey_NoPlace, T.kx_NoKey_TooMany, T.kx_NoKey_Taken, T.kx_NoKey_InUse, T.kx_NoKey_Stale, T.kx_NoKey_Busy, T.kx_NoKey_NothingLeft, T.kx_NoKey_ValueError, T.kx_NoKey_KeyError, T.kx_NoKey_LookupError, T.kx_NoKey_IndexError, T.kx_NoKey_OverflowError, T.kx_NoKey_ArithmeticError, T.kx_NoKey_RuntimeError, T.kx_NoKey_NotImplementedError⟩
theorem kind_NoBase (T : Txt K mg) : KindX T T.C_NoBase 12 := ⟨T.ec_NoBase, T.x_NoBase.xf, T.kx_NoBase_BadName, T.kx_NoBase_BadRule, T.kx_NoBase_BadText, T.kx_NoBase_BadForm, T.kx_NoBase_BadPattern, T.kx_NoBase_BadFact, T.kx_NoBase_BadLevel, T.kx_NoBase_BadInteger, T.kx_NoBase_BadGoal, T.kx_NoBase_BadCommand, T.kx_NoBase_UnknownName, T.kx_NoBase_NoKey, T.kx_NoBase_NoBase, T.kx_NoBase_NoPlace, T.kx_NoBase_TooMany, T.kx_NoBase_Taken, T.kx_NoBase_InUse, T.kx_NoBase_Stale, T.kx_NoBase_Busy, T.kx_NoBase_NothingLeft, T.kx_NoBase_ValueError, T.kx_NoBase_KeyError, T.kx_NoBase_LookupError, T.kx_NoBase_IndexError, T.kx_NoBase_OverflowError, T.kx_NoBase_ArithmeticError, T.kx_NoBase_RuntimeError, T.kx_NoBase_NotImplementedError⟩
theorem kind_NoPlace (T : Txt K mg) : KindX T T.C_NoPlace 13 := ⟨T.ec_NoPlace, T.x_NoPlace.xf, T.kx_NoPlace_BadName, T.kx_NoPlace_BadRule, T.kx_NoPlace_BadText, T.kx_NoPlace_BadForm, T.kx_NoPlace_BadPattern, T.kx_NoPlace_BadFact, T.kx_NoPlace_BadLevel, T.kx_NoPlace_BadInteger, T.kx_NoPlace_BadGoal, T.kx_NoPlace_BadCommand, T.kx_NoPlace_UnknownName, T.kx_NoPlace_NoKey, T.kx_NoPlace_NoBase, T.kx_NoPlace_NoPlace, T.kx_NoPlace_TooMany, T.kx_NoPlace_Taken, T.kx_NoPlace_InUse, T.kx_NoPlace_Stale, T.kx_NoPlace_Busy, T.kx_NoPlace_NothingLeft, T.kx_NoPlace_ValueError, T.kx_NoPlace_KeyError, T.kx_NoPlace_LookupError, T.kx_NoPlace_IndexError, T.kx_NoPlace_OverflowError, T.kx_NoPlace_ArithmeticError, T.kx_NoPlace_RuntimeError, T.kx_NoPlace_NotImplementedError⟩
theorem kind_TooMany (T : Txt K mg) : KindX T T.C_TooMany 14 := ⟨T.ec_TooMany, T.x_TooMany.xf, T.kx_TooMany_BadName, T.kx_TooMany_BadRule, T.kx_TooMany_BadText, T.kx_TooMany_BadForm, T.kx_TooMany_BadPattern, T.kx_TooMany_BadFact, T.kx_TooMany_BadLevel, T.kx_TooMany_BadInteger, T.kx_TooMany_BadGoal, T.kx_TooMany_BadCommand, T.kx_TooMany_UnknownName, T.kx_TooMany_NoKey, T.kx_TooMany_NoBase, T.kx_TooMany_NoPlace, T.kx_TooMany_TooMany, T.kx_TooMany_Taken, T.kx_TooMany_InUse, T.kx_TooMany_Stale, T.kx_TooMany_Busy, T.kx_TooMany_NothingLeft, T.kx_TooMany_ValueError, T.kx_TooMany_KeyError, T.kx_TooMany_LookupError, T.kx_TooMany_IndexError, T.kx_TooMany_OverflowError, T.kx_TooMany_ArithmeticError, T.kx_TooMany_RuntimeError, T.kx_TooMany_NotImplementedError⟩
theorem kind_Taken (T : Txt K mg) : KindX T T.C_Taken 15 := ⟨T.ec_Taken, T.x_Taken.xf, T.kx_Taken_BadName, T.kx_Taken_BadRule, T.kx_Taken_BadText, T.kx_Taken_BadForm, T.kx_Taken_BadPattern, T.kx_Taken_BadFact, T.kx_Taken_BadLevel, T.kx_Taken_BadInteger, T.kx_Taken_BadGoal, T.kx_Taken_BadCommand, T.kx_Taken_UnknownName, T.kx_Taken_NoKey, T.kx_Taken_NoBase, T.kx_Taken_NoPlace, T.kx_Taken_TooMany, T.kx_Taken_Taken, T.kx_Taken_InUse, T.kx_Taken_Stale, T.kx_Taken_Busy, T.kx_Taken_NothingLeft, T.kx_Taken_ValueError, T.kx_Taken_KeyError, T.kx_Taken_LookupError, T.kx_Taken_IndexError, T.kx_Taken_OverflowError, T.kx_Taken_ArithmeticError, T.kx_Taken_RuntimeError, T.kx_Taken_NotImplementedError⟩
theorem kind_InUse (T : Txt K mg) : KindX T T.C_InUse 16 := ⟨T.ec_InUse, T.x_InUse.xf, T.kx_InUse_BadName, T.kx_InUse_BadRule, T.kx_InUse_BadText, T.kx_InUse_BadForm, T.kx_InUse_BadPattern, T.kx_InUse_BadFact, T.kx_InUse_BadLevel, T.kx_InUse_BadInteger, T.kx_InUse_BadGoal, T.kx_InUse_BadCommand, T.kx_InUse_UnknownName, T.kx_InUse_NoKey, T.kx_InUse_NoBase, T.kx_InUse_NoPlace, T.kx_InUse_TooMany, T.kx_InUse_Taken, T.kx_InUse_InUse, T.kx_InUse_Stale, T.kx_InUse_Busy, T.kx_InUse_NothingLeft, T.kx_InUse_ValueError, T.kx_InUse_KeyError, T.kx_InUse_LookupError, T.kx_InUse_IndexError, T.kx_InUse_OverflowError, T.kx_InUse_ArithmeticError, T.kx_InUse_RuntimeError, T.kx_InUse_NotImplementedError⟩
theorem kind_Stale (T : Txt K mg) : KindX T T.C_Stale 17 := ⟨T.ec_Stale, T.x_Stale.xf, T.kx_Stale_BadName, T.kx_Stale_BadRule, T.kx_Stale_BadText, T.kx_Stale_BadForm, T.kx_Stale_BadPattern, T.kx_Stale_BadFact, T.kx_Stale_BadLevel, T.kx_Stale_BadInteger, T.kx_Stale_BadGoal, T.kx_Stale_BadCommand, T.kx_Stale_UnknownName, T.kx_Stale_NoKey, T.kx_Stale_NoBase, T.kx_Stale_NoPlace, T.kx_Stale_TooMany, T.kx_Stale_Taken, T.kx_Stale_InUse, T.kx_Stale_Stale, T.kx_Stale_Busy, T.kx_Stale_NothingLeft, T.kx_Stale_ValueError, T.kx_Stale_KeyError, T.kx_Stale_LookupError, T.kx_Stale_IndexError, T.kx_Stale_OverflowError, T.kx_Stale_ArithmeticError, T.kx_Stale_RuntimeError, T.kx_Stale_NotImplementedError⟩
theorem kind_Busy (T : Txt K mg) : KindX T T.C_Busy 18 := ⟨T.ec_Busy, T.x_Busy.xf, T.kx_Busy_BadName, T.kx_Busy_BadRule, T.kx_Busy_BadText, T.kx_Busy_BadForm, T.kx_Busy_BadPattern, T.kx_Busy_BadFact, T.kx_Busy_BadLevel, T.kx_Busy_BadInteger, T.kx_Busy_BadGoal, T.kx_Busy_BadCommand, T.kx_Busy_UnknownName, T.kx_Busy_NoKey, T.kx_Busy_NoBase, T.kx_Busy_NoPlace, T.kx_Busy_TooMany, T.kx_Busy_Taken, T.kx_Busy_InUse, T.kx_Busy_Stale, T.kx_Busy_Busy, T.kx_Busy_NothingLeft, T.kx_Busy_ValueError, T.kx_Busy_KeyError, T.kx_Busy_LookupError, T.kx_Busy_IndexError, T.kx_Busy_OverflowError, T.kx_Busy_ArithmeticError, T.kx_Busy_RuntimeError, T.kx_Busy_NotImplementedError⟩
theorem kind_NothingLeft (T : Txt K mg) : KindX T T.C_NothingLeft 19 := ⟨T.ec_NothingLeft, T.x_NothingLeft.xf, T.kx_NothingLeft_BadName, T.kx_NothingLeft_BadRule, T.kx_NothingLeft_BadText, T.kx_NothingLeft_BadForm, T.kx_NothingLeft_BadPattern, T.kx_NothingLeft_BadFact, T.kx_NothingLeft_BadLevel, T.kx_NothingLeft_BadInteger, T.kx_NothingLeft_BadGoal, T.kx_NothingLeft_BadCommand, T.kx_NothingLeft_UnknownName, T.kx_NothingLeft_NoKey, T.kx_NothingLeft_NoBase, T.kx_NothingLeft_NoPlace, T.kx_NothingLeft_TooMany, T.kx_NothingLeft_Taken, T.kx_NothingLeft_InUse, T.kx_NothingLeft_Stale, T.kx_NothingLeft_Busy, T.kx_NothingLeft_NothingLeft, T.kx_NothingLeft_ValueError, T.kx_NothingLeft_KeyError, T.kx_NothingLeft_LookupError, T.kx_NothingLeft_IndexError, T.kx_NothingLeft_OverflowError, T.kx_NothingLeft_ArithmeticError, T.kx_NothingLeft_RuntimeError, T.kx_NothingLeft_NotImplementedError⟩
theorem kinds_all (T : Txt K mg) (one two : V) : ∀ (i : Nat) (c : Addr × List (Str × V)), (tabX T one two)[i]? = some c → KindX T c.1 i
  | 0, _, h => by cases h; exact kind_BadName T
  | 1, _, h => by cases h; exact kind_BadRule T
  | 2, _, h => by cases h; exact kind_BadText T
  | 3, _, h => by cases h; exact kind_BadForm T
  | 4, _, h => by cases h; exact kind_BadPattern T
  | 5, _, h => by cases h; exact kind_BadFact T
  | 6, _, h => by cases h; exact kind_BadLevel T
  | 7, _, h => by cases h; exact kind_BadInteger T
  | 8, _, h => by cases h; exact kind_BadGoal T
  | 9, _, h => by cases h; exact kind_BadCommand T
  | 10, _, h => by cases h; exact kind_UnknownName T
  | 11, _, h => by cases h; exact kind_NoKey T
  | 12, _, h => by cases h; exact kind_NoBase T
  | 13, _, h => by cases h; exact kind_NoPlace T
  | 14, _, h => by cases h; exact kind_TooMany T
  | 15, _, h => by cases h; exact kind_Taken T
  | 16, _, h => by cases h; exact kind_InUse T
  | 17, _, h => by cases h; exact kind_Stale T
  | 18, _, h => by cases h; exact kind_Busy T
  | 19, _, h => by cases h; exact kind_NothingLeft T
  | n + 20, _, h => by cases h
def sp_law_kinds (T : Txt K mg) : Sp := fun vs H Q _ => ∃ (a C : Addr) (fs : List (Str × V)) (i : Nat), vs = [.ref a] ∧ ExcAt H C a fs ∧ KindX T C i ∧ ∀ (l : Addr) (H' : Hp), H l = none → Same H H' → H' l = some (.lst [.bl (Nat.beq 0 i), .bl (Nat.beq 1 i), .bl (Nat.beq 2 i), .bl (Nat.beq 3 i), .bl (Nat.beq 4 i), .bl (Nat.beq 5 i), .bl (Nat.beq 6 i), .bl (Nat.beq 7 i), .bl (Nat.beq 8 i), .bl (Nat.beq 9 i), .bl (Nat.beq 10 i), .bl (Nat.beq 11 i), .bl (Nat.beq 12 i), .bl (Nat.beq 13 i), .bl (Nat.beq 14 i), .bl (Nat.beq 15 i), .bl (Nat.beq 16 i), .bl (Nat.beq 17 i), .bl (Nat.beq 18 i), .bl (Nat.beq 19 i)]) → Q (.ref l) H'
theorem ok_law_kinds (T : Txt K mg) : FnOk P w K mg base CX0 1 T.f_law_kinds T.d_law_kinds ["_law_e"] (sp_law_kinds T) := by
  refine T.F_law_kinds.ok sc_law_kinds (fun vs H Q E h => ?_) (fun cdv A outer s H vs Q E hr h => ?_)
  · obtain ⟨a, C, fs, i, rfl, _⟩ := h
    rfl
  · obtain ⟨a, C, fs, i, rfl, hx, KX, kk⟩ := h
    refine ⟨_, (pss_cons (ps_set (i := 1) sc_law_kinds.nd rfl (.inl rfl) (pe_lst (pa_cons (pe_callB call_isV (by rfl) T.z_isinstance (by decide +kernel) (pa_cons (pv 0) (pa_cons (pe_glob (v := .ref T.C_BadName) rfl T.m_BadName rfl) pa_nil))) (pa_cons (pe_callB call_isV (by rfl) T.z_isinstance (by decide +kernel) (pa_cons (pv 0) (pa_cons (pe_glob (v := .ref T.C_BadRule) rfl T.m_BadRule rfl) pa_nil))) (pa_cons (pe_callB call_isV (by rfl) T.z_isinstance (by decide +kernel) (pa_cons (pv 0) (pa_cons (pe_glob (v := .ref T.C_BadText) rfl T.m_BadText rfl) pa_nil))) (pa_cons (pe_callB call_isV (by rfl) T.z_isinstance (by decide +kernel) (pa_cons (pv 0) (pa_cons (pe_glob (v := .ref T.C_BadForm) rfl T.m_BadForm rfl) pa_nil))) pa_nil))))))
        (pss_cons (ps_set (i := 1) sc_law_kinds.nd rfl (.inl rfl) (pe_op op_cat (pv 1) (pe_lst (pa_cons (pe_callB call_isV (by rfl) T.z_isinstance (by decide +kernel) (pa_cons (pv 0) (pa_cons (pe_glob (v := .ref T.C_BadPattern) rfl T.m_BadPattern rfl) pa_nil))) (pa_cons (pe_callB call_isV (by rfl) T.z_isinstance (by decide +kernel) (pa_cons (pv 0) (pa_cons (pe_glob (v := .ref T.C_BadFact) rfl T.m_BadFact rfl) pa_nil))) (pa_cons (pe_callB call_isV (by rfl) T.z_isinstance (by decide +kernel) (pa_cons (pv 0) (pa_cons (pe_glob (v := .ref T.C_BadLevel) rfl T.m_BadLevel rfl) pa_nil))) pa_nil))))))
        (pss_cons (ps_set (i := 1) sc_law_kinds.nd rfl (.inl rfl) (pe_op op_cat (pv 1) (pe_lst (pa_cons (pe_callB call_isV (by rfl) T.z_isinstance (by decide +kernel) (pa_cons (pv 0) (pa_cons (pe_glob (v := .ref T.C_BadInteger) rfl T.m_BadInteger rfl) pa_nil))) (pa_cons (pe_callB call_isV (by rfl) T.z_isinstance (by decide +kernel) (pa_cons (pv 0) (pa_cons (pe_glob (v := .ref T.C_BadGoal) rfl T.m_BadGoal rfl) pa_nil))) (pa_cons (pe_callB call_isV (by rfl) T.z_isinstance (by decide +kernel) (pa_cons (pv 0) (pa_cons (pe_glob (v := .ref T.C_BadCommand) rfl T.m_BadCommand rfl) pa_nil))) pa_nil))))))
        (pss_cons (ps_set (i := 1) sc_law_kinds.nd rfl (.inl rfl) (pe_op op_cat (pv 1) (pe_lst (pa_cons (pe_callB call_isV (by rfl) T.z_isinstance (by decide +kernel) (pa_cons (pv 0) (pa_cons (pe_glob (v := .ref T.C_UnknownName) rfl T.m_UnknownName rfl) pa_nil))) (pa_cons (pe_callB call_isV (by rfl) T.z_isinstance (by decide +kernel) (pa_cons (pv 0) (pa_cons (pe_glob (v := .ref T.C_NoKey) rfl T.m_NoKey rfl) pa_nil))) (pa_cons (pe_callB call_isV (by rfl) T.z_isinstance (by decide +kernel) (pa_cons (pv 0) (pa_cons (pe_glob (v := .ref T.C_NoBase) rfl T.m_NoBase rfl) pa_nil))) (pa_cons (pe_callB call_isV (by rfl) T.z_isinstance (by decide +kernel) (pa_cons (pv 0) (pa_cons (pe_glob (v := .ref T.C_NoPlace) rfl T.m_NoPlace rfl) pa_nil))) pa_nil)))))))
        (pss_cons (ps_set (i := 1) sc_law_kinds.nd rfl (.inl rfl) (pe_op op_cat (pv 1) (pe_lst (pa_cons (pe_callB call_isV (by rfl) T.z_isinstance (by decide +kernel) (pa_cons (pv 0) (pa_cons (pe_glob (v := .ref T.C_TooMany) rfl T.m_TooMany rfl) pa_nil))) (pa_cons (pe_callB call_isV (by rfl) T.z_isinstance (by decide +kernel) (pa_cons (pv 0) (pa_cons (pe_glob (v := .ref T.C_Taken) rfl T.m_Taken rfl) pa_nil))) (pa_cons (pe_callB call_isV (by rfl) T.z_isinstance (by decide +kernel) (pa_cons (pv 0) (pa_cons (pe_glob (v := .ref T.C_InUse) rfl T.m_InUse rfl) pa_nil))) (pa_cons (pe_callB call_isV (by rfl) T.z_isinstance (by decide +kernel) (pa_cons (pv 0) (pa_cons (pe_glob (v := .ref T.C_Stale) rfl T.m_Stale rfl) pa_nil))) pa_nil)))))))
        (pss_one (ps_ret (pe_op op_cat (pv 1) (pe_lst (pa_cons (pe_callB call_isV (by rfl) T.z_isinstance (by decide +kernel) (pa_cons (pv 0) (pa_cons (pe_glob (v := .ref T.C_Busy) rfl T.m_Busy rfl) pa_nil))) (pa_cons (pe_callB call_isV (by rfl) T.z_isinstance (by decide +kernel) (pa_cons (pv 0) (pa_cons (pe_glob (v := .ref T.C_NothingLeft) rfl T.m_NothingLeft rfl) pa_nil))) pa_nil))))))))))), ?_⟩
    have S : Same H H := Same.refl H
    refine ⟨_, rfl, a, C, fs, _, _, _, rfl, hx, KX.ec, .own _, KX.k0, ?_⟩
    refine ⟨_, rfl, a, C, fs, _, _, _, rfl, hx, KX.ec, .own _, KX.k1, ?_⟩
    refine ⟨_, rfl, a, C, fs, _, _, _, rfl, hx, KX.ec, .own _, KX.k2, ?_⟩
    refine ⟨_, rfl, a, C, fs, _, _, _, rfl, hx, KX.ec, .own _, KX.k3, ?_⟩
    refine ⟨by show 4 ≤ sizeLine; decide, fun l0 q0 => ?_⟩
    have t0 := Same.mk1 (o := .lst [.bl (Nat.beq 0 i), .bl (Nat.beq 1 i), .bl (Nat.beq 2 i), .bl (Nat.beq 3 i)]) q0
    have h0 : (upd H l0 (.lst [.bl (Nat.beq 0 i), .bl (Nat.beq 1 i), .bl (Nat.beq 2 i), .bl (Nat.beq 3 i)])) l0 = some (.lst [.bl (Nat.beq 0 i), .bl (Nat.beq 1 i), .bl (Nat.beq 2 i), .bl (Nat.beq 3 i)]) := upd_same
    replace hx := hx.same t0
    replace S := S.trans t0
    clear t0 q0
    revert h0 hx S
    generalize upd H l0 (.lst [.bl (Nat.beq 0 i), .bl (Nat.beq 1 i), .bl (Nat.beq 2 i), .bl (Nat.beq 3 i)]) = H1
    intro h0 hx S
    have hl := h0
    clear h0
    refine ⟨_, rfl, ?_⟩
    refine ⟨_, rfl, a, C, fs, _, _, _, rfl, hx, KX.ec, .own _, KX.k4, ?_⟩
    refine ⟨_, rfl, a, C, fs, _, _, _, rfl, hx, KX.ec, .own _, KX.k5, ?_⟩
    refine ⟨_, rfl, a, C, fs, _, _, _, rfl, hx, KX.ec, .own _, KX.k6, ?_⟩
    refine ⟨by show 3 ≤ sizeLine; decide, fun l1 q1 => ?_⟩
    have t1 := Same.mk1 (o := .lst [.bl (Nat.beq 4 i), .bl (Nat.beq 5 i), .bl (Nat.beq 6 i)]) q1
    have h1 : (upd H1 l1 (.lst [.bl (Nat.beq 4 i), .bl (Nat.beq 5 i), .bl (Nat.beq 6 i)])) l1 = some (.lst [.bl (Nat.beq 4 i), .bl (Nat.beq 5 i), .bl (Nat.beq 6 i)]) := upd_same
    replace hl := t1 _ _ hl
    replace hx := hx.same t1
    replace S := S.trans t1
    clear t1 q1
    revert h1 hl hx S
    generalize upd H1 l1 (.lst [.bl (Nat.beq 4 i), .bl (Nat.beq 5 i), .bl (Nat.beq 6 i)]) = H2
    intro h1 hl hx S
    refine ⟨_, l1, _, _, rfl, rfl, hl, h1, by show 4 + 3 ≤ sizeLine; decide, fun j1 r1 => ?_⟩
    have u1 := Same.mk1 (o := .lst ([.bl (Nat.beq 0 i), .bl (Nat.beq 1 i), .bl (Nat.beq 2 i), .bl (Nat.beq 3 i)] ++ [.bl (Nat.beq 4 i), .bl (Nat.beq 5 i), .bl (Nat.beq 6 i)])) r1
    have hm : (upd H2 j1 (.lst ([.bl (Nat.beq 0 i), .bl (Nat.beq 1 i), .bl (Nat.beq 2 i), .bl (Nat.beq 3 i)] ++ [.bl (Nat.beq 4 i), .bl (Nat.beq 5 i), .bl (Nat.beq 6 i)]))) j1 = some (.lst [.bl (Nat.beq 0 i), .bl (Nat.beq 1 i), .bl (Nat.beq 2 i), .bl (Nat.beq 3 i), .bl (Nat.beq 4 i), .bl (Nat.beq 5 i), .bl (Nat.beq 6 i)]) := upd_same
    clear hl
    replace hx := hx.same u1
    replace S := S.trans u1
    clear u1 r1 h1
    revert hm hx S
    generalize upd H2 j1 (.lst ([.bl (Nat.beq 0 i), .bl (Nat.beq 1 i), .bl (Nat.beq 2 i), .bl (Nat.beq 3 i)] ++ [.bl (Nat.beq 4 i), .bl (Nat.beq 5 i), .bl (Nat.beq 6 i)])) = H3
    intro hm hx S
    have hl := hm
    clear hm
    refine ⟨_, rfl, ?_⟩
    refine ⟨_, rfl, a, C, fs, _, _, _, rfl, hx, KX.ec, .own _, KX.k7, ?_⟩
    refine ⟨_, rfl, a, C, fs, _, _, _, rfl, hx, KX.ec, .own _, KX.k8, ?_⟩
    refine ⟨_, rfl, a, C, fs, _, _, _, rfl, hx, KX.ec, .own _, KX.k9, ?_⟩
    refine ⟨by show 3 ≤ sizeLine; decide, fun l2 q2 => ?_⟩
    have t2 := Same.mk1 (o := .lst [.bl (Nat.beq 7 i), .bl (Nat.beq 8 i), .bl (Nat.beq 9 i)]) q2
    have h2 : (upd H3 l2 (.lst [.bl (Nat.beq 7 i), .bl (Nat.beq 8 i), .bl (Nat.beq 9 i)])) l2 = some (.lst [.bl (Nat.beq 7 i), .bl (Nat.beq 8 i), .bl (Nat.beq 9 i)]) := upd_same
    replace hl := t2 _ _ hl
    replace hx := hx.same t2
    replace S := S.trans t2
    clear t2 q2
    revert h2 hl hx S
    generalize upd H3 l2 (.lst [.bl (Nat.beq 7 i), .bl (Nat.beq 8 i), .bl (Nat.beq 9 i)]) = H4
    intro h2 hl hx S
    refine ⟨_, l2, _, _, rfl, rfl, hl, h2, by show 7 + 3 ≤ sizeLine; decide, fun j2 r2 => ?_⟩
    have u2 := Same.mk1 (o := .lst ([.bl (Nat.beq 0 i), .bl (Nat.beq 1 i), .bl (Nat.beq 2 i), .bl (Nat.beq 3 i), .bl (Nat.beq 4 i), .bl (Nat.beq 5 i), .bl (Nat.beq 6 i)] ++ [.bl (Nat.beq 7 i), .bl (Nat.beq 8 i), .bl (Nat.beq 9 i)])) r2
    have hm : (upd H4 j2 (.lst ([.bl (Nat.beq 0 i), .bl (Nat.beq 1 i), .bl (Nat.beq 2 i), .bl (Nat.beq 3 i), .bl (Nat.beq 4 i), .bl (Nat.beq 5 i), .bl (Nat.beq 6 i)] ++ [.bl (Nat.beq 7 i), .bl (Nat.beq 8 i), .bl (Nat.beq 9 i)]))) j2 = some (.lst [.bl (Nat.beq 0 i), .bl (Nat.beq 1 i), .bl (Nat.beq 2 i), .bl (Nat.beq 3 i), .bl (Nat.beq 4 i), .bl (Nat.beq 5 i), .bl (Nat.beq 6 i), .bl (Nat.beq 7 i), .bl (Nat.beq 8 i), .bl (Nat.beq 9 i)]) := upd_same
    clear hl
    replace hx := hx.same u2
    replace S := S.trans u2
    clear u2 r2 h2
    revert hm hx S
    generalize upd H4 j2 (.lst ([.bl (Nat.beq 0 i), .bl (Nat.beq 1 i), .bl (Nat.beq 2 i), .bl (Nat.beq 3 i), .bl (Nat.beq 4 i), .bl (Nat.beq 5 i), .bl (Nat.beq 6 i)] ++ [.bl (Nat.beq 7 i), .bl (Nat.beq 8 i), .bl (Nat.beq 9 i)])) = H5
    intro hm hx S
    have hl := hm
    clear hm
    refine ⟨_, rfl, ?_⟩
    refine ⟨_, rfl, a, C, fs, _, _, _, rfl, hx, KX.ec, .own _, KX.k10, ?_⟩
    refine ⟨_, rfl, a, C, fs, _, _, _, rfl, hx, KX.ec, .own _, KX.k11, ?_⟩
    refine ⟨_, rfl, a, C, fs, _, _, _, rfl, hx, KX.ec, .own _, KX.k12, ?_⟩
    refine ⟨_, rfl, a, C, fs, _, _, _, rfl, hx, KX.ec, .own _, KX.k13, ?_⟩
    refine ⟨by show 4 ≤ sizeLine; decide, fun l3 q3 => ?_⟩
    have t3 := Same.mk1 (o := .lst [.bl (Nat.beq 10 i), .bl (Nat.beq 11 i), .bl (Nat.beq 12 i), .bl (Nat.beq 13 i)]) q3
    have h3 : (upd H5 l3 (.lst [.bl (Nat.beq 10 i), .bl (Nat.beq 11 i), .bl (Nat.beq 12 i), .bl (Nat.beq 13 i)])) l3 = some (.lst [.bl (Nat.beq 10 i), .bl (Nat.beq 11 i), .bl (Nat.beq 12 i), .bl (Nat.beq 13 i)]) := upd_same
    replace hl := t3 _ _ hl
    replace hx := hx.same t3
    replace S := S.trans t3
    clear t3 q3
    revert h3 hl hx S
    generalize upd H5 l3 (.lst [.bl (Nat.beq 10 i), .bl (Nat.beq 11 i), .bl (Nat.beq 12 i), .bl (Nat.beq 13 i)]) = H6
    intro h3 hl hx S
    refine ⟨_, l3, _, _, rfl, rfl, hl, h3, by show 10 + 4 ≤ sizeLine; decide, fun j3 r3 => ?_⟩
    have u3 := Same.mk1 (o := .lst ([.bl (Nat.beq 0 i), .bl (Nat.beq 1 i), .bl (Nat.beq 2 i), .bl (Nat.beq 3 i), .bl (Nat.beq 4 i), .bl (Nat.beq 5 i), .bl (Nat.beq 6 i), .bl (Nat.beq 7 i), .bl (Nat.beq 8 i), .bl (Nat.beq 9 i)] ++ [.bl (Nat.beq 10 i), .bl (Nat.beq 11 i), .bl (Nat.beq 12 i), .bl (Nat.beq 13 i)])) r3
    have hm : (upd H6 j3 (.lst ([.bl (Nat.beq 0 i), .bl (Nat.beq 1 i), .bl (Nat.beq 2 i), .bl (Nat.beq 3 i), .bl (Nat.beq 4 i), .bl (Nat.beq 5 i), .bl (Nat.beq 6 i), .bl (Nat.beq 7 i), .bl (Nat.beq 8 i), .bl (Nat.beq 9 i)] ++ [.bl (Nat.beq 10 i), .bl (Nat.beq 11 i), .bl (Nat.beq 12 i), .bl (Nat.beq 13 i)]))) j3 = some (.lst [.bl (Nat.beq 0 i), .bl (Nat.beq 1 i), .bl (Nat.beq 2 i), .bl (Nat.beq 3 i), .bl (Nat.beq 4 i), .bl (Nat.beq 5 i), .bl (Nat.beq 6 i), .bl (Nat.beq 7 i), .bl (Nat.beq 8 i), .bl (Nat.beq 9 i), .bl (Nat.beq 10 i), .bl (Nat.beq 11 i), .bl (Nat.beq 12 i), .bl (Nat.beq 13 i)]) := upd_same
    clear hl
    replace hx := hx.same u3
    replace S := S.trans u3
    clear u3 r3 h3
    revert hm hx S
    generalize upd H6 j3 (.lst ([.bl (Nat.beq 0 i), .bl (Nat.beq 1 i), .bl (Nat.beq 2 i), .bl (Nat.beq 3 i), .bl (Nat.beq 4 i), .bl (Nat.beq 5 i), .bl (Nat.beq 6 i), .bl (Nat.beq 7 i), .bl (Nat.beq 8 i), .bl (Nat.beq 9 i)] ++ [.bl (Nat.beq 10 i), .bl (Nat.beq 11 i), .bl (Nat.beq 12 i), .bl (Nat.beq 13 i)])) = H7
    intro hm hx S
    have hl := hm
    clear hm
    refine ⟨_, rfl, ?_⟩
    refine ⟨_, rfl, a, C, fs, _, _, _, rfl, hx, KX.ec, .own _, KX.k14, ?_⟩
    refine ⟨_, rfl, a, C, fs, _, _, _, rfl, hx, KX.ec, .own _, KX.k15, ?_⟩
    refine ⟨_, rfl, a, C, fs, _, _, _, rfl, hx, KX.ec, .own _, KX.k16, ?_⟩
    refine ⟨_, rfl, a, C, fs, _, _, _, rfl, hx, KX.ec, .own _, KX.k17, ?_⟩
    refine ⟨by show 4 ≤ sizeLine; decide, fun l4 q4 => ?_⟩
    have t4 := Same.mk1 (o := .lst [.bl (Nat.beq 14 i), .bl (Nat.beq 15 i), .bl (Nat.beq 16 i), .bl (Nat.beq 17 i)]) q4
    have h4 : (upd H7 l4 (.lst [.bl (Nat.beq 14 i), .bl (Nat.beq 15 i), .bl (Nat.beq 16 i), .bl (Nat.beq 17 i)])) l4 = some (.lst [.bl (Nat.beq 14 i), .bl (Nat.beq 15 i), .bl (Nat.beq 16 i), .bl (Nat.beq 17 i)]) := upd_same
    replace hl := t4 _ _ hl
    replace hx := hx.same t4
    replace S := S.trans t4
    clear t4 q4
    revert h4 hl hx S
    generalize upd H7 l4 (.lst [.bl (Nat.beq 14 i), .bl (Nat.beq 15 i), .bl (Nat.beq 16 i), .bl (Nat.beq 17 i)]) = H8
    intro h4 hl hx S
    refine ⟨_, l4, _, _, rfl, rfl, hl, h4, by show 14 + 4 ≤ sizeLine; decide, fun j4 r4 => ?_⟩
    have u4 := Same.mk1 (o := .lst ([.bl (Nat.beq 0 i), .bl (Nat.beq 1 i), .bl (Nat.beq 2 i), .bl (Nat.beq 3 i), .bl (Nat.beq 4 i), .bl (Nat.beq 5 i), .bl (Nat.beq 6 i), .bl (Nat.beq 7 i), .bl (Nat.beq 8 i), .bl (Nat.beq 9 i), .bl (Nat.beq 10 i), .bl (Nat.beq 11 i), .bl (Nat.beq 12 i), .bl (Nat.beq 13 i)] ++ [.bl (Nat.beq 14 i), .bl (Nat.beq 15 i), .bl (Nat.beq 16 i), .bl (Nat.beq 17 i)])) r4
    have hm : (upd H8 j4 (.lst ([.bl (Nat.beq 0 i), .bl (Nat.beq 1 i), .bl (Nat.beq 2 i), .bl (Nat.beq 3 i), .bl (Nat.beq 4 i), .bl (Nat.beq 5 i), .bl (Nat.beq 6 i), .bl (Nat.beq 7 i), .bl (Nat.beq 8 i), .bl (Nat.beq 9 i), .bl (Nat.beq 10 i), .bl (Nat.beq 11 i), .bl (Nat.beq 12 i), .bl (Nat.beq 13 i)] ++ [.bl (Nat.beq 14 i), .bl (Nat.beq 15 i), .bl (Nat.beq 16 i), .bl (Nat.beq 17 i)]))) j4 = some (.lst [.bl (Nat.beq 0 i), .bl (Nat.beq 1 i), .bl (Nat.beq 2 i), .bl (Nat.beq 3 i), .bl (Nat.beq 4 i), .bl (Nat.beq 5 i), .bl (Nat.beq 6 i), .bl (Nat.beq 7 i), .bl (Nat.beq 8 i), .bl (Nat.beq 9 i), .bl (Nat.beq 10 i), .bl (Nat.beq 11 i), .bl (Nat.beq 12 i), .bl (Nat.beq 13 i), .bl (Nat.beq 14 i), .bl (Nat.beq 15 i), .bl (Nat.beq 16 i), .bl (Nat.beq 17 i)]) := upd_same
    clear hl
    replace hx := hx.same u4
    replace S := S.trans u4
    clear u4 r4 h4
    revert hm hx S
    generalize upd H8 j4 (.lst ([.bl (Nat.beq 0 i), .bl (Nat.beq 1 i), .bl (Nat.beq 2 i), .bl (Nat.beq 3 i), .bl (Nat.beq 4 i), .bl (Nat.beq 5 i), .bl (Nat.beq 6 i), .bl (Nat.beq 7 i), .bl (Nat.beq 8 i), .bl (Nat.beq 9 i), .bl (Nat.beq 10 i), .bl (Nat.beq 11 i), .bl (Nat.beq 12 i), .bl (Nat.beq 13 i)] ++ [.bl (Nat.beq 14 i), .bl (Nat.beq 15 i), .bl (Nat.beq 16 i), .bl (Nat.beq 17 i)])) = H9
    intro hm hx S
    have hl := hm
    clear hm
    refine ⟨_, rfl, ?_⟩
    refine ⟨_, rfl, a, C, fs, _, _, _, rfl, hx, KX.ec, .own _, KX.k18, ?_⟩
    refine ⟨_, rfl, a, C, fs, _, _, _, rfl, hx, KX.ec, .own _, KX.k19, ?_⟩
    refine ⟨by show 2 ≤ sizeLine; decide, fun l5 q5 => ?_⟩
    have t5 := Same.mk1 (o := .lst [.bl (Nat.beq 18 i), .bl (Nat.beq 19 i)]) q5
    have h5 : (upd H9 l5 (.lst [.bl (Nat.beq 18 i), .bl (Nat.beq 19 i)])) l5 = some (.lst [.bl (Nat.beq 18 i), .bl (Nat.beq 19 i)]) := upd_same
    replace hl := t5 _ _ hl
    replace hx := hx.same t5
    replace S := S.trans t5
    clear t5 q5
    revert h5 hl hx S
    generalize upd H9 l5 (.lst [.bl (Nat.beq 18 i), .bl (Nat.beq 19 i)]) = H10
    intro h5 hl hx S
    refine ⟨_, l5, _, _, rfl, rfl, hl, h5, by show 18 + 2 ≤ sizeLine; decide, fun j5 r5 => ?_⟩
    exact kk j5 _ (S.free r5) (S.trans (Same.mk1 r5)) upd_same

/-- the word of the classes above the class i -/
def aboveT (i : Nat) : Str := ((((if (Nat.blt i 10) = true then ("V" : Str) else "") ++ (if (Nat.beq i 10 || Nat.beq i 11) = true then ("K" : Str) else "")) ++ (if (Nat.ble 10 i && Nat.ble i 13) = true then ("L" : Str) else "") ++ (if (Nat.beq i 13) = true then ("I" : Str) else "")) ++ (if (Nat.beq i 14) = true then ("O" : Str) else "") ++ (if (Nat.beq i 14) = true then ("A" : Str) else "")) ++ (if (Nat.ble 15 i) = true then ("R" : Str) else "") ++ (if (false) = true then ("N" : Str) else "")
def sp_law_above (T : Txt K mg) : Sp := fun vs H Q _ => ∃ (a C : Addr) (fs : List (Str × V)) (i : Nat), vs = [.ref a] ∧ ExcAt H C a fs ∧ KindX T C i ∧ Q (.str (aboveT i)) H
theorem ok_law_above (T : Txt K mg) : FnOk P w K mg base CX0 1 T.f_law_above T.d_law_above ["_law_e"] (sp_law_above T) := by
  refine T.F_law_above.ok sc_law_above (fun vs H Q E h => ?_) (fun cdv A outer s H vs Q E hr h => ?_)
  · obtain ⟨a, C, fs, i, rfl, _⟩ := h
    rfl
  · obtain ⟨a, C, fs, i, rfl, hx, KX, kk⟩ := h
    refine ⟨_, (pss_cons (ps_set (i := 1) sc_law_above.nd rfl (.inl rfl) (pe_op op_add_str (pe_op op_mulS pe_str (pe_callTy call_int1 (by rfl) T.z_int (by decide +kernel) (pa_cons (pe_callB call_isV (by rfl) T.z_isinstance (by decide +kernel) (pa_cons (pv 0) (pa_cons (pe_bltn (v := .ty "ValueError") (by rfl) T.z_ValueError (by decide +kernel) rfl) pa_nil))) pa_nil))) (pe_op op_mulS pe_str (pe_callTy call_int1 (by rfl) T.z_int (by decide +kernel) (pa_cons (pe_callB call_isV (by rfl) T.z_isinstance (by decide +kernel) (pa_cons (pv 0) (pa_cons (pe_bltn (v := .ty "KeyError") (by rfl) T.z_KeyError (by decide +kernel) rfl) pa_nil))) pa_nil)))))
        (pss_cons (ps_set (i := 1) sc_law_above.nd rfl (.inl rfl) (pe_op op_add_str (pe_op op_add_str (pv 1) (pe_op op_mulS pe_str (pe_callTy call_int1 (by rfl) T.z_int (by decide +kernel) (pa_cons (pe_callB call_isV (by rfl) T.z_isinstance (by decide +kernel) (pa_cons (pv 0) (pa_cons (pe_bltn (v := .ty "LookupError") (by rfl) T.z_LookupError (by decide +kernel) rfl) pa_nil))) pa_nil)))) (pe_op op_mulS pe_str (pe_callTy call_int1 (by rfl) T.z_int (by decide +kernel) (pa_cons (pe_callB call_isV (by rfl) T.z_isinstance (by decide +kernel) (pa_cons (pv 0) (pa_cons (pe_bltn (v := .ty "IndexError") (by rfl) T.z_IndexError (by decide +kernel) rfl) pa_nil))) pa_nil)))))
        (pss_cons (ps_set (i := 1) sc_law_above.nd rfl (.inl rfl) (pe_op op_add_str (pe_op op_add_str (pv 1) (pe_op op_mulS pe_str (pe_callTy call_int1 (by rfl) T.z_int (by decide +kernel) (pa_cons (pe_callB call_isV (by rfl) T.z_isinstance (by decide +kernel) (pa_cons (pv 0) (pa_cons (pe_bltn (v := .ty "OverflowError") (by rfl) T.z_OverflowError (by decide +kernel) rfl) pa_nil))) pa_nil)))) (pe_op op_mulS pe_str (pe_callTy call_int1 (by rfl) T.z_int (by decide +kernel) (pa_cons (pe_callB call_isV (by rfl) T.z_isinstance (by decide +kernel) (pa_cons (pv 0) (pa_cons (pe_bltn (v := .ty "ArithmeticError") (by rfl) T.z_ArithmeticError (by decide +kernel) rfl) pa_nil))) pa_nil)))))
        (pss_one (ps_ret (pe_op op_add_str (pe_op op_add_str (pv 1) (pe_op op_mulS pe_str (pe_callTy call_int1 (by rfl) T.z_int (by decide +kernel) (pa_cons (pe_callB call_isV (by rfl) T.z_isinstance (by decide +kernel) (pa_cons (pv 0) (pa_cons (pe_bltn (v := .ty "RuntimeError") (by rfl) T.z_RuntimeError (by decide +kernel) rfl) pa_nil))) pa_nil)))) (pe_op op_mulS pe_str (pe_callTy call_int1 (by rfl) T.z_int (by decide +kernel) (pa_cons (pe_callB call_isV (by rfl) T.z_isinstance (by decide +kernel) (pa_cons (pv 0) (pa_cons (pe_bltn (v := .ty "NotImplementedError") (by rfl) T.z_NotImplementedError (by decide +kernel) rfl) pa_nil))) pa_nil))))))))), ?_⟩
    have one : ∀ (b : Bool) (z : Str), z.length = 1 → (if b = true then z else "").length ≤ 1 := fun b z h => by
      cases b with
      | true => exact Nat.le_of_eq h
      | false => exact Nat.zero_le 1
    have o0 := one (Nat.blt i 10) "V" (by decide +kernel)
    have o1 := one (Nat.beq i 10 || Nat.beq i 11) "K" (by decide +kernel)
    have o2 := one (Nat.ble 10 i && Nat.ble i 13) "L" (by decide +kernel)
    have o3 := one (Nat.beq i 13) "I" (by decide +kernel)
    have o4 := one (Nat.beq i 14) "O" (by decide +kernel)
    have o5 := one (Nat.beq i 14) "A" (by decide +kernel)
    have o6 := one (Nat.ble 15 i) "R" (by decide +kernel)
    have o7 := one (false) "N" (by decide +kernel)
    refine ⟨_, rfl, a, C, fs, _, _, _, rfl, hx, KX.ec, .ty _, KX.v0, .inr ⟨_, rfl, "V", _, rfl, rfl, by decide, ?_⟩⟩
    refine ⟨_, rfl, a, C, fs, _, _, _, rfl, hx, KX.ec, .ty _, KX.v1, .inr ⟨_, rfl, "K", _, rfl, rfl, by decide, ?_⟩⟩
    refine ⟨_, _, rfl, rfl, ?_, ?_⟩
    · rw [sizeLine_eq]; (try simp only [strLen_append]); omega
    refine ⟨_, rfl, _, rfl, a, C, fs, _, _, _, rfl, hx, KX.ec, .ty _, KX.v2, .inr ⟨_, rfl, "L", _, rfl, rfl, by decide, ?_⟩⟩
    refine ⟨_, _, rfl, rfl, ?_, ?_⟩
    · rw [sizeLine_eq]; (try simp only [strLen_append]); omega
    refine ⟨_, rfl, a, C, fs, _, _, _, rfl, hx, KX.ec, .ty _, KX.v3, .inr ⟨_, rfl, "I", _, rfl, rfl, by decide, ?_⟩⟩
    refine ⟨_, _, rfl, rfl, ?_, ?_⟩
    · rw [sizeLine_eq]; (try simp only [strLen_append]); omega
    refine ⟨_, rfl, _, rfl, a, C, fs, _, _, _, rfl, hx, KX.ec, .ty _, KX.v4, .inr ⟨_, rfl, "O", _, rfl, rfl, by decide, ?_⟩⟩
    refine ⟨_, _, rfl, rfl, ?_, ?_⟩
    · rw [sizeLine_eq]; (try simp only [strLen_append]); omega
    refine ⟨_, rfl, a, C, fs, _, _, _, rfl, hx, KX.ec, .ty _, KX.v5, .inr ⟨_, rfl, "A", _, rfl, rfl, by decide, ?_⟩⟩
    refine ⟨_, _, rfl, rfl, ?_, ?_⟩
    · rw [sizeLine_eq]; (try simp only [strLen_append]); omega
    refine ⟨_, rfl, _, rfl, a, C, fs, _, _, _, rfl, hx, KX.ec, .ty _, KX.v6, .inr ⟨_, rfl, "R", _, rfl, rfl, by decide, ?_⟩⟩
    refine ⟨_, _, rfl, rfl, ?_, ?_⟩
    · rw [sizeLine_eq]; (try simp only [strLen_append]); omega
    refine ⟨_, rfl, a, C, fs, _, _, _, rfl, hx, KX.ec, .ty _, KX.v7, .inr ⟨_, rfl, "N", _, rfl, rfl, by decide, ?_⟩⟩
    refine ⟨_, _, rfl, rfl, ?_, ?_⟩
    · rw [sizeLine_eq]; (try simp only [strLen_append]); omega
    exact kk

def sp_law (K : PySem.W.Frag) : Sp := fun vs H Q _ => ∃ (a : Addr) (ns : List Int), vs = [.ref a] ∧ SqL K H a (ns.map V.int) ∧ ns.length ≤ 63 ∧ ∀ H', Q (.bl true) H'
/-- the words, class by class -/
abbrev words20 : List Str := ["V", "V", "V", "V", "V", "V", "V", "V", "V", "V", "KL", "KL", "L", "LI", "OA", "R", "R", "R", "R", "R"]
/-- what is due of the exception k, ahead of the one with two fields -/
def rowD (one : V) (k : Nat) : List V := if k = 9 ∨ k = 18 ∨ k = 19 then [] else [one]
theorem above_words : (List.range 20).map aboveT = words20 := by decide +kernel
/-- rows of data as one list of lists -/
theorem rows_dp {K : PySem.W.Frag} {H : Hp} : ∀ {rows : List (List V)} {dss : List (List PyData)} {fl : List Addr}, Paired (fun xs ds => DpXs K H xs ds) rows dss → RowsAt H rows fl → DpXs K H (fl.map V.ref) (dss.map PyData.list)
  | _, _, _, .nil, .nil => .nil
  | _, _, _, .cons h t, .cons h2 t2 => .cons (.lst (SqL.of h2) h) (rows_dp t t2)
/-- the data of the fields -/
def rowsD (d e : PyData) : List (List PyData) := [[d], [d], [d], [d], [d], [d], [d], [d], [d], [], [d], [d, e], [d], [d], [d], [d], [d], [d], [], []]
theorem fields_dp {K : PySem.W.Frag} {H : Hp} {one two : V} {d e : PyData} {m : Addr} (f : FieldsAt H one two m) (h1 : DpX K H one d) (h2 : DpX K H two e) : DpX K H (.ref m) (.list ((rowsD d e).map PyData.list)) := by
  obtain ⟨fl, hm, R⟩ := f
  have o1 : DpXs K H [one] [d] := .cons h1 .nil
  have o2 : DpXs K H [one, two] [d, e] := .cons h1 (.cons h2 .nil)
  exact .lst (SqL.of hm) (rows_dp (.cons o1 (.cons o1 (.cons o1 (.cons o1 (.cons o1 (.cons o1 (.cons o1 (.cons o1 (.cons o1 (.cons .nil (.cons o1 (.cons o2 (.cons o1 (.cons o1 (.cons o1 (.cons o1 (.cons o1 (.cons o1 (.cons .nil (.cons .nil (.nil))))))))))))))))))))) R)
theorem FieldsAt.same {H H' : Hp} {one two : V} {m : Addr} (s : Same H H') (f : FieldsAt H one two m) : FieldsAt H' one two m := by
  obtain ⟨fl, hm, R⟩ := f
  exact ⟨fl, s _ _ hm, R.same s⟩
theorem fields_few {d e : PyData} (h1 : OkD d) (h2 : OkD e) : (PyData.list ((rowsD d e).map PyData.list)).depth ≤ 60 ∧ (PyData.list ((rowsD d e).map PyData.list)).shown.length ≤ sizeLine := by
  have a1 := h1.de
  have a2 := h2.de
  have c1 := h1.co
  have c2 := h2.co
  refine ⟨?_, ?_⟩
  · simp only [rowsD, List.map_cons, List.map_nil, PyData.depth, PyData.depthAll]
    omega
  · have s := shown_le (PyData.list ((rowsD d e).map PyData.list)) (by simp [rowsD, PyData.showable, PyData.showableAll, h1.sh, h2.sh]) (by simp [rowsD, signsD, signsL, h1.sg, h2.sg])
    have c : costD (PyData.list ((rowsD d e).map PyData.list)) ≤ 1000000 := by
      simp only [rowsD, List.map_cons, List.map_nil, costD, costL]
      omega
    rw [sizeLine_eq]
    omega
theorem words_sh : SeqAt.shaped (strsL words20) = true := strsL_shaped (by decide +kernel)
/-- bools as data -/
def boolsL (l : List Bool) : PyData := .list (l.map .bool)
theorem bools_dp {K : PySem.W.Frag} {H : Hp} {a : Addr} {l : List Bool} (h : SqL K H a (l.map V.bl)) : Dp K H (.ref a) (boolsL l) := .lst h (dps_map V.bl PyData.bool l fun k _ => .bl k)
theorem bools_all : ∀ l : List Bool, PyData.eqvAll (l.map .bool) (l.map .bool) = true
  | [] => rfl
  | k :: r => by
    rw [List.map_cons, PyData.eqvAll, bools_all r]
    simp [PyData.eqv]
theorem bools_eqv (l : List Bool) : PyData.eqv (boolsL l) (boolsL l) = true := by
  unfold boolsL
  rw [PyData.eqv]
  exact bools_all l
theorem bools_lay : ∀ l : List Bool, PyData.canLayAll0 (l.map .bool) = true
  | [] => rfl
  | k :: r => by
    rw [List.map_cons, PyData.canLayAll0, bools_lay r]
    simp [PyData.canLay0]
theorem bools_shaped (l : List Bool) : SeqAt.shaped (boolsL l) = true := by
  unfold SeqAt.shaped
  rw [Bool.and_eq_true]
  refine ⟨?_, ?_⟩
  · unfold boolsL
    rw [PyData.canLay0]
    exact bools_lay l
  · have := depth_map PyData.bool 0 l fun k _ => Nat.le_refl _
    refine decide_eq_true ?_
    show PyData.depthAll _ + 1 ≤ 64
    omega
/-- the kinds of the exception i -/
abbrev kindB (i : Nat) : List Bool := (List.range 20).map fun k => Nat.beq k i
theorem int_beq (k i : Nat) : decide (V.int (0 + (k : Int)) = V.int ((i : Nat) : Int)) = Nat.beq k i := by
  by_cases z : k = i
  · subst z
    rw [decide_eq_true (by rw [Int.zero_add]), Nat.beq_refl]
  · rw [decide_eq_false fun q => z (by have := V.int.inj q; omega)]
    cases h : Nat.beq k i with
    | false => rfl
    | true => exact absurd (Nat.eq_of_beq_eq_true h) z
theorem ok_law_ {f_law : Addr} {d_law : FuncData} (F_law : Fun K "law" "law" s_law f_law d_law) (T : Txt K mg) : FnG P w K mg base CX0 14 f_law d_law ["_law_script"] (sp_law K) := by
  refine okG F_law sc_law (fun vs H Q E h => ?_) (fun cdv A outer s H vs Q E hr hg h => ?_)
  · obtain ⟨a, ns, rfl, _⟩ := h
    rfl
  · obtain ⟨a, ns, rfl, hS, hl, kk⟩ := h
    refine ⟨_, (pss_cons (ps_set (i := 1) sc_law.nd rfl (.inl rfl) (pe_op op_cat (pe_op op_cat (pe_op op_rep (pe_lst (pa_cons pe_str pa_nil)) pe_int) (pe_lst (pa_cons pe_str (pa_cons pe_str (pa_cons pe_str (pa_cons pe_str (pa_cons pe_str pa_nil))))))) (pe_op op_rep (pe_lst (pa_cons pe_str pa_nil)) pe_int)))
        (pss_cons (ps_for PassesOwn.never rfl (pi_range1 rfl T.z_range (pa_cons (pe_callB (call_max2 rfl) (by rfl) T.z_max (by decide +kernel) (pa_cons pe_int (pa_cons (pe_callB (call_min2 rfl) (by rfl) T.z_min (by decide +kernel) (pa_cons pe_int (pa_cons (pe_callB call_len_seq (by rfl) T.z_len (by decide +kernel) (pa_cons (pv 0) pa_nil)) pa_nil))) pa_nil))) pa_nil)) (pg_name (i := 2) sc_law.nd rfl (.inl rfl))
          (pss_cons (ps_set (i := 3) sc_law.nd rfl (.inl rfl) (pe_call (ok_law_bag T) (hr.mono (by decide)) rfl T.m_law_bag T.F_law_bag.kp T.b_law_bag .nil pass0 (pa_cons (pv 0) (pa_cons (pv 2) pa_nil))))
          (pss_one (ps_for PassesOwn.never rfl (pi_range1 rfl T.z_range (pa_cons pe_int pa_nil)) (pg_name (i := 4) sc_law.nd rfl (.inl rfl))
            (pss_cons (ps_asg (pe_tup (pa_cons (pe_call (ok_law_thing T) (hr.mono (by decide)) rfl T.m_law_thing T.F_law_thing.kp T.b_law_thing .nil pass0 (pa_cons (pv 3) pa_nil)) (pa_cons (pe_call (ok_law_thing T) (hr.mono (by decide)) rfl T.m_law_thing T.F_law_thing.kp T.b_law_thing .nil pass0 (pa_cons (pv 3) pa_nil)) pa_nil))) (pg_tup rfl (pgs_cons (pg_name (i := 5) sc_law.nd rfl (.inr rfl)) (pgs_cons (pg_name (i := 6) sc_law.nd rfl (.inl rfl)) pgs_nil))))
            (pss_cons (ps_setLc (i := 7) (own := [("_law_k", 8)]) (g := (gName 8)) (tt := tYes) rfl sc_law.nd rfl rfl (sw_true rfl rfl rfl (by decide +kernel)) (pi_range1 rfl T.z_range (pa_cons pe_int pa_nil)) (blkOk_by (own := [("_law_k", 8)]) (N := N_law) (sc := defScope s_law) (by decide +kernel)) (fun _ _ _ _ _ => (pg_name (i := 8) sc_law.nd rfl (.inl rfl))) (fun _ _ _ _ _ => pts_nil) (fun _ _ _ _ _ => (pe_cut (pe_ifExp (pt_cmpR (op_in_seq : OpR _ _ (rIn K false)) (pv 8) (pe_tup (pa_cons pe_int (pa_cons pe_int (pa_cons pe_int pa_nil)))) (by rfl)) (pe_lst pa_nil) (pe_lst (pa_cons (pv 5) pa_nil))))))
            (pss_cons (ps_asg (pe_lst (pa_cons (pv 5) (pa_cons (pv 6) pa_nil))) (pg_sub (pv 7) pe_int set_list))
            (pss_one (ps_for PassesOwn.never rfl (pi_tup (pe_tup (pa_cons (pe_call (ok_law_by_position T) (hr.mono (by decide)) rfl T.m_law_by_position T.F_law_by_position.kp T.b_law_by_position .nil pass0 (pa_cons (pv 5) (pa_cons (pv 6) pa_nil))) (pa_cons (pe_call (ok_law_by_parameters T) (hr.mono (by decide)) rfl T.m_law_by_parameters T.F_law_by_parameters.kp T.b_law_by_parameters .nil pass0 (pa_cons (pv 5) (pa_cons (pv 6) pa_nil))) pa_nil)))) (pg_name (i := 9) sc_law.nd rfl (.inl rfl))
              (pss_cons (ps_if (pt_cut (PW.pt (pw_or (pt_cmpR op_ne (pe_callB (call_reprX hr.units hg) (by rfl) T.z_repr (by decide +kernel) (pa_cons (pe_call (ok_law_fields T) (hr.mono (by decide)) rfl T.m_law_fields T.F_law_fields.kp T.b_law_fields .nil pass0 (pa_cons (pv 9) pa_nil)) pa_nil)) (pe_callB (call_reprX hr.units hg) (by rfl) T.z_repr (by decide +kernel) (pa_cons (pv 7) pa_nil)) (nomark _)) (pw_or1 (pt_cmpR (op_neD hr.units : OpR _ _ (rNeD K)) (pe_lc (own := [("_law_e", 10)]) (g := (gName 10)) (tt := tYes) rfl sc_law.nd (pi_list (pv 9)) (blkOk_by (own := [("_law_e", 10)]) (N := N_law) (sc := defScope s_law) (by decide +kernel)) (fun _ _ _ _ _ => (pg_name (i := 10) sc_law.nd rfl (.inl rfl))) (fun _ _ _ _ _ => pts_nil) (fun _ _ _ _ _ => (pe_call (ok_law_above T) (hr.mono (by decide)) rfl T.m_law_above T.F_law_above.kp T.b_law_above .nil pass0 (pa_cons (pv 10) pa_nil)))) (pv 1) (nomark _))))))
                (pss_one (ps_ret pe_bl))
                pss_nil)
              (pss_one (ps_for PassesOwn.never rfl (pi_enum (by rfl) T.z_enumerate (pa_cons (pv 9) pa_nil)) (pg_tup rfl (pgs_cons (pg_name (i := 11) sc_law.nd rfl (.inr rfl)) (pgs_cons (pg_name (i := 10) sc_law.nd rfl (.inl rfl)) pgs_nil)))
                (pss_one (ps_if (pt_cmpR (op_neD hr.units : OpR _ _ (rNeD K)) (pe_call (ok_law_kinds T) (hr.mono (by decide)) rfl T.m_law_kinds T.F_law_kinds.kp T.b_law_kinds .nil pass0 (pa_cons (pv 10) pa_nil)) (pe_lc (own := [("_law_k", 8)]) (g := (gName 8)) (tt := tYes) rfl sc_law.nd (pi_range1 rfl T.z_range (pa_cons pe_int pa_nil)) (blkOk_by (own := [("_law_k", 8)]) (N := N_law) (sc := defScope s_law) (by decide +kernel)) (fun _ _ _ _ _ => (pg_name (i := 8) sc_law.nd rfl (.inl rfl))) (fun _ _ _ _ _ => pts_nil) (fun _ _ _ _ _ => (pe_cmpR op_eq (pv 8) (pv 11) (nomark _)))) (nomark _))
                  (pss_one (ps_ret pe_bl))
                  pss_nil))))))))))))))
        (pss_one (ps_ret pe_bl)))), ?_⟩
    refine ⟨by show 1 ≤ sizeLine; decide, fun b0 n0 => ⟨b0, 10, [.str "V"], rfl, rfl, upd_same, by decide, by decide, by show 1 * 10 ≤ sizeLine; decide, fun b1 n1 => ?_⟩⟩
    refine ⟨by show 5 ≤ sizeLine; decide, fun b2 n2 => ?_⟩
    have w2 := Same.mk1 (o := .lst [.str "KL", .str "KL", .str "L", .str "LI", .str "OA"]) n2
    refine ⟨b1, b2, _, _, rfl, rfl, w2 _ _ upd_same, upd_same, by show 10 + 5 ≤ sizeLine; decide, fun b3 n3 => ?_⟩
    refine ⟨by show 1 ≤ sizeLine; decide, fun b4 n4 => ⟨b4, 5, [.str "R"], rfl, rfl, upd_same, by decide, by decide, by show 1 * 5 ≤ sizeLine; decide, fun b5 n5 => ?_⟩⟩
    have w4 := Same.mk1 (o := .lst [.str "R"]) n4
    have w5 := Same.mk1 (o := .lst (List.replicate (Int.toNat 5) [V.str "R"]).flatten) n5
    refine ⟨b3, b5, _, _, rfl, rfl, w5 _ _ (w4 _ _ upd_same), upd_same, by show 15 + 5 ≤ sizeLine; decide, fun AB nAB => ?_⟩
    have sA : Same H (upd (upd (upd (upd (upd (upd (upd H b0 (.lst [.str "V"])) b1 (.lst (List.replicate (Int.toNat 10) [V.str "V"]).flatten)) b2 (.lst [.str "KL", .str "KL", .str "L", .str "LI", .str "OA"])) b3 (.lst ((List.replicate (Int.toNat 10) [V.str "V"]).flatten ++ [.str "KL", .str "KL", .str "L", .str "LI", .str "OA"]))) b4 (.lst [.str "R"])) b5 (.lst (List.replicate (Int.toNat 5) [V.str "R"]).flatten)) AB (.lst (((List.replicate (Int.toNat 10) [V.str "V"]).flatten ++ [.str "KL", .str "KL", .str "L", .str "LI", .str "OA"]) ++ (List.replicate (Int.toNat 5) [V.str "R"]).flatten))) :=
      (Same.mk1 n0).trans ((Same.mk1 n1).trans (w2.trans ((Same.mk1 n3).trans (w4.trans (w5.trans (Same.mk1 nAB))))))
    have hAB : (upd (upd (upd (upd (upd (upd (upd H b0 (.lst [.str "V"])) b1 (.lst (List.replicate (Int.toNat 10) [V.str "V"]).flatten)) b2 (.lst [.str "KL", .str "KL", .str "L", .str "LI", .str "OA"])) b3 (.lst ((List.replicate (Int.toNat 10) [V.str "V"]).flatten ++ [.str "KL", .str "KL", .str "L", .str "LI", .str "OA"]))) b4 (.lst [.str "R"])) b5 (.lst (List.replicate (Int.toNat 5) [V.str "R"]).flatten)) AB (.lst (((List.replicate (Int.toNat 10) [V.str "V"]).flatten ++ [.str "KL", .str "KL", .str "L", .str "LI", .str "OA"]) ++ (List.replicate (Int.toNat 5) [V.str "R"]).flatten))) AB = some (.lst (words20.map V.str)) := upd_same
    revert sA hAB
    generalize upd (upd (upd (upd (upd (upd (upd H b0 (.lst [.str "V"])) b1 (.lst (List.replicate (Int.toNat 10) [V.str "V"]).flatten)) b2 (.lst [.str "KL", .str "KL", .str "L", .str "LI", .str "OA"])) b3 (.lst ((List.replicate (Int.toNat 10) [V.str "V"]).flatten ++ [.str "KL", .str "KL", .str "L", .str "LI", .str "OA"]))) b4 (.lst [.str "R"])) b5 (.lst (List.replicate (Int.toNat 5) [V.str "R"]).flatten)) AB (.lst (((List.replicate (Int.toNat 10) [V.str "V"]).flatten ++ [.str "KL", .str "KL", .str "L", .str "LI", .str "OA"]) ++ (List.replicate (Int.toNat 5) [V.str "R"]).flatten)) = H9
    intro sA hAB
    clear w5 w4 w2 nAB n5 n4 n3 n2 n1 n0
    have hS9 := sA.seq hS
    obtain ⟨mx, hmx, m0, m1⟩ : ∃ mx : Int, mx = (if (if (((ns.map V.int).length : Nat) : Int) < 4 then (((ns.map V.int).length : Nat) : Int) else 4) > 2 then (if (((ns.map V.int).length : Nat) : Int) < 4 then (((ns.map V.int).length : Nat) : Int) else 4) else 2) ∧ 0 ≤ mx ∧ mx ≤ 4 := ⟨_, rfl, by split <;> split <;> omega, by split <;> split <;> omega⟩
    refine ⟨_, rfl, a, _, rfl, .inl hS9, _, _, rfl, _, _, rfl, ?_⟩
    rw [← hmx]
    refine ⟨mx, rfl, by omega, by omega, ?_⟩
    refine for_range (lo := 0) (n := mx.toNat) (fun i σ H2 => ∃ v2 v3 v4 v5 v6 v7 v8 v9 v10 v11 : Option V, σ = [some (.ref a), some (.ref AB), v2, v3, v4, v5, v6, v7, v8, v9, v10, v11] ∧ Same H9 H2)
      ⟨_, _, _, _, _, _, _, _, _, _, rfl, Same.refl H9⟩ ?_ ?_
    · rintro ii σ H1 hii ⟨v2, v3, v4, v5, v6, v7, v8, v9, v10, v11, rfl, s1⟩
      refine ⟨_, rfl, _, rfl, a, ns, _, rfl, s1.seq hS9, by omega, by omega, fun p H2 hp s2 B2 => ?_⟩
      have s12 := s1.trans s2
      have hp0 : H9 p = none := s1.free hp
      refine ⟨6, rfl, by decide, by decide, ?_⟩
      refine for_range (lo := 0) (n := 6) (fun j σ H3 => ∃ v4 v5 v6 v7 v8 v9 v10 v11 : Option V, σ = [some (.ref a), some (.ref AB), some (.int (0 + (ii : Int))), some (.ref p), v4, v5, v6, v7, v8, v9, v10, v11] ∧ Same H9 H3 ∧ Bag H3 p (10 * j))
        ⟨_, _, _, _, _, _, _, _, rfl, s12, B2.mono (by omega)⟩ ?_ ?_
      · rintro j σ H3 hj ⟨v4, v5, v6, v7, v8, v9, v10, v11, rfl, s3, B3⟩
        refine ⟨_, rfl, p, _, rfl, B3, by omega, fun one d1 H4 hd1 ok1 g4 B4 => ?_⟩
        refine ⟨_, rfl, p, _, rfl, B4, by omega, fun two d2 H5 hd2 ok2 g5 B5 => ?_⟩
        refine ⟨by show 2 ≤ sizeLine; decide, fun u nu => ⟨u, _, rfl, SqT.of upd_same, rfl, ?_⟩⟩
        have su := Same.mk1 (o := .tup [one, two]) nu
        have gA : Gr p H3 (upd H5 u (.tup [one, two])) := g4.trans (g5.trans (Gr.same su))
        have sB : Same H9 (upd H5 u (.tup [one, two])) := Gr.from s3 gA hp0
        have B6 := B5.grow su
        have x1 := hd1 _ (g5.trans (Gr.same su))
        have x2 := hd2 _ (Gr.same su)
        revert gA sB B6 x1 x2
        generalize upd H5 u (.tup [one, two]) = H6
        intro gA sB B6 x1 x2
        clear su nu
        refine ⟨_, _, rfl, _, _, rfl, ?_⟩
        refine ⟨rfl, 20, rfl, by decide, by decide, fun D nD => ?_⟩
        have sD := Same.mk1 (o := .lst []) nD
        refine lc_it (walk_range (lo := 0) (n := 20)) (fun i H7 => ∃ fl : List Addr, H7 D = some (.lst (fl.map V.ref)) ∧ Paired (fun (xs : List V) f => H7 f = some (.lst xs) ∧ f ≠ D) ((List.range i).map (rowD one)) fl ∧ fl.length = i ∧ Same H6 H7) ⟨[], upd_same, .nil, rfl, sD⟩ (fun _ _ _ _ => True.intro) ?_ ?_
        · rintro i y H7 H8 hi ⟨fl, hD7, R7, lf, s7⟩ ⟨rfl, rfl⟩
          refine ⟨rfl, fun v H9' => ∃ f, v = .ref f ∧ H8 f = none ∧ H9' f = some (.lst (rowD one i)) ∧ Same H8 H9', ?_, ?_⟩
          · refine ⟨_, rfl, by show 3 ≤ sizeLine; decide, fun t nt => ⟨t, _, rfl, .inr (SqT.of upd_same), rfl, rfl, _, rfl, ?_⟩⟩
            have st := Same.mk1 (o := .tup [.int 9, .int 18, .int 19]) nt
            have cs : i = 0 ∨ i = 1 ∨ i = 2 ∨ i = 3 ∨ i = 4 ∨ i = 5 ∨ i = 6 ∨ i = 7 ∨ i = 8 ∨ i = 9 ∨ i = 10 ∨ i = 11 ∨ i = 12 ∨ i = 13 ∨ i = 14 ∨ i = 15 ∨ i = 16 ∨ i = 17 ∨ i = 18 ∨ i = 19 := by omega
            have yes : ∀ {c : Bool} {a b : Prop}, c = true → a → if c = true then a else b := fun h q => by rw [if_pos h]; exact q
            have no : ∀ {c : Bool} {a b : Prop}, c = false → b → if c = true then a else b := fun h q => by rw [h]; exact q
            have some9 : i = 9 ∨ i = 18 ∨ i = 19 → rowD one i = [] := fun h => if_pos h
            have none9 : ¬ (i = 9 ∨ i = 18 ∨ i = 19) → rowD one i = [one] := fun h => if_neg h
            by_cases c9 : i = 9 ∨ i = 18 ∨ i = 19
            · refine yes ?_ ⟨by show 0 ≤ sizeLine; decide, fun f nf => ⟨f, rfl, st.free nf, by rw [some9 c9]; exact upd_same, st.trans (Same.mk1 nf)⟩⟩
              rcases c9 with rfl | rfl | rfl <;> decide +kernel
            · refine no ?_ ⟨_, rfl, by show 1 ≤ sizeLine; decide, fun f nf => ⟨f, rfl, st.free nf, by rw [none9 c9]; exact upd_same, st.trans (Same.mk1 nf)⟩⟩
              rcases cs with rfl | rfl | rfl | rfl | rfl | rfl | rfl | rfl | rfl | rfl | rfl | rfl | rfl | rfl | rfl | rfl | rfl | rfl | rfl | rfl <;> first | decide +kernel | (exact absurd (by decide) c9)
          · rintro v H9' ⟨f, rfl, nf8, hf, s8⟩
            refine ⟨_, s8 _ _ hD7, by rw [List.length_map, lf, sizeLine_eq]; omega, fl ++ [f], ?_, ?_, ?_, ?_⟩
            · rw [upd_same, List.map_append]
              rfl
            · have fD : f ≠ D := fun z => by rw [z, hD7] at nf8; cases nf8
              rw [List.range_succ, List.map_append]
              exact Paired.snoc (Paired.mapP R7 fun _ g h => ⟨(upd_ne h.2).trans (s8 _ _ h.1), h.2⟩) ⟨(upd_ne fD).trans hf, fD⟩
            · rw [List.length_append, lf]
              rfl
            · exact Same.put (s7.trans s8) nD
        · rintro H7 ⟨fl, hD7, R7, lf, s7⟩
          have Q0 : Paired (fun (xs : List V) f => H7 f = some (.lst xs) ∧ f ≠ D) [[one], [one], [one], [one], [one], [one], [one], [one], [one], [], [one], [one], [one], [one], [one], [one], [one], [one], [], []] fl := R7
          clear R7
          obtain ⟨f0, fl0, rfl, y0, Q1⟩ := pconsX Q0
          obtain ⟨f1, fl1, rfl, y1, Q2⟩ := pconsX Q1
          obtain ⟨f2, fl2, rfl, y2, Q3⟩ := pconsX Q2
          obtain ⟨f3, fl3, rfl, y3, Q4⟩ := pconsX Q3
          obtain ⟨f4, fl4, rfl, y4, Q5⟩ := pconsX Q4
          obtain ⟨f5, fl5, rfl, y5, Q6⟩ := pconsX Q5
          obtain ⟨f6, fl6, rfl, y6, Q7⟩ := pconsX Q6
          obtain ⟨f7, fl7, rfl, y7, Q8⟩ := pconsX Q7
          obtain ⟨f8, fl8, rfl, y8, Q9⟩ := pconsX Q8
          obtain ⟨f9, fl9, rfl, y9, Q10⟩ := pconsX Q9
          obtain ⟨f10, fl10, rfl, y10, Q11⟩ := pconsX Q10
          obtain ⟨f11, fl11, rfl, y11, Q12⟩ := pconsX Q11
          obtain ⟨f12, fl12, rfl, y12, Q13⟩ := pconsX Q12
          obtain ⟨f13, fl13, rfl, y13, Q14⟩ := pconsX Q13
          obtain ⟨f14, fl14, rfl, y14, Q15⟩ := pconsX Q14
          obtain ⟨f15, fl15, rfl, y15, Q16⟩ := pconsX Q15
          obtain ⟨f16, fl16, rfl, y16, Q17⟩ := pconsX Q16
          obtain ⟨f17, fl17, rfl, y17, Q18⟩ := pconsX Q17
          obtain ⟨f18, fl18, rfl, y18, Q19⟩ := pconsX Q18
          obtain ⟨f19, fl19, rfl, y19, Q20⟩ := pconsX Q19
          cases Q20
          refine ⟨_, rfl, _, rfl, by show 2 ≤ sizeLine; decide, fun q2 nq2 => ?_⟩
          have sq := Same.mk1 (o := .lst [one, two]) nq2
          have qD : q2 ≠ D := fun z => by rw [z, hD7] at nq2; cases nq2
          refine ⟨_, rfl, D, _, 11, 11, rfl, rfl, sq _ _ hD7, rfl, ?_⟩
          have due : FieldsAt (upd (upd H7 q2 (.lst [one, two])) D (.lst ((List.map V.ref [f0, f1, f2, f3, f4, f5, f6, f7, f8, f9, f10, f11, f12, f13, f14, f15, f16, f17, f18, f19]).set 11 (V.ref q2)))) one two D := ⟨[f0, f1, f2, f3, f4, f5, f6, f7, f8, f9, f10, q2, f12, f13, f14, f15, f16, f17, f18, f19], upd_same, .cons ((upd_ne y0.2).trans (sq _ _ y0.1)) (.cons ((upd_ne y1.2).trans (sq _ _ y1.1)) (.cons ((upd_ne y2.2).trans (sq _ _ y2.1)) (.cons ((upd_ne y3.2).trans (sq _ _ y3.1)) (.cons ((upd_ne y4.2).trans (sq _ _ y4.1)) (.cons ((upd_ne y5.2).trans (sq _ _ y5.1)) (.cons ((upd_ne y6.2).trans (sq _ _ y6.1)) (.cons ((upd_ne y7.2).trans (sq _ _ y7.1)) (.cons ((upd_ne y8.2).trans (sq _ _ y8.1)) (.cons ((upd_ne y9.2).trans (sq _ _ y9.1)) (.cons ((upd_ne y10.2).trans (sq _ _ y10.1)) (.cons ((upd_ne qD).trans upd_same) (.cons ((upd_ne y12.2).trans (sq _ _ y12.1)) (.cons ((upd_ne y13.2).trans (sq _ _ y13.1)) (.cons ((upd_ne y14.2).trans (sq _ _ y14.1)) (.cons ((upd_ne y15.2).trans (sq _ _ y15.1)) (.cons ((upd_ne y16.2).trans (sq _ _ y16.1)) (.cons ((upd_ne y17.2).trans (sq _ _ y17.1)) (.cons ((upd_ne y18.2).trans (sq _ _ y18.1)) (.cons ((upd_ne y19.2).trans (sq _ _ y19.1)) (.nil))))))))))))))))))))⟩
          have s8 : Same H6 (upd (upd H7 q2 (.lst [one, two])) D (.lst ((List.map V.ref [f0, f1, f2, f3, f4, f5, f6, f7, f8, f9, f10, f11, f12, f13, f14, f15, f16, f17, f18, f19]).set 11 (V.ref q2)))) := Same.put (s7.trans sq) nD
          have B7 := B6.grow s8
          have z1 := x1.same s8
          have z2 := x2.same s8
          have sC := sB.trans s8
          revert due B7 z1 z2 sC
          generalize upd (upd H7 q2 (.lst [one, two])) D (.lst ((List.map V.ref [f0, f1, f2, f3, f4, f5, f6, f7, f8, f9, f10, f11, f12, f13, f14, f15, f16, f17, f18, f19]).set 11 (V.ref q2))) = H8
          intro due B7 z1 z2 sC
          clear s8 sq qD nq2 hD7 s7 sD nD x1 x2 B6 sB gA
          refine ⟨_, rfl, _, rfl, one, two, rfl, fun la H10 nla s10 mA => ?_⟩
          refine ⟨_, rfl, _, rfl, one, two, rfl, fun lb H11 nlb s11 mB => ?_⟩
          refine ⟨by show 2 ≤ sizeLine; decide, fun w nw => ⟨w, rfl, ⟨_, SqT.of upd_same⟩, ?_⟩⟩
          have sw := Same.mk1 (o := .tup [.ref la, .ref lb]) nw
          have sX := s10.trans (s11.trans sw)
          have hw : (upd H11 w (.tup [.ref la, .ref lb])) w = some (.tup [.ref la, .ref lb]) := upd_same
          have mA2 := (mA.same s11).same sw
          have mB2 := mB.same sw
          revert sX hw mA2 mB2
          generalize upd H11 w (.tup [.ref la, .ref lb]) = H12
          intro sX hw mA2 mB2
          clear sw nw mA mB s11 nlb s10 nla
          refine for_it (walk_tup (K := K) (a := w) (xs := [.ref la, .ref lb])) (fun k σ H13 => ∃ v8 v9 v10 v11 : Option V, σ = [some (.ref a), some (.ref AB), some (.int (0 + (ii : Int))), some (.ref p), some (.int (0 + (j : Int))), some one, some two, some (.ref D), v8, v9, v10, v11] ∧ Same H12 H13)
            ⟨_, _, _, _, rfl, Same.refl H12⟩ (fun k σ H13 _ ⟨_, _, _, _, _, h⟩ => SqT.of (h _ _ hw)) ?_ ?_
          · rintro k x σ Hq H13 hk ⟨v8, v9, v10, v11, rfl, sY⟩ ⟨rfl, hx⟩
            obtain ⟨l, rfl, mL⟩ : ∃ l, x = .ref l ∧ MadeX H13 (tabX T one two) l := by
              have hk : k < 2 := hk
              rcases (by omega : k = 0 ∨ k = 1) with rfl | rfl
              · cases hx
                exact ⟨la, rfl, mA2.same sY⟩
              · cases hx
                exact ⟨lb, rfl, mB2.same sY⟩
            have few := fields_few ok1 ok2
            have sK := sX.trans sY
            refine ⟨fun b H' => b = false ∧ Same H13 H', ?_, ?_⟩
            · refine ⟨_, rfl, l, one, two, rfl, mL, fun m H14 nm s14 fA => ?_⟩
              have sN := sK.trans s14
              refine ⟨m, _, rfl, fields_dp fA (z1.same sN) (z2.same sN), few.1, few.2, ?_⟩
              refine ⟨_, rfl, D, _, rfl, fields_dp (due.same sN) (z1.same sN) (z2.same sN), few.1, few.2, ?_⟩
              have no : ∀ {c : Bool} {a b : Prop}, c = false → b → if c = true then a else b := fun h q => by rw [h]; exact q
              refine ⟨rfl, _, rfl, no (by rw [decide_eq_true rfl]; rfl) ?_⟩
              obtain ⟨es, hl14, X14⟩ := mL.same s14
              have le : es.length = 20 := (Paired.length X14).symm
              refine ⟨_, rfl, l, rfl, ⟨_, SqL.of hl14⟩, fun D2 nD2 => ?_⟩
              have sD2 := Same.mk1 (o := .lst []) nD2
              refine lc_it (walk_list (K := K) (a := l) (xs := es.map V.ref)) (fun i H7 => H7 D2 = some (.lst (((List.range i).map aboveT).map V.str)) ∧ Same H14 H7) ⟨upd_same, sD2⟩ (fun _ _ _ h => SqL.of (h.2 _ _ hl14)) ?_ ?_
              · rintro i x Hq H7 hi ⟨hD7, s7⟩ ⟨rfl, hx⟩
                have hi : i < 20 := by rw [List.length_map, le] at hi; exact hi
                obtain ⟨c, hc⟩ : ∃ c, (tabX T one two)[i]? = some c := ⟨(tabX T one two)[i]'hi, List.getElem?_eq_getElem hi⟩
                obtain ⟨e, he, hE⟩ := paired_get X14 hc
                have ex : x = .ref e := by
                  have hx : (es.map V.ref)[i]? = some x := hx
                  rw [List.getElem?_map, he] at hx
                  cases hx
                  rfl
                subst ex
                refine ⟨rfl, _, rfl, e, c.1, c.2, i, rfl, hE.same s7, kinds_all T one two i c hc, _, hD7, ?_, ?_, ?_⟩
                · rw [List.length_map, List.length_map, List.length_range, sizeLine_eq]
                  omega
                · rw [upd_same, List.range_succ, List.map_append, List.map_append]
                  rfl
                · exact Same.put s7 nD2
              · rintro H7 ⟨hD7, s7⟩
                rw [List.length_map, le, above_words] at hD7
                refine ⟨_, rfl, strsL words20, strsL words20, strsL_dp (SqL.of hD7), strsL_dp (SqL.of (((sC.trans sN).trans s7) _ _ hAB)), words_sh, words_sh, _, rfl, ?_⟩
                exact ⟨by rw [strsL_eqv]; rfl, s14.trans s7⟩
            · rintro b H14 ⟨rfl, s14⟩
              refine iteF ?_
              obtain ⟨es, hl14, X14⟩ := mL.same s14
              have le : es.length = 20 := (Paired.length X14).symm
              have no : ∀ {c : Bool} {a b : Prop}, c = false → b → if c = true then a else b := fun h q => by rw [h]; exact q
              refine ⟨_, rfl, l, _, rfl, SqL.of hl14, ?_⟩
              refine for_it (walk_enum (K := K) (a := l) (xs := es.map V.ref)) (fun i σ H15 => ∃ v8 v10 v11 : Option V, σ = [some (.ref a), some (.ref AB), some (.int (0 + (ii : Int))), some (.ref p), some (.int (0 + (j : Int))), some one, some two, some (.ref D), v8, some (.ref l), v10, v11] ∧ Same H14 H15)
                ⟨_, _, _, rfl, Same.refl H14⟩ (fun _ _ _ _ ⟨_, _, _, _, h⟩ => SqL.of (h _ _ hl14)) ?_ ?_
              · rintro i y σ H15 H16 hi ⟨v8, v10, v11, rfl, s15⟩ ⟨T1, xn, x, rfl, nT, rfl, e1, hx⟩
                cases e1
                have hi : i < 20 := by rw [List.length_map, le] at hi; exact hi
                obtain ⟨c, hc⟩ : ∃ c, (tabX T one two)[i]? = some c := ⟨(tabX T one two)[i]'hi, List.getElem?_eq_getElem hi⟩
                obtain ⟨e, he, hE⟩ := paired_get X14 hc
                have ex : x = .ref e := by
                  have hx : (es.map V.ref)[i]? = some x := hx
                  rw [List.getElem?_map, he] at hx
                  cases hx
                  rfl
                subst ex
                have sT := Same.mk1 (o := .tup [.int (i : Nat), .ref e]) nT
                refine ⟨T1, _, rfl, SqT.of upd_same, rfl, _, _, rfl, _, _, rfl, rfl, ?_⟩
                have s16 := s15.trans sT
                revert s16
                generalize upd H15 T1 (.tup [.int (i : Nat), .ref e]) = H16
                intro s16
                clear sT nT s15
                refine ⟨_, rfl, e, c.1, c.2, i, rfl, hE.same s16, kinds_all T one two i c hc, fun lk H17 nlk s17 hlk => ?_⟩
                have hlk : H17 lk = some (.lst ((kindB i).map V.bl)) := hlk
                refine ⟨20, rfl, by decide, by decide, fun D3 nD3 => ?_⟩
                have sD3 := Same.mk1 (o := .lst []) nD3
                refine lc_it (walk_range (lo := 0) (n := 20)) (fun k H18 => H18 D3 = some (.lst (((List.range k).map fun k => Nat.beq k i).map V.bl)) ∧ Same H17 H18) ⟨upd_same, sD3⟩ (fun _ _ _ _ => True.intro) ?_ ?_
                · rintro k y H18 H19 hk ⟨hD18, s18⟩ ⟨rfl, rfl⟩
                  refine ⟨rfl, _, rfl, _, rfl, rfl, _, hD18, ?_, ?_, ?_⟩
                  · rw [List.length_map, List.length_map, List.length_range, sizeLine_eq]
                    omega
                  · rw [upd_same, List.range_succ, List.map_append, List.map_append, int_beq]
                    rfl
                  · exact Same.put s18 nD3
                · rintro H18 ⟨hD18, s18⟩
                  refine ⟨boolsL (kindB i), boolsL (kindB i), bools_dp (SqL.of (s18 _ _ hlk)), bools_dp (SqL.of hD18), bools_shaped _, bools_shaped _, _, rfl, ?_⟩
                  refine no (by rw [bools_eqv]; rfl) ?_
                  exact ⟨_, _, _, rfl, s16.trans (s17.trans s18)⟩
              · rintro σ H15 ⟨v8, v10, v11, rfl, s15⟩
                exact ⟨_, _, _, _, rfl, sY.trans (s14.trans s15)⟩
          · rintro σ H13 ⟨v8, v9, v10, v11, rfl, sY⟩
            have sZ := sX.trans sY
            exact ⟨_, _, _, _, _, _, _, _, rfl, sC.trans sZ, (B7.grow sZ).mono (by omega)⟩
      · rintro σ H3 ⟨v4, v5, v6, v7, v8, v9, v10, v11, rfl, s3, B3⟩
        exact ⟨_, _, _, _, _, _, _, _, _, _, rfl, s3⟩
    · rintro σ H1 ⟨v2, v3, v4, v5, v6, v7, v8, v9, v10, v11, rfl, s1⟩
      exact kk _

end
theorem all_mk {l : PySem.W.OpenLaw} {w : World} {K : PySem.W.Frag} {h : Heap} {mg : Str → Option Value} {fa : Addr} (X : K.In h) (G : h.Ns mainGlobals mg) (hfa : mg "law" = some (.ref fa))
    {C_BadName : Addr} (a_BadName : PySem.W.nsIn K mainGlobals "BadName" = some (some (.ref C_BadName)))
    (xi_BadName : PySem.W.excInitIn K C_BadName bmValue "ValueError.__new__" = true)
    (xo_BadName : PySem.W.excOver K C_BadName bmValue = true)
    (xh_BadName : PySem.W.hasDictIn K C_BadName = true)
    (xs_BadName : PySem.W.findIn K (.ref C_BadName) "__setattr__" = some (some (.builtin "object.__setattr__")))
    (xb_BadName : PySem.W.subIn K (.ref C_BadName) (.type "BaseException") = some true)
    (xt_BadName : PySem.W.typeIn K (.ref C_BadName) = some (.type "type"))
    (xk_BadName : PySem.W.keepIn K (.ref C_BadName) = true)
    (xm_BadName : PySem.W.takerIn K C_BadName "name" = some none)
    (xn_BadName : PySem.W.findIn K (.ref C_BadName) "name" = some none)
    (xv_BadName : PySem.W.findCls K (.type "ValueError") (.type "type") "__init__" = some (.val (.builtin "ValueError.__init__")))
    (xg_BadName : PySem.W.findIn K (.ref C_BadName) "__getattribute__" = some (some (.builtin "BaseException.__getattribute__")))
    (xa_BadName : PySem.W.findIn K (.ref C_BadName) "__getattr__" = some none)
    (xc_BadName : PySem.W.isClsIn K C_BadName = true)
    (xe_BadName : PySem.W.subIn K (.ref C_BadName) (.ref C_BadName) = some true)
    {C_BadRule : Addr} (a_BadRule : PySem.W.nsIn K mainGlobals "BadRule" = some (some (.ref C_BadRule)))
    (xi_BadRule : PySem.W.excInitIn K C_BadRule bmValue "ValueError.__new__" = true)
    (xo_BadRule : PySem.W.excOver K C_BadRule bmValue = true)
    (xh_BadRule : PySem.W.hasDictIn K C_BadRule = true)
    (xs_BadRule : PySem.W.findIn K (.ref C_BadRule) "__setattr__" = some (some (.builtin "object.__setattr__")))
    (xb_BadRule : PySem.W.subIn K (.ref C_BadRule) (.type "BaseException") = some true)
    (xt_BadRule : PySem.W.typeIn K (.ref C_BadRule) = some (.type "type"))
    (xk_BadRule : PySem.W.keepIn K (.ref C_BadRule) = true)
    (xm_BadRule : PySem.W.takerIn K C_BadRule "place" = some none)
    (xn_BadRule : PySem.W.findIn K (.ref C_BadRule) "place" = some none)
    (xv_BadRule : PySem.W.findCls K (.type "ValueError") (.type "type") "__init__" = some (.val (.builtin "ValueError.__init__")))
    (xg_BadRule : PySem.W.findIn K (.ref C_BadRule) "__getattribute__" = some (some (.builtin "BaseException.__getattribute__")))
    (xa_BadRule : PySem.W.findIn K (.ref C_BadRule) "__getattr__" = some none)
    (xc_BadRule : PySem.W.isClsIn K C_BadRule = true)
    (xe_BadRule : PySem.W.subIn K (.ref C_BadRule) (.ref C_BadRule) = some true)
    {C_BadText : Addr} (a_BadText : PySem.W.nsIn K mainGlobals "BadText" = some (some (.ref C_BadText)))
    (xi_BadText : PySem.W.excInitIn K C_BadText bmValue "ValueError.__new__" = true)
    (xo_BadText : PySem.W.excOver K C_BadText bmValue = true)
    (xh_BadText : PySem.W.hasDictIn K C_BadText = true)
    (xs_BadText : PySem.W.findIn K (.ref C_BadText) "__setattr__" = some (some (.builtin "object.__setattr__")))
    (xb_BadText : PySem.W.subIn K (.ref C_BadText) (.type "BaseException") = some true)
    (xt_BadText : PySem.W.typeIn K (.ref C_BadText) = some (.type "type"))
    (xk_BadText : PySem.W.keepIn K (.ref C_BadText) = true)
    (xm_BadText : PySem.W.takerIn K C_BadText "place" = some none)
    (xn_BadText : PySem.W.findIn K (.ref C_BadText) "place" = some none)
    (xv_BadText : PySem.W.findCls K (.type "ValueError") (.type "type") "__init__" = some (.val (.builtin "ValueError.__init__")))
    (xg_BadText : PySem.W.findIn K (.ref C_BadText) "__getattribute__" = some (some (.builtin "BaseException.__getattribute__")))
    (xa_BadText : PySem.W.findIn K (.ref C_BadText) "__getattr__" = some none)
    (xc_BadText : PySem.W.isClsIn K C_BadText = true)
    (xe_BadText : PySem.W.subIn K (.ref C_BadText) (.ref C_BadText) = some true)
    {C_BadForm : Addr} (a_BadForm : PySem.W.nsIn K mainGlobals "BadForm" = some (some (.ref C_BadForm)))
    (xi_BadForm : PySem.W.excInitIn K C_BadForm bmValue "ValueError.__new__" = true)
    (xo_BadForm : PySem.W.excOver K C_BadForm bmValue = true)
    (xh_BadForm : PySem.W.hasDictIn K C_BadForm = true)
    (xs_BadForm : PySem.W.findIn K (.ref C_BadForm) "__setattr__" = some (some (.builtin "object.__setattr__")))
    (xb_BadForm : PySem.W.subIn K (.ref C_BadForm) (.type "BaseException") = some true)
    (xt_BadForm : PySem.W.typeIn K (.ref C_BadForm) = some (.type "type"))
    (xk_BadForm : PySem.W.keepIn K (.ref C_BadForm) = true)
    (xm_BadForm : PySem.W.takerIn K C_BadForm "place" = some none)
    (xn_BadForm : PySem.W.findIn K (.ref C_BadForm) "place" = some none)
    (xv_BadForm : PySem.W.findCls K (.type "ValueError") (.type "type") "__init__" = some (.val (.builtin "ValueError.__init__")))
    (xg_BadForm : PySem.W.findIn K (.ref C_BadForm) "__getattribute__" = some (some (.builtin "BaseException.__getattribute__")))
    (xa_BadForm : PySem.W.findIn K (.ref C_BadForm) "__getattr__" = some none)
    (xc_BadForm : PySem.W.isClsIn K C_BadForm = true)
    (xe_BadForm : PySem.W.subIn K (.ref C_BadForm) (.ref C_BadForm) = some true)
    {C_BadPattern : Addr} (a_BadPattern : PySem.W.nsIn K mainGlobals "BadPattern" = some (some (.ref C_BadPattern)))
    (xi_BadPattern : PySem.W.excInitIn K C_BadPattern bmValue "ValueError.__new__" = true)
    (xo_BadPattern : PySem.W.excOver K C_BadPattern bmValue = true)
    (xh_BadPattern : PySem.W.hasDictIn K C_BadPattern = true)
    (xs_BadPattern : PySem.W.findIn K (.ref C_BadPattern) "__setattr__" = some (some (.builtin "object.__setattr__")))
    (xb_BadPattern : PySem.W.subIn K (.ref C_BadPattern) (.type "BaseException") = some true)
    (xt_BadPattern : PySem.W.typeIn K (.ref C_BadPattern) = some (.type "type"))
    (xk_BadPattern : PySem.W.keepIn K (.ref C_BadPattern) = true)
    (xm_BadPattern : PySem.W.takerIn K C_BadPattern "pattern" = some none)
    (xn_BadPattern : PySem.W.findIn K (.ref C_BadPattern) "pattern" = some none)
    (xv_BadPattern : PySem.W.findCls K (.type "ValueError") (.type "type") "__init__" = some (.val (.builtin "ValueError.__init__")))
    (xg_BadPattern : PySem.W.findIn K (.ref C_BadPattern) "__getattribute__" = some (some (.builtin "BaseException.__getattribute__")))
    (xa_BadPattern : PySem.W.findIn K (.ref C_BadPattern) "__getattr__" = some none)
    (xc_BadPattern : PySem.W.isClsIn K C_BadPattern = true)
    (xe_BadPattern : PySem.W.subIn K (.ref C_BadPattern) (.ref C_BadPattern) = some true)
    {C_BadFact : Addr} (a_BadFact : PySem.W.nsIn K mainGlobals "BadFact" = some (some (.ref C_BadFact)))
    (xi_BadFact : PySem.W.excInitIn K C_BadFact bmValue "ValueError.__new__" = true)
    (xo_BadFact : PySem.W.excOver K C_BadFact bmValue = true)
    (xh_BadFact : PySem.W.hasDictIn K C_BadFact = true)
    (xs_BadFact : PySem.W.findIn K (.ref C_BadFact) "__setattr__" = some (some (.builtin "object.__setattr__")))
    (xb_BadFact : PySem.W.subIn K (.ref C_BadFact) (.type "BaseException") = some true)
    (xt_BadFact : PySem.W.typeIn K (.ref C_BadFact) = some (.type "type"))
    (xk_BadFact : PySem.W.keepIn K (.ref C_BadFact) = true)
    (xm_BadFact : PySem.W.takerIn K C_BadFact "place" = some none)
    (xn_BadFact : PySem.W.findIn K (.ref C_BadFact) "place" = some none)
    (xv_BadFact : PySem.W.findCls K (.type "ValueError") (.type "type") "__init__" = some (.val (.builtin "ValueError.__init__")))
    (xg_BadFact : PySem.W.findIn K (.ref C_BadFact) "__getattribute__" = some (some (.builtin "BaseException.__getattribute__")))
    (xa_BadFact : PySem.W.findIn K (.ref C_BadFact) "__getattr__" = some none)
    (xc_BadFact : PySem.W.isClsIn K C_BadFact = true)
    (xe_BadFact : PySem.W.subIn K (.ref C_BadFact) (.ref C_BadFact) = some true)
    {C_BadLevel : Addr} (a_BadLevel : PySem.W.nsIn K mainGlobals "BadLevel" = some (some (.ref C_BadLevel)))
    (xi_BadLevel : PySem.W.excInitIn K C_BadLevel bmValue "ValueError.__new__" = true)
    (xo_BadLevel : PySem.W.excOver K C_BadLevel bmValue = true)
    (xh_BadLevel : PySem.W.hasDictIn K C_BadLevel = true)
    (xs_BadLevel : PySem.W.findIn K (.ref C_BadLevel) "__setattr__" = some (some (.builtin "object.__setattr__")))
    (xb_BadLevel : PySem.W.subIn K (.ref C_BadLevel) (.type "BaseException") = some true)
    (xt_BadLevel : PySem.W.typeIn K (.ref C_BadLevel) = some (.type "type"))
    (xk_BadLevel : PySem.W.keepIn K (.ref C_BadLevel) = true)
    (xm_BadLevel : PySem.W.takerIn K C_BadLevel "level" = some none)
    (xn_BadLevel : PySem.W.findIn K (.ref C_BadLevel) "level" = some none)
    (xv_BadLevel : PySem.W.findCls K (.type "ValueError") (.type "type") "__init__" = some (.val (.builtin "ValueError.__init__")))
    (xg_BadLevel : PySem.W.findIn K (.ref C_BadLevel) "__getattribute__" = some (some (.builtin "BaseException.__getattribute__")))
    (xa_BadLevel : PySem.W.findIn K (.ref C_BadLevel) "__getattr__" = some none)
    (xc_BadLevel : PySem.W.isClsIn K C_BadLevel = true)
    (xe_BadLevel : PySem.W.subIn K (.ref C_BadLevel) (.ref C_BadLevel) = some true)
    {C_BadInteger : Addr} (a_BadInteger : PySem.W.nsIn K mainGlobals "BadInteger" = some (some (.ref C_BadInteger)))
    (xi_BadInteger : PySem.W.excInitIn K C_BadInteger bmValue "ValueError.__new__" = true)
    (xo_BadInteger : PySem.W.excOver K C_BadInteger bmValue = true)
    (xh_BadInteger : PySem.W.hasDictIn K C_BadInteger = true)
    (xs_BadInteger : PySem.W.findIn K (.ref C_BadInteger) "__setattr__" = some (some (.builtin "object.__setattr__")))
    (xb_BadInteger : PySem.W.subIn K (.ref C_BadInteger) (.type "BaseException") = some true)
    (xt_BadInteger : PySem.W.typeIn K (.ref C_BadInteger) = some (.type "type"))
    (xk_BadInteger : PySem.W.keepIn K (.ref C_BadInteger) = true)
    (xm_BadInteger : PySem.W.takerIn K C_BadInteger "value" = some none)
    (xn_BadInteger : PySem.W.findIn K (.ref C_BadInteger) "value" = some none)
    (xv_BadInteger : PySem.W.findCls K (.type "ValueError") (.type "type") "__init__" = some (.val (.builtin "ValueError.__init__")))
    (xg_BadInteger : PySem.W.findIn K (.ref C_BadInteger) "__getattribute__" = some (some (.builtin "BaseException.__getattribute__")))
    (xa_BadInteger : PySem.W.findIn K (.ref C_BadInteger) "__getattr__" = some none)
    (xc_BadInteger : PySem.W.isClsIn K C_BadInteger = true)
    (xe_BadInteger : PySem.W.subIn K (.ref C_BadInteger) (.ref C_BadInteger) = some true)
    {C_BadGoal : Addr} (a_BadGoal : PySem.W.nsIn K mainGlobals "BadGoal" = some (some (.ref C_BadGoal)))
    (xi_BadGoal : PySem.W.excInitIn K C_BadGoal bmValue "ValueError.__new__" = true)
    (xo_BadGoal : PySem.W.excOver K C_BadGoal bmValue = true)
    (xh_BadGoal : PySem.W.hasDictIn K C_BadGoal = true)
    (xs_BadGoal : PySem.W.findIn K (.ref C_BadGoal) "__setattr__" = some (some (.builtin "object.__setattr__")))
    (xb_BadGoal : PySem.W.subIn K (.ref C_BadGoal) (.type "BaseException") = some true)
    (xt_BadGoal : PySem.W.typeIn K (.ref C_BadGoal) = some (.type "type"))
    (xk_BadGoal : PySem.W.keepIn K (.ref C_BadGoal) = true)
    (xm_BadGoal : PySem.W.takerIn K C_BadGoal "goal" = some none)
    (xn_BadGoal : PySem.W.findIn K (.ref C_BadGoal) "goal" = some none)
    (xv_BadGoal : PySem.W.findCls K (.type "ValueError") (.type "type") "__init__" = some (.val (.builtin "ValueError.__init__")))
    (xg_BadGoal : PySem.W.findIn K (.ref C_BadGoal) "__getattribute__" = some (some (.builtin "BaseException.__getattribute__")))
    (xa_BadGoal : PySem.W.findIn K (.ref C_BadGoal) "__getattr__" = some none)
    (xc_BadGoal : PySem.W.isClsIn K C_BadGoal = true)
    (xe_BadGoal : PySem.W.subIn K (.ref C_BadGoal) (.ref C_BadGoal) = some true)
    {C_BadCommand : Addr} (a_BadCommand : PySem.W.nsIn K mainGlobals "BadCommand" = some (some (.ref C_BadCommand)))
    (xi_BadCommand : PySem.W.excInitIn K C_BadCommand bmValue "ValueError.__new__" = true)
    (xo_BadCommand : PySem.W.excOver K C_BadCommand bmValue = true)
    (xh_BadCommand : PySem.W.hasDictIn K C_BadCommand = true)
    (xs_BadCommand : PySem.W.findIn K (.ref C_BadCommand) "__setattr__" = some (some (.builtin "object.__setattr__")))
    (xb_BadCommand : PySem.W.subIn K (.ref C_BadCommand) (.type "BaseException") = some true)
    (xt_BadCommand : PySem.W.typeIn K (.ref C_BadCommand) = some (.type "type"))
    (xk_BadCommand : PySem.W.keepIn K (.ref C_BadCommand) = true)
    (xm_BadCommand : PySem.W.takerIn K C_BadCommand "none_" = some none)
    (xn_BadCommand : PySem.W.findIn K (.ref C_BadCommand) "none_" = some none)
    (xv_BadCommand : PySem.W.findCls K (.type "ValueError") (.type "type") "__init__" = some (.val (.builtin "ValueError.__init__")))
    (xg_BadCommand : PySem.W.findIn K (.ref C_BadCommand) "__getattribute__" = some (some (.builtin "BaseException.__getattribute__")))
    (xa_BadCommand : PySem.W.findIn K (.ref C_BadCommand) "__getattr__" = some none)
    (xc_BadCommand : PySem.W.isClsIn K C_BadCommand = true)
    (xe_BadCommand : PySem.W.subIn K (.ref C_BadCommand) (.ref C_BadCommand) = some true)
    {C_UnknownName : Addr} (a_UnknownName : PySem.W.nsIn K mainGlobals "UnknownName" = some (some (.ref C_UnknownName)))
    (xi_UnknownName : PySem.W.excInitIn K C_UnknownName bmKey "LookupError.__new__" = true)
    (xo_UnknownName : PySem.W.excOver K C_UnknownName bmKey = true)
    (xh_UnknownName : PySem.W.hasDictIn K C_UnknownName = true)
    (xs_UnknownName : PySem.W.findIn K (.ref C_UnknownName) "__setattr__" = some (some (.builtin "object.__setattr__")))
    (xb_UnknownName : PySem.W.subIn K (.ref C_UnknownName) (.type "BaseException") = some true)
    (xt_UnknownName : PySem.W.typeIn K (.ref C_UnknownName) = some (.type "type"))
    (xk_UnknownName : PySem.W.keepIn K (.ref C_UnknownName) = true)
    (xm_UnknownName : PySem.W.takerIn K C_UnknownName "name" = some none)
    (xn_UnknownName : PySem.W.findIn K (.ref C_UnknownName) "name" = some none)
    (xv_UnknownName : PySem.W.findCls K (.type "KeyError") (.type "type") "__init__" = some (.val (.builtin "KeyError.__init__")))
    (xg_UnknownName : PySem.W.findIn K (.ref C_UnknownName) "__getattribute__" = some (some (.builtin "BaseException.__getattribute__")))
    (xa_UnknownName : PySem.W.findIn K (.ref C_UnknownName) "__getattr__" = some none)
    (xc_UnknownName : PySem.W.isClsIn K C_UnknownName = true)
    (xe_UnknownName : PySem.W.subIn K (.ref C_UnknownName) (.ref C_UnknownName) = some true)
    {C_NoKey : Addr} (a_NoKey : PySem.W.nsIn K mainGlobals "NoKey" = some (some (.ref C_NoKey)))
    (xi_NoKey : PySem.W.excInitIn K C_NoKey bmKey "LookupError.__new__" = true)
    (xo_NoKey : PySem.W.excOver K C_NoKey bmKey = true)
    (xh_NoKey : PySem.W.hasDictIn K C_NoKey = true)
    (xs_NoKey : PySem.W.findIn K (.ref C_NoKey) "__setattr__" = some (some (.builtin "object.__setattr__")))
    (xb_NoKey : PySem.W.subIn K (.ref C_NoKey) (.type "BaseException") = some true)
    (xt_NoKey : PySem.W.typeIn K (.ref C_NoKey) = some (.type "type"))
    (xk_NoKey : PySem.W.keepIn K (.ref C_NoKey) = true)
    (xm_NoKey : PySem.W.takerIn K C_NoKey "name" = some none)
    (xn_NoKey : PySem.W.findIn K (.ref C_NoKey) "name" = some none)
    (xv_NoKey : PySem.W.findCls K (.type "KeyError") (.type "type") "__init__" = some (.val (.builtin "KeyError.__init__")))
    (xg_NoKey : PySem.W.findIn K (.ref C_NoKey) "__getattribute__" = some (some (.builtin "BaseException.__getattribute__")))
    (xa_NoKey : PySem.W.findIn K (.ref C_NoKey) "__getattr__" = some none)
    (xc_NoKey : PySem.W.isClsIn K C_NoKey = true)
    (xe_NoKey : PySem.W.subIn K (.ref C_NoKey) (.ref C_NoKey) = some true)
    (xm2_NoKey : PySem.W.takerIn K C_NoKey "key" = some none) (xn2_NoKey : PySem.W.findIn K (.ref C_NoKey) "key" = some none)
    {C_NoBase : Addr} (a_NoBase : PySem.W.nsIn K mainGlobals "NoBase" = some (some (.ref C_NoBase)))
    (xi_NoBase : PySem.W.excInitIn K C_NoBase bmLookup "LookupError.__new__" = true)
    (xo_NoBase : PySem.W.excOver K C_NoBase bmLookup = true)
    (xh_NoBase : PySem.W.hasDictIn K C_NoBase = true)
    (xs_NoBase : PySem.W.findIn K (.ref C_NoBase) "__setattr__" = some (some (.builtin "object.__setattr__")))
    (xb_NoBase : PySem.W.subIn K (.ref C_NoBase) (.type "BaseException") = some true)
    (xt_NoBase : PySem.W.typeIn K (.ref C_NoBase) = some (.type "type"))
    (xk_NoBase : PySem.W.keepIn K (.ref C_NoBase) = true)
    (xm_NoBase : PySem.W.takerIn K C_NoBase "name" = some none)
    (xn_NoBase : PySem.W.findIn K (.ref C_NoBase) "name" = some none)
    (xv_NoBase : PySem.W.findCls K (.type "LookupError") (.type "type") "__init__" = some (.val (.builtin "LookupError.__init__")))
    (xg_NoBase : PySem.W.findIn K (.ref C_NoBase) "__getattribute__" = some (some (.builtin "BaseException.__getattribute__")))
    (xa_NoBase : PySem.W.findIn K (.ref C_NoBase) "__getattr__" = some none)
    (xc_NoBase : PySem.W.isClsIn K C_NoBase = true)
    (xe_NoBase : PySem.W.subIn K (.ref C_NoBase) (.ref C_NoBase) = some true)
    {C_NoPlace : Addr} (a_NoPlace : PySem.W.nsIn K mainGlobals "NoPlace" = some (some (.ref C_NoPlace)))
    (xi_NoPlace : PySem.W.excInitIn K C_NoPlace bmIndex "IndexError.__new__" = true)
    (xo_NoPlace : PySem.W.excOver K C_NoPlace bmIndex = true)
    (xh_NoPlace : PySem.W.hasDictIn K C_NoPlace = true)
    (xs_NoPlace : PySem.W.findIn K (.ref C_NoPlace) "__setattr__" = some (some (.builtin "object.__setattr__")))
    (xb_NoPlace : PySem.W.subIn K (.ref C_NoPlace) (.type "BaseException") = some true)
    (xt_NoPlace : PySem.W.typeIn K (.ref C_NoPlace) = some (.type "type"))
    (xk_NoPlace : PySem.W.keepIn K (.ref C_NoPlace) = true)
    (xm_NoPlace : PySem.W.takerIn K C_NoPlace "place" = some none)
    (xn_NoPlace : PySem.W.findIn K (.ref C_NoPlace) "place" = some none)
    (xv_NoPlace : PySem.W.findCls K (.type "IndexError") (.type "type") "__init__" = some (.val (.builtin "IndexError.__init__")))
    (xg_NoPlace : PySem.W.findIn K (.ref C_NoPlace) "__getattribute__" = some (some (.builtin "BaseException.__getattribute__")))
    (xa_NoPlace : PySem.W.findIn K (.ref C_NoPlace) "__getattr__" = some none)
    (xc_NoPlace : PySem.W.isClsIn K C_NoPlace = true)
    (xe_NoPlace : PySem.W.subIn K (.ref C_NoPlace) (.ref C_NoPlace) = some true)
    {C_TooMany : Addr} (a_TooMany : PySem.W.nsIn K mainGlobals "TooMany" = some (some (.ref C_TooMany)))
    (xi_TooMany : PySem.W.excInitIn K C_TooMany bmOverflow "OverflowError.__new__" = true)
    (xo_TooMany : PySem.W.excOver K C_TooMany bmOverflow = true)
    (xh_TooMany : PySem.W.hasDictIn K C_TooMany = true)
    (xs_TooMany : PySem.W.findIn K (.ref C_TooMany) "__setattr__" = some (some (.builtin "object.__setattr__")))
    (xb_TooMany : PySem.W.subIn K (.ref C_TooMany) (.type "BaseException") = some true)
    (xt_TooMany : PySem.W.typeIn K (.ref C_TooMany) = some (.type "type"))
    (xk_TooMany : PySem.W.keepIn K (.ref C_TooMany) = true)
    (xm_TooMany : PySem.W.takerIn K C_TooMany "limit" = some none)
    (xn_TooMany : PySem.W.findIn K (.ref C_TooMany) "limit" = some none)
    (xv_TooMany : PySem.W.findCls K (.type "OverflowError") (.type "type") "__init__" = some (.val (.builtin "OverflowError.__init__")))
    (xg_TooMany : PySem.W.findIn K (.ref C_TooMany) "__getattribute__" = some (some (.builtin "BaseException.__getattribute__")))
    (xa_TooMany : PySem.W.findIn K (.ref C_TooMany) "__getattr__" = some none)
    (xc_TooMany : PySem.W.isClsIn K C_TooMany = true)
    (xe_TooMany : PySem.W.subIn K (.ref C_TooMany) (.ref C_TooMany) = some true)
    {C_Taken : Addr} (a_Taken : PySem.W.nsIn K mainGlobals "Taken" = some (some (.ref C_Taken)))
    (xi_Taken : PySem.W.excInitIn K C_Taken bmRuntime "RuntimeError.__new__" = true)
    (xo_Taken : PySem.W.excOver K C_Taken bmRuntime = true)
    (xh_Taken : PySem.W.hasDictIn K C_Taken = true)
    (xs_Taken : PySem.W.findIn K (.ref C_Taken) "__setattr__" = some (some (.builtin "object.__setattr__")))
    (xb_Taken : PySem.W.subIn K (.ref C_Taken) (.type "BaseException") = some true)
    (xt_Taken : PySem.W.typeIn K (.ref C_Taken) = some (.type "type"))
    (xk_Taken : PySem.W.keepIn K (.ref C_Taken) = true)
    (xm_Taken : PySem.W.takerIn K C_Taken "name" = some none)
    (xn_Taken : PySem.W.findIn K (.ref C_Taken) "name" = some none)
    (xv_Taken : PySem.W.findCls K (.type "RuntimeError") (.type "type") "__init__" = some (.val (.builtin "RuntimeError.__init__")))
    (xg_Taken : PySem.W.findIn K (.ref C_Taken) "__getattribute__" = some (some (.builtin "BaseException.__getattribute__")))
    (xa_Taken : PySem.W.findIn K (.ref C_Taken) "__getattr__" = some none)
    (xc_Taken : PySem.W.isClsIn K C_Taken = true)
    (xe_Taken : PySem.W.subIn K (.ref C_Taken) (.ref C_Taken) = some true)
    {C_InUse : Addr} (a_InUse : PySem.W.nsIn K mainGlobals "InUse" = some (some (.ref C_InUse)))
    (xi_InUse : PySem.W.excInitIn K C_InUse bmRuntime "RuntimeError.__new__" = true)
    (xo_InUse : PySem.W.excOver K C_InUse bmRuntime = true)
    (xh_InUse : PySem.W.hasDictIn K C_InUse = true)
    (xs_InUse : PySem.W.findIn K (.ref C_InUse) "__setattr__" = some (some (.builtin "object.__setattr__")))
    (xb_InUse : PySem.W.subIn K (.ref C_InUse) (.type "BaseException") = some true)
    (xt_InUse : PySem.W.typeIn K (.ref C_InUse) = some (.type "type"))
    (xk_InUse : PySem.W.keepIn K (.ref C_InUse) = true)
    (xm_InUse : PySem.W.takerIn K C_InUse "name" = some none)
    (xn_InUse : PySem.W.findIn K (.ref C_InUse) "name" = some none)
    (xv_InUse : PySem.W.findCls K (.type "RuntimeError") (.type "type") "__init__" = some (.val (.builtin "RuntimeError.__init__")))
    (xg_InUse : PySem.W.findIn K (.ref C_InUse) "__getattribute__" = some (some (.builtin "BaseException.__getattribute__")))
    (xa_InUse : PySem.W.findIn K (.ref C_InUse) "__getattr__" = some none)
    (xc_InUse : PySem.W.isClsIn K C_InUse = true)
    (xe_InUse : PySem.W.subIn K (.ref C_InUse) (.ref C_InUse) = some true)
    {C_Stale : Addr} (a_Stale : PySem.W.nsIn K mainGlobals "Stale" = some (some (.ref C_Stale)))
    (xi_Stale : PySem.W.excInitIn K C_Stale bmRuntime "RuntimeError.__new__" = true)
    (xo_Stale : PySem.W.excOver K C_Stale bmRuntime = true)
    (xh_Stale : PySem.W.hasDictIn K C_Stale = true)
    (xs_Stale : PySem.W.findIn K (.ref C_Stale) "__setattr__" = some (some (.builtin "object.__setattr__")))
    (xb_Stale : PySem.W.subIn K (.ref C_Stale) (.type "BaseException") = some true)
    (xt_Stale : PySem.W.typeIn K (.ref C_Stale) = some (.type "type"))
    (xk_Stale : PySem.W.keepIn K (.ref C_Stale) = true)
    (xm_Stale : PySem.W.takerIn K C_Stale "key" = some none)
    (xn_Stale : PySem.W.findIn K (.ref C_Stale) "key" = some none)
    (xv_Stale : PySem.W.findCls K (.type "RuntimeError") (.type "type") "__init__" = some (.val (.builtin "RuntimeError.__init__")))
    (xg_Stale : PySem.W.findIn K (.ref C_Stale) "__getattribute__" = some (some (.builtin "BaseException.__getattribute__")))
    (xa_Stale : PySem.W.findIn K (.ref C_Stale) "__getattr__" = some none)
    (xc_Stale : PySem.W.isClsIn K C_Stale = true)
    (xe_Stale : PySem.W.subIn K (.ref C_Stale) (.ref C_Stale) = some true)
    {C_Busy : Addr} (a_Busy : PySem.W.nsIn K mainGlobals "Busy" = some (some (.ref C_Busy)))
    (xi_Busy : PySem.W.excInitIn K C_Busy bmRuntime "RuntimeError.__new__" = true)
    (xo_Busy : PySem.W.excOver K C_Busy bmRuntime = true)
    (xh_Busy : PySem.W.hasDictIn K C_Busy = true)
    (xs_Busy : PySem.W.findIn K (.ref C_Busy) "__setattr__" = some (some (.builtin "object.__setattr__")))
    (xb_Busy : PySem.W.subIn K (.ref C_Busy) (.type "BaseException") = some true)
    (xt_Busy : PySem.W.typeIn K (.ref C_Busy) = some (.type "type"))
    (xk_Busy : PySem.W.keepIn K (.ref C_Busy) = true)
    (xm_Busy : PySem.W.takerIn K C_Busy "none_" = some none)
    (xn_Busy : PySem.W.findIn K (.ref C_Busy) "none_" = some none)
    (xv_Busy : PySem.W.findCls K (.type "RuntimeError") (.type "type") "__init__" = some (.val (.builtin "RuntimeError.__init__")))
    (xg_Busy : PySem.W.findIn K (.ref C_Busy) "__getattribute__" = some (some (.builtin "BaseException.__getattribute__")))
    (xa_Busy : PySem.W.findIn K (.ref C_Busy) "__getattr__" = some none)
    (xc_Busy : PySem.W.isClsIn K C_Busy = true)
    (xe_Busy : PySem.W.subIn K (.ref C_Busy) (.ref C_Busy) = some true)
    {C_NothingLeft : Addr} (a_NothingLeft : PySem.W.nsIn K mainGlobals "NothingLeft" = some (some (.ref C_NothingLeft)))
    (xi_NothingLeft : PySem.W.excInitIn K C_NothingLeft bmRuntime "RuntimeError.__new__" = true)
    (xo_NothingLeft : PySem.W.excOver K C_NothingLeft bmRuntime = true)
    (xh_NothingLeft : PySem.W.hasDictIn K C_NothingLeft = true)
    (xs_NothingLeft : PySem.W.findIn K (.ref C_NothingLeft) "__setattr__" = some (some (.builtin "object.__setattr__")))
    (xb_NothingLeft : PySem.W.subIn K (.ref C_NothingLeft) (.type "BaseException") = some true)
    (xt_NothingLeft : PySem.W.typeIn K (.ref C_NothingLeft) = some (.type "type"))
    (xk_NothingLeft : PySem.W.keepIn K (.ref C_NothingLeft) = true)
    (xm_NothingLeft : PySem.W.takerIn K C_NothingLeft "none_" = some none)
    (xn_NothingLeft : PySem.W.findIn K (.ref C_NothingLeft) "none_" = some none)
    (xv_NothingLeft : PySem.W.findCls K (.type "RuntimeError") (.type "type") "__init__" = some (.val (.builtin "RuntimeError.__init__")))
    (xg_NothingLeft : PySem.W.findIn K (.ref C_NothingLeft) "__getattribute__" = some (some (.builtin "BaseException.__getattribute__")))
    (xa_NothingLeft : PySem.W.findIn K (.ref C_NothingLeft) "__getattr__" = some none)
    (xc_NothingLeft : PySem.W.isClsIn K C_NothingLeft = true)
    (xe_NothingLeft : PySem.W.subIn K (.ref C_NothingLeft) (.ref C_NothingLeft) = some true)
    (xca_BadName : PySem.W.findIn K (.ref C_BadName) "__class__" = some (some (.builtin "object.__class__"))) (xcn_BadName : PySem.W.specialIn K (.builtin "object.__class__") "__get__" = some (some (.builtin "getset_descriptor.__get__"))) (xct_BadName : PySem.W.takesIn K (.builtin "object.__class__") = some true) (xcm_BadName : PySem.W.mroIn K C_BadName (.type "object") = some true)
    (xca_BadRule : PySem.W.findIn K (.ref C_BadRule) "__class__" = some (some (.builtin "object.__class__"))) (xcn_BadRule : PySem.W.specialIn K (.builtin "object.__class__") "__get__" = some (some (.builtin "getset_descriptor.__get__"))) (xct_BadRule : PySem.W.takesIn K (.builtin "object.__class__") = some true) (xcm_BadRule : PySem.W.mroIn K C_BadRule (.type "object") = some true)
    (xca_BadText : PySem.W.findIn K (.ref C_BadText) "__class__" = some (some (.builtin "object.__class__"))) (xcn_BadText : PySem.W.specialIn K (.builtin "object.__class__") "__get__" = some (some (.builtin "getset_descriptor.__get__"))) (xct_BadText : PySem.W.takesIn K (.builtin "object.__class__") = some true) (xcm_BadText : PySem.W.mroIn K C_BadText (.type "object") = some true)
    (xca_BadForm : PySem.W.findIn K (.ref C_BadForm) "__class__" = some (some (.builtin "object.__class__"))) (xcn_BadForm : PySem.W.specialIn K (.builtin "object.__class__") "__get__" = some (some (.builtin "getset_descriptor.__get__"))) (xct_BadForm : PySem.W.takesIn K (.builtin "object.__class__") = some true) (xcm_BadForm : PySem.W.mroIn K C_BadForm (.type "object") = some true)
    (xca_BadPattern : PySem.W.findIn K (.ref C_BadPattern) "__class__" = some (some (.builtin "object.__class__"))) (xcn_BadPattern : PySem.W.specialIn K (.builtin "object.__class__") "__get__" = some (some (.builtin "getset_descriptor.__get__"))) (xct_BadPattern : PySem.W.takesIn K (.builtin "object.__class__") = some true) (xcm_BadPattern : PySem.W.mroIn K C_BadPattern (.type "object") = some true)
    (xca_BadFact : PySem.W.findIn K (.ref C_BadFact) "__class__" = some (some (.builtin "object.__class__"))) (xcn_BadFact : PySem.W.specialIn K (.builtin "object.__class__") "__get__" = some (some (.builtin "getset_descriptor.__get__"))) (xct_BadFact : PySem.W.takesIn K (.builtin "object.__class__") = some true) (xcm_BadFact : PySem.W.mroIn K C_BadFact (.type "object") = some true)
    (xca_BadLevel : PySem.W.findIn K (.ref C_BadLevel) "__class__" = some (some (.builtin "object.__class__"))) (xcn_BadLevel : PySem.W.specialIn K (.builtin "object.__class__") "__get__" = some (some (.builtin "getset_descriptor.__get__"))) (xct_BadLevel : PySem.W.takesIn K (.builtin "object.__class__") = some true) (xcm_BadLevel : PySem.W.mroIn K C_BadLevel (.type "object") = some true)
    (xca_BadInteger : PySem.W.findIn K (.ref C_BadInteger) "__class__" = some (some (.builtin "object.__class__"))) (xcn_BadInteger : PySem.W.specialIn K (.builtin "object.__class__") "__get__" = some (some (.builtin "getset_descriptor.__get__"))) (xct_BadInteger : PySem.W.takesIn K (.builtin "object.__class__") = some true) (xcm_BadInteger : PySem.W.mroIn K C_BadInteger (.type "object") = some true)
    (xca_BadGoal : PySem.W.findIn K (.ref C_BadGoal) "__class__" = some (some (.builtin "object.__class__"))) (xcn_BadGoal : PySem.W.specialIn K (.builtin "object.__class__") "__get__" = some (some (.builtin "getset_descriptor.__get__"))) (xct_BadGoal : PySem.W.takesIn K (.builtin "object.__class__") = some true) (xcm_BadGoal : PySem.W.mroIn K C_BadGoal (.type "object") = some true)
    (xca_BadCommand : PySem.W.findIn K (.ref C_BadCommand) "__class__" = some (some (.builtin "object.__class__"))) (xcn_BadCommand : PySem.W.specialIn K (.builtin "object.__class__") "__get__" = some (some (.builtin "getset_descriptor.__get__"))) (xct_BadCommand : PySem.W.takesIn K (.builtin "object.__class__") = some true) (xcm_BadCommand : PySem.W.mroIn K C_BadCommand (.type "object") = some true)
    (xca_UnknownName : PySem.W.findIn K (.ref C_UnknownName) "__class__" = some (some (.builtin "object.__class__"))) (xcn_UnknownName : PySem.W.specialIn K (.builtin "object.__class__") "__get__" = some (some (.builtin "getset_descriptor.__get__"))) (xct_UnknownName : PySem.W.takesIn K (.builtin "object.__class__") = some true) (xcm_UnknownName : PySem.W.mroIn K C_UnknownName (.type "object") = some true)
    (xca_NoKey : PySem.W.findIn K (.ref C_NoKey) "__class__" = some (some (.builtin "object.__class__"))) (xcn_NoKey : PySem.W.specialIn K (.builtin "object.__class__") "__get__" = some (some (.builtin "getset_descriptor.__get__"))) (xct_NoKey : PySem.W.takesIn K (.builtin "object.__class__") = some true) (xcm_NoKey : PySem.W.mroIn K C_NoKey (.type "object") = some true)
    (xca_NoBase : PySem.W.findIn K (.ref C_NoBase) "__class__" = some (some (.builtin "object.__class__"))) (xcn_NoBase : PySem.W.specialIn K (.builtin "object.__class__") "__get__" = some (some (.builtin "getset_descriptor.__get__"))) (xct_NoBase : PySem.W.takesIn K (.builtin "object.__class__") = some true) (xcm_NoBase : PySem.W.mroIn K C_NoBase (.type "object") = some true)
    (xca_NoPlace : PySem.W.findIn K (.ref C_NoPlace) "__class__" = some (some (.builtin "object.__class__"))) (xcn_NoPlace : PySem.W.specialIn K (.builtin "object.__class__") "__get__" = some (some (.builtin "getset_descriptor.__get__"))) (xct_NoPlace : PySem.W.takesIn K (.builtin "object.__class__") = some true) (xcm_NoPlace : PySem.W.mroIn K C_NoPlace (.type "object") = some true)
    (xca_TooMany : PySem.W.findIn K (.ref C_TooMany) "__class__" = some (some (.builtin "object.__class__"))) (xcn_TooMany : PySem.W.specialIn K (.builtin "object.__class__") "__get__" = some (some (.builtin "getset_descriptor.__get__"))) (xct_TooMany : PySem.W.takesIn K (.builtin "object.__class__") = some true) (xcm_TooMany : PySem.W.mroIn K C_TooMany (.type "object") = some true)
    (xca_Taken : PySem.W.findIn K (.ref C_Taken) "__class__" = some (some (.builtin "object.__class__"))) (xcn_Taken : PySem.W.specialIn K (.builtin "object.__class__") "__get__" = some (some (.builtin "getset_descriptor.__get__"))) (xct_Taken : PySem.W.takesIn K (.builtin "object.__class__") = some true) (xcm_Taken : PySem.W.mroIn K C_Taken (.type "object") = some true)
    (xca_InUse : PySem.W.findIn K (.ref C_InUse) "__class__" = some (some (.builtin "object.__class__"))) (xcn_InUse : PySem.W.specialIn K (.builtin "object.__class__") "__get__" = some (some (.builtin "getset_descriptor.__get__"))) (xct_InUse : PySem.W.takesIn K (.builtin "object.__class__") = some true) (xcm_InUse : PySem.W.mroIn K C_InUse (.type "object") = some true)
    (xca_Stale : PySem.W.findIn K (.ref C_Stale) "__class__" = some (some (.builtin "object.__class__"))) (xcn_Stale : PySem.W.specialIn K (.builtin "object.__class__") "__get__" = some (some (.builtin "getset_descriptor.__get__"))) (xct_Stale : PySem.W.takesIn K (.builtin "object.__class__") = some true) (xcm_Stale : PySem.W.mroIn K C_Stale (.type "object") = some true)
    (xca_Busy : PySem.W.findIn K (.ref C_Busy) "__class__" = some (some (.builtin "object.__class__"))) (xcn_Busy : PySem.W.specialIn K (.builtin "object.__class__") "__get__" = some (some (.builtin "getset_descriptor.__get__"))) (xct_Busy : PySem.W.takesIn K (.builtin "object.__class__") = some true) (xcm_Busy : PySem.W.mroIn K C_Busy (.type "object") = some true)
    (xca_NothingLeft : PySem.W.findIn K (.ref C_NothingLeft) "__class__" = some (some (.builtin "object.__class__"))) (xcn_NothingLeft : PySem.W.specialIn K (.builtin "object.__class__") "__get__" = some (some (.builtin "getset_descriptor.__get__"))) (xct_NothingLeft : PySem.W.takesIn K (.builtin "object.__class__") = some true) (xcm_NothingLeft : PySem.W.mroIn K C_NothingLeft (.type "object") = some true)
    (kx_BadName_BadName : PySem.W.kitOne K (.ref C_BadName) (.ref C_BadName) = some true)
    (kx_BadName_BadRule : PySem.W.kitOne K (.ref C_BadName) (.ref C_BadRule) = some false)
    (kx_BadName_BadText : PySem.W.kitOne K (.ref C_BadName) (.ref C_BadText) = some false)
    (kx_BadName_BadForm : PySem.W.kitOne K (.ref C_BadName) (.ref C_BadForm) = some false)
    (kx_BadName_BadPattern : PySem.W.kitOne K (.ref C_BadName) (.ref C_BadPattern) = some false)
    (kx_BadName_BadFact : PySem.W.kitOne K (.ref C_BadName) (.ref C_BadFact) = some false)
    (kx_BadName_BadLevel : PySem.W.kitOne K (.ref C_BadName) (.ref C_BadLevel) = some false)
    (kx_BadName_BadInteger : PySem.W.kitOne K (.ref C_BadName) (.ref C_BadInteger) = some false)
    (kx_BadName_BadGoal : PySem.W.kitOne K (.ref C_BadName) (.ref C_BadGoal) = some false)
    (kx_BadName_BadCommand : PySem.W.kitOne K (.ref C_BadName) (.ref C_BadCommand) = some false)
    (kx_BadName_UnknownName : PySem.W.kitOne K (.ref C_BadName) (.ref C_UnknownName) = some false)
    (kx_BadName_NoKey : PySem.W.kitOne K (.ref C_BadName) (.ref C_NoKey) = some false)
    (kx_BadName_NoBase : PySem.W.kitOne K (.ref C_BadName) (.ref C_NoBase) = some false)
    (kx_BadName_NoPlace : PySem.W.kitOne K (.ref C_BadName) (.ref C_NoPlace) = some false)
    (kx_BadName_TooMany : PySem.W.kitOne K (.ref C_BadName) (.ref C_TooMany) = some false)
    (kx_BadName_Taken : PySem.W.kitOne K (.ref C_BadName) (.ref C_Taken) = some false)
    (kx_BadName_InUse : PySem.W.kitOne K (.ref C_BadName) (.ref C_InUse) = some false)
    (kx_BadName_Stale : PySem.W.kitOne K (.ref C_BadName) (.ref C_Stale) = some false)
    (kx_BadName_Busy : PySem.W.kitOne K (.ref C_BadName) (.ref C_Busy) = some false)
    (kx_BadName_NothingLeft : PySem.W.kitOne K (.ref C_BadName) (.ref C_NothingLeft) = some false)
    (kx_BadRule_BadName : PySem.W.kitOne K (.ref C_BadRule) (.ref C_BadName) = some false)
    (kx_BadRule_BadRule : PySem.W.kitOne K (.ref C_BadRule) (.ref C_BadRule) = some true)
    (kx_BadRule_BadText : PySem.W.kitOne K (.ref C_BadRule) (.ref C_BadText) = some false)
    (kx_BadRule_BadForm : PySem.W.kitOne K (.ref C_BadRule) (.ref C_BadForm) = some false)
    (kx_BadRule_BadPattern : PySem.W.kitOne K (.ref C_BadRule) (.ref C_BadPattern) = some false)
    (kx_BadRule_BadFact : PySem.W.kitOne K (.ref C_BadRule) (.ref C_BadFact) = some false)
    (kx_BadRule_BadLevel : PySem.W.kitOne K (.ref C_BadRule) (.ref C_BadLevel) = some false)
    (kx_BadRule_BadInteger : PySem.W.kitOne K (.ref C_BadRule) (.ref C_BadInteger) = some false)
    (kx_BadRule_BadGoal : PySem.W.kitOne K (.ref C_BadRule) (.ref C_BadGoal) = some false)
    (kx_BadRule_BadCommand : PySem.W.kitOne K (.ref C_BadRule) (.ref C_BadCommand) = some false)
    (kx_BadRule_UnknownName : PySem.W.kitOne K (.ref C_BadRule) (.ref C_UnknownName) = some false)
    (kx_BadRule_NoKey : PySem.W.kitOne K (.ref C_BadRule) (.ref C_NoKey) = some false)
    (kx_BadRule_NoBase : PySem.W.kitOne K (.ref C_BadRule) (.ref C_NoBase) = some false)
    (kx_BadRule_NoPlace : PySem.W.kitOne K (.ref C_BadRule) (.ref C_NoPlace) = some false)
    (kx_BadRule_TooMany : PySem.W.kitOne K (.ref C_BadRule) (.ref C_TooMany) = some false)
    (kx_BadRule_Taken : PySem.W.kitOne K (.ref C_BadRule) (.ref C_Taken) = some false)
    (kx_BadRule_InUse : PySem.W.kitOne K (.ref C_BadRule) (.ref C_InUse) = some false)
    (kx_BadRule_Stale : PySem.W.kitOne K (.ref C_BadRule) (.ref C_Stale) = some false)
    (kx_BadRule_Busy : PySem.W.kitOne K (.ref C_BadRule) (.ref C_Busy) = some false)
    (kx_BadRule_NothingLeft : PySem.W.kitOne K (.ref C_BadRule) (.ref C_NothingLeft) = some false)
    (kx_BadText_BadName : PySem.W.kitOne K (.ref C_BadText) (.ref C_BadName) = some false)
    (kx_BadText_BadRule : PySem.W.kitOne K (.ref C_BadText) (.ref C_BadRule) = some false)
    (kx_BadText_BadText : PySem.W.kitOne K (.ref C_BadText) (.ref C_BadText) = some true)
    (kx_BadText_BadForm : PySem.W.kitOne K (.ref C_BadText) (.ref C_BadForm) = some false)
    (kx_BadText_BadPattern : PySem.W.kitOne K (.ref C_BadText) (.ref C_BadPattern) = some false)
    (kx_BadText_BadFact : PySem.W.kitOne K (.ref C_BadText) (.ref C_BadFact) = some false)
    (kx_BadText_BadLevel : PySem.W.kitOne K (.ref C_BadText) (.ref C_BadLevel) = some false)
    (kx_BadText_BadInteger : PySem.W.kitOne K (.ref C_BadText) (.ref C_BadInteger) = some false)
    (kx_BadText_BadGoal : PySem.W.kitOne K (.ref C_BadText) (.ref C_BadGoal) = some false)
    (kx_BadText_BadCommand : PySem.W.kitOne K (.ref C_BadText) (.ref C_BadCommand) = some false)
    (kx_BadText_UnknownName : PySem.W.kitOne K (.ref C_BadText) (.ref C_UnknownName) = some false)
    (kx_BadText_NoKey : PySem.W.kitOne K (.ref C_BadText) (.ref C_NoKey) = some false)
    (kx_BadText_NoBase : PySem.W.kitOne K (.ref C_BadText) (.ref C_NoBase) = some false)
    (kx_BadText_NoPlace : PySem.W.kitOne K (.ref C_BadText) (.ref C_NoPlace) = some false)
    (kx_BadText_TooMany : PySem.W.kitOne K (.ref C_BadText) (.ref C_TooMany) = some false)
    (kx_BadText_Taken : PySem.W.kitOne K (.ref C_BadText) (.ref C_Taken) = some false)
    (kx_BadText_InUse : PySem.W.kitOne K (.ref C_BadText) (.ref C_InUse) = some false)
    (kx_BadText_Stale : PySem.W.kitOne K (.ref C_BadText) (.ref C_Stale) = some false)
    (kx_BadText_Busy : PySem.W.kitOne K (.ref C_BadText) (.ref C_Busy) = some false)
    (kx_BadText_NothingLeft : PySem.W.kitOne K (.ref C_BadText) (.ref C_NothingLeft) = some false)
    (kx_BadForm_BadName : PySem.W.kitOne K (.ref C_BadForm) (.ref C_BadName) = some false)
    (kx_BadForm_BadRule : PySem.W.kitOne K (.ref C_BadForm) (.ref C_BadRule) = some false)
    (kx_BadForm_BadText : PySem.W.kitOne K (.ref C_BadForm) (.ref C_BadText) = some false)
    (kx_BadForm_BadForm : PySem.W.kitOne K (.ref C_BadForm) (.ref C_BadForm) = some true)
    (kx_BadForm_BadPattern : PySem.W.kitOne K (.ref C_BadForm) (.ref C_BadPattern) = some false)
    (kx_BadForm_BadFact : PySem.W.kitOne K (.ref C_BadForm) (.ref C_BadFact) = some false)
    (kx_BadForm_BadLevel : PySem.W.kitOne K (.ref C_BadForm) (.ref C_BadLevel) = some false)
    (kx_BadForm_BadInteger : PySem.W.kitOne K (.ref C_BadForm) (.ref C_BadInteger) = some false)
    (kx_BadForm_BadGoal : PySem.W.kitOne K (.ref C_BadForm) (.ref C_BadGoal) = some false)
    (kx_BadForm_BadCommand : PySem.W.kitOne K (.ref C_BadForm) (.ref C_BadCommand) = some false)
    (kx_BadForm_UnknownName : PySem.W.kitOne K (.ref C_BadForm) (.ref C_UnknownName) = some false)
    (kx_BadForm_NoKey : PySem.W.kitOne K (.ref C_BadForm) (.ref C_NoKey) = some false)
    (kx_BadForm_NoBase : PySem.W.kitOne K (.ref C_BadForm) (.ref C_NoBase) = some false)
    (kx_BadForm_NoPlace : PySem.W.kitOne K (.ref C_BadForm) (.ref C_NoPlace) = some false)
    (kx_BadForm_TooMany : PySem.W.kitOne K (.ref C_BadForm) (.ref C_TooMany) = some false)
    (kx_BadForm_Taken : PySem.W.kitOne K (.ref C_BadForm) (.ref C_Taken) = some false)
    (kx_BadForm_InUse : PySem.W.kitOne K (.ref C_BadForm) (.ref C_InUse) = some false)
    (kx_BadForm_Stale : PySem.W.kitOne K (.ref C_BadForm) (.ref C_Stale) = some false)
    (kx_BadForm_Busy : PySem.W.kitOne K (.ref C_BadForm) (.ref C_Busy) = some false)
    (kx_BadForm_NothingLeft : PySem.W.kitOne K (.ref C_BadForm) (.ref C_NothingLeft) = some false)
    (kx_BadPattern_BadName : PySem.W.kitOne K (.ref C_BadPattern) (.ref C_BadName) = some false)
    (kx_BadPattern_BadRule : PySem.W.kitOne K (.ref C_BadPattern) (.ref C_BadRule) = some false)
    (kx_BadPattern_BadText : PySem.W.kitOne K (.ref C_BadPattern) (.ref C_BadText) = some false)
    (kx_BadPattern_BadForm : PySem.W.kitOne K (.ref C_BadPattern) (.ref C_BadForm) = some false)
    (kx_BadPattern_BadPattern : PySem.W.kitOne K (.ref C_BadPattern) (.ref C_BadPattern) = some true)
    (kx_BadPattern_BadFact : PySem.W.kitOne K (.ref C_BadPattern) (.ref C_BadFact) = some false)
    (kx_BadPattern_BadLevel : PySem.W.kitOne K (.ref C_BadPattern) (.ref C_BadLevel) = some false)
    (kx_BadPattern_BadInteger : PySem.W.kitOne K (.ref C_BadPattern) (.ref C_BadInteger) = some false)
    (kx_BadPattern_BadGoal : PySem.W.kitOne K (.ref C_BadPattern) (.ref C_BadGoal) = some false)
    (kx_BadPattern_BadCommand : PySem.W.kitOne K (.ref C_BadPattern) (.ref C_BadCommand) = some false)
    (kx_BadPattern_UnknownName : PySem.W.kitOne K (.ref C_BadPattern) (.ref C_UnknownName) = some false)
    (kx_BadPattern_NoKey : PySem.W.kitOne K (.ref C_BadPattern) (.ref C_NoKey) = some false)
    (kx_BadPattern_NoBase : PySem.W.kitOne K (.ref C_BadPattern) (.ref C_NoBase) = some false)
    (kx_BadPattern_NoPlace : PySem.W.kitOne K (.ref C_BadPattern) (.ref C_NoPlace) = some false)
    (kx_BadPattern_TooMany : PySem.W.kitOne K (.ref C_BadPattern) (.ref C_TooMany) = some false)
    (kx_BadPattern_Taken : PySem.W.kitOne K (.ref C_BadPattern) (.ref C_Taken) = some false)
    (kx_BadPattern_InUse : PySem.W.kitOne K (.ref C_BadPattern) (.ref C_InUse) = some false)
    (kx_BadPattern_Stale : PySem.W.kitOne K (.ref C_BadPattern) (.ref C_Stale) = some false)
    (kx_BadPattern_Busy : PySem.W.kitOne K (.ref C_BadPattern) (.ref C_Busy) = some false)
    (kx_BadPattern_NothingLeft : PySem.W.kitOne K (.ref C_BadPattern) (.ref C_NothingLeft) = some false)
    (kx_BadFact_BadName : PySem.W.kitOne K (.ref C_BadFact) (.ref C_BadName) = some false)
    (kx_BadFact_BadRule : PySem.W.kitOne K (.ref C_BadFact) (.ref C_BadRule) = some false)
    (kx_BadFact_BadText : PySem.W.kitOne K (.ref C_BadFact) (.ref C_BadText) = some false)
    (kx_BadFact_BadForm : PySem.W.kitOne K (.ref C_BadFact) (.ref C_BadForm) = some false)
    (kx_BadFact_BadPattern : PySem.W.kitOne K (.ref C_BadFact) (.ref C_BadPattern) = some false)
    (kx_BadFact_BadFact : PySem.W.kitOne K (.ref C_BadFact) (.ref C_BadFact) = some true)
    (kx_BadFact_BadLevel : PySem.W.kitOne K (.ref C_BadFact) (.ref C_BadLevel) = some false)
    (kx_BadFact_BadInteger : PySem.W.kitOne K (.ref C_BadFact) (.ref C_BadInteger) = some false)
    (kx_BadFact_BadGoal : PySem.W.kitOne K (.ref C_BadFact) (.ref C_BadGoal) = some false)
    (kx_BadFact_BadCommand : PySem.W.kitOne K (.ref C_BadFact) (.ref C_BadCommand) = some false)
    (kx_BadFact_UnknownName : PySem.W.kitOne K (.ref C_BadFact) (.ref C_UnknownName) = some false)
    (kx_BadFact_NoKey : PySem.W.kitOne K (.ref C_BadFact) (.ref C_NoKey) = some false)
    (kx_BadFact_NoBase : PySem.W.kitOne K (.ref C_BadFact) (.ref C_NoBase) = some false)
    (kx_BadFact_NoPlace : PySem.W.kitOne K (.ref C_BadFact) (.ref C_NoPlace) = some false)
    (kx_BadFact_TooMany : PySem.W.kitOne K (.ref C_BadFact) (.ref C_TooMany) = some false)
    (kx_BadFact_Taken : PySem.W.kitOne K (.ref C_BadFact) (.ref C_Taken) = some false)
    (kx_BadFact_InUse : PySem.W.kitOne K (.ref C_BadFact) (.ref C_InUse) = some false)
    (kx_BadFact_Stale : PySem.W.kitOne K (.ref C_BadFact) (.ref C_Stale) = some false)
    (kx_BadFact_Busy : PySem.W.kitOne K (.ref C_BadFact) (.ref C_Busy) = some false)
    (kx_BadFact_NothingLeft : PySem.W.kitOne K (.ref C_BadFact) (.ref C_NothingLeft) = some false)
    (kx_BadLevel_BadName : PySem.W.kitOne K (.ref C_BadLevel) (.ref C_BadName) = some false)
    (kx_BadLevel_BadRule : PySem.W.kitOne K (.ref C_BadLevel) (.ref C_BadRule) = some false)
    (kx_BadLevel_BadText : PySem.W.kitOne K (.ref C_BadLevel) (.ref C_BadText) = some false)
    (kx_BadLevel_BadForm : PySem.W.kitOne K (.ref C_BadLevel) (.ref C_BadForm) = some false)
    (kx_BadLevel_BadPattern : PySem.W.kitOne K (.ref C_BadLevel) (.ref C_BadPattern) = some false)
    (kx_BadLevel_BadFact : PySem.W.kitOne K (.ref C_BadLevel) (.ref C_BadFact) = some false)
    (kx_BadLevel_BadLevel : PySem.W.kitOne K (.ref C_BadLevel) (.ref C_BadLevel) = some true)
    (kx_BadLevel_BadInteger : PySem.W.kitOne K (.ref C_BadLevel) (.ref C_BadInteger) = some false)
    (kx_BadLevel_BadGoal : PySem.W.kitOne K (.ref C_BadLevel) (.ref C_BadGoal) = some false)
    (kx_BadLevel_BadCommand : PySem.W.kitOne K (.ref C_BadLevel) (.ref C_BadCommand) = some false)
    (kx_BadLevel_UnknownName : PySem.W.kitOne K (.ref C_BadLevel) (.ref C_UnknownName) = some false)
    (kx_BadLevel_NoKey : PySem.W.kitOne K (.ref C_BadLevel) (.ref C_NoKey) = some false)
    (kx_BadLevel_NoBase : PySem.W.kitOne K (.ref C_BadLevel) (.ref C_NoBase) = some false)
    (kx_BadLevel_NoPlace : PySem.W.kitOne K (.ref C_BadLevel) (.ref C_NoPlace) = some false)
    (kx_BadLevel_TooMany : PySem.W.kitOne K (.ref C_BadLevel) (.ref C_TooMany) = some false)
    (kx_BadLevel_Taken : PySem.W.kitOne K (.ref C_BadLevel) (.ref C_Taken) = some false)
    (kx_BadLevel_InUse : PySem.W.kitOne K (.ref C_BadLevel) (.ref C_InUse) = some false)
    (kx_BadLevel_Stale : PySem.W.kitOne K (.ref C_BadLevel) (.ref C_Stale) = some false)
    (kx_BadLevel_Busy : PySem.W.kitOne K (.ref C_BadLevel) (.ref C_Busy) = some false)
    (kx_BadLevel_NothingLeft : PySem.W.kitOne K (.ref C_BadLevel) (.ref C_NothingLeft) = some false)
    (kx_BadInteger_BadName : PySem.W.kitOne K (.ref C_BadInteger) (.ref C_BadName) = some false)
    (kx_BadInteger_BadRule : PySem.W.kitOne K (.ref C_BadInteger) (.ref C_BadRule) = some false)
    (kx_BadInteger_BadText : PySem.W.kitOne K (.ref C_BadInteger) (.ref C_BadText) = some false)
    (kx_BadInteger_BadForm : PySem.W.kitOne K (.ref C_BadInteger) (.ref C_BadForm) = some false)
    (kx_BadInteger_BadPattern : PySem.W.kitOne K (.ref C_BadInteger) (.ref C_BadPattern) = some false)
    (kx_BadInteger_BadFact : PySem.W.kitOne K (.ref C_BadInteger) (.ref C_BadFact) = some false)
    (kx_BadInteger_BadLevel : PySem.W.kitOne K (.ref C_BadInteger) (.ref C_BadLevel) = some false)
    (kx_BadInteger_BadInteger : PySem.W.kitOne K (.ref C_BadInteger) (.ref C_BadInteger) = some true)
    (kx_BadInteger_BadGoal : PySem.W.kitOne K (.ref C_BadInteger) (.ref C_BadGoal) = some false)
    (kx_BadInteger_BadCommand : PySem.W.kitOne K (.ref C_BadInteger) (.ref C_BadCommand) = some false)
    (kx_BadInteger_UnknownName : PySem.W.kitOne K (.ref C_BadInteger) (.ref C_UnknownName) = some false)
    (kx_BadInteger_NoKey : PySem.W.kitOne K (.ref C_BadInteger) (.ref C_NoKey) = some false)
    (kx_BadInteger_NoBase : PySem.W.kitOne K (.ref C_BadInteger) (.ref C_NoBase) = some false)
    (kx_BadInteger_NoPlace : PySem.W.kitOne K (.ref C_BadInteger) (.ref C_NoPlace) = some false)
    (kx_BadInteger_TooMany : PySem.W.kitOne K (.ref C_BadInteger) (.ref C_TooMany) = some false)
    (kx_BadInteger_Taken : PySem.W.kitOne K (.ref C_BadInteger) (.ref C_Taken) = some false)
    (kx_BadInteger_InUse : PySem.W.kitOne K (.ref C_BadInteger) (.ref C_InUse) = some false)
    (kx_BadInteger_Stale : PySem.W.kitOne K (.ref C_BadInteger) (.ref C_Stale) = some false)
    (kx_BadInteger_Busy : PySem.W.kitOne K (.ref C_BadInteger) (.ref C_Busy) = some false)
    (kx_BadInteger_NothingLeft : PySem.W.kitOne K (.ref C_BadInteger) (.ref C_NothingLeft) = some false)
    (kx_BadGoal_BadName : PySem.W.kitOne K (.ref C_BadGoal) (.ref C_BadName) = some false)
    (kx_BadGoal_BadRule : PySem.W.kitOne K (.ref C_BadGoal) (.ref C_BadRule) = some false)
    (kx_BadGoal_BadText : PySem.W.kitOne K (.ref C_BadGoal) (.ref C_BadText) = some false)
    (kx_BadGoal_BadForm : PySem.W.kitOne K (.ref C_BadGoal) (.ref C_BadForm) = some false)
    (kx_BadGoal_BadPattern : PySem.W.kitOne K (.ref C_BadGoal) (.ref C_BadPattern) = some false)
    (kx_BadGoal_BadFact : PySem.W.kitOne K (.ref C_BadGoal) (.ref C_BadFact) = some false)
    (kx_BadGoal_BadLevel : PySem.W.kitOne K (.ref C_BadGoal) (.ref C_BadLevel) = some false)
    (kx_BadGoal_BadInteger : PySem.W.kitOne K (.ref C_BadGoal) (.ref C_BadInteger) = some false)
    (kx_BadGoal_BadGoal : PySem.W.kitOne K (.ref C_BadGoal) (.ref C_BadGoal) = some true)
    (kx_BadGoal_BadCommand : PySem.W.kitOne K (.ref C_BadGoal) (.ref C_BadCommand) = some false)
    (kx_BadGoal_UnknownName : PySem.W.kitOne K (.ref C_BadGoal) (.ref C_UnknownName) = some false)
    (kx_BadGoal_NoKey : PySem.W.kitOne K (.ref C_BadGoal) (.ref C_NoKey) = some false)
    (kx_BadGoal_NoBase : PySem.W.kitOne K (.ref C_BadGoal) (.ref C_NoBase) = some false)
    (kx_BadGoal_NoPlace : PySem.W.kitOne K (.ref C_BadGoal) (.ref C_NoPlace) = some false)
    (kx_BadGoal_TooMany : PySem.W.kitOne K (.ref C_BadGoal) (.ref C_TooMany) = some false)
    (kx_BadGoal_Taken : PySem.W.kitOne K (.ref C_BadGoal) (.ref C_Taken) = some false)
    (kx_BadGoal_InUse : PySem.W.kitOne K (.ref C_BadGoal) (.ref C_InUse) = some false)
    (kx_BadGoal_Stale : PySem.W.kitOne K (.ref C_BadGoal) (.ref C_Stale) = some false)
    (kx_BadGoal_Busy : PySem.W.kitOne K (.ref C_BadGoal) (.ref C_Busy) = some false)
    (kx_BadGoal_NothingLeft : PySem.W.kitOne K (.ref C_BadGoal) (.ref C_NothingLeft) = some false)
    (kx_BadCommand_BadName : PySem.W.kitOne K (.ref C_BadCommand) (.ref C_BadName) = some false)
    (kx_BadCommand_BadRule : PySem.W.kitOne K (.ref C_BadCommand) (.ref C_BadRule) = some false)
    (kx_BadCommand_BadText : PySem.W.kitOne K (.ref C_BadCommand) (.ref C_BadText) = some false)
    (kx_BadCommand_BadForm : PySem.W.kitOne K (.ref C_BadCommand) (.ref C_BadForm) = some false)
    (kx_BadCommand_BadPattern : PySem.W.kitOne K (.ref C_BadCommand) (.ref C_BadPattern) = some false)
    (kx_BadCommand_BadFact : PySem.W.kitOne K (.ref C_BadCommand) (.ref C_BadFact) = some false)
    (kx_BadCommand_BadLevel : PySem.W.kitOne K (.ref C_BadCommand) (.ref C_BadLevel) = some false)
    (kx_BadCommand_BadInteger : PySem.W.kitOne K (.ref C_BadCommand) (.ref C_BadInteger) = some false)
    (kx_BadCommand_BadGoal : PySem.W.kitOne K (.ref C_BadCommand) (.ref C_BadGoal) = some false)
    (kx_BadCommand_BadCommand : PySem.W.kitOne K (.ref C_BadCommand) (.ref C_BadCommand) = some true)
    (kx_BadCommand_UnknownName : PySem.W.kitOne K (.ref C_BadCommand) (.ref C_UnknownName) = some false)
    (kx_BadCommand_NoKey : PySem.W.kitOne K (.ref C_BadCommand) (.ref C_NoKey) = some false)
    (kx_BadCommand_NoBase : PySem.W.kitOne K (.ref C_BadCommand) (.ref C_NoBase) = some false)
    (kx_BadCommand_NoPlace : PySem.W.kitOne K (.ref C_BadCommand) (.ref C_NoPlace) = some false)
    (kx_BadCommand_TooMany : PySem.W.kitOne K (.ref C_BadCommand) (.ref C_TooMany) = some false)
    (kx_BadCommand_Taken : PySem.W.kitOne K (.ref C_BadCommand) (.ref C_Taken) = some false)
    (kx_BadCommand_InUse : PySem.W.kitOne K (.ref C_BadCommand) (.ref C_InUse) = some false)
    (kx_BadCommand_Stale : PySem.W.kitOne K (.ref C_BadCommand) (.ref C_Stale) = some false)
    (kx_BadCommand_Busy : PySem.W.kitOne K (.ref C_BadCommand) (.ref C_Busy) = some false)
    (kx_BadCommand_NothingLeft : PySem.W.kitOne K (.ref C_BadCommand) (.ref C_NothingLeft) = some false)
    (kx_UnknownName_BadName : PySem.W.kitOne K (.ref C_UnknownName) (.ref C_BadName) = some false)
    (kx_UnknownName_BadRule : PySem.W.kitOne K (.ref C_UnknownName) (.ref C_BadRule) = some false)
    (kx_UnknownName_BadText : PySem.W.kitOne K (.ref C_UnknownName) (.ref C_BadText) = some false)
    (kx_UnknownName_BadForm : PySem.W.kitOne K (.ref C_UnknownName) (.ref C_BadForm) = some false)
    (kx_UnknownName_BadPattern : PySem.W.kitOne K (.ref C_UnknownName) (.ref C_BadPattern) = some false)
    (kx_UnknownName_BadFact : PySem.W.kitOne K (.ref C_UnknownName) (.ref C_BadFact) = some false)
    (kx_UnknownName_BadLevel : PySem.W.kitOne K (.ref C_UnknownName) (.ref C_BadLevel) = some false)
    (kx_UnknownName_BadInteger : PySem.W.kitOne K (.ref C_UnknownName) (.ref C_BadInteger) = some false)
    (kx_UnknownName_BadGoal : PySem.W.kitOne K (.ref C_UnknownName) (.ref C_BadGoal) = some false)
    (kx_UnknownName_BadCommand : PySem.W.kitOne K (.ref C_UnknownName) (.ref C_BadCommand) = some false)
    (kx_UnknownName_UnknownName : PySem.W.kitOne K (.ref C_UnknownName) (.ref C_UnknownName) = some true)
    (kx_UnknownName_NoKey : PySem.W.kitOne K (.ref C_UnknownName) (.ref C_NoKey) = some false)
    (kx_UnknownName_NoBase : PySem.W.kitOne K (.ref C_UnknownName) (.ref C_NoBase) = some false)
    (kx_UnknownName_NoPlace : PySem.W.kitOne K (.ref C_UnknownName) (.ref C_NoPlace) = some false)
    (kx_UnknownName_TooMany : PySem.W.kitOne K (.ref C_UnknownName) (.ref C_TooMany) = some false)
    (kx_UnknownName_Taken : PySem.W.kitOne K (.ref C_UnknownName) (.ref C_Taken) = some false)
    (kx_UnknownName_InUse : PySem.W.kitOne K (.ref C_UnknownName) (.ref C_InUse) = some false)
    (kx_UnknownName_Stale : PySem.W.kitOne K (.ref C_UnknownName) (.ref C_Stale) = some false)
    (kx_UnknownName_Busy : PySem.W.kitOne K (.ref C_UnknownName) (.ref C_Busy) = some false)
    (kx_UnknownName_NothingLeft : PySem.W.kitOne K (.ref C_UnknownName) (.ref C_NothingLeft) = some false)
    (kx_NoKey_BadName : PySem.W.kitOne K (.ref C_NoKey) (.ref C_BadName) = some false)
    (kx_NoKey_BadRule : PySem.W.kitOne K (.ref C_NoKey) (.ref C_BadRule) = some false)
    (kx_NoKey_BadText : PySem.W.kitOne K (.ref C_NoKey) (.ref C_BadText) = some false)
    (kx_NoKey_BadForm : PySem.W.kitOne K (.ref C_NoKey) (.ref C_BadForm) = some false)
    (kx_NoKey_BadPattern : PySem.W.kitOne K (.ref C_NoKey) (.ref C_BadPattern) = some false)
    (kx_NoKey_BadFact : PySem.W.kitOne K (.ref C_NoKey) (.ref C_BadFact) = some false)
    (kx_NoKey_BadLevel : PySem.W.kitOne K (.ref C_NoKey) (.ref C_BadLevel) = some false)
    (kx_NoKey_BadInteger : PySem.W.kitOne K (.ref C_NoKey) (.ref C_BadInteger) = some false)
    (kx_NoKey_BadGoal : PySem.W.kitOne K (.ref C_NoKey) (.ref C_BadGoal) = some false)
    (kx_NoKey_BadCommand : PySem.W.kitOne K (.ref C_NoKey) (.ref C_BadCommand) = some false)
    (kx_NoKey_UnknownName : PySem.W.kitOne K (.ref C_NoKey) (.ref C_UnknownName) = some false)
    (kx_NoKey_NoKey : PySem.W.kitOne K (.ref C_NoKey) (.ref C_NoKey) = some true)
    (kx_NoKey_NoBase : PySem.W.kitOne K (.ref C_NoKey) (.ref C_NoBase) = some false)
    (kx_NoKey_NoPlace : PySem.W.kitOne K (.ref C_NoKey) (.ref C_NoPlace) = some false)
    (kx_NoKey_TooMany : PySem.W.kitOne K (.ref C_NoKey) (.ref C_TooMany) = some false)
    (kx_NoKey_Taken : PySem.W.kitOne K (.ref C_NoKey) (.ref C_Taken) = some false)
    (kx_NoKey_InUse : PySem.W.kitOne K (.ref C_NoKey) (.ref C_InUse) = some false)
    (kx_NoKey_Stale : PySem.W.kitOne K (.ref C_NoKey) (.ref C_Stale) = some false)
    (kx_NoKey_Busy : PySem.W.kitOne K (.ref C_NoKey) (.ref C_Busy) = some false)
    (kx_NoKey_NothingLeft : PySem.W.kitOne K (.ref C_NoKey) (.ref C_NothingLeft) = some false)
    (kx_NoBase_BadName : PySem.W.kitOne K (.ref C_NoBase) (.ref C_BadName) = some false)
    (kx_NoBase_BadRule : PySem.W.kitOne K (.ref C_NoBase) (.ref C_BadRule) = some false)
    (kx_NoBase_BadText : PySem.W.kitOne K (.ref C_NoBase) (.ref C_BadText) = some false)
    (kx_NoBase_BadForm : PySem.W.kitOne K (.ref C_NoBase) (.ref C_BadForm) = some false)
    (kx_NoBase_BadPattern : PySem.W.kitOne K (.ref C_NoBase) (.ref C_BadPattern) = some false)
    (kx_NoBase_BadFact : PySem.W.kitOne K (.ref C_NoBase) (.ref C_BadFact) = some false)
    (kx_NoBase_BadLevel : PySem.W.kitOne K (.ref C_NoBase) (.ref C_BadLevel) = some false)
    (kx_NoBase_BadInteger : PySem.W.kitOne K (.ref C_NoBase) (.ref C_BadInteger) = some false)
    (kx_NoBase_BadGoal : PySem.W.kitOne K (.ref C_NoBase) (.ref C_BadGoal) = some false)
    (kx_NoBase_BadCommand : PySem.W.kitOne K (.ref C_NoBase) (.ref C_BadCommand) = some false)
    (kx_NoBase_UnknownName : PySem.W.kitOne K (.ref C_NoBase) (.ref C_UnknownName) = some false)
    (kx_NoBase_NoKey : PySem.W.kitOne K (.ref C_NoBase) (.ref C_NoKey) = some false)
    (kx_NoBase_NoBase : PySem.W.kitOne K (.ref C_NoBase) (.ref C_NoBase) = some true)
    (kx_NoBase_NoPlace : PySem.W.kitOne K (.ref C_NoBase) (.ref C_NoPlace) = some false)
    (kx_NoBase_TooMany : PySem.W.kitOne K (.ref C_NoBase) (.ref C_TooMany) = some false)
    (kx_NoBase_Taken : PySem.W.kitOne K (.ref C_NoBase) (.ref C_Taken) = some false)
    (kx_NoBase_InUse : PySem.W.kitOne K (.ref C_NoBase) (.ref C_InUse) = some false)
    (kx_NoBase_Stale : PySem.W.kitOne K (.ref C_NoBase) (.ref C_Stale) = some false)
    (kx_NoBase_Busy : PySem.W.kitOne K (.ref C_NoBase) (.ref C_Busy) = some false)
    (kx_NoBase_NothingLeft : PySem.W.kitOne K (.ref C_NoBase) (.ref C_NothingLeft) = some false)
    (kx_NoPlace_BadName : PySem.W.kitOne K (.ref C_NoPlace) (.ref C_BadName) = some false)
    (kx_NoPlace_BadRule : PySem.W.kitOne K (.ref C_NoPlace) (.ref C_BadRule) = some false)
    (kx_NoPlace_BadText : PySem.W.kitOne K (.ref C_NoPlace) (.ref C_BadText) = some false)
    (kx_NoPlace_BadForm : PySem.W.kitOne K (.ref C_NoPlace) (.ref C_BadForm) = some false)
    (kx_NoPlace_BadPattern : PySem.W.kitOne K (.ref C_NoPlace) (.ref C_BadPattern) = some false)
    (kx_NoPlace_BadFact : PySem.W.kitOne K (.ref C_NoPlace) (.ref C_BadFact) = some false)
    (kx_NoPlace_BadLevel : PySem.W.kitOne K (.ref C_NoPlace) (.ref C_BadLevel) = some false)
    (kx_NoPlace_BadInteger : PySem.W.kitOne K (.ref C_NoPlace) (.ref C_BadInteger) = some false)
    (kx_NoPlace_BadGoal : PySem.W.kitOne K (.ref C_NoPlace) (.ref C_BadGoal) = some false)
    (kx_NoPlace_BadCommand : PySem.W.kitOne K (.ref C_NoPlace) (.ref C_BadCommand) = some false)
    (kx_NoPlace_UnknownName : PySem.W.kitOne K (.ref C_NoPlace) (.ref C_UnknownName) = some false)
    (kx_NoPlace_NoKey : PySem.W.kitOne K (.ref C_NoPlace) (.ref C_NoKey) = some false)
    (kx_NoPlace_NoBase : PySem.W.kitOne K (.ref C_NoPlace) (.ref C_NoBase) = some false)
    (kx_NoPlace_NoPlace : PySem.W.kitOne K (.ref C_NoPlace) (.ref C_NoPlace) = some true)
    (kx_NoPlace_TooMany : PySem.W.kitOne K (.ref C_NoPlace) (.ref C_TooMany) = some false)
    (kx_NoPlace_Taken : PySem.W.kitOne K (.ref C_NoPlace) (.ref C_Taken) = some false)
    (kx_NoPlace_InUse : PySem.W.kitOne K (.ref C_NoPlace) (.ref C_InUse) = some false)
    (kx_NoPlace_Stale : PySem.W.kitOne K (.ref C_NoPlace) (.ref C_Stale) = some false)
    (kx_NoPlace_Busy : PySem.W.kitOne K (.ref C_NoPlace) (.ref C_Busy) = some false)
    (kx_NoPlace_NothingLeft : PySem.W.kitOne K (.ref C_NoPlace) (.ref C_NothingLeft) = some false)
    (kx_TooMany_BadName : PySem.W.kitOne K (.ref C_TooMany) (.ref C_BadName) = some false)
    (kx_TooMany_BadRule : PySem.W.kitOne K (.ref C_TooMany) (.ref C_BadRule) = some false)
    (kx_TooMany_BadText : PySem.W.kitOne K (.ref C_TooMany) (.ref C_BadText) = some false)
    (kx_TooMany_BadForm : PySem.W.kitOne K (.ref C_TooMany) (.ref C_BadForm) = some false)
    (kx_TooMany_BadPattern : PySem.W.kitOne K (.ref C_TooMany) (.ref C_BadPattern) = some false)
    (kx_TooMany_BadFact : PySem.W.kitOne K (.ref C_TooMany) (.ref C_BadFact) = some false)
    (kx_TooMany_BadLevel : PySem.W.kitOne K (.ref C_TooMany) (.ref C_BadLevel) = some false)
    (kx_TooMany_BadInteger : PySem.W.kitOne K (.ref C_TooMany) (.ref C_BadInteger) = some false)
    (kx_TooMany_BadGoal : PySem.W.kitOne K (.ref C_TooMany) (.ref C_BadGoal) = some false)
    (kx_TooMany_BadCommand : PySem.W.kitOne K (.ref C_TooMany) (.ref C_BadCommand) = some false)
    (kx_TooMany_UnknownName : PySem.W.kitOne K (.ref C_TooMany) (.ref C_UnknownName) = some false)
    (kx_TooMany_NoKey : PySem.W.kitOne K (.ref C_TooMany) (.ref C_NoKey) = some false)
    (kx_TooMany_NoBase : PySem.W.kitOne K (.ref C_TooMany) (.ref C_NoBase) = some false)
    (kx_TooMany_NoPlace : PySem.W.kitOne K (.ref C_TooMany) (.ref C_NoPlace) = some false)
    (kx_TooMany_TooMany : PySem.W.kitOne K (.ref C_TooMany) (.ref C_TooMany) = some true)
    (kx_TooMany_Taken : PySem.W.kitOne K (.ref C_TooMany) (.ref C_Taken) = some false)
    (kx_TooMany_InUse : PySem.W.kitOne K (.ref C_TooMany) (.ref C_InUse) = some false)
    (kx_TooMany_Stale : PySem.W.kitOne K (.ref C_TooMany) (.ref C_Stale) = some false)
    (kx_TooMany_Busy : PySem.W.kitOne K (.ref C_TooMany) (.ref C_Busy) = some false)
    (kx_TooMany_NothingLeft : PySem.W.kitOne K (.ref C_TooMany) (.ref C_NothingLeft) = some false)
    (kx_Taken_BadName : PySem.W.kitOne K (.ref C_Taken) (.ref C_BadName) = some false)
    (kx_Taken_BadRule : PySem.W.kitOne K (.ref C_Taken) (.ref C_BadRule) = some false)
    (kx_Taken_BadText : PySem.W.kitOne K (.ref C_Taken) (.ref C_BadText) = some false)
    (kx_Taken_BadForm : PySem.W.kitOne K (.ref C_Taken) (.ref C_BadForm) = some false)
    (kx_Taken_BadPattern : PySem.W.kitOne K (.ref C_Taken) (.ref C_BadPattern) = some false)
    (kx_Taken_BadFact : PySem.W.kitOne K (.ref C_Taken) (.ref C_BadFact) = some false)
    (kx_Taken_BadLevel : PySem.W.kitOne K (.ref C_Taken) (.ref C_BadLevel) = some false)
    (kx_Taken_BadInteger : PySem.W.kitOne K (.ref C_Taken) (.ref C_BadInteger) = some false)
    (kx_Taken_BadGoal : PySem.W.kitOne K (.ref C_Taken) (.ref C_BadGoal) = some false)
    (kx_Taken_BadCommand : PySem.W.kitOne K (.ref C_Taken) (.ref C_BadCommand) = some false)
    (kx_Taken_UnknownName : PySem.W.kitOne K (.ref C_Taken) (.ref C_UnknownName) = some false)
    (kx_Taken_NoKey : PySem.W.kitOne K (.ref C_Taken) (.ref C_NoKey) = some false)
    (kx_Taken_NoBase : PySem.W.kitOne K (.ref C_Taken) (.ref C_NoBase) = some false)
    (kx_Taken_NoPlace : PySem.W.kitOne K (.ref C_Taken) (.ref C_NoPlace) = some false)
    (kx_Taken_TooMany : PySem.W.kitOne K (.ref C_Taken) (.ref C_TooMany) = some false)
    (kx_Taken_Taken : PySem.W.kitOne K (.ref C_Taken) (.ref C_Taken) = some true)
    (kx_Taken_InUse : PySem.W.kitOne K (.ref C_Taken) (.ref C_InUse) = some false)
    (kx_Taken_Stale : PySem.W.kitOne K (.ref C_Taken) (.ref C_Stale) = some false)
    (kx_Taken_Busy : PySem.W.kitOne K (.ref C_Taken) (.ref C_Busy) = some false)
    (kx_Taken_NothingLeft : PySem.W.kitOne K (.ref C_Taken) (.ref C_NothingLeft) = some false)
    (kx_InUse_BadName : PySem.W.kitOne K (.ref C_InUse) (.ref C_BadName) = some false)
    (kx_InUse_BadRule : PySem.W.kitOne K (.ref C_InUse) (.ref C_BadRule) = some false)
    (kx_InUse_BadText : PySem.W.kitOne K (.ref C_InUse) (.ref C_BadText) = some false)
    (kx_InUse_BadForm : PySem.W.kitOne K (.ref C_InUse) (.ref C_BadForm) = some false)
    (kx_InUse_BadPattern : PySem.W.kitOne K (.ref C_InUse) (.ref C_BadPattern) = some false)
    (kx_InUse_BadFact : PySem.W.kitOne K (.ref C_InUse) (.ref C_BadFact) = some false)
    (kx_InUse_BadLevel : PySem.W.kitOne K (.ref C_InUse) (.ref C_BadLevel) = some false)
    (kx_InUse_BadInteger : PySem.W.kitOne K (.ref C_InUse) (.ref C_BadInteger) = some false)
    (kx_InUse_BadGoal : PySem.W.kitOne K (.ref C_InUse) (.ref C_BadGoal) = some false)
    (kx_InUse_BadCommand : PySem.W.kitOne K (.ref C_InUse) (.ref C_BadCommand) = some false)
    (kx_InUse_UnknownName : PySem.W.kitOne K (.ref C_InUse) (.ref C_UnknownName) = some false)
    (kx_InUse_NoKey : PySem.W.kitOne K (.ref C_InUse) (.ref C_NoKey) = some false)
    (kx_InUse_NoBase : PySem.W.kitOne K (.ref C_InUse) (.ref C_NoBase) = some false)
    (kx_InUse_NoPlace : PySem.W.kitOne K (.ref C_InUse) (.ref C_NoPlace) = some false)
    (kx_InUse_TooMany : PySem.W.kitOne K (.ref C_InUse) (.ref C_TooMany) = some false)
    (kx_InUse_Taken : PySem.W.kitOne K (.ref C_InUse) (.ref C_Taken) = some false)
    (kx_InUse_InUse : PySem.W.kitOne K (.ref C_InUse) (.ref C_InUse) = some true)
    (kx_InUse_Stale : PySem.W.kitOne K (.ref C_InUse) (.ref C_Stale) = some false)
    (kx_InUse_Busy : PySem.W.kitOne K (.ref C_InUse) (.ref C_Busy) = some false)
    (kx_InUse_NothingLeft : PySem.W.kitOne K (.ref C_InUse) (.ref C_NothingLeft) = some false)
    (kx_Stale_BadName : PySem.W.kitOne K (.ref C_Stale) (.ref C_BadName) = some false)
    (kx_Stale_BadRule : PySem.W.kitOne K (.ref C_Stale) (.ref C_BadRule) = some false)
    (kx_Stale_BadText : PySem.W.kitOne K (.ref C_Stale) (.ref C_BadText) = some false)
    (kx_Stale_BadForm : PySem.W.kitOne K (.ref C_Stale) (.ref C_BadForm) = some false)
    (kx_Stale_BadPattern : PySem.W.kitOne K (.ref C_Stale) (.ref C_BadPattern) = some false)
    (kx_Stale_BadFact : PySem.W.kitOne K (.ref C_Stale) (.ref C_BadFact) = some false)
    (kx_Stale_BadLevel : PySem.W.kitOne K (.ref C_Stale) (.ref C_BadLevel) = some false)
    (kx_Stale_BadInteger : PySem.W.kitOne K (.ref C_Stale) (.ref C_BadInteger) = some false)
    (kx_Stale_BadGoal : PySem.W.kitOne K (.ref C_Stale) (.ref C_BadGoal) = some false)
    (kx_Stale_BadCommand : PySem.W.kitOne K (.ref C_Stale) (.ref C_BadCommand) = some false)
    (kx_Stale_UnknownName : PySem.W.kitOne K (.ref C_Stale) (.ref C_UnknownName) = some false)
    (kx_Stale_NoKey : PySem.W.kitOne K (.ref C_Stale) (.ref C_NoKey) = some false)
    (kx_Stale_NoBase : PySem.W.kitOne K (.ref C_Stale) (.ref C_NoBase) = some false)
    (kx_Stale_NoPlace : PySem.W.kitOne K (.ref C_Stale) (.ref C_NoPlace) = some false)
    (kx_Stale_TooMany : PySem.W.kitOne K (.ref C_Stale) (.ref C_TooMany) = some false)
    (kx_Stale_Taken : PySem.W.kitOne K (.ref C_Stale) (.ref C_Taken) = some false)
    (kx_Stale_InUse : PySem.W.kitOne K (.ref C_Stale) (.ref C_InUse) = some false)
    (kx_Stale_Stale : PySem.W.kitOne K (.ref C_Stale) (.ref C_Stale) = some true)
    (kx_Stale_Busy : PySem.W.kitOne K (.ref C_Stale) (.ref C_Busy) = some false)
    (kx_Stale_NothingLeft : PySem.W.kitOne K (.ref C_Stale) (.ref C_NothingLeft) = some false)
    (kx_Busy_BadName : PySem.W.kitOne K (.ref C_Busy) (.ref C_BadName) = some false)
    (kx_Busy_BadRule : PySem.W.kitOne K (.ref C_Busy) (.ref C_BadRule) = some false)
    (kx_Busy_BadText : PySem.W.kitOne K (.ref C_Busy) (.ref C_BadText) = some false)
    (kx_Busy_BadForm : PySem.W.kitOne K (.ref C_Busy) (.ref C_BadForm) = some false)
    (kx_Busy_BadPattern : PySem.W.kitOne K (.ref C_Busy) (.ref C_BadPattern) = some false)
    (kx_Busy_BadFact : PySem.W.kitOne K (.ref C_Busy) (.ref C_BadFact) = some false)
    (kx_Busy_BadLevel : PySem.W.kitOne K (.ref C_Busy) (.ref C_BadLevel) = some false)
    (kx_Busy_BadInteger : PySem.W.kitOne K (.ref C_Busy) (.ref C_BadInteger) = some false)
    (kx_Busy_BadGoal : PySem.W.kitOne K (.ref C_Busy) (.ref C_BadGoal) = some false)
    (kx_Busy_BadCommand : PySem.W.kitOne K (.ref C_Busy) (.ref C_BadCommand) = some false)
    (kx_Busy_UnknownName : PySem.W.kitOne K (.ref C_Busy) (.ref C_UnknownName) = some false)
    (kx_Busy_NoKey : PySem.W.kitOne K (.ref C_Busy) (.ref C_NoKey) = some false)
    (kx_Busy_NoBase : PySem.W.kitOne K (.ref C_Busy) (.ref C_NoBase) = some false)
    (kx_Busy_NoPlace : PySem.W.kitOne K (.ref C_Busy) (.ref C_NoPlace) = some false)
    (kx_Busy_TooMany : PySem.W.kitOne K (.ref C_Busy) (.ref C_TooMany) = some false)
    (kx_Busy_Taken : PySem.W.kitOne K (.ref C_Busy) (.ref C_Taken) = some false)
    (kx_Busy_InUse : PySem.W.kitOne K (.ref C_Busy) (.ref C_InUse) = some false)
    (kx_Busy_Stale : PySem.W.kitOne K (.ref C_Busy) (.ref C_Stale) = some false)
    (kx_Busy_Busy : PySem.W.kitOne K (.ref C_Busy) (.ref C_Busy) = some true)
    (kx_Busy_NothingLeft : PySem.W.kitOne K (.ref C_Busy) (.ref C_NothingLeft) = some false)
    (kx_NothingLeft_BadName : PySem.W.kitOne K (.ref C_NothingLeft) (.ref C_BadName) = some false)
    (kx_NothingLeft_BadRule : PySem.W.kitOne K (.ref C_NothingLeft) (.ref C_BadRule) = some false)
    (kx_NothingLeft_BadText : PySem.W.kitOne K (.ref C_NothingLeft) (.ref C_BadText) = some false)
    (kx_NothingLeft_BadForm : PySem.W.kitOne K (.ref C_NothingLeft) (.ref C_BadForm) = some false)
    (kx_NothingLeft_BadPattern : PySem.W.kitOne K (.ref C_NothingLeft) (.ref C_BadPattern) = some false)
    (kx_NothingLeft_BadFact : PySem.W.kitOne K (.ref C_NothingLeft) (.ref C_BadFact) = some false)
    (kx_NothingLeft_BadLevel : PySem.W.kitOne K (.ref C_NothingLeft) (.ref C_BadLevel) = some false)
    (kx_NothingLeft_BadInteger : PySem.W.kitOne K (.ref C_NothingLeft) (.ref C_BadInteger) = some false)
    (kx_NothingLeft_BadGoal : PySem.W.kitOne K (.ref C_NothingLeft) (.ref C_BadGoal) = some false)
    (kx_NothingLeft_BadCommand : PySem.W.kitOne K (.ref C_NothingLeft) (.ref C_BadCommand) = some false)
    (kx_NothingLeft_UnknownName : PySem.W.kitOne K (.ref C_NothingLeft) (.ref C_UnknownName) = some false)
    (kx_NothingLeft_NoKey : PySem.W.kitOne K (.ref C_NothingLeft) (.ref C_NoKey) = some false)
    (kx_NothingLeft_NoBase : PySem.W.kitOne K (.ref C_NothingLeft) (.ref C_NoBase) = some false)
    (kx_NothingLeft_NoPlace : PySem.W.kitOne K (.ref C_NothingLeft) (.ref C_NoPlace) = some false)
    (kx_NothingLeft_TooMany : PySem.W.kitOne K (.ref C_NothingLeft) (.ref C_TooMany) = some false)
    (kx_NothingLeft_Taken : PySem.W.kitOne K (.ref C_NothingLeft) (.ref C_Taken) = some false)
    (kx_NothingLeft_InUse : PySem.W.kitOne K (.ref C_NothingLeft) (.ref C_InUse) = some false)
    (kx_NothingLeft_Stale : PySem.W.kitOne K (.ref C_NothingLeft) (.ref C_Stale) = some false)
    (kx_NothingLeft_Busy : PySem.W.kitOne K (.ref C_NothingLeft) (.ref C_Busy) = some false)
    (kx_NothingLeft_NothingLeft : PySem.W.kitOne K (.ref C_NothingLeft) (.ref C_NothingLeft) = some true)
    (kx_BadName_ValueError : PySem.W.kitOne K (.ref C_BadName) (.type "ValueError") = some true)
    (kx_BadName_KeyError : PySem.W.kitOne K (.ref C_BadName) (.type "KeyError") = some false)
    (kx_BadName_LookupError : PySem.W.kitOne K (.ref C_BadName) (.type "LookupError") = some false)
    (kx_BadName_IndexError : PySem.W.kitOne K (.ref C_BadName) (.type "IndexError") = some false)
    (kx_BadName_OverflowError : PySem.W.kitOne K (.ref C_BadName) (.type "OverflowError") = some false)
    (kx_BadName_ArithmeticError : PySem.W.kitOne K (.ref C_BadName) (.type "ArithmeticError") = some false)
    (kx_BadName_RuntimeError : PySem.W.kitOne K (.ref C_BadName) (.type "RuntimeError") = some false)
    (kx_BadName_NotImplementedError : PySem.W.kitOne K (.ref C_BadName) (.type "NotImplementedError") = some false)
    (kx_BadRule_ValueError : PySem.W.kitOne K (.ref C_BadRule) (.type "ValueError") = some true)
    (kx_BadRule_KeyError : PySem.W.kitOne K (.ref C_BadRule) (.type "KeyError") = some false)
    (kx_BadRule_LookupError : PySem.W.kitOne K (.ref C_BadRule) (.type "LookupError") = some false)
    (kx_BadRule_IndexError : PySem.W.kitOne K (.ref C_BadRule) (.type "IndexError") = some false)
    (kx_BadRule_OverflowError : PySem.W.kitOne K (.ref C_BadRule) (.type "OverflowError") = some false)
    (kx_BadRule_ArithmeticError : PySem.W.kitOne K (.ref C_BadRule) (.type "ArithmeticError") = some false)
    (kx_BadRule_RuntimeError : PySem.W.kitOne K (.ref C_BadRule) (.type "RuntimeError") = some false)
    (kx_BadRule_NotImplementedError : PySem.W.kitOne K (.ref C_BadRule) (.type "NotImplementedError") = some false)
    (kx_BadText_ValueError : PySem.W.kitOne K (.ref C_BadText) (.type "ValueError") = some true)
    (kx_BadText_KeyError : PySem.W.kitOne K (.ref C_BadText) (.type "KeyError") = some false)
    (kx_BadText_LookupError : PySem.W.kitOne K (.ref C_BadText) (.type "LookupError") = some false)
    (kx_BadText_IndexError : PySem.W.kitOne K (.ref C_BadText) (.type "IndexError") = some false)
    (kx_BadText_OverflowError : PySem.W.kitOne K (.ref C_BadText) (.type "OverflowError") = some false)
    (kx_BadText_ArithmeticError : PySem.W.kitOne K (.ref C_BadText) (.type "ArithmeticError") = some false)
    (kx_BadText_RuntimeError : PySem.W.kitOne K (.ref C_BadText) (.type "RuntimeError") = some false)
    (kx_BadText_NotImplementedError : PySem.W.kitOne K (.ref C_BadText) (.type "NotImplementedError") = some false)
    (kx_BadForm_ValueError : PySem.W.kitOne K (.ref C_BadForm) (.type "ValueError") = some true)
    (kx_BadForm_KeyError : PySem.W.kitOne K (.ref C_BadForm) (.type "KeyError") = some false)
    (kx_BadForm_LookupError : PySem.W.kitOne K (.ref C_BadForm) (.type "LookupError") = some false)
    (kx_BadForm_IndexError : PySem.W.kitOne K (.ref C_BadForm) (.type "IndexError") = some false)
    (kx_BadForm_OverflowError : PySem.W.kitOne K (.ref C_BadForm) (.type "OverflowError") = some false)
    (kx_BadForm_ArithmeticError : PySem.W.kitOne K (.ref C_BadForm) (.type "ArithmeticError") = some false)
    (kx_BadForm_RuntimeError : PySem.W.kitOne K (.ref C_BadForm) (.type "RuntimeError") = some false)
    (kx_BadForm_NotImplementedError : PySem.W.kitOne K (.ref C_BadForm) (.type "NotImplementedError") = some false)
    (kx_BadPattern_ValueError : PySem.W.kitOne K (.ref C_BadPattern) (.type "ValueError") = some true)
    (kx_BadPattern_KeyError : PySem.W.kitOne K (.ref C_BadPattern) (.type "KeyError") = some false)
    (kx_BadPattern_LookupError : PySem.W.kitOne K (.ref C_BadPattern) (.type "LookupError") = some false)
    (kx_BadPattern_IndexError : PySem.W.kitOne K (.ref C_BadPattern) (.type "IndexError") = some false)
    (kx_BadPattern_OverflowError : PySem.W.kitOne K (.ref C_BadPattern) (.type "OverflowError") = some false)
    (kx_BadPattern_ArithmeticError : PySem.W.kitOne K (.ref C_BadPattern) (.type "ArithmeticError") = some false)
    (kx_BadPattern_RuntimeError : PySem.W.kitOne K (.ref C_BadPattern) (.type "RuntimeError") = some false)
    (kx_BadPattern_NotImplementedError : PySem.W.kitOne K (.ref C_BadPattern) (.type "NotImplementedError") = some false)
    (kx_BadFact_ValueError : PySem.W.kitOne K (.ref C_BadFact) (.type "ValueError") = some true)
    (kx_BadFact_KeyError : PySem.W.kitOne K (.ref C_BadFact) (.type "KeyError") = some false)
    (kx_BadFact_LookupError : PySem.W.kitOne K (.ref C_BadFact) (.type "LookupError") = some false)
    (kx_BadFact_IndexError : PySem.W.kitOne K (.ref C_BadFact) (.type "IndexError") = some false)
    (kx_BadFact_OverflowError : PySem.W.kitOne K (.ref C_BadFact) (.type "OverflowError") = some false)
    (kx_BadFact_ArithmeticError : PySem.W.kitOne K (.ref C_BadFact) (.type "ArithmeticError") = some false)
    (kx_BadFact_RuntimeError : PySem.W.kitOne K (.ref C_BadFact) (.type "RuntimeError") = some false)
    (kx_BadFact_NotImplementedError : PySem.W.kitOne K (.ref C_BadFact) (.type "NotImplementedError") = some false)
    (kx_BadLevel_ValueError : PySem.W.kitOne K (.ref C_BadLevel) (.type "ValueError") = some true)
    (kx_BadLevel_KeyError : PySem.W.kitOne K (.ref C_BadLevel) (.type "KeyError") = some false)
    (kx_BadLevel_LookupError : PySem.W.kitOne K (.ref C_BadLevel) (.type "LookupError") = some false)
    (kx_BadLevel_IndexError : PySem.W.kitOne K (.ref C_BadLevel) (.type "IndexError") = some false)
    (kx_BadLevel_OverflowError : PySem.W.kitOne K (.ref C_BadLevel) (.type "OverflowError") = some false)
    (kx_BadLevel_ArithmeticError : PySem.W.kitOne K (.ref C_BadLevel) (.type "ArithmeticError") = some false)
    (kx_BadLevel_RuntimeError : PySem.W.kitOne K (.ref C_BadLevel) (.type "RuntimeError") = some false)
    (kx_BadLevel_NotImplementedError : PySem.W.kitOne K (.ref C_BadLevel) (.type "NotImplementedError") = some false)
    (kx_BadInteger_ValueError : PySem.W.kitOne K (.ref C_BadInteger) (.type "ValueError") = some true)
    (kx_BadInteger_KeyError : PySem.W.kitOne K (.ref C_BadInteger) (.type "KeyError") = some false)
    (kx_BadInteger_LookupError : PySem.W.kitOne K (.ref C_BadInteger) (.type "LookupError") = some false)
    (kx_BadInteger_IndexError : PySem.W.kitOne K (.ref C_BadInteger) (.type "IndexError") = some false)
    (kx_BadInteger_OverflowError : PySem.W.kitOne K (.ref C_BadInteger) (.type "OverflowError") = some false)
    (kx_BadInteger_ArithmeticError : PySem.W.kitOne K (.ref C_BadInteger) (.type "ArithmeticError") = some false)
    (kx_BadInteger_RuntimeError : PySem.W.kitOne K (.ref C_BadInteger) (.type "RuntimeError") = some false)
    (kx_BadInteger_NotImplementedError : PySem.W.kitOne K (.ref C_BadInteger) (.type "NotImplementedError") = some false)
    (kx_BadGoal_ValueError : PySem.W.kitOne K (.ref C_BadGoal) (.type "ValueError") = some true)
    (kx_BadGoal_KeyError : PySem.W.kitOne K (.ref C_BadGoal) (.type "KeyError") = some false)
    (kx_BadGoal_LookupError : PySem.W.kitOne K (.ref C_BadGoal) (.type "LookupError") = some false)
    (kx_BadGoal_IndexError : PySem.W.kitOne K (.ref C_BadGoal) (.type "IndexError") = some false)
    (kx_BadGoal_OverflowError : PySem.W.kitOne K (.ref C_BadGoal) (.type "OverflowError") = some false)
    (kx_BadGoal_ArithmeticError : PySem.W.kitOne K (.ref C_BadGoal) (.type "ArithmeticError") = some false)
    (kx_BadGoal_RuntimeError : PySem.W.kitOne K (.ref C_BadGoal) (.type "RuntimeError") = some false)
    (kx_BadGoal_NotImplementedError : PySem.W.kitOne K (.ref C_BadGoal) (.type "NotImplementedError") = some false)
    (kx_BadCommand_ValueError : PySem.W.kitOne K (.ref C_BadCommand) (.type "ValueError") = some true)
    (kx_BadCommand_KeyError : PySem.W.kitOne K (.ref C_BadCommand) (.type "KeyError") = some false)
    (kx_BadCommand_LookupError : PySem.W.kitOne K (.ref C_BadCommand) (.type "LookupError") = some false)
    (kx_BadCommand_IndexError : PySem.W.kitOne K (.ref C_BadCommand) (.type "IndexError") = some false)
    (kx_BadCommand_OverflowError : PySem.W.kitOne K (.ref C_BadCommand) (.type "OverflowError") = some false)
    (kx_BadCommand_ArithmeticError : PySem.W.kitOne K (.ref C_BadCommand) (.type "ArithmeticError") = some false)
    (kx_BadCommand_RuntimeError : PySem.W.kitOne K (.ref C_BadCommand) (.type "RuntimeError") = some false)
    (kx_BadCommand_NotImplementedError : PySem.W.kitOne K (.ref C_BadCommand) (.type "NotImplementedError") = some false)
    (kx_UnknownName_ValueError : PySem.W.kitOne K (.ref C_UnknownName) (.type "ValueError") = some false)
    (kx_UnknownName_KeyError : PySem.W.kitOne K (.ref C_UnknownName) (.type "KeyError") = some true)
    (kx_UnknownName_LookupError : PySem.W.kitOne K (.ref C_UnknownName) (.type "LookupError") = some true)
    (kx_UnknownName_IndexError : PySem.W.kitOne K (.ref C_UnknownName) (.type "IndexError") = some false)
    (kx_UnknownName_OverflowError : PySem.W.kitOne K (.ref C_UnknownName) (.type "OverflowError") = some false)
    (kx_UnknownName_ArithmeticError : PySem.W.kitOne K (.ref C_UnknownName) (.type "ArithmeticError") = some false)
    (kx_UnknownName_RuntimeError : PySem.W.kitOne K (.ref C_UnknownName) (.type "RuntimeError") = some false)
    (kx_UnknownName_NotImplementedError : PySem.W.kitOne K (.ref C_UnknownName) (.type "NotImplementedError") = some false)
    (kx_NoKey_ValueError : PySem.W.kitOne K (.ref C_NoKey) (.type "ValueError") = some false)
    (kx_NoKey_KeyError : PySem.W.kitOne K (.ref C_NoKey) (.type "KeyError") = some true)
    (kx_NoKey_LookupError : PySem.W.kitOne K (.ref C_NoKey) (.type "LookupError") = some true)
    (kx_NoKey_IndexError : PySem.W.kitOne K (.ref C_NoKey) (.type "IndexError") = some false)
    (kx_NoKey_OverflowError : PySem.W.kitOne K (.ref C_NoKey) (.type "OverflowError") = some false)
    (kx_NoKey_ArithmeticError : PySem.W.kitOne K (.ref C_NoKey) (.type "ArithmeticError") = some false)
    (kx_NoKey_RuntimeError : PySem.W.kitOne K (.ref C_NoKey) (.type "RuntimeError") = some false)
    (kx_NoKey_NotImplementedError : PySem.W.kitOne K (.ref C_NoKey) (.type "NotImplementedError") = some false)
    (kx_NoBase_ValueError : PySem.W.kitOne K (.ref C_NoBase) (.type "ValueError") = some false)
    (kx_NoBase_KeyError : PySem.W.kitOne K (.ref C_NoBase) (.type "KeyError") = some false)
    (kx_NoBase_LookupError : PySem.W.kitOne K (.ref C_NoBase) (.type "LookupError") = some true)
    (kx_NoBase_IndexError : PySem.W.kitOne K (.ref C_NoBase) (.type "IndexError") = some false)
    (kx_NoBase_OverflowError : PySem.W.kitOne K (.ref C_NoBase) (.type "OverflowError") = some false)
    (kx_NoBase_ArithmeticError : PySem.W.kitOne K (.ref C_NoBase) (.type "ArithmeticError") = some false)
    (kx_NoBase_RuntimeError : PySem.W.kitOne K (.ref C_NoBase) (.type "RuntimeError") = some false)
    (kx_NoBase_NotImplementedError : PySem.W.kitOne K (.ref C_NoBase) (.type "NotImplementedError") = some false)
    (kx_NoPlace_ValueError : PySem.W.kitOne K (.ref C_NoPlace) (.type "ValueError") = some false)
    (kx_NoPlace_KeyError : PySem.W.kitOne K (.ref C_NoPlace) (.type "KeyError") = some false)
    (kx_NoPlace_LookupError : PySem.W.kitOne K (.ref C_NoPlace) (.type "LookupError") = some true)
    (kx_NoPlace_IndexError : PySem.W.kitOne K (.ref C_NoPlace) (.type "IndexError") = some true)
    (kx_NoPlace_OverflowError : PySem.W.kitOne K (.ref C_NoPlace) (.type "OverflowError") = some false)
    (kx_NoPlace_ArithmeticError : PySem.W.kitOne K (.ref C_NoPlace) (.type "ArithmeticError") = some false)
    (kx_NoPlace_RuntimeError : PySem.W.kitOne K (.ref C_NoPlace) (.type "RuntimeError") = some false)
    (kx_NoPlace_NotImplementedError : PySem.W.kitOne K (.ref C_NoPlace) (.type "NotImplementedError") = some false)
    (kx_TooMany_ValueError : PySem.W.kitOne K (.ref C_TooMany) (.type "ValueError") = some false)
    (kx_TooMany_KeyError : PySem.W.kitOne K (.ref C_TooMany) (.type "KeyError") = some false)
    (kx_TooMany_LookupError : PySem.W.kitOne K (.ref C_TooMany) (.type "LookupError") = some false)
    (kx_TooMany_IndexError : PySem.W.kitOne K (.ref C_TooMany) (.type "IndexError") = some false)
    (kx_TooMany_OverflowError : PySem.W.kitOne K (.ref C_TooMany) (.type "OverflowError") = some true)
    (kx_TooMany_ArithmeticError : PySem.W.kitOne K (.ref C_TooMany) (.type "ArithmeticError") = some true)
    (kx_TooMany_RuntimeError : PySem.W.kitOne K (.ref C_TooMany) (.type "RuntimeError") = some false)
    (kx_TooMany_NotImplementedError : PySem.W.kitOne K (.ref C_TooMany) (.type "NotImplementedError") = some false)
    (kx_Taken_ValueError : PySem.W.kitOne K (.ref C_Taken) (.type "ValueError") = some false)
    (kx_Taken_KeyError : PySem.W.kitOne K (.ref C_Taken) (.type "KeyError") = some false)
    (kx_Taken_LookupError : PySem.W.kitOne K (.ref C_Taken) (.type "LookupError") = some false)
    (kx_Taken_IndexError : PySem.W.kitOne K (.ref C_Taken) (.type "IndexError") = some false)
    (kx_Taken_OverflowError : PySem.W.kitOne K (.ref C_Taken) (.type "OverflowError") = some false)
    (kx_Taken_ArithmeticError : PySem.W.kitOne K (.ref C_Taken) (.type "ArithmeticError") = some false)
    (kx_Taken_RuntimeError : PySem.W.kitOne K (.ref C_Taken) (.type "RuntimeError") = some true)
    (kx_Taken_NotImplementedError : PySem.W.kitOne K (.ref C_Taken) (.type "NotImplementedError") = some false)
    (kx_InUse_ValueError : PySem.W.kitOne K (.ref C_InUse) (.type "ValueError") = some false)
    (kx_InUse_KeyError : PySem.W.kitOne K (.ref C_InUse) (.type "KeyError") = some false)
    (kx_InUse_LookupError : PySem.W.kitOne K (.ref C_InUse) (.type "LookupError") = some false)
    (kx_InUse_IndexError : PySem.W.kitOne K (.ref C_InUse) (.type "IndexError") = some false)
    (kx_InUse_OverflowError : PySem.W.kitOne K (.ref C_InUse) (.type "OverflowError") = some false)
    (kx_InUse_ArithmeticError : PySem.W.kitOne K (.ref C_InUse) (.type "ArithmeticError") = some false)
    (kx_InUse_RuntimeError : PySem.W.kitOne K (.ref C_InUse) (.type "RuntimeError") = some true)
    (kx_InUse_NotImplementedError : PySem.W.kitOne K (.ref C_InUse) (.type "NotImplementedError") = some false)
    (kx_Stale_ValueError : PySem.W.kitOne K (.ref C_Stale) (.type "ValueError") = some false)
    (kx_Stale_KeyError : PySem.W.kitOne K (.ref C_Stale) (.type "KeyError") = some false)
    (kx_Stale_LookupError : PySem.W.kitOne K (.ref C_Stale) (.type "LookupError") = some false)
    (kx_Stale_IndexError : PySem.W.kitOne K (.ref C_Stale) (.type "IndexError") = some false)
    (kx_Stale_OverflowError : PySem.W.kitOne K (.ref C_Stale) (.type "OverflowError") = some false)
    (kx_Stale_ArithmeticError : PySem.W.kitOne K (.ref C_Stale) (.type "ArithmeticError") = some false)
    (kx_Stale_RuntimeError : PySem.W.kitOne K (.ref C_Stale) (.type "RuntimeError") = some true)
    (kx_Stale_NotImplementedError : PySem.W.kitOne K (.ref C_Stale) (.type "NotImplementedError") = some false)
    (kx_Busy_ValueError : PySem.W.kitOne K (.ref C_Busy) (.type "ValueError") = some false)
    (kx_Busy_KeyError : PySem.W.kitOne K (.ref C_Busy) (.type "KeyError") = some false)
    (kx_Busy_LookupError : PySem.W.kitOne K (.ref C_Busy) (.type "LookupError") = some false)
    (kx_Busy_IndexError : PySem.W.kitOne K (.ref C_Busy) (.type "IndexError") = some false)
    (kx_Busy_OverflowError : PySem.W.kitOne K (.ref C_Busy) (.type "OverflowError") = some false)
    (kx_Busy_ArithmeticError : PySem.W.kitOne K (.ref C_Busy) (.type "ArithmeticError") = some false)
    (kx_Busy_RuntimeError : PySem.W.kitOne K (.ref C_Busy) (.type "RuntimeError") = some true)
    (kx_Busy_NotImplementedError : PySem.W.kitOne K (.ref C_Busy) (.type "NotImplementedError") = some false)
    (kx_NothingLeft_ValueError : PySem.W.kitOne K (.ref C_NothingLeft) (.type "ValueError") = some false)
    (kx_NothingLeft_KeyError : PySem.W.kitOne K (.ref C_NothingLeft) (.type "KeyError") = some false)
    (kx_NothingLeft_LookupError : PySem.W.kitOne K (.ref C_NothingLeft) (.type "LookupError") = some false)
    (kx_NothingLeft_IndexError : PySem.W.kitOne K (.ref C_NothingLeft) (.type "IndexError") = some false)
    (kx_NothingLeft_OverflowError : PySem.W.kitOne K (.ref C_NothingLeft) (.type "OverflowError") = some false)
    (kx_NothingLeft_ArithmeticError : PySem.W.kitOne K (.ref C_NothingLeft) (.type "ArithmeticError") = some false)
    (kx_NothingLeft_RuntimeError : PySem.W.kitOne K (.ref C_NothingLeft) (.type "RuntimeError") = some true)
    (kx_NothingLeft_NotImplementedError : PySem.W.kitOne K (.ref C_NothingLeft) (.type "NotImplementedError") = some false)
    {f_BadName_init : Addr} {od_BadName_init an_BadName_init : Option Addr} {sl_BadName_init : Array (Option Value)} {oc_BadName_init kV_BadName_init dc_BadName_init pm_BadName_init cd_BadName_init ct_BadName_init : Value}
    (a_BadName_init : PySem.W.findIn K (.ref C_BadName) "__init__" = some (some (.ref f_BadName_init))) (i_BadName_init : PySem.W.isFn K (.ref f_BadName_init) = true)
    (l_BadName_init : K.lookup f_BadName_init = some ⟨oc_BadName_init, od_BadName_init, .func (PySem.W.fnOf "__init__" "BadName.__init__" (defArgs s_BadName_init) (defBody s_BadName_init) (defScope s_BadName_init) .none kV_BadName_init dc_BadName_init pm_BadName_init an_BadName_init cd_BadName_init ct_BadName_init), sl_BadName_init⟩)
    (c_BadName_init : PySem.W.codeIn K cd_BadName_init "BadName.__init__" = true) (k_BadName_init : PySem.W.keepIn K (.ref f_BadName_init) = true)
    (ti_BadName_init : PySem.W.typeIn K (.ref f_BadName_init) = some (.type "function"))
    {f_BadRule_init : Addr} {od_BadRule_init an_BadRule_init : Option Addr} {sl_BadRule_init : Array (Option Value)} {oc_BadRule_init kV_BadRule_init dc_BadRule_init pm_BadRule_init cd_BadRule_init ct_BadRule_init : Value}
    (a_BadRule_init : PySem.W.findIn K (.ref C_BadRule) "__init__" = some (some (.ref f_BadRule_init))) (i_BadRule_init : PySem.W.isFn K (.ref f_BadRule_init) = true)
    (l_BadRule_init : K.lookup f_BadRule_init = some ⟨oc_BadRule_init, od_BadRule_init, .func (PySem.W.fnOf "__init__" "BadRule.__init__" (defArgs s_BadRule_init) (defBody s_BadRule_init) (defScope s_BadRule_init) .none kV_BadRule_init dc_BadRule_init pm_BadRule_init an_BadRule_init cd_BadRule_init ct_BadRule_init), sl_BadRule_init⟩)
    (c_BadRule_init : PySem.W.codeIn K cd_BadRule_init "BadRule.__init__" = true) (k_BadRule_init : PySem.W.keepIn K (.ref f_BadRule_init) = true)
    (ti_BadRule_init : PySem.W.typeIn K (.ref f_BadRule_init) = some (.type "function"))
    {f_BadText_init : Addr} {od_BadText_init an_BadText_init : Option Addr} {sl_BadText_init : Array (Option Value)} {oc_BadText_init kV_BadText_init dc_BadText_init pm_BadText_init cd_BadText_init ct_BadText_init : Value}
    (a_BadText_init : PySem.W.findIn K (.ref C_BadText) "__init__" = some (some (.ref f_BadText_init))) (i_BadText_init : PySem.W.isFn K (.ref f_BadText_init) = true)
    (l_BadText_init : K.lookup f_BadText_init = some ⟨oc_BadText_init, od_BadText_init, .func (PySem.W.fnOf "__init__" "BadText.__init__" (defArgs s_BadText_init) (defBody s_BadText_init) (defScope s_BadText_init) .none kV_BadText_init dc_BadText_init pm_BadText_init an_BadText_init cd_BadText_init ct_BadText_init), sl_BadText_init⟩)
    (c_BadText_init : PySem.W.codeIn K cd_BadText_init "BadText.__init__" = true) (k_BadText_init : PySem.W.keepIn K (.ref f_BadText_init) = true)
    (ti_BadText_init : PySem.W.typeIn K (.ref f_BadText_init) = some (.type "function"))
    {f_BadForm_init : Addr} {od_BadForm_init an_BadForm_init : Option Addr} {sl_BadForm_init : Array (Option Value)} {oc_BadForm_init kV_BadForm_init dc_BadForm_init pm_BadForm_init cd_BadForm_init ct_BadForm_init : Value}
    (a_BadForm_init : PySem.W.findIn K (.ref C_BadForm) "__init__" = some (some (.ref f_BadForm_init))) (i_BadForm_init : PySem.W.isFn K (.ref f_BadForm_init) = true)
    (l_BadForm_init : K.lookup f_BadForm_init = some ⟨oc_BadForm_init, od_BadForm_init, .func (PySem.W.fnOf "__init__" "BadForm.__init__" (defArgs s_BadForm_init) (defBody s_BadForm_init) (defScope s_BadForm_init) .none kV_BadForm_init dc_BadForm_init pm_BadForm_init an_BadForm_init cd_BadForm_init ct_BadForm_init), sl_BadForm_init⟩)
    (c_BadForm_init : PySem.W.codeIn K cd_BadForm_init "BadForm.__init__" = true) (k_BadForm_init : PySem.W.keepIn K (.ref f_BadForm_init) = true)
    (ti_BadForm_init : PySem.W.typeIn K (.ref f_BadForm_init) = some (.type "function"))
    {f_BadPattern_init : Addr} {od_BadPattern_init an_BadPattern_init : Option Addr} {sl_BadPattern_init : Array (Option Value)} {oc_BadPattern_init kV_BadPattern_init dc_BadPattern_init pm_BadPattern_init cd_BadPattern_init ct_BadPattern_init : Value}
    (a_BadPattern_init : PySem.W.findIn K (.ref C_BadPattern) "__init__" = some (some (.ref f_BadPattern_init))) (i_BadPattern_init : PySem.W.isFn K (.ref f_BadPattern_init) = true)
    (l_BadPattern_init : K.lookup f_BadPattern_init = some ⟨oc_BadPattern_init, od_BadPattern_init, .func (PySem.W.fnOf "__init__" "BadPattern.__init__" (defArgs s_BadPattern_init) (defBody s_BadPattern_init) (defScope s_BadPattern_init) .none kV_BadPattern_init dc_BadPattern_init pm_BadPattern_init an_BadPattern_init cd_BadPattern_init ct_BadPattern_init), sl_BadPattern_init⟩)
    (c_BadPattern_init : PySem.W.codeIn K cd_BadPattern_init "BadPattern.__init__" = true) (k_BadPattern_init : PySem.W.keepIn K (.ref f_BadPattern_init) = true)
    (ti_BadPattern_init : PySem.W.typeIn K (.ref f_BadPattern_init) = some (.type "function"))
    {f_BadFact_init : Addr} {od_BadFact_init an_BadFact_init : Option Addr} {sl_BadFact_init : Array (Option Value)} {oc_BadFact_init kV_BadFact_init dc_BadFact_init pm_BadFact_init cd_BadFact_init ct_BadFact_init : Value}
    (a_BadFact_init : PySem.W.findIn K (.ref C_BadFact) "__init__" = some (some (.ref f_BadFact_init))) (i_BadFact_init : PySem.W.isFn K (.ref f_BadFact_init) = true)
    (l_BadFact_init : K.lookup f_BadFact_init = some ⟨oc_BadFact_init, od_BadFact_init, .func (PySem.W.fnOf "__init__" "BadFact.__init__" (defArgs s_BadFact_init) (defBody s_BadFact_init) (defScope s_BadFact_init) .none kV_BadFact_init dc_BadFact_init pm_BadFact_init an_BadFact_init cd_BadFact_init ct_BadFact_init), sl_BadFact_init⟩)
    (c_BadFact_init : PySem.W.codeIn K cd_BadFact_init "BadFact.__init__" = true) (k_BadFact_init : PySem.W.keepIn K (.ref f_BadFact_init) = true)
    (ti_BadFact_init : PySem.W.typeIn K (.ref f_BadFact_init) = some (.type "function"))
    {f_BadLevel_init : Addr} {od_BadLevel_init an_BadLevel_init : Option Addr} {sl_BadLevel_init : Array (Option Value)} {oc_BadLevel_init kV_BadLevel_init dc_BadLevel_init pm_BadLevel_init cd_BadLevel_init ct_BadLevel_init : Value}
    (a_BadLevel_init : PySem.W.findIn K (.ref C_BadLevel) "__init__" = some (some (.ref f_BadLevel_init))) (i_BadLevel_init : PySem.W.isFn K (.ref f_BadLevel_init) = true)
    (l_BadLevel_init : K.lookup f_BadLevel_init = some ⟨oc_BadLevel_init, od_BadLevel_init, .func (PySem.W.fnOf "__init__" "BadLevel.__init__" (defArgs s_BadLevel_init) (defBody s_BadLevel_init) (defScope s_BadLevel_init) .none kV_BadLevel_init dc_BadLevel_init pm_BadLevel_init an_BadLevel_init cd_BadLevel_init ct_BadLevel_init), sl_BadLevel_init⟩)
    (c_BadLevel_init : PySem.W.codeIn K cd_BadLevel_init "BadLevel.__init__" = true) (k_BadLevel_init : PySem.W.keepIn K (.ref f_BadLevel_init) = true)
    (ti_BadLevel_init : PySem.W.typeIn K (.ref f_BadLevel_init) = some (.type "function"))
    {f_BadInteger_init : Addr} {od_BadInteger_init an_BadInteger_init : Option Addr} {sl_BadInteger_init : Array (Option Value)} {oc_BadInteger_init kV_BadInteger_init dc_BadInteger_init pm_BadInteger_init cd_BadInteger_init ct_BadInteger_init : Value}
    (a_BadInteger_init : PySem.W.findIn K (.ref C_BadInteger) "__init__" = some (some (.ref f_BadInteger_init))) (i_BadInteger_init : PySem.W.isFn K (.ref f_BadInteger_init) = true)
    (l_BadInteger_init : K.lookup f_BadInteger_init = some ⟨oc_BadInteger_init, od_BadInteger_init, .func (PySem.W.fnOf "__init__" "BadInteger.__init__" (defArgs s_BadInteger_init) (defBody s_BadInteger_init) (defScope s_BadInteger_init) .none kV_BadInteger_init dc_BadInteger_init pm_BadInteger_init an_BadInteger_init cd_BadInteger_init ct_BadInteger_init), sl_BadInteger_init⟩)
    (c_BadInteger_init : PySem.W.codeIn K cd_BadInteger_init "BadInteger.__init__" = true) (k_BadInteger_init : PySem.W.keepIn K (.ref f_BadInteger_init) = true)
    (ti_BadInteger_init : PySem.W.typeIn K (.ref f_BadInteger_init) = some (.type "function"))
    {f_BadGoal_init : Addr} {od_BadGoal_init an_BadGoal_init : Option Addr} {sl_BadGoal_init : Array (Option Value)} {oc_BadGoal_init kV_BadGoal_init dc_BadGoal_init pm_BadGoal_init cd_BadGoal_init ct_BadGoal_init : Value}
    (a_BadGoal_init : PySem.W.findIn K (.ref C_BadGoal) "__init__" = some (some (.ref f_BadGoal_init))) (i_BadGoal_init : PySem.W.isFn K (.ref f_BadGoal_init) = true)
    (l_BadGoal_init : K.lookup f_BadGoal_init = some ⟨oc_BadGoal_init, od_BadGoal_init, .func (PySem.W.fnOf "__init__" "BadGoal.__init__" (defArgs s_BadGoal_init) (defBody s_BadGoal_init) (defScope s_BadGoal_init) .none kV_BadGoal_init dc_BadGoal_init pm_BadGoal_init an_BadGoal_init cd_BadGoal_init ct_BadGoal_init), sl_BadGoal_init⟩)
    (c_BadGoal_init : PySem.W.codeIn K cd_BadGoal_init "BadGoal.__init__" = true) (k_BadGoal_init : PySem.W.keepIn K (.ref f_BadGoal_init) = true)
    (ti_BadGoal_init : PySem.W.typeIn K (.ref f_BadGoal_init) = some (.type "function"))
    {f_BadCommand_init : Addr} {od_BadCommand_init an_BadCommand_init : Option Addr} {sl_BadCommand_init : Array (Option Value)} {oc_BadCommand_init kV_BadCommand_init dc_BadCommand_init pm_BadCommand_init cd_BadCommand_init ct_BadCommand_init : Value}
    (a_BadCommand_init : PySem.W.findIn K (.ref C_BadCommand) "__init__" = some (some (.ref f_BadCommand_init))) (i_BadCommand_init : PySem.W.isFn K (.ref f_BadCommand_init) = true)
    (l_BadCommand_init : K.lookup f_BadCommand_init = some ⟨oc_BadCommand_init, od_BadCommand_init, .func (PySem.W.fnOf "__init__" "BadCommand.__init__" (defArgs s_BadCommand_init) (defBody s_BadCommand_init) (defScope s_BadCommand_init) .none kV_BadCommand_init dc_BadCommand_init pm_BadCommand_init an_BadCommand_init cd_BadCommand_init ct_BadCommand_init), sl_BadCommand_init⟩)
    (c_BadCommand_init : PySem.W.codeIn K cd_BadCommand_init "BadCommand.__init__" = true) (k_BadCommand_init : PySem.W.keepIn K (.ref f_BadCommand_init) = true)
    (ti_BadCommand_init : PySem.W.typeIn K (.ref f_BadCommand_init) = some (.type "function"))
    {f_UnknownName_init : Addr} {od_UnknownName_init an_UnknownName_init : Option Addr} {sl_UnknownName_init : Array (Option Value)} {oc_UnknownName_init kV_UnknownName_init dc_UnknownName_init pm_UnknownName_init cd_UnknownName_init ct_UnknownName_init : Value}
    (a_UnknownName_init : PySem.W.findIn K (.ref C_UnknownName) "__init__" = some (some (.ref f_UnknownName_init))) (i_UnknownName_init : PySem.W.isFn K (.ref f_UnknownName_init) = true)
    (l_UnknownName_init : K.lookup f_UnknownName_init = some ⟨oc_UnknownName_init, od_UnknownName_init, .func (PySem.W.fnOf "__init__" "UnknownName.__init__" (defArgs s_UnknownName_init) (defBody s_UnknownName_init) (defScope s_UnknownName_init) .none kV_UnknownName_init dc_UnknownName_init pm_UnknownName_init an_UnknownName_init cd_UnknownName_init ct_UnknownName_init), sl_UnknownName_init⟩)
    (c_UnknownName_init : PySem.W.codeIn K cd_UnknownName_init "UnknownName.__init__" = true) (k_UnknownName_init : PySem.W.keepIn K (.ref f_UnknownName_init) = true)
    (ti_UnknownName_init : PySem.W.typeIn K (.ref f_UnknownName_init) = some (.type "function"))
    {f_NoKey_init : Addr} {od_NoKey_init an_NoKey_init : Option Addr} {sl_NoKey_init : Array (Option Value)} {oc_NoKey_init kV_NoKey_init dc_NoKey_init pm_NoKey_init cd_NoKey_init ct_NoKey_init : Value}
    (a_NoKey_init : PySem.W.findIn K (.ref C_NoKey) "__init__" = some (some (.ref f_NoKey_init))) (i_NoKey_init : PySem.W.isFn K (.ref f_NoKey_init) = true)
    (l_NoKey_init : K.lookup f_NoKey_init = some ⟨oc_NoKey_init, od_NoKey_init, .func (PySem.W.fnOf "__init__" "NoKey.__init__" (defArgs s_NoKey_init) (defBody s_NoKey_init) (defScope s_NoKey_init) .none kV_NoKey_init dc_NoKey_init pm_NoKey_init an_NoKey_init cd_NoKey_init ct_NoKey_init), sl_NoKey_init⟩)
    (c_NoKey_init : PySem.W.codeIn K cd_NoKey_init "NoKey.__init__" = true) (k_NoKey_init : PySem.W.keepIn K (.ref f_NoKey_init) = true)
    (ti_NoKey_init : PySem.W.typeIn K (.ref f_NoKey_init) = some (.type "function"))
    {f_NoBase_init : Addr} {od_NoBase_init an_NoBase_init : Option Addr} {sl_NoBase_init : Array (Option Value)} {oc_NoBase_init kV_NoBase_init dc_NoBase_init pm_NoBase_init cd_NoBase_init ct_NoBase_init : Value}
    (a_NoBase_init : PySem.W.findIn K (.ref C_NoBase) "__init__" = some (some (.ref f_NoBase_init))) (i_NoBase_init : PySem.W.isFn K (.ref f_NoBase_init) = true)
    (l_NoBase_init : K.lookup f_NoBase_init = some ⟨oc_NoBase_init, od_NoBase_init, .func (PySem.W.fnOf "__init__" "NoBase.__init__" (defArgs s_NoBase_init) (defBody s_NoBase_init) (defScope s_NoBase_init) .none kV_NoBase_init dc_NoBase_init pm_NoBase_init an_NoBase_init cd_NoBase_init ct_NoBase_init), sl_NoBase_init⟩)
    (c_NoBase_init : PySem.W.codeIn K cd_NoBase_init "NoBase.__init__" = true) (k_NoBase_init : PySem.W.keepIn K (.ref f_NoBase_init) = true)
    (ti_NoBase_init : PySem.W.typeIn K (.ref f_NoBase_init) = some (.type "function"))
    {f_NoPlace_init : Addr} {od_NoPlace_init an_NoPlace_init : Option Addr} {sl_NoPlace_init : Array (Option Value)} {oc_NoPlace_init kV_NoPlace_init dc_NoPlace_init pm_NoPlace_init cd_NoPlace_init ct_NoPlace_init : Value}
    (a_NoPlace_init : PySem.W.findIn K (.ref C_NoPlace) "__init__" = some (some (.ref f_NoPlace_init))) (i_NoPlace_init : PySem.W.isFn K (.ref f_NoPlace_init) = true)
    (l_NoPlace_init : K.lookup f_NoPlace_init = some ⟨oc_NoPlace_init, od_NoPlace_init, .func (PySem.W.fnOf "__init__" "NoPlace.__init__" (defArgs s_NoPlace_init) (defBody s_NoPlace_init) (defScope s_NoPlace_init) .none kV_NoPlace_init dc_NoPlace_init pm_NoPlace_init an_NoPlace_init cd_NoPlace_init ct_NoPlace_init), sl_NoPlace_init⟩)
    (c_NoPlace_init : PySem.W.codeIn K cd_NoPlace_init "NoPlace.__init__" = true) (k_NoPlace_init : PySem.W.keepIn K (.ref f_NoPlace_init) = true)
    (ti_NoPlace_init : PySem.W.typeIn K (.ref f_NoPlace_init) = some (.type "function"))
    {f_TooMany_init : Addr} {od_TooMany_init an_TooMany_init : Option Addr} {sl_TooMany_init : Array (Option Value)} {oc_TooMany_init kV_TooMany_init dc_TooMany_init pm_TooMany_init cd_TooMany_init ct_TooMany_init : Value}
    (a_TooMany_init : PySem.W.findIn K (.ref C_TooMany) "__init__" = some (some (.ref f_TooMany_init))) (i_TooMany_init : PySem.W.isFn K (.ref f_TooMany_init) = true)
    (l_TooMany_init : K.lookup f_TooMany_init = some ⟨oc_TooMany_init, od_TooMany_init, .func (PySem.W.fnOf "__init__" "TooMany.__init__" (defArgs s_TooMany_init) (defBody s_TooMany_init) (defScope s_TooMany_init) .none kV_TooMany_init dc_TooMany_init pm_TooMany_init an_TooMany_init cd_TooMany_init ct_TooMany_init), sl_TooMany_init⟩)
    (c_TooMany_init : PySem.W.codeIn K cd_TooMany_init "TooMany.__init__" = true) (k_TooMany_init : PySem.W.keepIn K (.ref f_TooMany_init) = true)
    (ti_TooMany_init : PySem.W.typeIn K (.ref f_TooMany_init) = some (.type "function"))
    {f_Taken_init : Addr} {od_Taken_init an_Taken_init : Option Addr} {sl_Taken_init : Array (Option Value)} {oc_Taken_init kV_Taken_init dc_Taken_init pm_Taken_init cd_Taken_init ct_Taken_init : Value}
    (a_Taken_init : PySem.W.findIn K (.ref C_Taken) "__init__" = some (some (.ref f_Taken_init))) (i_Taken_init : PySem.W.isFn K (.ref f_Taken_init) = true)
    (l_Taken_init : K.lookup f_Taken_init = some ⟨oc_Taken_init, od_Taken_init, .func (PySem.W.fnOf "__init__" "Taken.__init__" (defArgs s_Taken_init) (defBody s_Taken_init) (defScope s_Taken_init) .none kV_Taken_init dc_Taken_init pm_Taken_init an_Taken_init cd_Taken_init ct_Taken_init), sl_Taken_init⟩)
    (c_Taken_init : PySem.W.codeIn K cd_Taken_init "Taken.__init__" = true) (k_Taken_init : PySem.W.keepIn K (.ref f_Taken_init) = true)
    (ti_Taken_init : PySem.W.typeIn K (.ref f_Taken_init) = some (.type "function"))
    {f_InUse_init : Addr} {od_InUse_init an_InUse_init : Option Addr} {sl_InUse_init : Array (Option Value)} {oc_InUse_init kV_InUse_init dc_InUse_init pm_InUse_init cd_InUse_init ct_InUse_init : Value}
    (a_InUse_init : PySem.W.findIn K (.ref C_InUse) "__init__" = some (some (.ref f_InUse_init))) (i_InUse_init : PySem.W.isFn K (.ref f_InUse_init) = true)
    (l_InUse_init : K.lookup f_InUse_init = some ⟨oc_InUse_init, od_InUse_init, .func (PySem.W.fnOf "__init__" "InUse.__init__" (defArgs s_InUse_init) (defBody s_InUse_init) (defScope s_InUse_init) .none kV_InUse_init dc_InUse_init pm_InUse_init an_InUse_init cd_InUse_init ct_InUse_init), sl_InUse_init⟩)
    (c_InUse_init : PySem.W.codeIn K cd_InUse_init "InUse.__init__" = true) (k_InUse_init : PySem.W.keepIn K (.ref f_InUse_init) = true)
    (ti_InUse_init : PySem.W.typeIn K (.ref f_InUse_init) = some (.type "function"))
    {f_Stale_init : Addr} {od_Stale_init an_Stale_init : Option Addr} {sl_Stale_init : Array (Option Value)} {oc_Stale_init kV_Stale_init dc_Stale_init pm_Stale_init cd_Stale_init ct_Stale_init : Value}
    (a_Stale_init : PySem.W.findIn K (.ref C_Stale) "__init__" = some (some (.ref f_Stale_init))) (i_Stale_init : PySem.W.isFn K (.ref f_Stale_init) = true)
    (l_Stale_init : K.lookup f_Stale_init = some ⟨oc_Stale_init, od_Stale_init, .func (PySem.W.fnOf "__init__" "Stale.__init__" (defArgs s_Stale_init) (defBody s_Stale_init) (defScope s_Stale_init) .none kV_Stale_init dc_Stale_init pm_Stale_init an_Stale_init cd_Stale_init ct_Stale_init), sl_Stale_init⟩)
    (c_Stale_init : PySem.W.codeIn K cd_Stale_init "Stale.__init__" = true) (k_Stale_init : PySem.W.keepIn K (.ref f_Stale_init) = true)
    (ti_Stale_init : PySem.W.typeIn K (.ref f_Stale_init) = some (.type "function"))
    {f_Busy_init : Addr} {od_Busy_init an_Busy_init : Option Addr} {sl_Busy_init : Array (Option Value)} {oc_Busy_init kV_Busy_init dc_Busy_init pm_Busy_init cd_Busy_init ct_Busy_init : Value}
    (a_Busy_init : PySem.W.findIn K (.ref C_Busy) "__init__" = some (some (.ref f_Busy_init))) (i_Busy_init : PySem.W.isFn K (.ref f_Busy_init) = true)
    (l_Busy_init : K.lookup f_Busy_init = some ⟨oc_Busy_init, od_Busy_init, .func (PySem.W.fnOf "__init__" "Busy.__init__" (defArgs s_Busy_init) (defBody s_Busy_init) (defScope s_Busy_init) .none kV_Busy_init dc_Busy_init pm_Busy_init an_Busy_init cd_Busy_init ct_Busy_init), sl_Busy_init⟩)
    (c_Busy_init : PySem.W.codeIn K cd_Busy_init "Busy.__init__" = true) (k_Busy_init : PySem.W.keepIn K (.ref f_Busy_init) = true)
    (ti_Busy_init : PySem.W.typeIn K (.ref f_Busy_init) = some (.type "function"))
    {f_NothingLeft_init : Addr} {od_NothingLeft_init an_NothingLeft_init : Option Addr} {sl_NothingLeft_init : Array (Option Value)} {oc_NothingLeft_init kV_NothingLeft_init dc_NothingLeft_init pm_NothingLeft_init cd_NothingLeft_init ct_NothingLeft_init : Value}
    (a_NothingLeft_init : PySem.W.findIn K (.ref C_NothingLeft) "__init__" = some (some (.ref f_NothingLeft_init))) (i_NothingLeft_init : PySem.W.isFn K (.ref f_NothingLeft_init) = true)
    (l_NothingLeft_init : K.lookup f_NothingLeft_init = some ⟨oc_NothingLeft_init, od_NothingLeft_init, .func (PySem.W.fnOf "__init__" "NothingLeft.__init__" (defArgs s_NothingLeft_init) (defBody s_NothingLeft_init) (defScope s_NothingLeft_init) .none kV_NothingLeft_init dc_NothingLeft_init pm_NothingLeft_init an_NothingLeft_init cd_NothingLeft_init ct_NothingLeft_init), sl_NothingLeft_init⟩)
    (c_NothingLeft_init : PySem.W.codeIn K cd_NothingLeft_init "NothingLeft.__init__" = true) (k_NothingLeft_init : PySem.W.keepIn K (.ref f_NothingLeft_init) = true)
    (ti_NothingLeft_init : PySem.W.typeIn K (.ref f_NothingLeft_init) = some (.type "function"))
    {f_law_bag : Addr} {od_law_bag an_law_bag : Option Addr} {sl_law_bag : Array (Option Value)} {oc_law_bag kV_law_bag dc_law_bag pm_law_bag cd_law_bag ct_law_bag : Value}
    (a_law_bag : PySem.W.nsIn K mainGlobals "_law_bag" = some (some (.ref f_law_bag)))
    (l_law_bag : K.lookup f_law_bag = some ⟨oc_law_bag, od_law_bag, .func (PySem.W.fnOf "_law_bag" "_law_bag" (defArgs s_law_bag) (defBody s_law_bag) (defScope s_law_bag) .none kV_law_bag dc_law_bag pm_law_bag an_law_bag cd_law_bag ct_law_bag), sl_law_bag⟩)
    (c_law_bag : PySem.W.codeIn K cd_law_bag "_law_bag" = true) (k_law_bag : PySem.W.keepIn K (.ref f_law_bag) = true)
    {f_law_take : Addr} {od_law_take an_law_take : Option Addr} {sl_law_take : Array (Option Value)} {oc_law_take kV_law_take dc_law_take pm_law_take cd_law_take ct_law_take : Value}
    (a_law_take : PySem.W.nsIn K mainGlobals "_law_take" = some (some (.ref f_law_take)))
    (l_law_take : K.lookup f_law_take = some ⟨oc_law_take, od_law_take, .func (PySem.W.fnOf "_law_take" "_law_take" (defArgs s_law_take) (defBody s_law_take) (defScope s_law_take) .none kV_law_take dc_law_take pm_law_take an_law_take cd_law_take ct_law_take), sl_law_take⟩)
    (c_law_take : PySem.W.codeIn K cd_law_take "_law_take" = true) (k_law_take : PySem.W.keepIn K (.ref f_law_take) = true)
    {f_law_thing : Addr} {od_law_thing an_law_thing : Option Addr} {sl_law_thing : Array (Option Value)} {oc_law_thing kV_law_thing dc_law_thing pm_law_thing cd_law_thing ct_law_thing : Value}
    (a_law_thing : PySem.W.nsIn K mainGlobals "_law_thing" = some (some (.ref f_law_thing)))
    (l_law_thing : K.lookup f_law_thing = some ⟨oc_law_thing, od_law_thing, .func (PySem.W.fnOf "_law_thing" "_law_thing" (defArgs s_law_thing) (defBody s_law_thing) (defScope s_law_thing) .none kV_law_thing dc_law_thing pm_law_thing an_law_thing cd_law_thing ct_law_thing), sl_law_thing⟩)
    (c_law_thing : PySem.W.codeIn K cd_law_thing "_law_thing" = true) (k_law_thing : PySem.W.keepIn K (.ref f_law_thing) = true)
    {f_law_by_position : Addr} {od_law_by_position an_law_by_position : Option Addr} {sl_law_by_position : Array (Option Value)} {oc_law_by_position kV_law_by_position dc_law_by_position pm_law_by_position cd_law_by_position ct_law_by_position : Value}
    (a_law_by_position : PySem.W.nsIn K mainGlobals "_law_by_position" = some (some (.ref f_law_by_position)))
    (l_law_by_position : K.lookup f_law_by_position = some ⟨oc_law_by_position, od_law_by_position, .func (PySem.W.fnOf "_law_by_position" "_law_by_position" (defArgs s_law_by_position) (defBody s_law_by_position) (defScope s_law_by_position) .none kV_law_by_position dc_law_by_position pm_law_by_position an_law_by_position cd_law_by_position ct_law_by_position), sl_law_by_position⟩)
    (c_law_by_position : PySem.W.codeIn K cd_law_by_position "_law_by_position" = true) (k_law_by_position : PySem.W.keepIn K (.ref f_law_by_position) = true)
    {f_law_by_parameters : Addr} {od_law_by_parameters an_law_by_parameters : Option Addr} {sl_law_by_parameters : Array (Option Value)} {oc_law_by_parameters kV_law_by_parameters dc_law_by_parameters pm_law_by_parameters cd_law_by_parameters ct_law_by_parameters : Value}
    (a_law_by_parameters : PySem.W.nsIn K mainGlobals "_law_by_parameters" = some (some (.ref f_law_by_parameters)))
    (l_law_by_parameters : K.lookup f_law_by_parameters = some ⟨oc_law_by_parameters, od_law_by_parameters, .func (PySem.W.fnOf "_law_by_parameters" "_law_by_parameters" (defArgs s_law_by_parameters) (defBody s_law_by_parameters) (defScope s_law_by_parameters) .none kV_law_by_parameters dc_law_by_parameters pm_law_by_parameters an_law_by_parameters cd_law_by_parameters ct_law_by_parameters), sl_law_by_parameters⟩)
    (c_law_by_parameters : PySem.W.codeIn K cd_law_by_parameters "_law_by_parameters" = true) (k_law_by_parameters : PySem.W.keepIn K (.ref f_law_by_parameters) = true)
    {f_law_fields : Addr} {od_law_fields an_law_fields : Option Addr} {sl_law_fields : Array (Option Value)} {oc_law_fields kV_law_fields dc_law_fields pm_law_fields cd_law_fields ct_law_fields : Value}
    (a_law_fields : PySem.W.nsIn K mainGlobals "_law_fields" = some (some (.ref f_law_fields)))
    (l_law_fields : K.lookup f_law_fields = some ⟨oc_law_fields, od_law_fields, .func (PySem.W.fnOf "_law_fields" "_law_fields" (defArgs s_law_fields) (defBody s_law_fields) (defScope s_law_fields) .none kV_law_fields dc_law_fields pm_law_fields an_law_fields cd_law_fields ct_law_fields), sl_law_fields⟩)
    (c_law_fields : PySem.W.codeIn K cd_law_fields "_law_fields" = true) (k_law_fields : PySem.W.keepIn K (.ref f_law_fields) = true)
    {f_law_kinds : Addr} {od_law_kinds an_law_kinds : Option Addr} {sl_law_kinds : Array (Option Value)} {oc_law_kinds kV_law_kinds dc_law_kinds pm_law_kinds cd_law_kinds ct_law_kinds : Value}
    (a_law_kinds : PySem.W.nsIn K mainGlobals "_law_kinds" = some (some (.ref f_law_kinds)))
    (l_law_kinds : K.lookup f_law_kinds = some ⟨oc_law_kinds, od_law_kinds, .func (PySem.W.fnOf "_law_kinds" "_law_kinds" (defArgs s_law_kinds) (defBody s_law_kinds) (defScope s_law_kinds) .none kV_law_kinds dc_law_kinds pm_law_kinds an_law_kinds cd_law_kinds ct_law_kinds), sl_law_kinds⟩)
    (c_law_kinds : PySem.W.codeIn K cd_law_kinds "_law_kinds" = true) (k_law_kinds : PySem.W.keepIn K (.ref f_law_kinds) = true)
    {f_law_above : Addr} {od_law_above an_law_above : Option Addr} {sl_law_above : Array (Option Value)} {oc_law_above kV_law_above dc_law_above pm_law_above cd_law_above ct_law_above : Value}
    (a_law_above : PySem.W.nsIn K mainGlobals "_law_above" = some (some (.ref f_law_above)))
    (l_law_above : K.lookup f_law_above = some ⟨oc_law_above, od_law_above, .func (PySem.W.fnOf "_law_above" "_law_above" (defArgs s_law_above) (defBody s_law_above) (defScope s_law_above) .none kV_law_above dc_law_above pm_law_above an_law_above cd_law_above ct_law_above), sl_law_above⟩)
    (c_law_above : PySem.W.codeIn K cd_law_above "_law_above" = true) (k_law_above : PySem.W.keepIn K (.ref f_law_above) = true)
    {f_law : Addr} {od_law an_law : Option Addr} {sl_law : Array (Option Value)} {oc_law kV_law dc_law pm_law cd_law ct_law : Value}
    (a_law : PySem.W.nsIn K mainGlobals "law" = some (some (.ref f_law)))
    (l_law : K.lookup f_law = some ⟨oc_law, od_law, .func (PySem.W.fnOf "law" "law" (defArgs s_law) (defBody s_law) (defScope s_law) .none kV_law dc_law pm_law an_law cd_law ct_law), sl_law⟩)
    (c_law : PySem.W.codeIn K cd_law "law" = true) (k_law : PySem.W.keepIn K (.ref f_law) = true)
    (z_ArithmeticError : PySem.W.nsIn K mainGlobals "ArithmeticError" = some none)
    (z_IndexError : PySem.W.nsIn K mainGlobals "IndexError" = some none)
    (z_KeyError : PySem.W.nsIn K mainGlobals "KeyError" = some none)
    (z_LookupError : PySem.W.nsIn K mainGlobals "LookupError" = some none)
    (z_NotImplementedError : PySem.W.nsIn K mainGlobals "NotImplementedError" = some none)
    (z_OverflowError : PySem.W.nsIn K mainGlobals "OverflowError" = some none)
    (z_RuntimeError : PySem.W.nsIn K mainGlobals "RuntimeError" = some none)
    (z_ValueError : PySem.W.nsIn K mainGlobals "ValueError" = some none)
    (z_abs : PySem.W.nsIn K mainGlobals "abs" = some none)
    (z_enumerate : PySem.W.nsIn K mainGlobals "enumerate" = some none)
    (z_int : PySem.W.nsIn K mainGlobals "int" = some none)
    (z_isinstance : PySem.W.nsIn K mainGlobals "isinstance" = some none)
    (z_len : PySem.W.nsIn K mainGlobals "len" = some none)
    (z_max : PySem.W.nsIn K mainGlobals "max" = some none)
    (z_min : PySem.W.nsIn K mainGlobals "min" = some none)
    (z_range : PySem.W.nsIn K mainGlobals "range" = some none)
    (z_repr : PySem.W.nsIn K mainGlobals "repr" = some none)
    : ∃ fd : FuncData, (∀ (s : Shared) (v : Value), BindsTo s fd ⟨[v], []⟩ [("_law_script", v)]) ∧ ∀ base : Heap, K.In base → base.Ns mainGlobals mg → FnG l.prog w K mg base CX0 14 fa fd ["_law_script"] (sp_law K) := by
  have e := hfa.symm.trans (PySem.W.mg_of X G a_law)
  cases e
  have F_BadName_init := fun_mk (st := s_BadName_init) l_BadName_init c_BadName_init k_BadName_init
  have b_BadName_init := F_BadName_init.binds (ps := ["self", "name"]) fun _ _ _ _ _ _ us hl => match us, hl with | [_, _], _ => rfl
  have F_BadRule_init := fun_mk (st := s_BadRule_init) l_BadRule_init c_BadRule_init k_BadRule_init
  have b_BadRule_init := F_BadRule_init.binds (ps := ["self", "place"]) fun _ _ _ _ _ _ us hl => match us, hl with | [_, _], _ => rfl
  have F_BadText_init := fun_mk (st := s_BadText_init) l_BadText_init c_BadText_init k_BadText_init
  have b_BadText_init := F_BadText_init.binds (ps := ["self", "place"]) fun _ _ _ _ _ _ us hl => match us, hl with | [_, _], _ => rfl
  have F_BadForm_init := fun_mk (st := s_BadForm_init) l_BadForm_init c_BadForm_init k_BadForm_init
  have b_BadForm_init := F_BadForm_init.binds (ps := ["self", "place"]) fun _ _ _ _ _ _ us hl => match us, hl with | [_, _], _ => rfl
  have F_BadPattern_init := fun_mk (st := s_BadPattern_init) l_BadPattern_init c_BadPattern_init k_BadPattern_init
  have b_BadPattern_init := F_BadPattern_init.binds (ps := ["self", "pattern"]) fun _ _ _ _ _ _ us hl => match us, hl with | [_, _], _ => rfl
  have F_BadFact_init := fun_mk (st := s_BadFact_init) l_BadFact_init c_BadFact_init k_BadFact_init
  have b_BadFact_init := F_BadFact_init.binds (ps := ["self", "place"]) fun _ _ _ _ _ _ us hl => match us, hl with | [_, _], _ => rfl
  have F_BadLevel_init := fun_mk (st := s_BadLevel_init) l_BadLevel_init c_BadLevel_init k_BadLevel_init
  have b_BadLevel_init := F_BadLevel_init.binds (ps := ["self", "level"]) fun _ _ _ _ _ _ us hl => match us, hl with | [_, _], _ => rfl
  have F_BadInteger_init := fun_mk (st := s_BadInteger_init) l_BadInteger_init c_BadInteger_init k_BadInteger_init
  have b_BadInteger_init := F_BadInteger_init.binds (ps := ["self", "value"]) fun _ _ _ _ _ _ us hl => match us, hl with | [_, _], _ => rfl
  have F_BadGoal_init := fun_mk (st := s_BadGoal_init) l_BadGoal_init c_BadGoal_init k_BadGoal_init
  have b_BadGoal_init := F_BadGoal_init.binds (ps := ["self", "goal"]) fun _ _ _ _ _ _ us hl => match us, hl with | [_, _], _ => rfl
  have F_BadCommand_init := fun_mk (st := s_BadCommand_init) l_BadCommand_init c_BadCommand_init k_BadCommand_init
  have b_BadCommand_init := F_BadCommand_init.binds (ps := ["self"]) fun _ _ _ _ _ _ us hl => match us, hl with | [_], _ => rfl
  have F_UnknownName_init := fun_mk (st := s_UnknownName_init) l_UnknownName_init c_UnknownName_init k_UnknownName_init
  have b_UnknownName_init := F_UnknownName_init.binds (ps := ["self", "name"]) fun _ _ _ _ _ _ us hl => match us, hl with | [_, _], _ => rfl
  have F_NoKey_init := fun_mk (st := s_NoKey_init) l_NoKey_init c_NoKey_init k_NoKey_init
  have b_NoKey_init := F_NoKey_init.binds (ps := ["self", "name", "key"]) fun _ _ _ _ _ _ us hl => match us, hl with | [_, _, _], _ => rfl
  have F_NoBase_init := fun_mk (st := s_NoBase_init) l_NoBase_init c_NoBase_init k_NoBase_init
  have b_NoBase_init := F_NoBase_init.binds (ps := ["self", "name"]) fun _ _ _ _ _ _ us hl => match us, hl with | [_, _], _ => rfl
  have F_NoPlace_init := fun_mk (st := s_NoPlace_init) l_NoPlace_init c_NoPlace_init k_NoPlace_init
  have b_NoPlace_init := F_NoPlace_init.binds (ps := ["self", "place"]) fun _ _ _ _ _ _ us hl => match us, hl with | [_, _], _ => rfl
  have F_TooMany_init := fun_mk (st := s_TooMany_init) l_TooMany_init c_TooMany_init k_TooMany_init
  have b_TooMany_init := F_TooMany_init.binds (ps := ["self", "limit"]) fun _ _ _ _ _ _ us hl => match us, hl with | [_, _], _ => rfl
  have F_Taken_init := fun_mk (st := s_Taken_init) l_Taken_init c_Taken_init k_Taken_init
  have b_Taken_init := F_Taken_init.binds (ps := ["self", "name"]) fun _ _ _ _ _ _ us hl => match us, hl with | [_, _], _ => rfl
  have F_InUse_init := fun_mk (st := s_InUse_init) l_InUse_init c_InUse_init k_InUse_init
  have b_InUse_init := F_InUse_init.binds (ps := ["self", "name"]) fun _ _ _ _ _ _ us hl => match us, hl with | [_, _], _ => rfl
  have F_Stale_init := fun_mk (st := s_Stale_init) l_Stale_init c_Stale_init k_Stale_init
  have b_Stale_init := F_Stale_init.binds (ps := ["self", "key"]) fun _ _ _ _ _ _ us hl => match us, hl with | [_, _], _ => rfl
  have F_Busy_init := fun_mk (st := s_Busy_init) l_Busy_init c_Busy_init k_Busy_init
  have b_Busy_init := F_Busy_init.binds (ps := ["self"]) fun _ _ _ _ _ _ us hl => match us, hl with | [_], _ => rfl
  have F_NothingLeft_init := fun_mk (st := s_NothingLeft_init) l_NothingLeft_init c_NothingLeft_init k_NothingLeft_init
  have b_NothingLeft_init := F_NothingLeft_init.binds (ps := ["self"]) fun _ _ _ _ _ _ us hl => match us, hl with | [_], _ => rfl
  have F_law_bag := fun_mk (st := s_law_bag) l_law_bag c_law_bag k_law_bag
  have b_law_bag := F_law_bag.binds (ps := ["_law_script", "_law_at"]) fun _ _ _ _ _ _ us hl => match us, hl with | [_, _], _ => rfl
  have F_law_take := fun_mk (st := s_law_take) l_law_take c_law_take k_law_take
  have b_law_take := F_law_take.binds (ps := ["_law_bag_here", "_law_many"]) fun _ _ _ _ _ _ us hl => match us, hl with | [_, _], _ => rfl
  have F_law_thing := fun_mk (st := s_law_thing) l_law_thing c_law_thing k_law_thing
  have b_law_thing := F_law_thing.binds (ps := ["_law_bag_here"]) fun _ _ _ _ _ _ us hl => match us, hl with | [_], _ => rfl
  have F_law_by_position := fun_mk (st := s_law_by_position) l_law_by_position c_law_by_position k_law_by_position
  have b_law_by_position := F_law_by_position.binds (ps := ["_law_one", "_law_two"]) fun _ _ _ _ _ _ us hl => match us, hl with | [_, _], _ => rfl
  have F_law_by_parameters := fun_mk (st := s_law_by_parameters) l_law_by_parameters c_law_by_parameters k_law_by_parameters
  have b_law_by_parameters := F_law_by_parameters.binds (ps := ["_law_one", "_law_two"]) fun _ _ _ _ _ _ us hl => match us, hl with | [_, _], _ => rfl
  have F_law_fields := fun_mk (st := s_law_fields) l_law_fields c_law_fields k_law_fields
  have b_law_fields := F_law_fields.binds (ps := ["_law_some"]) fun _ _ _ _ _ _ us hl => match us, hl with | [_], _ => rfl
  have F_law_kinds := fun_mk (st := s_law_kinds) l_law_kinds c_law_kinds k_law_kinds
  have b_law_kinds := F_law_kinds.binds (ps := ["_law_e"]) fun _ _ _ _ _ _ us hl => match us, hl with | [_], _ => rfl
  have F_law_above := fun_mk (st := s_law_above) l_law_above c_law_above k_law_above
  have b_law_above := F_law_above.binds (ps := ["_law_e"]) fun _ _ _ _ _ _ us hl => match us, hl with | [_], _ => rfl
  have F_law := fun_mk (st := s_law) l_law c_law k_law
  have b_law := F_law.binds (ps := ["_law_script"]) fun _ _ _ _ _ _ us hl => match us, hl with | [_], _ => rfl
  have T : Txt K mg := {
    f_BadName_init := _,
    d_BadName_init := _,
    F_BadName_init := F_BadName_init,
    b_BadName_init := b_BadName_init,
    f_BadRule_init := _,
    d_BadRule_init := _,
    F_BadRule_init := F_BadRule_init,
    b_BadRule_init := b_BadRule_init,
    f_BadText_init := _,
    d_BadText_init := _,
    F_BadText_init := F_BadText_init,
    b_BadText_init := b_BadText_init,
    f_BadForm_init := _,
    d_BadForm_init := _,
    F_BadForm_init := F_BadForm_init,
    b_BadForm_init := b_BadForm_init,
    f_BadPattern_init := _,
    d_BadPattern_init := _,
    F_BadPattern_init := F_BadPattern_init,
    b_BadPattern_init := b_BadPattern_init,
    f_BadFact_init := _,
    d_BadFact_init := _,
    F_BadFact_init := F_BadFact_init,
    b_BadFact_init := b_BadFact_init,
    f_BadLevel_init := _,
    d_BadLevel_init := _,
    F_BadLevel_init := F_BadLevel_init,
    b_BadLevel_init := b_BadLevel_init,
    f_BadInteger_init := _,
    d_BadInteger_init := _,
    F_BadInteger_init := F_BadInteger_init,
    b_BadInteger_init := b_BadInteger_init,
    f_BadGoal_init := _,
    d_BadGoal_init := _,
    F_BadGoal_init := F_BadGoal_init,
    b_BadGoal_init := b_BadGoal_init,
    f_BadCommand_init := _,
    d_BadCommand_init := _,
    F_BadCommand_init := F_BadCommand_init,
    b_BadCommand_init := b_BadCommand_init,
    f_UnknownName_init := _,
    d_UnknownName_init := _,
    F_UnknownName_init := F_UnknownName_init,
    b_UnknownName_init := b_UnknownName_init,
    f_NoKey_init := _,
    d_NoKey_init := _,
    F_NoKey_init := F_NoKey_init,
    b_NoKey_init := b_NoKey_init,
    f_NoBase_init := _,
    d_NoBase_init := _,
    F_NoBase_init := F_NoBase_init,
    b_NoBase_init := b_NoBase_init,
    f_NoPlace_init := _,
    d_NoPlace_init := _,
    F_NoPlace_init := F_NoPlace_init,
    b_NoPlace_init := b_NoPlace_init,
    f_TooMany_init := _,
    d_TooMany_init := _,
    F_TooMany_init := F_TooMany_init,
    b_TooMany_init := b_TooMany_init,
    f_Taken_init := _,
    d_Taken_init := _,
    F_Taken_init := F_Taken_init,
    b_Taken_init := b_Taken_init,
    f_InUse_init := _,
    d_InUse_init := _,
    F_InUse_init := F_InUse_init,
    b_InUse_init := b_InUse_init,
    f_Stale_init := _,
    d_Stale_init := _,
    F_Stale_init := F_Stale_init,
    b_Stale_init := b_Stale_init,
    f_Busy_init := _,
    d_Busy_init := _,
    F_Busy_init := F_Busy_init,
    b_Busy_init := b_Busy_init,
    f_NothingLeft_init := _,
    d_NothingLeft_init := _,
    F_NothingLeft_init := F_NothingLeft_init,
    b_NothingLeft_init := b_NothingLeft_init,
    f_law_bag := _,
    d_law_bag := _,
    F_law_bag := F_law_bag,
    m_law_bag := PySem.W.mg_of X G a_law_bag,
    b_law_bag := b_law_bag,
    f_law_take := _,
    d_law_take := _,
    F_law_take := F_law_take,
    m_law_take := PySem.W.mg_of X G a_law_take,
    b_law_take := b_law_take,
    f_law_thing := _,
    d_law_thing := _,
    F_law_thing := F_law_thing,
    m_law_thing := PySem.W.mg_of X G a_law_thing,
    b_law_thing := b_law_thing,
    f_law_by_position := _,
    d_law_by_position := _,
    F_law_by_position := F_law_by_position,
    m_law_by_position := PySem.W.mg_of X G a_law_by_position,
    b_law_by_position := b_law_by_position,
    f_law_by_parameters := _,
    d_law_by_parameters := _,
    F_law_by_parameters := F_law_by_parameters,
    m_law_by_parameters := PySem.W.mg_of X G a_law_by_parameters,
    b_law_by_parameters := b_law_by_parameters,
    f_law_fields := _,
    d_law_fields := _,
    F_law_fields := F_law_fields,
    m_law_fields := PySem.W.mg_of X G a_law_fields,
    b_law_fields := b_law_fields,
    f_law_kinds := _,
    d_law_kinds := _,
    F_law_kinds := F_law_kinds,
    m_law_kinds := PySem.W.mg_of X G a_law_kinds,
    b_law_kinds := b_law_kinds,
    f_law_above := _,
    d_law_above := _,
    F_law_above := F_law_above,
    m_law_above := PySem.W.mg_of X G a_law_above,
    b_law_above := b_law_above,
    f_law := _,
    d_law := _,
    F_law := F_law,
    m_law := PySem.W.mg_of X G a_law,
    b_law := b_law,
    C_BadName := _,
    m_BadName := PySem.W.mg_of X G a_BadName,
    x_BadName := ⟨⟨xi_BadName, xo_BadName, xh_BadName, xs_BadName, xb_BadName, xt_BadName, xk_BadName⟩, a_BadName_init, ti_BadName_init, xm_BadName, xn_BadName, xv_BadName, ⟨xg_BadName, xa_BadName, xb_BadName, xh_BadName⟩, exm_self xb_BadName xc_BadName xt_BadName xe_BadName⟩,
    C_BadRule := _,
    m_BadRule := PySem.W.mg_of X G a_BadRule,
    x_BadRule := ⟨⟨xi_BadRule, xo_BadRule, xh_BadRule, xs_BadRule, xb_BadRule, xt_BadRule, xk_BadRule⟩, a_BadRule_init, ti_BadRule_init, xm_BadRule, xn_BadRule, xv_BadRule, ⟨xg_BadRule, xa_BadRule, xb_BadRule, xh_BadRule⟩, exm_self xb_BadRule xc_BadRule xt_BadRule xe_BadRule⟩,
    C_BadText := _,
    m_BadText := PySem.W.mg_of X G a_BadText,
    x_BadText := ⟨⟨xi_BadText, xo_BadText, xh_BadText, xs_BadText, xb_BadText, xt_BadText, xk_BadText⟩, a_BadText_init, ti_BadText_init, xm_BadText, xn_BadText, xv_BadText, ⟨xg_BadText, xa_BadText, xb_BadText, xh_BadText⟩, exm_self xb_BadText xc_BadText xt_BadText xe_BadText⟩,
    C_BadForm := _,
    m_BadForm := PySem.W.mg_of X G a_BadForm,
    x_BadForm := ⟨⟨xi_BadForm, xo_BadForm, xh_BadForm, xs_BadForm, xb_BadForm, xt_BadForm, xk_BadForm⟩, a_BadForm_init, ti_BadForm_init, xm_BadForm, xn_BadForm, xv_BadForm, ⟨xg_BadForm, xa_BadForm, xb_BadForm, xh_BadForm⟩, exm_self xb_BadForm xc_BadForm xt_BadForm xe_BadForm⟩,
    C_BadPattern := _,
    m_BadPattern := PySem.W.mg_of X G a_BadPattern,
    x_BadPattern := ⟨⟨xi_BadPattern, xo_BadPattern, xh_BadPattern, xs_BadPattern, xb_BadPattern, xt_BadPattern, xk_BadPattern⟩, a_BadPattern_init, ti_BadPattern_init, xm_BadPattern, xn_BadPattern, xv_BadPattern, ⟨xg_BadPattern, xa_BadPattern, xb_BadPattern, xh_BadPattern⟩, exm_self xb_BadPattern xc_BadPattern xt_BadPattern xe_BadPattern⟩,
    C_BadFact := _,
    m_BadFact := PySem.W.mg_of X G a_BadFact,
    x_BadFact := ⟨⟨xi_BadFact, xo_BadFact, xh_BadFact, xs_BadFact, xb_BadFact, xt_BadFact, xk_BadFact⟩, a_BadFact_init, ti_BadFact_init, xm_BadFact, xn_BadFact, xv_BadFact, ⟨xg_BadFact, xa_BadFact, xb_BadFact, xh_BadFact⟩, exm_self xb_BadFact xc_BadFact xt_BadFact xe_BadFact⟩,
    C_BadLevel := _,
    m_BadLevel := PySem.W.mg_of X G a_BadLevel,
    x_BadLevel := ⟨⟨xi_BadLevel, xo_BadLevel, xh_BadLevel, xs_BadLevel, xb_BadLevel, xt_BadLevel, xk_BadLevel⟩, a_BadLevel_init, ti_BadLevel_init, xm_BadLevel, xn_BadLevel, xv_BadLevel, ⟨xg_BadLevel, xa_BadLevel, xb_BadLevel, xh_BadLevel⟩, exm_self xb_BadLevel xc_BadLevel xt_BadLevel xe_BadLevel⟩,
    C_BadInteger := _,
    m_BadInteger := PySem.W.mg_of X G a_BadInteger,
    x_BadInteger := ⟨⟨xi_BadInteger, xo_BadInteger, xh_BadInteger, xs_BadInteger, xb_BadInteger, xt_BadInteger, xk_BadInteger⟩, a_BadInteger_init, ti_BadInteger_init, xm_BadInteger, xn_BadInteger, xv_BadInteger, ⟨xg_BadInteger, xa_BadInteger, xb_BadInteger, xh_BadInteger⟩, exm_self xb_BadInteger xc_BadInteger xt_BadInteger xe_BadInteger⟩,
    C_BadGoal := _,
    m_BadGoal := PySem.W.mg_of X G a_BadGoal,
    x_BadGoal := ⟨⟨xi_BadGoal, xo_BadGoal, xh_BadGoal, xs_BadGoal, xb_BadGoal, xt_BadGoal, xk_BadGoal⟩, a_BadGoal_init, ti_BadGoal_init, xm_BadGoal, xn_BadGoal, xv_BadGoal, ⟨xg_BadGoal, xa_BadGoal, xb_BadGoal, xh_BadGoal⟩, exm_self xb_BadGoal xc_BadGoal xt_BadGoal xe_BadGoal⟩,
    C_BadCommand := _,
    m_BadCommand := PySem.W.mg_of X G a_BadCommand,
    x_BadCommand := ⟨⟨xi_BadCommand, xo_BadCommand, xh_BadCommand, xs_BadCommand, xb_BadCommand, xt_BadCommand, xk_BadCommand⟩, a_BadCommand_init, ti_BadCommand_init, xm_BadCommand, xn_BadCommand, xv_BadCommand, ⟨xg_BadCommand, xa_BadCommand, xb_BadCommand, xh_BadCommand⟩, exm_self xb_BadCommand xc_BadCommand xt_BadCommand xe_BadCommand⟩,
    C_UnknownName := _,
    m_UnknownName := PySem.W.mg_of X G a_UnknownName,
    x_UnknownName := ⟨⟨xi_UnknownName, xo_UnknownName, xh_UnknownName, xs_UnknownName, xb_UnknownName, xt_UnknownName, xk_UnknownName⟩, a_UnknownName_init, ti_UnknownName_init, xm_UnknownName, xn_UnknownName, xv_UnknownName, ⟨xg_UnknownName, xa_UnknownName, xb_UnknownName, xh_UnknownName⟩, exm_self xb_UnknownName xc_UnknownName xt_UnknownName xe_UnknownName⟩,
    C_NoKey := _,
    m_NoKey := PySem.W.mg_of X G a_NoKey,
    x_NoKey := ⟨⟨xi_NoKey, xo_NoKey, xh_NoKey, xs_NoKey, xb_NoKey, xt_NoKey, xk_NoKey⟩, a_NoKey_init, ti_NoKey_init, xm_NoKey, xn_NoKey, xv_NoKey, ⟨xg_NoKey, xa_NoKey, xb_NoKey, xh_NoKey⟩, exm_self xb_NoKey xc_NoKey xt_NoKey xe_NoKey⟩,
    C_NoBase := _,
    m_NoBase := PySem.W.mg_of X G a_NoBase,
    x_NoBase := ⟨⟨xi_NoBase, xo_NoBase, xh_NoBase, xs_NoBase, xb_NoBase, xt_NoBase, xk_NoBase⟩, a_NoBase_init, ti_NoBase_init, xm_NoBase, xn_NoBase, xv_NoBase, ⟨xg_NoBase, xa_NoBase, xb_NoBase, xh_NoBase⟩, exm_self xb_NoBase xc_NoBase xt_NoBase xe_NoBase⟩,
    C_NoPlace := _,
    m_NoPlace := PySem.W.mg_of X G a_NoPlace,
    x_NoPlace := ⟨⟨xi_NoPlace, xo_NoPlace, xh_NoPlace, xs_NoPlace, xb_NoPlace, xt_NoPlace, xk_NoPlace⟩, a_NoPlace_init, ti_NoPlace_init, xm_NoPlace, xn_NoPlace, xv_NoPlace, ⟨xg_NoPlace, xa_NoPlace, xb_NoPlace, xh_NoPlace⟩, exm_self xb_NoPlace xc_NoPlace xt_NoPlace xe_NoPlace⟩,
    C_TooMany := _,
    m_TooMany := PySem.W.mg_of X G a_TooMany,
    x_TooMany := ⟨⟨xi_TooMany, xo_TooMany, xh_TooMany, xs_TooMany, xb_TooMany, xt_TooMany, xk_TooMany⟩, a_TooMany_init, ti_TooMany_init, xm_TooMany, xn_TooMany, xv_TooMany, ⟨xg_TooMany, xa_TooMany, xb_TooMany, xh_TooMany⟩, exm_self xb_TooMany xc_TooMany xt_TooMany xe_TooMany⟩,
    C_Taken := _,
    m_Taken := PySem.W.mg_of X G a_Taken,
    x_Taken := ⟨⟨xi_Taken, xo_Taken, xh_Taken, xs_Taken, xb_Taken, xt_Taken, xk_Taken⟩, a_Taken_init, ti_Taken_init, xm_Taken, xn_Taken, xv_Taken, ⟨xg_Taken, xa_Taken, xb_Taken, xh_Taken⟩, exm_self xb_Taken xc_Taken xt_Taken xe_Taken⟩,
    C_InUse := _,
    m_InUse := PySem.W.mg_of X G a_InUse,
    x_InUse := ⟨⟨xi_InUse, xo_InUse, xh_InUse, xs_InUse, xb_InUse, xt_InUse, xk_InUse⟩, a_InUse_init, ti_InUse_init, xm_InUse, xn_InUse, xv_InUse, ⟨xg_InUse, xa_InUse, xb_InUse, xh_InUse⟩, exm_self xb_InUse xc_InUse xt_InUse xe_InUse⟩,
    C_Stale := _,
    m_Stale := PySem.W.mg_of X G a_Stale,
    x_Stale := ⟨⟨xi_Stale, xo_Stale, xh_Stale, xs_Stale, xb_Stale, xt_Stale, xk_Stale⟩, a_Stale_init, ti_Stale_init, xm_Stale, xn_Stale, xv_Stale, ⟨xg_Stale, xa_Stale, xb_Stale, xh_Stale⟩, exm_self xb_Stale xc_Stale xt_Stale xe_Stale⟩,
    C_Busy := _,
    m_Busy := PySem.W.mg_of X G a_Busy,
    x_Busy := ⟨⟨xi_Busy, xo_Busy, xh_Busy, xs_Busy, xb_Busy, xt_Busy, xk_Busy⟩, a_Busy_init, ti_Busy_init, xm_Busy, xn_Busy, xv_Busy, ⟨xg_Busy, xa_Busy, xb_Busy, xh_Busy⟩, exm_self xb_Busy xc_Busy xt_Busy xe_Busy⟩,
    C_NothingLeft := _,
    m_NothingLeft := PySem.W.mg_of X G a_NothingLeft,
    x_NothingLeft := ⟨⟨xi_NothingLeft, xo_NothingLeft, xh_NothingLeft, xs_NothingLeft, xb_NothingLeft, xt_NothingLeft, xk_NothingLeft⟩, a_NothingLeft_init, ti_NothingLeft_init, xm_NothingLeft, xn_NothingLeft, xv_NothingLeft, ⟨xg_NothingLeft, xa_NothingLeft, xb_NothingLeft, xh_NothingLeft⟩, exm_self xb_NothingLeft xc_NothingLeft xt_NothingLeft xe_NothingLeft⟩,
    kb_BadName_init_1 := kb_m1 F_BadName_init fun _ _ _ _ _ _ _ _ => rfl,
    kb_BadRule_init_1 := kb_m1 F_BadRule_init fun _ _ _ _ _ _ _ _ => rfl,
    kb_BadText_init_1 := kb_m1 F_BadText_init fun _ _ _ _ _ _ _ _ => rfl,
    kb_BadForm_init_1 := kb_m1 F_BadForm_init fun _ _ _ _ _ _ _ _ => rfl,
    kb_BadPattern_init_1 := kb_m1 F_BadPattern_init fun _ _ _ _ _ _ _ _ => rfl,
    kb_BadFact_init_1 := kb_m1 F_BadFact_init fun _ _ _ _ _ _ _ _ => rfl,
    kb_BadLevel_init_1 := kb_m1 F_BadLevel_init fun _ _ _ _ _ _ _ _ => rfl,
    kb_BadInteger_init_1 := kb_m1 F_BadInteger_init fun _ _ _ _ _ _ _ _ => rfl,
    kb_BadGoal_init_1 := kb_m1 F_BadGoal_init fun _ _ _ _ _ _ _ _ => rfl,
    kb_UnknownName_init_1 := kb_m1 F_UnknownName_init fun _ _ _ _ _ _ _ _ => rfl,
    tk2_NoKey := xm2_NoKey,
    nf2_NoKey := xn2_NoKey,
    kb_NoKey_init_1 := kb_m2 F_NoKey_init fun _ _ _ _ _ _ _ _ _ => rfl,
    kb_NoBase_init_1 := kb_m1 F_NoBase_init fun _ _ _ _ _ _ _ _ => rfl,
    kb_NoPlace_init_1 := kb_m1 F_NoPlace_init fun _ _ _ _ _ _ _ _ => rfl,
    kb_TooMany_init_1 := kb_m1 F_TooMany_init fun _ _ _ _ _ _ _ _ => rfl,
    kb_Taken_init_1 := kb_m1 F_Taken_init fun _ _ _ _ _ _ _ _ => rfl,
    kb_InUse_init_1 := kb_m1 F_InUse_init fun _ _ _ _ _ _ _ _ => rfl,
    kb_Stale_init_1 := kb_m1 F_Stale_init fun _ _ _ _ _ _ _ _ => rfl,
    ec_BadName := ⟨xg_BadName, xa_BadName, xb_BadName, xh_BadName, xca_BadName, xcn_BadName, xct_BadName, xcm_BadName⟩,
    ec_BadRule := ⟨xg_BadRule, xa_BadRule, xb_BadRule, xh_BadRule, xca_BadRule, xcn_BadRule, xct_BadRule, xcm_BadRule⟩,
    ec_BadText := ⟨xg_BadText, xa_BadText, xb_BadText, xh_BadText, xca_BadText, xcn_BadText, xct_BadText, xcm_BadText⟩,
    ec_BadForm := ⟨xg_BadForm, xa_BadForm, xb_BadForm, xh_BadForm, xca_BadForm, xcn_BadForm, xct_BadForm, xcm_BadForm⟩,
    ec_BadPattern := ⟨xg_BadPattern, xa_BadPattern, xb_BadPattern, xh_BadPattern, xca_BadPattern, xcn_BadPattern, xct_BadPattern, xcm_BadPattern⟩,
    ec_BadFact := ⟨xg_BadFact, xa_BadFact, xb_BadFact, xh_BadFact, xca_BadFact, xcn_BadFact, xct_BadFact, xcm_BadFact⟩,
    ec_BadLevel := ⟨xg_BadLevel, xa_BadLevel, xb_BadLevel, xh_BadLevel, xca_BadLevel, xcn_BadLevel, xct_BadLevel, xcm_BadLevel⟩,
    ec_BadInteger := ⟨xg_BadInteger, xa_BadInteger, xb_BadInteger, xh_BadInteger, xca_BadInteger, xcn_BadInteger, xct_BadInteger, xcm_BadInteger⟩,
    ec_BadGoal := ⟨xg_BadGoal, xa_BadGoal, xb_BadGoal, xh_BadGoal, xca_BadGoal, xcn_BadGoal, xct_BadGoal, xcm_BadGoal⟩,
    ec_BadCommand := ⟨xg_BadCommand, xa_BadCommand, xb_BadCommand, xh_BadCommand, xca_BadCommand, xcn_BadCommand, xct_BadCommand, xcm_BadCommand⟩,
    ec_UnknownName := ⟨xg_UnknownName, xa_UnknownName, xb_UnknownName, xh_UnknownName, xca_UnknownName, xcn_UnknownName, xct_UnknownName, xcm_UnknownName⟩,
    ec_NoKey := ⟨xg_NoKey, xa_NoKey, xb_NoKey, xh_NoKey, xca_NoKey, xcn_NoKey, xct_NoKey, xcm_NoKey⟩,
    ec_NoBase := ⟨xg_NoBase, xa_NoBase, xb_NoBase, xh_NoBase, xca_NoBase, xcn_NoBase, xct_NoBase, xcm_NoBase⟩,
    ec_NoPlace := ⟨xg_NoPlace, xa_NoPlace, xb_NoPlace, xh_NoPlace, xca_NoPlace, xcn_NoPlace, xct_NoPlace, xcm_NoPlace⟩,
    ec_TooMany := ⟨xg_TooMany, xa_TooMany, xb_TooMany, xh_TooMany, xca_TooMany, xcn_TooMany, xct_TooMany, xcm_TooMany⟩,
    ec_Taken := ⟨xg_Taken, xa_Taken, xb_Taken, xh_Taken, xca_Taken, xcn_Taken, xct_Taken, xcm_Taken⟩,
    ec_InUse := ⟨xg_InUse, xa_InUse, xb_InUse, xh_InUse, xca_InUse, xcn_InUse, xct_InUse, xcm_InUse⟩,
    ec_Stale := ⟨xg_Stale, xa_Stale, xb_Stale, xh_Stale, xca_Stale, xcn_Stale, xct_Stale, xcm_Stale⟩,
    ec_Busy := ⟨xg_Busy, xa_Busy, xb_Busy, xh_Busy, xca_Busy, xcn_Busy, xct_Busy, xcm_Busy⟩,
    ec_NothingLeft := ⟨xg_NothingLeft, xa_NothingLeft, xb_NothingLeft, xh_NothingLeft, xca_NothingLeft, xcn_NothingLeft, xct_NothingLeft, xcm_NothingLeft⟩,
    kx_BadName_BadName := kx_BadName_BadName,
    kx_BadName_BadRule := kx_BadName_BadRule,
    kx_BadName_BadText := kx_BadName_BadText,
    kx_BadName_BadForm := kx_BadName_BadForm,
    kx_BadName_BadPattern := kx_BadName_BadPattern,
    kx_BadName_BadFact := kx_BadName_BadFact,
    kx_BadName_BadLevel := kx_BadName_BadLevel,
    kx_BadName_BadInteger := kx_BadName_BadInteger,
    kx_BadName_BadGoal := kx_BadName_BadGoal,
    kx_BadName_BadCommand := kx_BadName_BadCommand,
    kx_BadName_UnknownName := kx_BadName_UnknownName,
    kx_BadName_NoKey := kx_BadName_NoKey,
    kx_BadName_NoBase := kx_BadName_NoBase,
    kx_BadName_NoPlace := kx_BadName_NoPlace,
    kx_BadName_TooMany := kx_BadName_TooMany,
    kx_BadName_Taken := kx_BadName_Taken,
    kx_BadName_InUse := kx_BadName_InUse,
    kx_BadName_Stale := kx_BadName_Stale,
    kx_BadName_Busy := kx_BadName_Busy,
    kx_BadName_NothingLeft := kx_BadName_NothingLeft,
    kx_BadRule_BadName := kx_BadRule_BadName,
    kx_BadRule_BadRule := kx_BadRule_BadRule,
    kx_BadRule_BadText := kx_BadRule_BadText,
    kx_BadRule_BadForm := kx_BadRule_BadForm,
    kx_BadRule_BadPattern := kx_BadRule_BadPattern,
    kx_BadRule_BadFact := kx_BadRule_BadFact,
    kx_BadRule_BadLevel := kx_BadRule_BadLevel,
    kx_BadRule_BadInteger := kx_BadRule_BadInteger,
    kx_BadRule_BadGoal := kx_BadRule_BadGoal,
    kx_BadRule_BadCommand := kx_BadRule_BadCommand,
    kx_BadRule_UnknownName := kx_BadRule_UnknownName,
    kx_BadRule_NoKey := kx_BadRule_NoKey,
    kx_BadRule_NoBase := kx_BadRule_NoBase,
    kx_BadRule_NoPlace := kx_BadRule_NoPlace,
    kx_BadRule_TooMany := kx_BadRule_TooMany,
    kx_BadRule_Taken := kx_BadRule_Taken,
    kx_BadRule_InUse := kx_BadRule_InUse,
    kx_BadRule_Stale := kx_BadRule_Stale,
    kx_BadRule_Busy := kx_BadRule_Busy,
    kx_BadRule_NothingLeft := kx_BadRule_NothingLeft,
    kx_BadText_BadName := kx_BadText_BadName,
    kx_BadText_BadRule := kx_BadText_BadRule,
    kx_BadText_BadText := kx_BadText_BadText,
    kx_BadText_BadForm := kx_BadText_BadForm,
    kx_BadText_BadPattern := kx_BadText_BadPattern,
    kx_BadText_BadFact := kx_BadText_BadFact,
    kx_BadText_BadLevel := kx_BadText_BadLevel,
    kx_BadText_BadInteger := kx_BadText_BadInteger,
    kx_BadText_BadGoal := kx_BadText_BadGoal,
    kx_BadText_BadCommand := kx_BadText_BadCommand,
    kx_BadText_UnknownName := kx_BadText_UnknownName,
    kx_BadText_NoKey := kx_BadText_NoKey,
    kx_BadText_NoBase := kx_BadText_NoBase,
    kx_BadText_NoPlace := kx_BadText_NoPlace,
    kx_BadText_TooMany := kx_BadText_TooMany,
    kx_BadText_Taken := kx_BadText_Taken,
    kx_BadText_InUse := kx_BadText_InUse,
    kx_BadText_Stale := kx_BadText_Stale,
    kx_BadText_Busy := kx_BadText_Busy,
    kx_BadText_NothingLeft := kx_BadText_NothingLeft,
    kx_BadForm_BadName := kx_BadForm_BadName,
    kx_BadForm_BadRule := kx_BadForm_BadRule,
    kx_BadForm_BadText := kx_BadForm_BadText,
    kx_BadForm_BadForm := kx_BadForm_BadForm,
    kx_BadForm_BadPattern := kx_BadForm_BadPattern,
    kx_BadForm_BadFact := kx_BadForm_BadFact,
    kx_BadForm_BadLevel := kx_BadForm_BadLevel,
    kx_BadForm_BadInteger := kx_BadForm_BadInteger,
    kx_BadForm_BadGoal := kx_BadForm_BadGoal,
    kx_BadForm_BadCommand := kx_BadForm_BadCommand,
    kx_BadForm_UnknownName := kx_BadForm_UnknownName,
    kx_BadForm_NoKey := kx_BadForm_NoKey,
    kx_BadForm_NoBase := kx_BadForm_NoBase,
    kx_BadForm_NoPlace := kx_BadForm_NoPlace,
    kx_BadForm_TooMany := kx_BadForm_TooMany,
    kx_BadForm_Taken := kx_BadForm_Taken,
    kx_BadForm_InUse := kx_BadForm_InUse,
    kx_BadForm_Stale := kx_BadForm_Stale,
    kx_BadForm_Busy := kx_BadForm_Busy,
    kx_BadForm_NothingLeft := kx_BadForm_NothingLeft,
    kx_BadPattern_BadName := kx_BadPattern_BadName,
    kx_BadPattern_BadRule := kx_BadPattern_BadRule,
    kx_BadPattern_BadText := kx_BadPattern_BadText,
    kx_BadPattern_BadForm := kx_BadPattern_BadForm,
    kx_BadPattern_BadPattern := kx_BadPattern_BadPattern,
    kx_BadPattern_BadFact := kx_BadPattern_BadFact,
    kx_BadPattern_BadLevel := kx_BadPattern_BadLevel,
    kx_BadPattern_BadInteger := kx_BadPattern_BadInteger,
    kx_BadPattern_BadGoal := kx_BadPattern_BadGoal,
    kx_BadPattern_BadCommand := kx_BadPattern_BadCommand,
    kx_BadPattern_UnknownName := kx_BadPattern_UnknownName,
    kx_BadPattern_NoKey := kx_BadPattern_NoKey,
    kx_BadPattern_NoBase := kx_BadPattern_NoBase,
    kx_BadPattern_NoPlace := kx_BadPattern_NoPlace,
    kx_BadPattern_TooMany := kx_BadPattern_TooMany,
    kx_BadPattern_Taken := kx_BadPattern_Taken,
    kx_BadPattern_InUse := kx_BadPattern_InUse,
    kx_BadPattern_Stale := kx_BadPattern_Stale,
    kx_BadPattern_Busy := kx_BadPattern_Busy,
    kx_BadPattern_NothingLeft := kx_BadPattern_NothingLeft,
    kx_BadFact_BadName := kx_BadFact_BadName,
    kx_BadFact_BadRule := kx_BadFact_BadRule,
    kx_BadFact_BadText := kx_BadFact_BadText,
    kx_BadFact_BadForm := kx_BadFact_BadForm,
    kx_BadFact_BadPattern := kx_BadFact_BadPattern,
    kx_BadFact_BadFact := kx_BadFact_BadFact,
    kx_BadFact_BadLevel := kx_BadFact_BadLevel,
    kx_BadFact_BadInteger := kx_BadFact_BadInteger,
    kx_BadFact_BadGoal := kx_BadFact_BadGoal,
    kx_BadFact_BadCommand := kx_BadFact_BadCommand,
    kx_BadFact_UnknownName := kx_BadFact_UnknownName,
    kx_BadFact_NoKey := kx_BadFact_NoKey,
    kx_BadFact_NoBase := kx_BadFact_NoBase,
    kx_BadFact_NoPlace := kx_BadFact_NoPlace,
    kx_BadFact_TooMany := kx_BadFact_TooMany,
    kx_BadFact_Taken := kx_BadFact_Taken,
    kx_BadFact_InUse := kx_BadFact_InUse,
    kx_BadFact_Stale := kx_BadFact_Stale,
    kx_BadFact_Busy := kx_BadFact_Busy,
    kx_BadFact_NothingLeft := kx_BadFact_NothingLeft,
    kx_BadLevel_BadName := kx_BadLevel_BadName,
    kx_BadLevel_BadRule := kx_BadLevel_BadRule,
    kx_BadLevel_BadText := kx_BadLevel_BadText,
    kx_BadLevel_BadForm := kx_BadLevel_BadForm,
    kx_BadLevel_BadPattern := kx_BadLevel_BadPattern,
    kx_BadLevel_BadFact := kx_BadLevel_BadFact,
    kx_BadLevel_BadLevel := kx_BadLevel_BadLevel,
    kx_BadLevel_BadInteger := kx_BadLevel_BadInteger,
    kx_BadLevel_BadGoal := kx_BadLevel_BadGoal,
    kx_BadLevel_BadCommand := kx_BadLevel_BadCommand,
    kx_BadLevel_UnknownName := kx_BadLevel_UnknownName,
    kx_BadLevel_NoKey := kx_BadLevel_NoKey,
    kx_BadLevel_NoBase := kx_BadLevel_NoBase,
    kx_BadLevel_NoPlace := kx_BadLevel_NoPlace,
    kx_BadLevel_TooMany := kx_BadLevel_TooMany,
    kx_BadLevel_Taken := kx_BadLevel_Taken,
    kx_BadLevel_InUse := kx_BadLevel_InUse,
    kx_BadLevel_Stale := kx_BadLevel_Stale,
    kx_BadLevel_Busy := kx_BadLevel_Busy,
    kx_BadLevel_NothingLeft := kx_BadLevel_NothingLeft,
    kx_BadInteger_BadName := kx_BadInteger_BadName,
    kx_BadInteger_BadRule := kx_BadInteger_BadRule,
    kx_BadInteger_BadText := kx_BadInteger_BadText,
    kx_BadInteger_BadForm := kx_BadInteger_BadForm,
    kx_BadInteger_BadPattern := kx_BadInteger_BadPattern,
    kx_BadInteger_BadFact := kx_BadInteger_BadFact,
    kx_BadInteger_BadLevel := kx_BadInteger_BadLevel,
    kx_BadInteger_BadInteger := kx_BadInteger_BadInteger,
    kx_BadInteger_BadGoal := kx_BadInteger_BadGoal,
    kx_BadInteger_BadCommand := kx_BadInteger_BadCommand,
    kx_BadInteger_UnknownName := kx_BadInteger_UnknownName,
    kx_BadInteger_NoKey := kx_BadInteger_NoKey,
    kx_BadInteger_NoBase := kx_BadInteger_NoBase,
    kx_BadInteger_NoPlace := kx_BadInteger_NoPlace,
    kx_BadInteger_TooMany := kx_BadInteger_TooMany,
    kx_BadInteger_Taken := kx_BadInteger_Taken,
    kx_BadInteger_InUse := kx_BadInteger_InUse,
    kx_BadInteger_Stale := kx_BadInteger_Stale,
    kx_BadInteger_Busy := kx_BadInteger_Busy,
    kx_BadInteger_NothingLeft := kx_BadInteger_NothingLeft,
    kx_BadGoal_BadName := kx_BadGoal_BadName,
    kx_BadGoal_BadRule := kx_BadGoal_BadRule,
    kx_BadGoal_BadText := kx_BadGoal_BadText,
    kx_BadGoal_BadForm := kx_BadGoal_BadForm,
    kx_BadGoal_BadPattern := kx_BadGoal_BadPattern,
    kx_BadGoal_BadFact := kx_BadGoal_BadFact,
    kx_BadGoal_BadLevel := kx_BadGoal_BadLevel,
    kx_BadGoal_BadInteger := kx_BadGoal_BadInteger,
    kx_BadGoal_BadGoal := kx_BadGoal_BadGoal,
    kx_BadGoal_BadCommand := kx_BadGoal_BadCommand,
    kx_BadGoal_UnknownName := kx_BadGoal_UnknownName,
    kx_BadGoal_NoKey := kx_BadGoal_NoKey,
    kx_BadGoal_NoBase := kx_BadGoal_NoBase,
    kx_BadGoal_NoPlace := kx_BadGoal_NoPlace,
    kx_BadGoal_TooMany := kx_BadGoal_TooMany,
    kx_BadGoal_Taken := kx_BadGoal_Taken,
    kx_BadGoal_InUse := kx_BadGoal_InUse,
    kx_BadGoal_Stale := kx_BadGoal_Stale,
    kx_BadGoal_Busy := kx_BadGoal_Busy,
    kx_BadGoal_NothingLeft := kx_BadGoal_NothingLeft,
    kx_BadCommand_BadName := kx_BadCommand_BadName,
    kx_BadCommand_BadRule := kx_BadCommand_BadRule,
    kx_BadCommand_BadText := kx_BadCommand_BadText,
    kx_BadCommand_BadForm := kx_BadCommand_BadForm,
    kx_BadCommand_BadPattern := kx_BadCommand_BadPattern,
    kx_BadCommand_BadFact := kx_BadCommand_BadFact,
    kx_BadCommand_BadLevel := kx_BadCommand_BadLevel,
    kx_BadCommand_BadInteger := kx_BadCommand_BadInteger,
    kx_BadCommand_BadGoal := kx_BadCommand_BadGoal,
    kx_BadCommand_BadCommand := kx_BadCommand_BadCommand,
    kx_BadCommand_UnknownName := kx_BadCommand_UnknownName,
    kx_BadCommand_NoKey := kx_BadCommand_NoKey,
    kx_BadCommand_NoBase := kx_BadCommand_NoBase,
    kx_BadCommand_NoPlace := kx_BadCommand_NoPlace,
    kx_BadCommand_TooMany := kx_BadCommand_TooMany,
    kx_BadCommand_Taken := kx_BadCommand_Taken,
    kx_BadCommand_InUse := kx_BadCommand_InUse,
    kx_BadCommand_Stale := kx_BadCommand_Stale,
    kx_BadCommand_Busy := kx_BadCommand_Busy,
    kx_BadCommand_NothingLeft := kx_BadCommand_NothingLeft,
    kx_UnknownName_BadName := kx_UnknownName_BadName,
    kx_UnknownName_BadRule := kx_UnknownName_BadRule,
    kx_UnknownName_BadText := kx_UnknownName_BadText,
    kx_UnknownName_BadForm := kx_UnknownName_BadForm,
    kx_UnknownName_BadPattern := kx_UnknownName_BadPattern,
    kx_UnknownName_BadFact := kx_UnknownName_BadFact,
    kx_UnknownName_BadLevel := kx_UnknownName_BadLevel,
    kx_UnknownName_BadInteger := kx_UnknownName_BadInteger,
    kx_UnknownName_BadGoal := kx_UnknownName_BadGoal,
    kx_UnknownName_BadCommand := kx_UnknownName_BadCommand,
    kx_UnknownName_UnknownName := kx_UnknownName_UnknownName,
    kx_UnknownName_NoKey := kx_UnknownName_NoKey,
    kx_UnknownName_NoBase := kx_UnknownName_NoBase,
    kx_UnknownName_NoPlace := kx_UnknownName_NoPlace,
    kx_UnknownName_TooMany := kx_UnknownName_TooMany,
    kx_UnknownName_Taken := kx_UnknownName_Taken,
    kx_UnknownName_InUse := kx_UnknownName_InUse,
    kx_UnknownName_Stale := kx_UnknownName_Stale,
    kx_UnknownName_Busy := kx_UnknownName_Busy,
    kx_UnknownName_NothingLeft := kx_UnknownName_NothingLeft,
    kx_NoKey_BadName := kx_NoKey_BadName,
    kx_NoKey_BadRule := kx_NoKey_BadRule,
    kx_NoKey_BadText := kx_NoKey_BadText,
    kx_NoKey_BadForm := kx_NoKey_BadForm,
    kx_NoKey_BadPattern := kx_NoKey_BadPattern,
    kx_NoKey_BadFact := kx_NoKey_BadFact,
    kx_NoKey_BadLevel := kx_NoKey_BadLevel,
    kx_NoKey_BadInteger := kx_NoKey_BadInteger,
    kx_NoKey_BadGoal := kx_NoKey_BadGoal,
    kx_NoKey_BadCommand := kx_NoKey_BadCommand,
    kx_NoKey_UnknownName := kx_NoKey_UnknownName,
    kx_NoKey_NoKey := kx_NoKey_NoKey,
    kx_NoKey_NoBase := kx_NoKey_NoBase,
    kx_NoKey_NoPlace := kx_NoKey_NoPlace,
    kx_NoKey_TooMany := kx_NoKey_TooMany,
    kx_NoKey_Taken := kx_NoKey_Taken,
    kx_NoKey_InUse := kx_NoKey_InUse,
    kx_NoKey_Stale := kx_NoKey_Stale,
    kx_NoKey_Busy := kx_NoKey_Busy,
    kx_NoKey_NothingLeft := kx_NoKey_NothingLeft,
    kx_NoBase_BadName := kx_NoBase_BadName,
    kx_NoBase_BadRule := kx_NoBase_BadRule,
    kx_NoBase_BadText := kx_NoBase_BadText,
    kx_NoBase_BadForm := kx_NoBase_BadForm,
    kx_NoBase_BadPattern := kx_NoBase_BadPattern,
    kx_NoBase_BadFact := kx_NoBase_BadFact,
    kx_NoBase_BadLevel := kx_NoBase_BadLevel,
    kx_NoBase_BadInteger := kx_NoBase_BadInteger,
    kx_NoBase_BadGoal := kx_NoBase_BadGoal,
    kx_NoBase_BadCommand := kx_NoBase_BadCommand,
    kx_NoBase_UnknownName := kx_NoBase_UnknownName,
    kx_NoBase_NoKey := kx_NoBase_NoKey,
    kx_NoBase_NoBase := kx_NoBase_NoBase,
    kx_NoBase_NoPlace := kx_NoBase_NoPlace,
    kx_NoBase_TooMany := kx_NoBase_TooMany,
    kx_NoBase_Taken := kx_NoBase_Taken,
    kx_NoBase_InUse := kx_NoBase_InUse,
    kx_NoBase_Stale := kx_NoBase_Stale,
    kx_NoBase_Busy := kx_NoBase_Busy,
    kx_NoBase_NothingLeft := kx_NoBase_NothingLeft,
    kx_NoPlace_BadName := kx_NoPlace_BadName,
    kx_NoPlace_BadRule := kx_NoPlace_BadRule,
    kx_NoPlace_BadText := kx_NoPlace_BadText,
    kx_NoPlace_BadForm := kx_NoPlace_BadForm,
    kx_NoPlace_BadPattern := kx_NoPlace_BadPattern,
    kx_NoPlace_BadFact := kx_NoPlace_BadFact,
    kx_NoPlace_BadLevel := kx_NoPlace_BadLevel,
    kx_NoPlace_BadInteger := kx_NoPlace_BadInteger,
    kx_NoPlace_BadGoal := kx_NoPlace_BadGoal,
    kx_NoPlace_BadCommand := kx_NoPlace_BadCommand,
    kx_NoPlace_UnknownName := kx_NoPlace_UnknownName,
    kx_NoPlace_NoKey := kx_NoPlace_NoKey,
    kx_NoPlace_NoBase := kx_NoPlace_NoBase,
    kx_NoPlace_NoPlace := kx_NoPlace_NoPlace,
    kx_NoPlace_TooMany := kx_NoPlace_TooMany,
    kx_NoPlace_Taken := kx_NoPlace_Taken,
    kx_NoPlace_InUse := kx_NoPlace_InUse,
    kx_NoPlace_Stale := kx_NoPlace_Stale,
    kx_NoPlace_Busy := kx_NoPlace_Busy,
    kx_NoPlace_NothingLeft := kx_NoPlace_NothingLeft,
    kx_TooMany_BadName := kx_TooMany_BadName,
    kx_TooMany_BadRule := kx_TooMany_BadRule,
    kx_TooMany_BadText := kx_TooMany_BadText,
    kx_TooMany_BadForm := kx_TooMany_BadForm,
    kx_TooMany_BadPattern := kx_TooMany_BadPattern,
    kx_TooMany_BadFact := kx_TooMany_BadFact,
    kx_TooMany_BadLevel := kx_TooMany_BadLevel,
    kx_TooMany_BadInteger := kx_TooMany_BadInteger,
    kx_TooMany_BadGoal := kx_TooMany_BadGoal,
    kx_TooMany_BadCommand := kx_TooMany_BadCommand,
    kx_TooMany_UnknownName := kx_TooMany_UnknownName,
    kx_TooMany_NoKey := kx_TooMany_NoKey,
    kx_TooMany_NoBase := kx_TooMany_NoBase,
    kx_TooMany_NoPlace := kx_TooMany_NoPlace,
    kx_TooMany_TooMany := kx_TooMany_TooMany,
    kx_TooMany_Taken := kx_TooMany_Taken,
    kx_TooMany_InUse := kx_TooMany_InUse,
    kx_TooMany_Stale := kx_TooMany_Stale,
    kx_TooMany_Busy := kx_TooMany_Busy,
    kx_TooMany_NothingLeft := kx_TooMany_NothingLeft,
    kx_Taken_BadName := kx_Taken_BadName,
    kx_Taken_BadRule := kx_Taken_BadRule,
    kx_Taken_BadText := kx_Taken_BadText,
    kx_Taken_BadForm := kx_Taken_BadForm,
    kx_Taken_BadPattern := kx_Taken_BadPattern,
    kx_Taken_BadFact := kx_Taken_BadFact,
    kx_Taken_BadLevel := kx_Taken_BadLevel,
    kx_Taken_BadInteger := kx_Taken_BadInteger,
    kx_Taken_BadGoal := kx_Taken_BadGoal,
    kx_Taken_BadCommand := kx_Taken_BadCommand,
    kx_Taken_UnknownName := kx_Taken_UnknownName,
    kx_Taken_NoKey := kx_Taken_NoKey,
    kx_Taken_NoBase := kx_Taken_NoBase,
    kx_Taken_NoPlace := kx_Taken_NoPlace,
    kx_Taken_TooMany := kx_Taken_TooMany,
    kx_Taken_Taken := kx_Taken_Taken,
    kx_Taken_InUse := kx_Taken_InUse,
    kx_Taken_Stale := kx_Taken_Stale,
    kx_Taken_Busy := kx_Taken_Busy,
    kx_Taken_NothingLeft := kx_Taken_NothingLeft,
    kx_InUse_BadName := kx_InUse_BadName,
    kx_InUse_BadRule := kx_InUse_BadRule,
    kx_InUse_BadText := kx_InUse_BadText,
    kx_InUse_BadForm := kx_InUse_BadForm,
    kx_InUse_BadPattern := kx_InUse_BadPattern,
    kx_InUse_BadFact := kx_InUse_BadFact,
    kx_InUse_BadLevel := kx_InUse_BadLevel,
    kx_InUse_BadInteger := kx_InUse_BadInteger,
    kx_InUse_BadGoal := kx_InUse_BadGoal,
    kx_InUse_BadCommand := kx_InUse_BadCommand,
    kx_InUse_UnknownName := kx_InUse_UnknownName,
    kx_InUse_NoKey := kx_InUse_NoKey,
    kx_InUse_NoBase := kx_InUse_NoBase,
    kx_InUse_NoPlace := kx_InUse_NoPlace,
    kx_InUse_TooMany := kx_InUse_TooMany,
    kx_InUse_Taken := kx_InUse_Taken,
    kx_InUse_InUse := kx_InUse_InUse,
    kx_InUse_Stale := kx_InUse_Stale,
    kx_InUse_Busy := kx_InUse_Busy,
    kx_InUse_NothingLeft := kx_InUse_NothingLeft,
    kx_Stale_BadName := kx_Stale_BadName,
    kx_Stale_BadRule := kx_Stale_BadRule,
    kx_Stale_BadText := kx_Stale_BadText,
    kx_Stale_BadForm := kx_Stale_BadForm,
    kx_Stale_BadPattern := kx_Stale_BadPattern,
    kx_Stale_BadFact := kx_Stale_BadFact,
    kx_Stale_BadLevel := kx_Stale_BadLevel,
    kx_Stale_BadInteger := kx_Stale_BadInteger,
    kx_Stale_BadGoal := kx_Stale_BadGoal,
    kx_Stale_BadCommand := kx_Stale_BadCommand,
    kx_Stale_UnknownName := kx_Stale_UnknownName,
    kx_Stale_NoKey := kx_Stale_NoKey,
    kx_Stale_NoBase := kx_Stale_NoBase,
    kx_Stale_NoPlace := kx_Stale_NoPlace,
    kx_Stale_TooMany := kx_Stale_TooMany,
    kx_Stale_Taken := kx_Stale_Taken,
    kx_Stale_InUse := kx_Stale_InUse,
    kx_Stale_Stale := kx_Stale_Stale,
    kx_Stale_Busy := kx_Stale_Busy,
    kx_Stale_NothingLeft := kx_Stale_NothingLeft,
    kx_Busy_BadName := kx_Busy_BadName,
    kx_Busy_BadRule := kx_Busy_BadRule,
    kx_Busy_BadText := kx_Busy_BadText,
    kx_Busy_BadForm := kx_Busy_BadForm,
    kx_Busy_BadPattern := kx_Busy_BadPattern,
    kx_Busy_BadFact := kx_Busy_BadFact,
    kx_Busy_BadLevel := kx_Busy_BadLevel,
    kx_Busy_BadInteger := kx_Busy_BadInteger,
    kx_Busy_BadGoal := kx_Busy_BadGoal,
    kx_Busy_BadCommand := kx_Busy_BadCommand,
    kx_Busy_UnknownName := kx_Busy_UnknownName,
    kx_Busy_NoKey := kx_Busy_NoKey,
    kx_Busy_NoBase := kx_Busy_NoBase,
    kx_Busy_NoPlace := kx_Busy_NoPlace,
    kx_Busy_TooMany := kx_Busy_TooMany,
    kx_Busy_Taken := kx_Busy_Taken,
    kx_Busy_InUse := kx_Busy_InUse,
    kx_Busy_Stale := kx_Busy_Stale,
    kx_Busy_Busy := kx_Busy_Busy,
    kx_Busy_NothingLeft := kx_Busy_NothingLeft,
    kx_NothingLeft_BadName := kx_NothingLeft_BadName,
    kx_NothingLeft_BadRule := kx_NothingLeft_BadRule,
    kx_NothingLeft_BadText := kx_NothingLeft_BadText,
    kx_NothingLeft_BadForm := kx_NothingLeft_BadForm,
    kx_NothingLeft_BadPattern := kx_NothingLeft_BadPattern,
    kx_NothingLeft_BadFact := kx_NothingLeft_BadFact,
    kx_NothingLeft_BadLevel := kx_NothingLeft_BadLevel,
    kx_NothingLeft_BadInteger := kx_NothingLeft_BadInteger,
    kx_NothingLeft_BadGoal := kx_NothingLeft_BadGoal,
    kx_NothingLeft_BadCommand := kx_NothingLeft_BadCommand,
    kx_NothingLeft_UnknownName := kx_NothingLeft_UnknownName,
    kx_NothingLeft_NoKey := kx_NothingLeft_NoKey,
    kx_NothingLeft_NoBase := kx_NothingLeft_NoBase,
    kx_NothingLeft_NoPlace := kx_NothingLeft_NoPlace,
    kx_NothingLeft_TooMany := kx_NothingLeft_TooMany,
    kx_NothingLeft_Taken := kx_NothingLeft_Taken,
    kx_NothingLeft_InUse := kx_NothingLeft_InUse,
    kx_NothingLeft_Stale := kx_NothingLeft_Stale,
    kx_NothingLeft_Busy := kx_NothingLeft_Busy,
    kx_NothingLeft_NothingLeft := kx_NothingLeft_NothingLeft,
    kx_BadName_ValueError := kx_BadName_ValueError,
    kx_BadName_KeyError := kx_BadName_KeyError,
    kx_BadName_LookupError := kx_BadName_LookupError,
    kx_BadName_IndexError := kx_BadName_IndexError,
    kx_BadName_OverflowError := kx_BadName_OverflowError,
    kx_BadName_ArithmeticError := kx_BadName_ArithmeticError,
    kx_BadName_RuntimeError := kx_BadName_RuntimeError,
    kx_BadName_NotImplementedError := kx_BadName_NotImplementedError,
    kx_BadRule_ValueError := kx_BadRule_ValueError,
    kx_BadRule_KeyError := kx_BadRule_KeyError,
    kx_BadRule_LookupError := kx_BadRule_LookupError,
    kx_BadRule_IndexError := kx_BadRule_IndexError,
    kx_BadRule_OverflowError := kx_BadRule_OverflowError,
    kx_BadRule_ArithmeticError := kx_BadRule_ArithmeticError,
    kx_BadRule_RuntimeError := kx_BadRule_RuntimeError,
    kx_BadRule_NotImplementedError := kx_BadRule_NotImplementedError,
    kx_BadText_ValueError := kx_BadText_ValueError,
    kx_BadText_KeyError := kx_BadText_KeyError,
    kx_BadText_LookupError := kx_BadText_LookupError,
    kx_BadText_IndexError := kx_BadText_IndexError,
    kx_BadText_OverflowError := kx_BadText_OverflowError,
    kx_BadText_ArithmeticError := kx_BadText_ArithmeticError,
    kx_BadText_RuntimeError := kx_BadText_RuntimeError,
    kx_BadText_NotImplementedError := kx_BadText_NotImplementedError,
    kx_BadForm_ValueError := kx_BadForm_ValueError,
    kx_BadForm_KeyError := kx_BadForm_KeyError,
    kx_BadForm_LookupError := kx_BadForm_LookupError,
    kx_BadForm_IndexError := kx_BadForm_IndexError,
    kx_BadForm_OverflowError := kx_BadForm_OverflowError,
    kx_BadForm_ArithmeticError := kx_BadForm_ArithmeticError,
    kx_BadForm_RuntimeError := kx_BadForm_RuntimeError,
    kx_BadForm_NotImplementedError := kx_BadForm_NotImplementedError,
    kx_BadPattern_ValueError := kx_BadPattern_ValueError,
    kx_BadPattern_KeyError := kx_BadPattern_KeyError,
    kx_BadPattern_LookupError := kx_BadPattern_LookupError,
    kx_BadPattern_IndexError := kx_BadPattern_IndexError,
    kx_BadPattern_OverflowError := kx_BadPattern_OverflowError,
    kx_BadPattern_ArithmeticError := kx_BadPattern_ArithmeticError,
    kx_BadPattern_RuntimeError := kx_BadPattern_RuntimeError,
    kx_BadPattern_NotImplementedError := kx_BadPattern_NotImplementedError,
    kx_BadFact_ValueError := kx_BadFact_ValueError,
    kx_BadFact_KeyError := kx_BadFact_KeyError,
    kx_BadFact_LookupError := kx_BadFact_LookupError,
    kx_BadFact_IndexError := kx_BadFact_IndexError,
    kx_BadFact_OverflowError := kx_BadFact_OverflowError,
    kx_BadFact_ArithmeticError := kx_BadFact_ArithmeticError,
    kx_BadFact_RuntimeError := kx_BadFact_RuntimeError,
    kx_BadFact_NotImplementedError := kx_BadFact_NotImplementedError,
    kx_BadLevel_ValueError := kx_BadLevel_ValueError,
    kx_BadLevel_KeyError := kx_BadLevel_KeyError,
    kx_BadLevel_LookupError := kx_BadLevel_LookupError,
    kx_BadLevel_IndexError := kx_BadLevel_IndexError,
    kx_BadLevel_OverflowError := kx_BadLevel_OverflowError,
    kx_BadLevel_ArithmeticError := kx_BadLevel_ArithmeticError,
    kx_BadLevel_RuntimeError := kx_BadLevel_RuntimeError,
    kx_BadLevel_NotImplementedError := kx_BadLevel_NotImplementedError,
    kx_BadInteger_ValueError := kx_BadInteger_ValueError,
    kx_BadInteger_KeyError := kx_BadInteger_KeyError,
    kx_BadInteger_LookupError := kx_BadInteger_LookupError,
    kx_BadInteger_IndexError := kx_BadInteger_IndexError,
    kx_BadInteger_OverflowError := kx_BadInteger_OverflowError,
    kx_BadInteger_ArithmeticError := kx_BadInteger_ArithmeticError,
    kx_BadInteger_RuntimeError := kx_BadInteger_RuntimeError,
    kx_BadInteger_NotImplementedError := kx_BadInteger_NotImplementedError,
    kx_BadGoal_ValueError := kx_BadGoal_ValueError,
    kx_BadGoal_KeyError := kx_BadGoal_KeyError,
    kx_BadGoal_LookupError := kx_BadGoal_LookupError,
    kx_BadGoal_IndexError := kx_BadGoal_IndexError,
    kx_BadGoal_OverflowError := kx_BadGoal_OverflowError,
    kx_BadGoal_ArithmeticError := kx_BadGoal_ArithmeticError,
    kx_BadGoal_RuntimeError := kx_BadGoal_RuntimeError,
    kx_BadGoal_NotImplementedError := kx_BadGoal_NotImplementedError,
    kx_BadCommand_ValueError := kx_BadCommand_ValueError,
    kx_BadCommand_KeyError := kx_BadCommand_KeyError,
    kx_BadCommand_LookupError := kx_BadCommand_LookupError,
    kx_BadCommand_IndexError := kx_BadCommand_IndexError,
    kx_BadCommand_OverflowError := kx_BadCommand_OverflowError,
    kx_BadCommand_ArithmeticError := kx_BadCommand_ArithmeticError,
    kx_BadCommand_RuntimeError := kx_BadCommand_RuntimeError,
    kx_BadCommand_NotImplementedError := kx_BadCommand_NotImplementedError,
    kx_UnknownName_ValueError := kx_UnknownName_ValueError,
    kx_UnknownName_KeyError := kx_UnknownName_KeyError,
    kx_UnknownName_LookupError := kx_UnknownName_LookupError,
    kx_UnknownName_IndexError := kx_UnknownName_IndexError,
    kx_UnknownName_OverflowError := kx_UnknownName_OverflowError,
    kx_UnknownName_ArithmeticError := kx_UnknownName_ArithmeticError,
    kx_UnknownName_RuntimeError := kx_UnknownName_RuntimeError,
    kx_UnknownName_NotImplementedError := kx_UnknownName_NotImplementedError,
    kx_NoKey_ValueError := kx_NoKey_ValueError,
    kx_NoKey_KeyError := kx_NoKey_KeyError,
    kx_NoKey_LookupError := kx_NoKey_LookupError,
    kx_NoKey_IndexError := kx_NoKey_IndexError,
    kx_NoKey_OverflowError := kx_NoKey_OverflowError,
    kx_NoKey_ArithmeticError := kx_NoKey_ArithmeticError,
    kx_NoKey_RuntimeError := kx_NoKey_RuntimeError,
    kx_NoKey_NotImplementedError := kx_NoKey_NotImplementedError,
    kx_NoBase_ValueError := kx_NoBase_ValueError,
    kx_NoBase_KeyError := kx_NoBase_KeyError,
    kx_NoBase_LookupError := kx_NoBase_LookupError,
    kx_NoBase_IndexError := kx_NoBase_IndexError,
    kx_NoBase_OverflowError := kx_NoBase_OverflowError,
    kx_NoBase_ArithmeticError := kx_NoBase_ArithmeticError,
    kx_NoBase_RuntimeError := kx_NoBase_RuntimeError,
    kx_NoBase_NotImplementedError := kx_NoBase_NotImplementedError,
    kx_NoPlace_ValueError := kx_NoPlace_ValueError,
    kx_NoPlace_KeyError := kx_NoPlace_KeyError,
    kx_NoPlace_LookupError := kx_NoPlace_LookupError,
    kx_NoPlace_IndexError := kx_NoPlace_IndexError,
    kx_NoPlace_OverflowError := kx_NoPlace_OverflowError,
    kx_NoPlace_ArithmeticError := kx_NoPlace_ArithmeticError,
    kx_NoPlace_RuntimeError := kx_NoPlace_RuntimeError,
    kx_NoPlace_NotImplementedError := kx_NoPlace_NotImplementedError,
    kx_TooMany_ValueError := kx_TooMany_ValueError,
    kx_TooMany_KeyError := kx_TooMany_KeyError,
    kx_TooMany_LookupError := kx_TooMany_LookupError,
    kx_TooMany_IndexError := kx_TooMany_IndexError,
    kx_TooMany_OverflowError := kx_TooMany_OverflowError,
    kx_TooMany_ArithmeticError := kx_TooMany_ArithmeticError,
    kx_TooMany_RuntimeError := kx_TooMany_RuntimeError,
    kx_TooMany_NotImplementedError := kx_TooMany_NotImplementedError,
    kx_Taken_ValueError := kx_Taken_ValueError,
    kx_Taken_KeyError := kx_Taken_KeyError,
    kx_Taken_LookupError := kx_Taken_LookupError,
    kx_Taken_IndexError := kx_Taken_IndexError,
    kx_Taken_OverflowError := kx_Taken_OverflowError,
    kx_Taken_ArithmeticError := kx_Taken_ArithmeticError,
    kx_Taken_RuntimeError := kx_Taken_RuntimeError,
    kx_Taken_NotImplementedError := kx_Taken_NotImplementedError,
    kx_InUse_ValueError := kx_InUse_ValueError,
    kx_InUse_KeyError := kx_InUse_KeyError,
    kx_InUse_LookupError := kx_InUse_LookupError,
    kx_InUse_IndexError := kx_InUse_IndexError,
    kx_InUse_OverflowError := kx_InUse_OverflowError,
    kx_InUse_ArithmeticError := kx_InUse_ArithmeticError,
    kx_InUse_RuntimeError := kx_InUse_RuntimeError,
    kx_InUse_NotImplementedError := kx_InUse_NotImplementedError,
    kx_Stale_ValueError := kx_Stale_ValueError,
    kx_Stale_KeyError := kx_Stale_KeyError,
    kx_Stale_LookupError := kx_Stale_LookupError,
    kx_Stale_IndexError := kx_Stale_IndexError,
    kx_Stale_OverflowError := kx_Stale_OverflowError,
    kx_Stale_ArithmeticError := kx_Stale_ArithmeticError,
    kx_Stale_RuntimeError := kx_Stale_RuntimeError,
    kx_Stale_NotImplementedError := kx_Stale_NotImplementedError,
    kx_Busy_ValueError := kx_Busy_ValueError,
    kx_Busy_KeyError := kx_Busy_KeyError,
    kx_Busy_LookupError := kx_Busy_LookupError,
    kx_Busy_IndexError := kx_Busy_IndexError,
    kx_Busy_OverflowError := kx_Busy_OverflowError,
    kx_Busy_ArithmeticError := kx_Busy_ArithmeticError,
    kx_Busy_RuntimeError := kx_Busy_RuntimeError,
    kx_Busy_NotImplementedError := kx_Busy_NotImplementedError,
    kx_NothingLeft_ValueError := kx_NothingLeft_ValueError,
    kx_NothingLeft_KeyError := kx_NothingLeft_KeyError,
    kx_NothingLeft_LookupError := kx_NothingLeft_LookupError,
    kx_NothingLeft_IndexError := kx_NothingLeft_IndexError,
    kx_NothingLeft_OverflowError := kx_NothingLeft_OverflowError,
    kx_NothingLeft_ArithmeticError := kx_NothingLeft_ArithmeticError,
    kx_NothingLeft_RuntimeError := kx_NothingLeft_RuntimeError,
    kx_NothingLeft_NotImplementedError := kx_NothingLeft_NotImplementedError,
    z_ArithmeticError := PySem.W.mg_none_of X G z_ArithmeticError,
    z_IndexError := PySem.W.mg_none_of X G z_IndexError,
    z_KeyError := PySem.W.mg_none_of X G z_KeyError,
    z_LookupError := PySem.W.mg_none_of X G z_LookupError,
    z_NotImplementedError := PySem.W.mg_none_of X G z_NotImplementedError,
    z_OverflowError := PySem.W.mg_none_of X G z_OverflowError,
    z_RuntimeError := PySem.W.mg_none_of X G z_RuntimeError,
    z_ValueError := PySem.W.mg_none_of X G z_ValueError,
    z_abs := PySem.W.mg_none_of X G z_abs,
    z_enumerate := PySem.W.mg_none_of X G z_enumerate,
    z_int := PySem.W.mg_none_of X G z_int,
    z_isinstance := PySem.W.mg_none_of X G z_isinstance,
    z_len := PySem.W.mg_none_of X G z_len,
    z_max := PySem.W.mg_none_of X G z_max,
    z_min := PySem.W.mg_none_of X G z_min,
    z_range := PySem.W.mg_none_of X G z_range,
    z_repr := PySem.W.mg_none_of X G z_repr }
  exact ⟨PySem.W.fnOf "law" "law" (defArgs s_law) (defBody s_law) (defScope s_law) .none kV_law dc_law pm_law an_law cd_law ct_law, fun s v => .of_eq rfl, fun base _ _ => ok_law_ F_law T⟩
theorem walk {l : PySem.W.OpenLaw} {q : Program} {loose : List Str} {XP : (Str → Option Value) → Heap → Prop} {YP : World → Heap → Prop} {d : DefRec} {K : Params → PySem.W.Frag} (hn : l.most = some 63) (hdf : d.params.defaults = [])
    (hY : ∀ (w : World) (h : Heap), YP w h → (K w.params).In h)
    (F : ∀ (w : World) (mg : Str → Option Value) (fa : Addr) (h : Heap), (K w.params).In h → h.Ns mainGlobals mg → mg d.name = some (.ref fa) →
      ∃ fd : FuncData, (∀ (s : Shared) (u : Value), BindsTo s fd ⟨[u], []⟩ [("_law_script", u)]) ∧ ∀ base : Heap, (K w.params).In base → base.Ns mainGlobals mg → FnG l.prog w (K w.params) mg base CX0 14 fa fd ["_law_script"] (sp_law (K w.params))) :
    PySem.W.WalkO q loose XP YP l.row.toRowW d [] (fun f vs => PySem.call f vs) :=
  walkG (n := 63) (k := 14) (x := "_law_script") (CX := fun _ => CX0) (sp := fun w => sp_law (K w.params)) hn (by decide) hdf ⟨rfl, by decide, by decide⟩ hY F (fun _ _ a ns hl _ hS => ⟨a, ns, rfl, hS, hl, fun _ => rfl⟩) fun _ _ _ _ _ z => z
end PX
open PySem PySem.W PyProof.Rows
set_option maxRecDepth 100000 in
set_option maxHeartbeats 0 in
theorem PySem.Challenge.cw_dictorders_k89_exceptions_made_by_hand_holds : PySem.Challenge.rw_dictorders_k89_exceptions_made_by_hand.Holds := by
  w_on; o_law; k_head; (case hw => w_witness2)
  k_fill
  refine PX.walk (l := PySem.Challenge.rw_dictorders_k89_exceptions_made_by_hand) rfl rfl (fun w h Y => PySem.W.kIn_of Y) ?F
  case F =>
    intro w mg fa h KX G hmg
    refine' PX.all_mk KX G hmg ?a_BadName ?xi_BadName ?xo_BadName ?xh_BadName ?xs_BadName ?xb_BadName ?xt_BadName ?xk_BadName ?xm_BadName ?xn_BadName ?xv_BadName ?xg_BadName ?xa_BadName ?xc_BadName ?xe_BadName ?a_BadRule ?xi_BadRule ?xo_BadRule ?xh_BadRule ?xs_BadRule ?xb_BadRule ?xt_BadRule ?xk_BadRule ?xm_BadRule ?xn_BadRule ?xv_BadRule ?xg_BadRule ?xa_BadRule ?xc_BadRule ?xe_BadRule ?a_BadText ?xi_BadText ?xo_BadText ?xh_BadText ?xs_BadText ?xb_BadText ?xt_BadText ?xk_BadText ?xm_BadText ?xn_BadText ?xv_BadText ?xg_BadText ?xa_BadText ?xc_BadText ?xe_BadText ?a_BadForm ?xi_BadForm ?xo_BadForm ?xh_BadForm ?xs_BadForm ?xb_BadForm ?xt_BadForm ?xk_BadForm ?xm_BadForm ?xn_BadForm ?xv_BadForm ?xg_BadForm ?xa_BadForm ?xc_BadForm ?xe_BadForm ?a_BadPattern ?xi_BadPattern ?xo_BadPattern ?xh_BadPattern ?xs_BadPattern ?xb_BadPattern ?xt_BadPattern ?xk_BadPattern ?xm_BadPattern ?xn_BadPattern ?xv_BadPattern ?xg_BadPattern ?xa_BadPattern ?xc_BadPattern ?xe_BadPattern ?a_BadFact ?xi_BadFact ?xo_BadFact ?xh_BadFact ?xs_BadFact ?xb_BadFact ?xt_BadFact ?xk_BadFact ?xm_BadFact ?xn_BadFact ?xv_BadFact ?xg_BadFact ?xa_BadFact ?xc_BadFact ?xe_BadFact ?a_BadLevel ?xi_BadLevel ?xo_BadLevel ?xh_BadLevel ?xs_BadLevel ?xb_BadLevel ?xt_BadLevel ?xk_BadLevel ?xm_BadLevel ?xn_BadLevel ?xv_BadLevel ?xg_BadLevel ?xa_BadLevel ?xc_BadLevel ?xe_BadLevel ?a_BadInteger ?xi_BadInteger ?xo_BadInteger ?xh_BadInteger ?xs_BadInteger ?xb_BadInteger ?xt_BadInteger ?xk_BadInteger ?xm_BadInteger ?xn_BadInteger ?xv_BadInteger ?xg_BadInteger ?xa_BadInteger ?xc_BadInteger ?xe_BadInteger ?a_BadGoal ?xi_BadGoal ?xo_BadGoal ?xh_BadGoal ?xs_BadGoal ?xb_BadGoal ?xt_BadGoal ?xk_BadGoal ?xm_BadGoal ?xn_BadGoal ?xv_BadGoal ?xg_BadGoal ?xa_BadGoal ?xc_BadGoal ?xe_BadGoal ?a_BadCommand ?xi_BadCommand ?xo_BadCommand ?xh_BadCommand ?xs_BadCommand ?xb_BadCommand ?xt_BadCommand ?xk_BadCommand ?xm_BadCommand ?xn_BadCommand ?xv_BadCommand ?xg_BadCommand ?xa_BadCommand ?xc_BadCommand ?xe_BadCommand ?a_UnknownName ?xi_UnknownName ?xo_UnknownName ?xh_UnknownName ?xs_UnknownName ?xb_UnknownName ?xt_UnknownName ?xk_UnknownName ?xm_UnknownName ?xn_UnknownName ?xv_UnknownName ?xg_UnknownName ?xa_UnknownName ?xc_UnknownName ?xe_UnknownName ?a_NoKey ?xi_NoKey ?xo_NoKey ?xh_NoKey ?xs_NoKey ?xb_NoKey ?xt_NoKey ?xk_NoKey ?xm_NoKey ?xn_NoKey ?xv_NoKey ?xg_NoKey ?xa_NoKey ?xc_NoKey ?xe_NoKey ?xm2_NoKey ?xn2_NoKey ?a_NoBase ?xi_NoBase ?xo_NoBase ?xh_NoBase ?xs_NoBase ?xb_NoBase ?xt_NoBase ?xk_NoBase ?xm_NoBase ?xn_NoBase ?xv_NoBase ?xg_NoBase ?xa_NoBase ?xc_NoBase ?xe_NoBase ?a_NoPlace ?xi_NoPlace ?xo_NoPlace ?xh_NoPlace ?xs_NoPlace ?xb_NoPlace ?xt_NoPlace ?xk_NoPlace ?xm_NoPlace ?xn_NoPlace ?xv_NoPlace ?xg_NoPlace ?xa_NoPlace ?xc_NoPlace ?xe_NoPlace ?a_TooMany ?xi_TooMany ?xo_TooMany ?xh_TooMany ?xs_TooMany ?xb_TooMany ?xt_TooMany ?xk_TooMany ?xm_TooMany ?xn_TooMany ?xv_TooMany ?xg_TooMany ?xa_TooMany ?xc_TooMany ?xe_TooMany ?a_Taken ?xi_Taken ?xo_Taken ?xh_Taken ?xs_Taken ?xb_Taken ?xt_Taken ?xk_Taken ?xm_Taken ?xn_Taken ?xv_Taken ?xg_Taken ?xa_Taken ?xc_Taken ?xe_Taken ?a_InUse ?xi_InUse ?xo_InUse ?xh_InUse ?xs_InUse ?xb_InUse ?xt_InUse ?xk_InUse ?xm_InUse ?xn_InUse ?xv_InUse ?xg_InUse ?xa_InUse ?xc_InUse ?xe_InUse ?a_Stale ?xi_Stale ?xo_Stale ?xh_Stale ?xs_Stale ?xb_Stale ?xt_Stale ?xk_Stale ?xm_Stale ?xn_Stale ?xv_Stale ?xg_Stale ?xa_Stale ?xc_Stale ?xe_Stale ?a_Busy ?xi_Busy ?xo_Busy ?xh_Busy ?xs_Busy ?xb_Busy ?xt_Busy ?xk_Busy ?xm_Busy ?xn_Busy ?xv_Busy ?xg_Busy ?xa_Busy ?xc_Busy ?xe_Busy ?a_NothingLeft ?xi_NothingLeft ?xo_NothingLeft ?xh_NothingLeft ?xs_NothingLeft ?xb_NothingLeft ?xt_NothingLeft ?xk_NothingLeft ?xm_NothingLeft ?xn_NothingLeft ?xv_NothingLeft ?xg_NothingLeft ?xa_NothingLeft ?xc_NothingLeft ?xe_NothingLeft ?xca_BadName ?xcn_BadName ?xct_BadName ?xcm_BadName ?xca_BadRule ?xcn_BadRule ?xct_BadRule ?xcm_BadRule ?xca_BadText ?xcn_BadText ?xct_BadText ?xcm_BadText ?xca_BadForm ?xcn_BadForm ?xct_BadForm ?xcm_BadForm ?xca_BadPattern ?xcn_BadPattern ?xct_BadPattern ?xcm_BadPattern ?xca_BadFact ?xcn_BadFact ?xct_BadFact ?xcm_BadFact ?xca_BadLevel ?xcn_BadLevel ?xct_BadLevel ?xcm_BadLevel ?xca_BadInteger ?xcn_BadInteger ?xct_BadInteger ?xcm_BadInteger ?xca_BadGoal ?xcn_BadGoal ?xct_BadGoal ?xcm_BadGoal ?xca_BadCommand ?xcn_BadCommand ?xct_BadCommand ?xcm_BadCommand ?xca_UnknownName ?xcn_UnknownName ?xct_UnknownName ?xcm_UnknownName ?xca_NoKey ?xcn_NoKey ?xct_NoKey ?xcm_NoKey ?xca_NoBase ?xcn_NoBase ?xct_NoBase ?xcm_NoBase ?xca_NoPlace ?xcn_NoPlace ?xct_NoPlace ?xcm_NoPlace ?xca_TooMany ?xcn_TooMany ?xct_TooMany ?xcm_TooMany ?xca_Taken ?xcn_Taken ?xct_Taken ?xcm_Taken ?xca_InUse ?xcn_InUse ?xct_InUse ?xcm_InUse ?xca_Stale ?xcn_Stale ?xct_Stale ?xcm_Stale ?xca_Busy ?xcn_Busy ?xct_Busy ?xcm_Busy ?xca_NothingLeft ?xcn_NothingLeft ?xct_NothingLeft ?xcm_NothingLeft ?kx_BadName_BadName ?kx_BadName_BadRule ?kx_BadName_BadText ?kx_BadName_BadForm ?kx_BadName_BadPattern ?kx_BadName_BadFact ?kx_BadName_BadLevel ?kx_BadName_BadInteger ?kx_BadName_BadGoal ?kx_BadName_BadCommand ?kx_BadName_UnknownName ?kx_BadName_NoKey ?kx_BadName_NoBase ?kx_BadName_NoPlace ?kx_BadName_TooMany ?kx_BadName_Taken ?kx_BadName_InUse ?kx_BadName_Stale ?kx_BadName_Busy ?kx_BadName_NothingLeft ?kx_BadRule_BadName ?kx_BadRule_BadRule ?kx_BadRule_BadText ?kx_BadRule_BadForm ?kx_BadRule_BadPattern ?kx_BadRule_BadFact ?kx_BadRule_BadLevel ?kx_BadRule_BadInteger ?kx_BadRule_BadGoal ?kx_BadRule_BadCommand ?kx_BadRule_UnknownName ?kx_BadRule_NoKey ?kx_BadRule_NoBase ?kx_BadRule_NoPlace ?kx_BadRule_TooMany ?kx_BadRule_Taken ?kx_BadRule_InUse ?kx_BadRule_Stale ?kx_BadRule_Busy ?kx_BadRule_NothingLeft ?kx_BadText_BadName ?kx_BadText_BadRule ?kx_BadText_BadText ?kx_BadText_BadForm ?kx_BadText_BadPattern ?kx_BadText_BadFact ?kx_BadText_BadLevel ?kx_BadText_BadInteger ?kx_BadText_BadGoal ?kx_BadText_BadCommand ?kx_BadText_UnknownName ?kx_BadText_NoKey ?kx_BadText_NoBase ?kx_BadText_NoPlace ?kx_BadText_TooMany ?kx_BadText_Taken ?kx_BadText_InUse ?kx_BadText_Stale ?kx_BadText_Busy ?kx_BadText_NothingLeft ?kx_BadForm_BadName ?kx_BadForm_BadRule ?kx_BadForm_BadText ?kx_BadForm_BadForm ?kx_BadForm_BadPattern ?kx_BadForm_BadFact ?kx_BadForm_BadLevel ?kx_BadForm_BadInteger ?kx_BadForm_BadGoal ?kx_BadForm_BadCommand ?kx_BadForm_UnknownName ?kx_BadForm_NoKey ?kx_BadForm_NoBase ?kx_BadForm_NoPlace ?kx_BadForm_TooMany ?kx_BadForm_Taken ?kx_BadForm_InUse ?kx_BadForm_Stale ?kx_BadForm_Busy ?kx_BadForm_NothingLeft ?kx_BadPattern_BadName ?kx_BadPattern_BadRule ?kx_BadPattern_BadText ?kx_BadPattern_BadForm ?kx_BadPattern_BadPattern ?kx_BadPattern_BadFact ?kx_BadPattern_BadLevel ?kx_BadPattern_BadInteger ?kx_BadPattern_BadGoal ?kx_BadPattern_BadCommand ?kx_BadPattern_UnknownName ?kx_BadPattern_NoKey ?kx_BadPattern_NoBase ?kx_BadPattern_NoPlace ?kx_BadPattern_TooMany ?kx_BadPattern_Taken ?kx_BadPattern_InUse ?kx_BadPattern_Stale ?kx_BadPattern_Busy ?kx_BadPattern_NothingLeft ?kx_BadFact_BadName ?kx_BadFact_BadRule ?kx_BadFact_BadText ?kx_BadFact_BadForm ?kx_BadFact_BadPattern ?kx_BadFact_BadFact ?kx_BadFact_BadLevel ?kx_BadFact_BadInteger ?kx_BadFact_BadGoal ?kx_BadFact_BadCommand ?kx_BadFact_UnknownName ?kx_BadFact_NoKey ?kx_BadFact_NoBase ?kx_BadFact_NoPlace ?kx_BadFact_TooMany ?kx_BadFact_Taken ?kx_BadFact_InUse ?kx_BadFact_Stale ?kx_BadFact_Busy ?kx_BadFact_NothingLeft ?kx_BadLevel_BadName ?kx_BadLevel_BadRule ?kx_BadLevel_BadText ?kx_BadLevel_BadForm ?kx_BadLevel_BadPattern ?kx_BadLevel_BadFact ?kx_BadLevel_BadLevel ?kx_BadLevel_BadInteger ?kx_BadLevel_BadGoal ?kx_BadLevel_BadCommand ?kx_BadLevel_UnknownName ?kx_BadLevel_NoKey ?kx_BadLevel_NoBase ?kx_BadLevel_NoPlace ?kx_BadLevel_TooMany ?kx_BadLevel_Taken ?kx_BadLevel_InUse ?kx_BadLevel_Stale ?kx_BadLevel_Busy ?kx_BadLevel_NothingLeft ?kx_BadInteger_BadName ?kx_BadInteger_BadRule ?kx_BadInteger_BadText ?kx_BadInteger_BadForm ?kx_BadInteger_BadPattern ?kx_BadInteger_BadFact ?kx_BadInteger_BadLevel ?kx_BadInteger_BadInteger ?kx_BadInteger_BadGoal ?kx_BadInteger_BadCommand ?kx_BadInteger_UnknownName ?kx_BadInteger_NoKey ?kx_BadInteger_NoBase ?kx_BadInteger_NoPlace ?kx_BadInteger_TooMany ?kx_BadInteger_Taken ?kx_BadInteger_InUse ?kx_BadInteger_Stale ?kx_BadInteger_Busy ?kx_BadInteger_NothingLeft ?kx_BadGoal_BadName ?kx_BadGoal_BadRule ?kx_BadGoal_BadText ?kx_BadGoal_BadForm ?kx_BadGoal_BadPattern ?kx_BadGoal_BadFact ?kx_BadGoal_BadLevel ?kx_BadGoal_BadInteger ?kx_BadGoal_BadGoal ?kx_BadGoal_BadCommand ?kx_BadGoal_UnknownName ?kx_BadGoal_NoKey ?kx_BadGoal_NoBase ?kx_BadGoal_NoPlace ?kx_BadGoal_TooMany ?kx_BadGoal_Taken ?kx_BadGoal_InUse ?kx_BadGoal_Stale ?kx_BadGoal_Busy ?kx_BadGoal_NothingLeft ?kx_BadCommand_BadName ?kx_BadCommand_BadRule ?kx_BadCommand_BadText ?kx_BadCommand_BadForm ?kx_BadCommand_BadPattern ?kx_BadCommand_BadFact ?kx_BadCommand_BadLevel ?kx_BadCommand_BadInteger ?kx_BadCommand_BadGoal ?kx_BadCommand_BadCommand ?kx_BadCommand_UnknownName ?kx_BadCommand_NoKey ?kx_BadCommand_NoBase ?kx_BadCommand_NoPlace ?kx_BadCommand_TooMany ?kx_BadCommand_Taken ?kx_BadCommand_InUse ?kx_BadCommand_Stale ?kx_BadCommand_Busy ?kx_BadCommand_NothingLeft ?kx_UnknownName_BadName ?kx_UnknownName_BadRule ?kx_UnknownName_BadText ?kx_UnknownName_BadForm ?kx_UnknownName_BadPattern ?kx_UnknownName_BadFact ?kx_UnknownName_BadLevel ?kx_UnknownName_BadInteger ?kx_UnknownName_BadGoal ?kx_UnknownName_BadCommand ?kx_UnknownName_UnknownName ?kx_UnknownName_NoKey ?kx_UnknownName_NoBase ?kx_UnknownName_NoPlace ?kx_UnknownName_TooMany ?kx_UnknownName_Taken ?kx_UnknownName_InUse ?kx_UnknownName_Stale ?kx_UnknownName_Busy ?kx_UnknownName_NothingLeft ?kx_NoKey_BadName ?kx_NoKey_BadRule ?kx_NoKey_BadText ?kx_NoKey_BadForm ?kx_NoKey_BadPattern ?kx_NoKey_BadFact ?kx_NoKey_BadLevel ?kx_NoKey_BadInteger ?kx_NoKey_BadGoal ?kx_NoKey_BadCommand ?kx_NoKey_UnknownName ?kx_NoKey_NoKey ?kx_NoKey_NoBase ?kx_NoKey_NoPlace ?kx_NoKey_TooMany ?kx_NoKey_Taken ?kx_NoKey_InUse ?kx_NoKey_Stale ?kx_NoKey_Busy ?kx_NoKey_NothingLeft ?kx_NoBase_BadName ?kx_NoBase_BadRule ?kx_NoBase_BadText ?kx_NoBase_BadForm ?kx_NoBase_BadPattern ?kx_NoBase_BadFact ?kx_NoBase_BadLevel ?kx_NoBase_BadInteger ?kx_NoBase_BadGoal ?kx_NoBase_BadCommand ?kx_NoBase_UnknownName ?kx_NoBase_NoKey ?kx_NoBase_NoBase ?kx_NoBase_NoPlace ?kx_NoBase_TooMany ?kx_NoBase_Taken ?kx_NoBase_InUse ?kx_NoBase_Stale ?kx_NoBase_Busy ?kx_NoBase_NothingLeft ?kx_NoPlace_BadName ?kx_NoPlace_BadRule ?kx_NoPlace_BadText ?kx_NoPlace_BadForm ?kx_NoPlace_BadPattern ?kx_NoPlace_BadFact ?kx_NoPlace_BadLevel ?kx_NoPlace_BadInteger ?kx_NoPlace_BadGoal ?kx_NoPlace_BadCommand ?kx_NoPlace_UnknownName ?kx_NoPlace_NoKey ?kx_NoPlace_NoBase ?kx_NoPlace_NoPlace ?kx_NoPlace_TooMany ?kx_NoPlace_Taken ?kx_NoPlace_InUse ?kx_NoPlace_Stale ?kx_NoPlace_Busy ?kx_NoPlace_NothingLeft ?kx_TooMany_BadName ?kx_TooMany_BadRule ?kx_TooMany_BadText ?kx_TooMany_BadForm ?kx_TooMany_BadPattern ?kx_TooMany_BadFact ?kx_TooMany_BadLevel ?kx_TooMany_BadInteger ?kx_TooMany_BadGoal ?kx_TooMany_BadCommand ?kx_TooMany_UnknownName ?kx_TooMany_NoKey ?kx_TooMany_NoBase ?kx_TooMany_NoPlace ?kx_TooMany_TooMany ?kx_TooMany_Taken ?kx_TooMany_InUse ?kx_TooMany_Stale ?kx_TooMany_Busy ?kx_TooMany_NothingLeft ?kx_Taken_BadName ?kx_Taken_BadRule ?kx_Taken_BadText ?kx_Taken_BadForm ?kx_Taken_BadPattern ?kx_Taken_BadFact ?kx_Taken_BadLevel ?kx_Taken_BadInteger ?kx_Taken_BadGoal ?kx_Taken_BadCommand ?kx_Taken_UnknownName ?kx_Taken_NoKey ?kx_Taken_NoBase ?kx_Taken_NoPlace ?kx_Taken_TooMany ?kx_Taken_Taken ?kx_Taken_InUse ?kx_Taken_Stale ?kx_Taken_Busy ?kx_Taken_NothingLeft ?kx_InUse_BadName ?kx_InUse_BadRule ?kx_InUse_BadText ?kx_InUse_BadForm ?kx_InUse_BadPattern ?kx_InUse_BadFact ?kx_InUse_BadLevel ?kx_InUse_BadInteger ?kx_InUse_BadGoal ?kx_InUse_BadCommand ?kx_InUse_UnknownName ?kx_InUse_NoKey ?kx_InUse_NoBase ?kx_InUse_NoPlace ?kx_InUse_TooMany ?kx_InUse_Taken ?kx_InUse_InUse ?kx_InUse_Stale ?kx_InUse_Busy ?kx_InUse_NothingLeft ?kx_Stale_BadName ?kx_Stale_BadRule ?kx_Stale_BadText ?kx_Stale_BadForm ?kx_Stale_BadPattern ?kx_Stale_BadFact ?kx_Stale_BadLevel ?kx_Stale_BadInteger ?kx_Stale_BadGoal ?kx_Stale_BadCommand ?kx_Stale_UnknownName ?kx_Stale_NoKey ?kx_Stale_NoBase ?kx_Stale_NoPlace ?kx_Stale_TooMany ?kx_Stale_Taken ?kx_Stale_InUse ?kx_Stale_Stale ?kx_Stale_Busy ?kx_Stale_NothingLeft ?kx_Busy_BadName ?kx_Busy_BadRule ?kx_Busy_BadText ?kx_Busy_BadForm ?kx_Busy_BadPattern ?kx_Busy_BadFact ?kx_Busy_BadLevel ?kx_Busy_BadInteger ?kx_Busy_BadGoal ?kx_Busy_BadCommand ?kx_Busy_UnknownName ?kx_Busy_NoKey ?kx_Busy_NoBase ?kx_Busy_NoPlace ?kx_Busy_TooMany ?kx_Busy_Taken ?kx_Busy_InUse ?kx_Busy_Stale ?kx_Busy_Busy ?kx_Busy_NothingLeft ?kx_NothingLeft_BadName ?kx_NothingLeft_BadRule ?kx_NothingLeft_BadText ?kx_NothingLeft_BadForm ?kx_NothingLeft_BadPattern ?kx_NothingLeft_BadFact ?kx_NothingLeft_BadLevel ?kx_NothingLeft_BadInteger ?kx_NothingLeft_BadGoal ?kx_NothingLeft_BadCommand ?kx_NothingLeft_UnknownName ?kx_NothingLeft_NoKey ?kx_NothingLeft_NoBase ?kx_NothingLeft_NoPlace ?kx_NothingLeft_TooMany ?kx_NothingLeft_Taken ?kx_NothingLeft_InUse ?kx_NothingLeft_Stale ?kx_NothingLeft_Busy ?kx_NothingLeft_NothingLeft ?kx_BadName_ValueError ?kx_BadName_KeyError ?kx_BadName_LookupError ?kx_BadName_IndexError ?kx_BadName_OverflowError ?kx_BadName_ArithmeticError ?kx_BadName_RuntimeError ?kx_BadName_NotImplementedError ?kx_BadRule_ValueError ?kx_BadRule_KeyError ?kx_BadRule_LookupError ?kx_BadRule_IndexError ?kx_BadRule_OverflowError ?kx_BadRule_ArithmeticError ?kx_BadRule_RuntimeError ?kx_BadRule_NotImplementedError ?kx_BadText_ValueError ?kx_BadText_KeyError ?kx_BadText_LookupError ?kx_BadText_IndexError ?kx_BadText_OverflowError ?kx_BadText_ArithmeticError ?kx_BadText_RuntimeError ?kx_BadText_NotImplementedError ?kx_BadForm_ValueError ?kx_BadForm_KeyError ?kx_BadForm_LookupError ?kx_BadForm_IndexError ?kx_BadForm_OverflowError ?kx_BadForm_ArithmeticError ?kx_BadForm_RuntimeError ?kx_BadForm_NotImplementedError ?kx_BadPattern_ValueError ?kx_BadPattern_KeyError ?kx_BadPattern_LookupError ?kx_BadPattern_IndexError ?kx_BadPattern_OverflowError ?kx_BadPattern_ArithmeticError ?kx_BadPattern_RuntimeError ?kx_BadPattern_NotImplementedError ?kx_BadFact_ValueError ?kx_BadFact_KeyError ?kx_BadFact_LookupError ?kx_BadFact_IndexError ?kx_BadFact_OverflowError ?kx_BadFact_ArithmeticError ?kx_BadFact_RuntimeError ?kx_BadFact_NotImplementedError ?kx_BadLevel_ValueError ?kx_BadLevel_KeyError ?kx_BadLevel_LookupError ?kx_BadLevel_IndexError ?kx_BadLevel_OverflowError ?kx_BadLevel_ArithmeticError ?kx_BadLevel_RuntimeError ?kx_BadLevel_NotImplementedError ?kx_BadInteger_ValueError ?kx_BadInteger_KeyError ?kx_BadInteger_LookupError ?kx_BadInteger_IndexError ?kx_BadInteger_OverflowError ?kx_BadInteger_ArithmeticError ?kx_BadInteger_RuntimeError ?kx_BadInteger_NotImplementedError ?kx_BadGoal_ValueError ?kx_BadGoal_KeyError ?kx_BadGoal_LookupError ?kx_BadGoal_IndexError ?kx_BadGoal_OverflowError ?kx_BadGoal_ArithmeticError ?kx_BadGoal_RuntimeError ?kx_BadGoal_NotImplementedError ?kx_BadCommand_ValueError ?kx_BadCommand_KeyError ?kx_BadCommand_LookupError ?kx_BadCommand_IndexError ?kx_BadCommand_OverflowError ?kx_BadCommand_ArithmeticError ?kx_BadCommand_RuntimeError ?kx_BadCommand_NotImplementedError ?kx_UnknownName_ValueError ?kx_UnknownName_KeyError ?kx_UnknownName_LookupError ?kx_UnknownName_IndexError ?kx_UnknownName_OverflowError ?kx_UnknownName_ArithmeticError ?kx_UnknownName_RuntimeError ?kx_UnknownName_NotImplementedError ?kx_NoKey_ValueError ?kx_NoKey_KeyError ?kx_NoKey_LookupError ?kx_NoKey_IndexError ?kx_NoKey_OverflowError ?kx_NoKey_ArithmeticError ?kx_NoKey_RuntimeError ?kx_NoKey_NotImplementedError ?kx_NoBase_ValueError ?kx_NoBase_KeyError ?kx_NoBase_LookupError ?kx_NoBase_IndexError ?kx_NoBase_OverflowError ?kx_NoBase_ArithmeticError ?kx_NoBase_RuntimeError ?kx_NoBase_NotImplementedError ?kx_NoPlace_ValueError ?kx_NoPlace_KeyError ?kx_NoPlace_LookupError ?kx_NoPlace_IndexError ?kx_NoPlace_OverflowError ?kx_NoPlace_ArithmeticError ?kx_NoPlace_RuntimeError ?kx_NoPlace_NotImplementedError ?kx_TooMany_ValueError ?kx_TooMany_KeyError ?kx_TooMany_LookupError ?kx_TooMany_IndexError ?kx_TooMany_OverflowError ?kx_TooMany_ArithmeticError ?kx_TooMany_RuntimeError ?kx_TooMany_NotImplementedError ?kx_Taken_ValueError ?kx_Taken_KeyError ?kx_Taken_LookupError ?kx_Taken_IndexError ?kx_Taken_OverflowError ?kx_Taken_ArithmeticError ?kx_Taken_RuntimeError ?kx_Taken_NotImplementedError ?kx_InUse_ValueError ?kx_InUse_KeyError ?kx_InUse_LookupError ?kx_InUse_IndexError ?kx_InUse_OverflowError ?kx_InUse_ArithmeticError ?kx_InUse_RuntimeError ?kx_InUse_NotImplementedError ?kx_Stale_ValueError ?kx_Stale_KeyError ?kx_Stale_LookupError ?kx_Stale_IndexError ?kx_Stale_OverflowError ?kx_Stale_ArithmeticError ?kx_Stale_RuntimeError ?kx_Stale_NotImplementedError ?kx_Busy_ValueError ?kx_Busy_KeyError ?kx_Busy_LookupError ?kx_Busy_IndexError ?kx_Busy_OverflowError ?kx_Busy_ArithmeticError ?kx_Busy_RuntimeError ?kx_Busy_NotImplementedError ?kx_NothingLeft_ValueError ?kx_NothingLeft_KeyError ?kx_NothingLeft_LookupError ?kx_NothingLeft_IndexError ?kx_NothingLeft_OverflowError ?kx_NothingLeft_ArithmeticError ?kx_NothingLeft_RuntimeError ?kx_NothingLeft_NotImplementedError ?a_BadName_init ?i_BadName_init ?l_BadName_init ?c_BadName_init ?k_BadName_init ?ti_BadName_init ?a_BadRule_init ?i_BadRule_init ?l_BadRule_init ?c_BadRule_init ?k_BadRule_init ?ti_BadRule_init ?a_BadText_init ?i_BadText_init ?l_BadText_init ?c_BadText_init ?k_BadText_init ?ti_BadText_init ?a_BadForm_init ?i_BadForm_init ?l_BadForm_init ?c_BadForm_init ?k_BadForm_init ?ti_BadForm_init ?a_BadPattern_init ?i_BadPattern_init ?l_BadPattern_init ?c_BadPattern_init ?k_BadPattern_init ?ti_BadPattern_init ?a_BadFact_init ?i_BadFact_init ?l_BadFact_init ?c_BadFact_init ?k_BadFact_init ?ti_BadFact_init ?a_BadLevel_init ?i_BadLevel_init ?l_BadLevel_init ?c_BadLevel_init ?k_BadLevel_init ?ti_BadLevel_init ?a_BadInteger_init ?i_BadInteger_init ?l_BadInteger_init ?c_BadInteger_init ?k_BadInteger_init ?ti_BadInteger_init ?a_BadGoal_init ?i_BadGoal_init ?l_BadGoal_init ?c_BadGoal_init ?k_BadGoal_init ?ti_BadGoal_init ?a_BadCommand_init ?i_BadCommand_init ?l_BadCommand_init ?c_BadCommand_init ?k_BadCommand_init ?ti_BadCommand_init ?a_UnknownName_init ?i_UnknownName_init ?l_UnknownName_init ?c_UnknownName_init ?k_UnknownName_init ?ti_UnknownName_init ?a_NoKey_init ?i_NoKey_init ?l_NoKey_init ?c_NoKey_init ?k_NoKey_init ?ti_NoKey_init ?a_NoBase_init ?i_NoBase_init ?l_NoBase_init ?c_NoBase_init ?k_NoBase_init ?ti_NoBase_init ?a_NoPlace_init ?i_NoPlace_init ?l_NoPlace_init ?c_NoPlace_init ?k_NoPlace_init ?ti_NoPlace_init ?a_TooMany_init ?i_TooMany_init ?l_TooMany_init ?c_TooMany_init ?k_TooMany_init ?ti_TooMany_init ?a_Taken_init ?i_Taken_init ?l_Taken_init ?c_Taken_init ?k_Taken_init ?ti_Taken_init ?a_InUse_init ?i_InUse_init ?l_InUse_init ?c_InUse_init ?k_InUse_init ?ti_InUse_init ?a_Stale_init ?i_Stale_init ?l_Stale_init ?c_Stale_init ?k_Stale_init ?ti_Stale_init ?a_Busy_init ?i_Busy_init ?l_Busy_init ?c_Busy_init ?k_Busy_init ?ti_Busy_init ?a_NothingLeft_init ?i_NothingLeft_init ?l_NothingLeft_init ?c_NothingLeft_init ?k_NothingLeft_init ?ti_NothingLeft_init ?a_law_bag ?l_law_bag ?c_law_bag ?k_law_bag ?a_law_take ?l_law_take ?c_law_take ?k_law_take ?a_law_thing ?l_law_thing ?c_law_thing ?k_law_thing ?a_law_by_position ?l_law_by_position ?c_law_by_position ?k_law_by_position ?a_law_by_parameters ?l_law_by_parameters ?c_law_by_parameters ?k_law_by_parameters ?a_law_fields ?l_law_fields ?c_law_fields ?k_law_fields ?a_law_kinds ?l_law_kinds ?c_law_kinds ?k_law_kinds ?a_law_above ?l_law_above ?c_law_above ?k_law_above ?a_law ?l_law ?c_law ?k_law ?z_ArithmeticError ?z_IndexError ?z_KeyError ?z_LookupError ?z_NotImplementedError ?z_OverflowError ?z_RuntimeError ?z_ValueError ?z_abs ?z_enumerate ?z_int ?z_isinstance ?z_len ?z_max ?z_min ?z_range ?z_repr
    (case a_BadName => k_is); (case xi_BadName => kx_is); (case xo_BadName => kx_is); (case xh_BadName => k_is); (case xs_BadName => k_is); (case xb_BadName => k_is)
    (case xt_BadName => k_is); (case xk_BadName => k_is); (case xm_BadName => k_is); (case xn_BadName => k_is); (case xv_BadName => k_is); (case xg_BadName => k_is)
    (case xa_BadName => k_is); (case xc_BadName => k_is); (case xe_BadName => k_is); (case a_BadRule => k_is); (case xi_BadRule => kx_is); (case xo_BadRule => kx_is)
    (case xh_BadRule => k_is); (case xs_BadRule => k_is); (case xb_BadRule => k_is); (case xt_BadRule => k_is); (case xk_BadRule => k_is); (case xm_BadRule => k_is)
    (case xn_BadRule => k_is); (case xv_BadRule => k_is); (case xg_BadRule => k_is); (case xa_BadRule => k_is); (case xc_BadRule => k_is); (case xe_BadRule => k_is)
    (case a_BadText => k_is); (case xi_BadText => kx_is); (case xo_BadText => kx_is); (case xh_BadText => k_is); (case xs_BadText => k_is); (case xb_BadText => k_is)
    (case xt_BadText => k_is); (case xk_BadText => k_is); (case xm_BadText => k_is); (case xn_BadText => k_is); (case xv_BadText => k_is); (case xg_BadText => k_is)
    (case xa_BadText => k_is); (case xc_BadText => k_is); (case xe_BadText => k_is); (case a_BadForm => k_is); (case xi_BadForm => kx_is); (case xo_BadForm => kx_is)
    (case xh_BadForm => k_is); (case xs_BadForm => k_is); (case xb_BadForm => k_is); (case xt_BadForm => k_is); (case xk_BadForm => k_is); (case xm_BadForm => k_is)
    (case xn_BadForm => k_is); (case xv_BadForm => k_is); (case xg_BadForm => k_is); (case xa_BadForm => k_is); (case xc_BadForm => k_is); (case xe_BadForm => k_is)
    (case a_BadPattern => k_is); (case xi_BadPattern => kx_is); (case xo_BadPattern => kx_is); (case xh_BadPattern => k_is); (case xs_BadPattern => k_is); (case xb_BadPattern => k_is)
    (case xt_BadPattern => k_is); (case xk_BadPattern => k_is); (case xm_BadPattern => k_is); (case xn_BadPattern => k_is); (case xv_BadPattern => k_is); (case xg_BadPattern => k_is)
    (case xa_BadPattern => k_is); (case xc_BadPattern => k_is); (case xe_BadPattern => k_is); (case a_BadFact => k_is); (case xi_BadFact => kx_is); (case xo_BadFact => kx_is)
    (case xh_BadFact => k_is); (case xs_BadFact => k_is); (case xb_BadFact => k_is); (case xt_BadFact => k_is); (case xk_BadFact => k_is); (case xm_BadFact => k_is)
    (case xn_BadFact => k_is); (case xv_BadFact => k_is); (case xg_BadFact => k_is); (case xa_BadFact => k_is); (case xc_BadFact => k_is); (case xe_BadFact => k_is)
    (case a_BadLevel => k_is); (case xi_BadLevel => kx_is); (case xo_BadLevel => kx_is); (case xh_BadLevel => k_is); (case xs_BadLevel => k_is); (case xb_BadLevel => k_is)
    (case xt_BadLevel => k_is); (case xk_BadLevel => k_is); (case xm_BadLevel => k_is); (case xn_BadLevel => k_is); (case xv_BadLevel => k_is); (case xg_BadLevel => k_is)
    (case xa_BadLevel => k_is); (case xc_BadLevel => k_is); (case xe_BadLevel => k_is); (case a_BadInteger => k_is); (case xi_BadInteger => kx_is); (case xo_BadInteger => kx_is)
    (case xh_BadInteger => k_is); (case xs_BadInteger => k_is); (case xb_BadInteger => k_is); (case xt_BadInteger => k_is); (case xk_BadInteger => k_is); (case xm_BadInteger => k_is)
    (case xn_BadInteger => k_is); (case xv_BadInteger => k_is); (case xg_BadInteger => k_is); (case xa_BadInteger => k_is); (case xc_BadInteger => k_is); (case xe_BadInteger => k_is)
    (case a_BadGoal => k_is); (case xi_BadGoal => kx_is); (case xo_BadGoal => kx_is); (case xh_BadGoal => k_is); (case xs_BadGoal => k_is); (case xb_BadGoal => k_is)
    (case xt_BadGoal => k_is); (case xk_BadGoal => k_is); (case xm_BadGoal => k_is); (case xn_BadGoal => k_is); (case xv_BadGoal => k_is); (case xg_BadGoal => k_is)
    (case xa_BadGoal => k_is); (case xc_BadGoal => k_is); (case xe_BadGoal => k_is); (case a_BadCommand => k_is); (case xi_BadCommand => kx_is); (case xo_BadCommand => kx_is)
    (case xh_BadCommand => k_is); (case xs_BadCommand => k_is); (case xb_BadCommand => k_is); (case xt_BadCommand => k_is); (case xk_BadCommand => k_is); (case xm_BadCommand => k_is)
    (case xn_BadCommand => k_is); (case xv_BadCommand => k_is); (case xg_BadCommand => k_is); (case xa_BadCommand => k_is); (case xc_BadCommand => k_is); (case xe_BadCommand => k_is)
    (case a_UnknownName => k_is); (case xi_UnknownName => kx_is); (case xo_UnknownName => kx_is); (case xh_UnknownName => k_is); (case xs_UnknownName => k_is); (case xb_UnknownName => k_is)
    (case xt_UnknownName => k_is); (case xk_UnknownName => k_is); (case xm_UnknownName => k_is); (case xn_UnknownName => k_is); (case xv_UnknownName => k_is); (case xg_UnknownName => k_is)
    (case xa_UnknownName => k_is); (case xc_UnknownName => k_is); (case xe_UnknownName => k_is); (case a_NoKey => k_is); (case xi_NoKey => kx_is); (case xo_NoKey => kx_is)
    (case xh_NoKey => k_is); (case xs_NoKey => k_is); (case xb_NoKey => k_is); (case xt_NoKey => k_is); (case xk_NoKey => k_is); (case xm_NoKey => k_is)
    (case xn_NoKey => k_is); (case xv_NoKey => k_is); (case xg_NoKey => k_is); (case xa_NoKey => k_is); (case xc_NoKey => k_is); (case xe_NoKey => k_is)
    (case xm2_NoKey => k_is); (case xn2_NoKey => k_is); (case a_NoBase => k_is); (case xi_NoBase => kx_is); (case xo_NoBase => kx_is); (case xh_NoBase => k_is)
    (case xs_NoBase => k_is); (case xb_NoBase => k_is); (case xt_NoBase => k_is); (case xk_NoBase => k_is); (case xm_NoBase => k_is); (case xn_NoBase => k_is)
    (case xv_NoBase => k_is); (case xg_NoBase => k_is); (case xa_NoBase => k_is); (case xc_NoBase => k_is); (case xe_NoBase => k_is); (case a_NoPlace => k_is)
    (case xi_NoPlace => kx_is); (case xo_NoPlace => kx_is); (case xh_NoPlace => k_is); (case xs_NoPlace => k_is); (case xb_NoPlace => k_is); (case xt_NoPlace => k_is)
    (case xk_NoPlace => k_is); (case xm_NoPlace => k_is); (case xn_NoPlace => k_is); (case xv_NoPlace => k_is); (case xg_NoPlace => k_is); (case xa_NoPlace => k_is)
    (case xc_NoPlace => k_is); (case xe_NoPlace => k_is); (case a_TooMany => k_is); (case xi_TooMany => kx_is); (case xo_TooMany => kx_is); (case xh_TooMany => k_is)
    (case xs_TooMany => k_is); (case xb_TooMany => k_is); (case xt_TooMany => k_is); (case xk_TooMany => k_is); (case xm_TooMany => k_is); (case xn_TooMany => k_is)
    (case xv_TooMany => k_is); (case xg_TooMany => k_is); (case xa_TooMany => k_is); (case xc_TooMany => k_is); (case xe_TooMany => k_is); (case a_Taken => k_is)
    (case xi_Taken => kx_is); (case xo_Taken => kx_is); (case xh_Taken => k_is); (case xs_Taken => k_is); (case xb_Taken => k_is); (case xt_Taken => k_is)
    (case xk_Taken => k_is); (case xm_Taken => k_is); (case xn_Taken => k_is); (case xv_Taken => k_is); (case xg_Taken => k_is); (case xa_Taken => k_is)
    (case xc_Taken => k_is); (case xe_Taken => k_is); (case a_InUse => k_is); (case xi_InUse => kx_is); (case xo_InUse => kx_is); (case xh_InUse => k_is)
    (case xs_InUse => k_is); (case xb_InUse => k_is); (case xt_InUse => k_is); (case xk_InUse => k_is); (case xm_InUse => k_is); (case xn_InUse => k_is)
    (case xv_InUse => k_is); (case xg_InUse => k_is); (case xa_InUse => k_is); (case xc_InUse => k_is); (case xe_InUse => k_is); (case a_Stale => k_is)
    (case xi_Stale => kx_is); (case xo_Stale => kx_is); (case xh_Stale => k_is); (case xs_Stale => k_is); (case xb_Stale => k_is); (case xt_Stale => k_is)
    (case xk_Stale => k_is); (case xm_Stale => k_is); (case xn_Stale => k_is); (case xv_Stale => k_is); (case xg_Stale => k_is); (case xa_Stale => k_is)
    (case xc_Stale => k_is); (case xe_Stale => k_is); (case a_Busy => k_is); (case xi_Busy => kx_is); (case xo_Busy => kx_is); (case xh_Busy => k_is)
    (case xs_Busy => k_is); (case xb_Busy => k_is); (case xt_Busy => k_is); (case xk_Busy => k_is); (case xm_Busy => k_is); (case xn_Busy => k_is)
    (case xv_Busy => k_is); (case xg_Busy => k_is); (case xa_Busy => k_is); (case xc_Busy => k_is); (case xe_Busy => k_is); (case a_NothingLeft => k_is)
    (case xi_NothingLeft => kx_is); (case xo_NothingLeft => kx_is); (case xh_NothingLeft => k_is); (case xs_NothingLeft => k_is); (case xb_NothingLeft => k_is); (case xt_NothingLeft => k_is)
    (case xk_NothingLeft => k_is); (case xm_NothingLeft => k_is); (case xn_NothingLeft => k_is); (case xv_NothingLeft => k_is); (case xg_NothingLeft => k_is); (case xa_NothingLeft => k_is)
    (case xc_NothingLeft => k_is); (case xe_NothingLeft => k_is); (case xca_BadName => k_is); (case xcn_BadName => k_is); (case xct_BadName => k_is); (case xcm_BadName => k_is)
    (case xca_BadRule => k_is); (case xcn_BadRule => k_is); (case xct_BadRule => k_is); (case xcm_BadRule => k_is); (case xca_BadText => k_is); (case xcn_BadText => k_is)
    (case xct_BadText => k_is); (case xcm_BadText => k_is); (case xca_BadForm => k_is); (case xcn_BadForm => k_is); (case xct_BadForm => k_is); (case xcm_BadForm => k_is)
    (case xca_BadPattern => k_is); (case xcn_BadPattern => k_is); (case xct_BadPattern => k_is); (case xcm_BadPattern => k_is); (case xca_BadFact => k_is); (case xcn_BadFact => k_is)
    (case xct_BadFact => k_is); (case xcm_BadFact => k_is); (case xca_BadLevel => k_is); (case xcn_BadLevel => k_is); (case xct_BadLevel => k_is); (case xcm_BadLevel => k_is)
    (case xca_BadInteger => k_is); (case xcn_BadInteger => k_is); (case xct_BadInteger => k_is); (case xcm_BadInteger => k_is); (case xca_BadGoal => k_is); (case xcn_BadGoal => k_is)
    (case xct_BadGoal => k_is); (case xcm_BadGoal => k_is); (case xca_BadCommand => k_is); (case xcn_BadCommand => k_is); (case xct_BadCommand => k_is); (case xcm_BadCommand => k_is)
    (case xca_UnknownName => k_is); (case xcn_UnknownName => k_is); (case xct_UnknownName => k_is); (case xcm_UnknownName => k_is); (case xca_NoKey => k_is); (case xcn_NoKey => k_is)
    (case xct_NoKey => k_is); (case xcm_NoKey => k_is); (case xca_NoBase => k_is); (case xcn_NoBase => k_is); (case xct_NoBase => k_is); (case xcm_NoBase => k_is)
    (case xca_NoPlace => k_is); (case xcn_NoPlace => k_is); (case xct_NoPlace => k_is); (case xcm_NoPlace => k_is); (case xca_TooMany => k_is); (case xcn_TooMany => k_is)
    (case xct_TooMany => k_is); (case xcm_TooMany => k_is); (case xca_Taken => k_is); (case xcn_Taken => k_is); (case xct_Taken => k_is); (case xcm_Taken => k_is)
    (case xca_InUse => k_is); (case xcn_InUse => k_is); (case xct_InUse => k_is); (case xcm_InUse => k_is); (case xca_Stale => k_is); (case xcn_Stale => k_is)
    (case xct_Stale => k_is); (case xcm_Stale => k_is); (case xca_Busy => k_is); (case xcn_Busy => k_is); (case xct_Busy => k_is); (case xcm_Busy => k_is)
    (case xca_NothingLeft => k_is); (case xcn_NothingLeft => k_is); (case xct_NothingLeft => k_is); (case xcm_NothingLeft => k_is); (case kx_BadName_BadName => kit_is); (case kx_BadName_BadRule => kit_is)
    (case kx_BadName_BadText => kit_is); (case kx_BadName_BadForm => kit_is); (case kx_BadName_BadPattern => kit_is); (case kx_BadName_BadFact => kit_is); (case kx_BadName_BadLevel => kit_is); (case kx_BadName_BadInteger => kit_is)
    (case kx_BadName_BadGoal => kit_is); (case kx_BadName_BadCommand => kit_is); (case kx_BadName_UnknownName => kit_is); (case kx_BadName_NoKey => kit_is); (case kx_BadName_NoBase => kit_is); (case kx_BadName_NoPlace => kit_is)
    (case kx_BadName_TooMany => kit_is); (case kx_BadName_Taken => kit_is); (case kx_BadName_InUse => kit_is); (case kx_BadName_Stale => kit_is); (case kx_BadName_Busy => kit_is); (case kx_BadName_NothingLeft => kit_is)
    (case kx_BadRule_BadName => kit_is); (case kx_BadRule_BadRule => kit_is); (case kx_BadRule_BadText => kit_is); (case kx_BadRule_BadForm => kit_is); (case kx_BadRule_BadPattern => kit_is); (case kx_BadRule_BadFact => kit_is)
    (case kx_BadRule_BadLevel => kit_is); (case kx_BadRule_BadInteger => kit_is); (case kx_BadRule_BadGoal => kit_is); (case kx_BadRule_BadCommand => kit_is); (case kx_BadRule_UnknownName => kit_is); (case kx_BadRule_NoKey => kit_is)
    (case kx_BadRule_NoBase => kit_is); (case kx_BadRule_NoPlace => kit_is); (case kx_BadRule_TooMany => kit_is); (case kx_BadRule_Taken => kit_is); (case kx_BadRule_InUse => kit_is); (case kx_BadRule_Stale => kit_is)
    (case kx_BadRule_Busy => kit_is); (case kx_BadRule_NothingLeft => kit_is); (case kx_BadText_BadName => kit_is); (case kx_BadText_BadRule => kit_is); (case kx_BadText_BadText => kit_is); (case kx_BadText_BadForm => kit_is)
    (case kx_BadText_BadPattern => kit_is); (case kx_BadText_BadFact => kit_is); (case kx_BadText_BadLevel => kit_is); (case kx_BadText_BadInteger => kit_is); (case kx_BadText_BadGoal => kit_is); (case kx_BadText_BadCommand => kit_is)
    (case kx_BadText_UnknownName => kit_is); (case kx_BadText_NoKey => kit_is); (case kx_BadText_NoBase => kit_is); (case kx_BadText_NoPlace => kit_is); (case kx_BadText_TooMany => kit_is); (case kx_BadText_Taken => kit_is)
    (case kx_BadText_InUse => kit_is); (case kx_BadText_Stale => kit_is); (case kx_BadText_Busy => kit_is); (case kx_BadText_NothingLeft => kit_is); (case kx_BadForm_BadName => kit_is); (case kx_BadForm_BadRule => kit_is)
    (case kx_BadForm_BadText => kit_is); (case kx_BadForm_BadForm => kit_is); (case kx_BadForm_BadPattern => kit_is); (case kx_BadForm_BadFact => kit_is); (case kx_BadForm_BadLevel => kit_is); (case kx_BadForm_BadInteger => kit_is)
    (case kx_BadForm_BadGoal => kit_is); (case kx_BadForm_BadCommand => kit_is); (case kx_BadForm_UnknownName => kit_is); (case kx_BadForm_NoKey => kit_is); (case kx_BadForm_NoBase => kit_is); (case kx_BadForm_NoPlace => kit_is)
    (case kx_BadForm_TooMany => kit_is); (case kx_BadForm_Taken => kit_is); (case kx_BadForm_InUse => kit_is); (case kx_BadForm_Stale => kit_is); (case kx_BadForm_Busy => kit_is); (case kx_BadForm_NothingLeft => kit_is)
    (case kx_BadPattern_BadName => kit_is); (case kx_BadPattern_BadRule => kit_is); (case kx_BadPattern_BadText => kit_is); (case kx_BadPattern_BadForm => kit_is); (case kx_BadPattern_BadPattern => kit_is); (case kx_BadPattern_BadFact => kit_is)
    (case kx_BadPattern_BadLevel => kit_is); (case kx_BadPattern_BadInteger => kit_is); (case kx_BadPattern_BadGoal => kit_is); (case kx_BadPattern_BadCommand => kit_is); (case kx_BadPattern_UnknownName => kit_is); (case kx_BadPattern_NoKey => kit_is)
    (case kx_BadPattern_NoBase => kit_is); (case kx_BadPattern_NoPlace => kit_is); (case kx_BadPattern_TooMany => kit_is); (case kx_BadPattern_Taken => kit_is); (case kx_BadPattern_InUse => kit_is); (case kx_BadPattern_Stale => kit_is)
    (case kx_BadPattern_Busy => kit_is); (case kx_BadPattern_NothingLeft => kit_is); (case kx_BadFact_BadName => kit_is); (case kx_BadFact_BadRule => kit_is); (case kx_BadFact_BadText => kit_is); (case kx_BadFact_BadForm => kit_is)
    (case kx_BadFact_BadPattern => kit_is); (case kx_BadFact_BadFact => kit_is); (case kx_BadFact_BadLevel => kit_is); (case kx_BadFact_BadInteger => kit_is); (case kx_BadFact_BadGoal => kit_is); (case kx_BadFact_BadCommand => kit_is)
    (case kx_BadFact_UnknownName => kit_is); (case kx_BadFact_NoKey => kit_is); (case kx_BadFact_NoBase => kit_is); (case kx_BadFact_NoPlace => kit_is); (case kx_BadFact_TooMany => kit_is); (case kx_BadFact_Taken => kit_is)
    (case kx_BadFact_InUse => kit_is); (case kx_BadFact_Stale => kit_is); (case kx_BadFact_Busy => kit_is); (case kx_BadFact_NothingLeft => kit_is); (case kx_BadLevel_BadName => kit_is); (case kx_BadLevel_BadRule => kit_is)
    (case kx_BadLevel_BadText => kit_is); (case kx_BadLevel_BadForm => kit_is); (case kx_BadLevel_BadPattern => kit_is); (case kx_BadLevel_BadFact => kit_is); (case kx_BadLevel_BadLevel => kit_is); (case kx_BadLevel_BadInteger => kit_is)
    (case kx_BadLevel_BadGoal => kit_is); (case kx_BadLevel_BadCommand => kit_is); (case kx_BadLevel_UnknownName => kit_is); (case kx_BadLevel_NoKey => kit_is); (case kx_BadLevel_NoBase => kit_is); (case kx_BadLevel_NoPlace => kit_is)
    (case kx_BadLevel_TooMany => kit_is); (case kx_BadLevel_Taken => kit_is); (case kx_BadLevel_InUse => kit_is); (case kx_BadLevel_Stale => kit_is); (case kx_BadLevel_Busy => kit_is); (case kx_BadLevel_NothingLeft => kit_is)
    (case kx_BadInteger_BadName => kit_is); (case kx_BadInteger_BadRule => kit_is); (case kx_BadInteger_BadText => kit_is); (case kx_BadInteger_BadForm => kit_is); (case kx_BadInteger_BadPattern => kit_is); (case kx_BadInteger_BadFact => kit_is)
    (case kx_BadInteger_BadLevel => kit_is); (case kx_BadInteger_BadInteger => kit_is); (case kx_BadInteger_BadGoal => kit_is); (case kx_BadInteger_BadCommand => kit_is); (case kx_BadInteger_UnknownName => kit_is); (case kx_BadInteger_NoKey => kit_is)
    (case kx_BadInteger_NoBase => kit_is); (case kx_BadInteger_NoPlace => kit_is); (case kx_BadInteger_TooMany => kit_is); (case kx_BadInteger_Taken => kit_is); (case kx_BadInteger_InUse => kit_is); (case kx_BadInteger_Stale => kit_is)
    (case kx_BadInteger_Busy => kit_is); (case kx_BadInteger_NothingLeft => kit_is); (case kx_BadGoal_BadName => kit_is); (case kx_BadGoal_BadRule => kit_is); (case kx_BadGoal_BadText => kit_is); (case kx_BadGoal_BadForm => kit_is)
    (case kx_BadGoal_BadPattern => kit_is); (case kx_BadGoal_BadFact => kit_is); (case kx_BadGoal_BadLevel => kit_is); (case kx_BadGoal_BadInteger => kit_is); (case kx_BadGoal_BadGoal => kit_is); (case kx_BadGoal_BadCommand => kit_is)
    (case kx_BadGoal_UnknownName => kit_is); (case kx_BadGoal_NoKey => kit_is); (case kx_BadGoal_NoBase => kit_is); (case kx_BadGoal_NoPlace => kit_is); (case kx_BadGoal_TooMany => kit_is); (case kx_BadGoal_Taken => kit_is)
    (case kx_BadGoal_InUse => kit_is); (case kx_BadGoal_Stale => kit_is); (case kx_BadGoal_Busy => kit_is); (case kx_BadGoal_NothingLeft => kit_is); (case kx_BadCommand_BadName => kit_is); (case kx_BadCommand_BadRule => kit_is)
    (case kx_BadCommand_BadText => kit_is); (case kx_BadCommand_BadForm => kit_is); (case kx_BadCommand_BadPattern => kit_is); (case kx_BadCommand_BadFact => kit_is); (case kx_BadCommand_BadLevel => kit_is); (case kx_BadCommand_BadInteger => kit_is)
    (case kx_BadCommand_BadGoal => kit_is); (case kx_BadCommand_BadCommand => kit_is); (case kx_BadCommand_UnknownName => kit_is); (case kx_BadCommand_NoKey => kit_is); (case kx_BadCommand_NoBase => kit_is); (case kx_BadCommand_NoPlace => kit_is)
    (case kx_BadCommand_TooMany => kit_is); (case kx_BadCommand_Taken => kit_is); (case kx_BadCommand_InUse => kit_is); (case kx_BadCommand_Stale => kit_is); (case kx_BadCommand_Busy => kit_is); (case kx_BadCommand_NothingLeft => kit_is)
    (case kx_UnknownName_BadName => kit_is); (case kx_UnknownName_BadRule => kit_is); (case kx_UnknownName_BadText => kit_is); (case kx_UnknownName_BadForm => kit_is); (case kx_UnknownName_BadPattern => kit_is); (case kx_UnknownName_BadFact => kit_is)
    (case kx_UnknownName_BadLevel => kit_is); (case kx_UnknownName_BadInteger => kit_is); (case kx_UnknownName_BadGoal => kit_is); (case kx_UnknownName_BadCommand => kit_is); (case kx_UnknownName_UnknownName => kit_is); (case kx_UnknownName_NoKey => kit_is)
    (case kx_UnknownName_NoBase => kit_is); (case kx_UnknownName_NoPlace => kit_is); (case kx_UnknownName_TooMany => kit_is); (case kx_UnknownName_Taken => kit_is); (case kx_UnknownName_InUse => kit_is); (case kx_UnknownName_Stale => kit_is)
    (case kx_UnknownName_Busy => kit_is); (case kx_UnknownName_NothingLeft => kit_is); (case kx_NoKey_BadName => kit_is); (case kx_NoKey_BadRule => kit_is); (case kx_NoKey_BadText => kit_is); (case kx_NoKey_BadForm => kit_is)
    (case kx_NoKey_BadPattern => kit_is); (case kx_NoKey_BadFact => kit_is); (case kx_NoKey_BadLevel => kit_is); (case kx_NoKey_BadInteger => kit_is); (case kx_NoKey_BadGoal => kit_is); (case kx_NoKey_BadCommand => kit_is)
    (case kx_NoKey_UnknownName => kit_is); (case kx_NoKey_NoKey => kit_is); (case kx_NoKey_NoBase => kit_is); (case kx_NoKey_NoPlace => kit_is); (case kx_NoKey_TooMany => kit_is); (case kx_NoKey_Taken => kit_is)
    (case kx_NoKey_InUse => kit_is); (case kx_NoKey_Stale => kit_is); (case kx_NoKey_Busy => kit_is); (case kx_NoKey_NothingLeft => kit_is); (case kx_NoBase_BadName => kit_is); (case kx_NoBase_BadRule => kit_is)
    (case kx_NoBase_BadText => kit_is); (case kx_NoBase_BadForm => kit_is); (case kx_NoBase_BadPattern => kit_is); (case kx_NoBase_BadFact => kit_is); (case kx_NoBase_BadLevel => kit_is); (case kx_NoBase_BadInteger => kit_is)
    (case kx_NoBase_BadGoal => kit_is); (case kx_NoBase_BadCommand => kit_is); (case kx_NoBase_UnknownName => kit_is); (case kx_NoBase_NoKey => kit_is); (case kx_NoBase_NoBase => kit_is); (case kx_NoBase_NoPlace => kit_is)
    (case kx_NoBase_TooMany => kit_is); (case kx_NoBase_Taken => kit_is); (case kx_NoBase_InUse => kit_is); (case kx_NoBase_Stale => kit_is); (case kx_NoBase_Busy => kit_is); (case kx_NoBase_NothingLeft => kit_is)
    (case kx_NoPlace_BadName => kit_is); (case kx_NoPlace_BadRule => kit_is); (case kx_NoPlace_BadText => kit_is); (case kx_NoPlace_BadForm => kit_is); (case kx_NoPlace_BadPattern => kit_is); (case kx_NoPlace_BadFact => kit_is)
    (case kx_NoPlace_BadLevel => kit_is); (case kx_NoPlace_BadInteger => kit_is); (case kx_NoPlace_BadGoal => kit_is); (case kx_NoPlace_BadCommand => kit_is); (case kx_NoPlace_UnknownName => kit_is); (case kx_NoPlace_NoKey => kit_is)
    (case kx_NoPlace_NoBase => kit_is); (case kx_NoPlace_NoPlace => kit_is); (case kx_NoPlace_TooMany => kit_is); (case kx_NoPlace_Taken => kit_is); (case kx_NoPlace_InUse => kit_is); (case kx_NoPlace_Stale => kit_is)
    (case kx_NoPlace_Busy => kit_is); (case kx_NoPlace_NothingLeft => kit_is); (case kx_TooMany_BadName => kit_is); (case kx_TooMany_BadRule => kit_is); (case kx_TooMany_BadText => kit_is); (case kx_TooMany_BadForm => kit_is)
    (case kx_TooMany_BadPattern => kit_is); (case kx_TooMany_BadFact => kit_is); (case kx_TooMany_BadLevel => kit_is); (case kx_TooMany_BadInteger => kit_is); (case kx_TooMany_BadGoal => kit_is); (case kx_TooMany_BadCommand => kit_is)
    (case kx_TooMany_UnknownName => kit_is); (case kx_TooMany_NoKey => kit_is); (case kx_TooMany_NoBase => kit_is); (case kx_TooMany_NoPlace => kit_is); (case kx_TooMany_TooMany => kit_is); (case kx_TooMany_Taken => kit_is)
    (case kx_TooMany_InUse => kit_is); (case kx_TooMany_Stale => kit_is); (case kx_TooMany_Busy => kit_is); (case kx_TooMany_NothingLeft => kit_is); (case kx_Taken_BadName => kit_is); (case kx_Taken_BadRule => kit_is)
    (case kx_Taken_BadText => kit_is); (case kx_Taken_BadForm => kit_is); (case kx_Taken_BadPattern => kit_is); (case kx_Taken_BadFact => kit_is); (case kx_Taken_BadLevel => kit_is); (case kx_Taken_BadInteger => kit_is)
    (case kx_Taken_BadGoal => kit_is); (case kx_Taken_BadCommand => kit_is); (case kx_Taken_UnknownName => kit_is); (case kx_Taken_NoKey => kit_is); (case kx_Taken_NoBase => kit_is); (case kx_Taken_NoPlace => kit_is)
    (case kx_Taken_TooMany => kit_is); (case kx_Taken_Taken => kit_is); (case kx_Taken_InUse => kit_is); (case kx_Taken_Stale => kit_is); (case kx_Taken_Busy => kit_is); (case kx_Taken_NothingLeft => kit_is)
    (case kx_InUse_BadName => kit_is); (case kx_InUse_BadRule => kit_is); (case kx_InUse_BadText => kit_is); (case kx_InUse_BadForm => kit_is); (case kx_InUse_BadPattern => kit_is); (case kx_InUse_BadFact => kit_is)
    (case kx_InUse_BadLevel => kit_is); (case kx_InUse_BadInteger => kit_is); (case kx_InUse_BadGoal => kit_is); (case kx_InUse_BadCommand => kit_is); (case kx_InUse_UnknownName => kit_is); (case kx_InUse_NoKey => kit_is)
    (case kx_InUse_NoBase => kit_is); (case kx_InUse_NoPlace => kit_is); (case kx_InUse_TooMany => kit_is); (case kx_InUse_Taken => kit_is); (case kx_InUse_InUse => kit_is); (case kx_InUse_Stale => kit_is)
    (case kx_InUse_Busy => kit_is); (case kx_InUse_NothingLeft => kit_is); (case kx_Stale_BadName => kit_is); (case kx_Stale_BadRule => kit_is); (case kx_Stale_BadText => kit_is); (case kx_Stale_BadForm => kit_is)
    (case kx_Stale_BadPattern => kit_is); (case kx_Stale_BadFact => kit_is); (case kx_Stale_BadLevel => kit_is); (case kx_Stale_BadInteger => kit_is); (case kx_Stale_BadGoal => kit_is); (case kx_Stale_BadCommand => kit_is)
    (case kx_Stale_UnknownName => kit_is); (case kx_Stale_NoKey => kit_is); (case kx_Stale_NoBase => kit_is); (case kx_Stale_NoPlace => kit_is); (case kx_Stale_TooMany => kit_is); (case kx_Stale_Taken => kit_is)
    (case kx_Stale_InUse => kit_is); (case kx_Stale_Stale => kit_is); (case kx_Stale_Busy => kit_is); (case kx_Stale_NothingLeft => kit_is); (case kx_Busy_BadName => kit_is); (case kx_Busy_BadRule => kit_is)
    (case kx_Busy_BadText => kit_is); (case kx_Busy_BadForm => kit_is); (case kx_Busy_BadPattern => kit_is); (case kx_Busy_BadFact => kit_is); (case kx_Busy_BadLevel => kit_is); (case kx_Busy_BadInteger => kit_is)
    (case kx_Busy_BadGoal => kit_is); (case kx_Busy_BadCommand => kit_is); (case kx_Busy_UnknownName => kit_is); (case kx_Busy_NoKey => kit_is); (case kx_Busy_NoBase => kit_is); (case kx_Busy_NoPlace => kit_is)
    (case kx_Busy_TooMany => kit_is); (case kx_Busy_Taken => kit_is); (case kx_Busy_InUse => kit_is); (case kx_Busy_Stale => kit_is); (case kx_Busy_Busy => kit_is); (case kx_Busy_NothingLeft => kit_is)
    (case kx_NothingLeft_BadName => kit_is); (case kx_NothingLeft_BadRule => kit_is); (case kx_NothingLeft_BadText => kit_is); (case kx_NothingLeft_BadForm => kit_is); (case kx_NothingLeft_BadPattern => kit_is); (case kx_NothingLeft_BadFact => kit_is)
    (case kx_NothingLeft_BadLevel => kit_is); (case kx_NothingLeft_BadInteger => kit_is); (case kx_NothingLeft_BadGoal => kit_is); (case kx_NothingLeft_BadCommand => kit_is); (case kx_NothingLeft_UnknownName => kit_is); (case kx_NothingLeft_NoKey => kit_is)
    (case kx_NothingLeft_NoBase => kit_is); (case kx_NothingLeft_NoPlace => kit_is); (case kx_NothingLeft_TooMany => kit_is); (case kx_NothingLeft_Taken => kit_is); (case kx_NothingLeft_InUse => kit_is); (case kx_NothingLeft_Stale => kit_is)
    (case kx_NothingLeft_Busy => kit_is); (case kx_NothingLeft_NothingLeft => kit_is); (case kx_BadName_ValueError => kit_is); (case kx_BadName_KeyError => kit_is); (case kx_BadName_LookupError => kit_is); (case kx_BadName_IndexError => kit_is)
    (case kx_BadName_OverflowError => kit_is); (case kx_BadName_ArithmeticError => kit_is); (case kx_BadName_RuntimeError => kit_is); (case kx_BadName_NotImplementedError => kit_is); (case kx_BadRule_ValueError => kit_is); (case kx_BadRule_KeyError => kit_is)
    (case kx_BadRule_LookupError => kit_is); (case kx_BadRule_IndexError => kit_is); (case kx_BadRule_OverflowError => kit_is); (case kx_BadRule_ArithmeticError => kit_is); (case kx_BadRule_RuntimeError => kit_is); (case kx_BadRule_NotImplementedError => kit_is)
    (case kx_BadText_ValueError => kit_is); (case kx_BadText_KeyError => kit_is); (case kx_BadText_LookupError => kit_is); (case kx_BadText_IndexError => kit_is); (case kx_BadText_OverflowError => kit_is); (case kx_BadText_ArithmeticError => kit_is)
    (case kx_BadText_RuntimeError => kit_is); (case kx_BadText_NotImplementedError => kit_is); (case kx_BadForm_ValueError => kit_is); (case kx_BadForm_KeyError => kit_is); (case kx_BadForm_LookupError => kit_is); (case kx_BadForm_IndexError => kit_is)
    (case kx_BadForm_OverflowError => kit_is); (case kx_BadForm_ArithmeticError => kit_is); (case kx_BadForm_RuntimeError => kit_is); (case kx_BadForm_NotImplementedError => kit_is); (case kx_BadPattern_ValueError => kit_is); (case kx_BadPattern_KeyError => kit_is)
    (case kx_BadPattern_LookupError => kit_is); (case kx_BadPattern_IndexError => kit_is); (case kx_BadPattern_OverflowError => kit_is); (case kx_BadPattern_ArithmeticError => kit_is); (case kx_BadPattern_RuntimeError => kit_is); (case kx_BadPattern_NotImplementedError => kit_is)
    (case kx_BadFact_ValueError => kit_is); (case kx_BadFact_KeyError => kit_is); (case kx_BadFact_LookupError => kit_is); (case kx_BadFact_IndexError => kit_is); (case kx_BadFact_OverflowError => kit_is); (case kx_BadFact_ArithmeticError => kit_is)
    (case kx_BadFact_RuntimeError => kit_is); (case kx_BadFact_NotImplementedError => kit_is); (case kx_BadLevel_ValueError => kit_is); (case kx_BadLevel_KeyError => kit_is); (case kx_BadLevel_LookupError => kit_is); (case kx_BadLevel_IndexError => kit_is)
    (case kx_BadLevel_OverflowError => kit_is); (case kx_BadLevel_ArithmeticError => kit_is); (case kx_BadLevel_RuntimeError => kit_is); (case kx_BadLevel_NotImplementedError => kit_is); (case kx_BadInteger_ValueError => kit_is); (case kx_BadInteger_KeyError => kit_is)
    (case kx_BadInteger_LookupError => kit_is); (case kx_BadInteger_IndexError => kit_is); (case kx_BadInteger_OverflowError => kit_is); (case kx_BadInteger_ArithmeticError => kit_is); (case kx_BadInteger_RuntimeError => kit_is); (case kx_BadInteger_NotImplementedError => kit_is)
    (case kx_BadGoal_ValueError => kit_is); (case kx_BadGoal_KeyError => kit_is); (case kx_BadGoal_LookupError => kit_is); (case kx_BadGoal_IndexError => kit_is); (case kx_BadGoal_OverflowError => kit_is); (case kx_BadGoal_ArithmeticError => kit_is)
    (case kx_BadGoal_RuntimeError => kit_is); (case kx_BadGoal_NotImplementedError => kit_is); (case kx_BadCommand_ValueError => kit_is); (case kx_BadCommand_KeyError => kit_is); (case kx_BadCommand_LookupError => kit_is); (case kx_BadCommand_IndexError => kit_is)
    (case kx_BadCommand_OverflowError => kit_is); (case kx_BadCommand_ArithmeticError => kit_is); (case kx_BadCommand_RuntimeError => kit_is); (case kx_BadCommand_NotImplementedError => kit_is); (case kx_UnknownName_ValueError => kit_is); (case kx_UnknownName_KeyError => kit_is)
    (case kx_UnknownName_LookupError => kit_is); (case kx_UnknownName_IndexError => kit_is); (case kx_UnknownName_OverflowError => kit_is); (case kx_UnknownName_ArithmeticError => kit_is); (case kx_UnknownName_RuntimeError => kit_is); (case kx_UnknownName_NotImplementedError => kit_is)
    (case kx_NoKey_ValueError => kit_is); (case kx_NoKey_KeyError => kit_is); (case kx_NoKey_LookupError => kit_is); (case kx_NoKey_IndexError => kit_is); (case kx_NoKey_OverflowError => kit_is); (case kx_NoKey_ArithmeticError => kit_is)
    (case kx_NoKey_RuntimeError => kit_is); (case kx_NoKey_NotImplementedError => kit_is); (case kx_NoBase_ValueError => kit_is); (case kx_NoBase_KeyError => kit_is); (case kx_NoBase_LookupError => kit_is); (case kx_NoBase_IndexError => kit_is)
    (case kx_NoBase_OverflowError => kit_is); (case kx_NoBase_ArithmeticError => kit_is); (case kx_NoBase_RuntimeError => kit_is); (case kx_NoBase_NotImplementedError => kit_is); (case kx_NoPlace_ValueError => kit_is); (case kx_NoPlace_KeyError => kit_is)
    (case kx_NoPlace_LookupError => kit_is); (case kx_NoPlace_IndexError => kit_is); (case kx_NoPlace_OverflowError => kit_is); (case kx_NoPlace_ArithmeticError => kit_is); (case kx_NoPlace_RuntimeError => kit_is); (case kx_NoPlace_NotImplementedError => kit_is)
    (case kx_TooMany_ValueError => kit_is); (case kx_TooMany_KeyError => kit_is); (case kx_TooMany_LookupError => kit_is); (case kx_TooMany_IndexError => kit_is); (case kx_TooMany_OverflowError => kit_is); (case kx_TooMany_ArithmeticError => kit_is)
    (case kx_TooMany_RuntimeError => kit_is); (case kx_TooMany_NotImplementedError => kit_is); (case kx_Taken_ValueError => kit_is); (case kx_Taken_KeyError => kit_is); (case kx_Taken_LookupError => kit_is); (case kx_Taken_IndexError => kit_is)
    (case kx_Taken_OverflowError => kit_is); (case kx_Taken_ArithmeticError => kit_is); (case kx_Taken_RuntimeError => kit_is); (case kx_Taken_NotImplementedError => kit_is); (case kx_InUse_ValueError => kit_is); (case kx_InUse_KeyError => kit_is)
    (case kx_InUse_LookupError => kit_is); (case kx_InUse_IndexError => kit_is); (case kx_InUse_OverflowError => kit_is); (case kx_InUse_ArithmeticError => kit_is); (case kx_InUse_RuntimeError => kit_is); (case kx_InUse_NotImplementedError => kit_is)
    (case kx_Stale_ValueError => kit_is); (case kx_Stale_KeyError => kit_is); (case kx_Stale_LookupError => kit_is); (case kx_Stale_IndexError => kit_is); (case kx_Stale_OverflowError => kit_is); (case kx_Stale_ArithmeticError => kit_is)
    (case kx_Stale_RuntimeError => kit_is); (case kx_Stale_NotImplementedError => kit_is); (case kx_Busy_ValueError => kit_is); (case kx_Busy_KeyError => kit_is); (case kx_Busy_LookupError => kit_is); (case kx_Busy_IndexError => kit_is)
    (case kx_Busy_OverflowError => kit_is); (case kx_Busy_ArithmeticError => kit_is); (case kx_Busy_RuntimeError => kit_is); (case kx_Busy_NotImplementedError => kit_is); (case kx_NothingLeft_ValueError => kit_is); (case kx_NothingLeft_KeyError => kit_is)
    (case kx_NothingLeft_LookupError => kit_is); (case kx_NothingLeft_IndexError => kit_is); (case kx_NothingLeft_OverflowError => kit_is); (case kx_NothingLeft_ArithmeticError => kit_is); (case kx_NothingLeft_RuntimeError => kit_is); (case kx_NothingLeft_NotImplementedError => kit_is)
    (case a_BadName_init => k_is); (case i_BadName_init => k_is); (case l_BadName_init => k_is); (case c_BadName_init => k_is); (case k_BadName_init => k_is); (case ti_BadName_init => k_is)
    (case a_BadRule_init => k_is); (case i_BadRule_init => k_is); (case l_BadRule_init => k_is); (case c_BadRule_init => k_is); (case k_BadRule_init => k_is); (case ti_BadRule_init => k_is)
    (case a_BadText_init => k_is); (case i_BadText_init => k_is); (case l_BadText_init => k_is); (case c_BadText_init => k_is); (case k_BadText_init => k_is); (case ti_BadText_init => k_is)
    (case a_BadForm_init => k_is); (case i_BadForm_init => k_is); (case l_BadForm_init => k_is); (case c_BadForm_init => k_is); (case k_BadForm_init => k_is); (case ti_BadForm_init => k_is)
    (case a_BadPattern_init => k_is); (case i_BadPattern_init => k_is); (case l_BadPattern_init => k_is); (case c_BadPattern_init => k_is); (case k_BadPattern_init => k_is); (case ti_BadPattern_init => k_is)
    (case a_BadFact_init => k_is); (case i_BadFact_init => k_is); (case l_BadFact_init => k_is); (case c_BadFact_init => k_is); (case k_BadFact_init => k_is); (case ti_BadFact_init => k_is)
    (case a_BadLevel_init => k_is); (case i_BadLevel_init => k_is); (case l_BadLevel_init => k_is); (case c_BadLevel_init => k_is); (case k_BadLevel_init => k_is); (case ti_BadLevel_init => k_is)
    (case a_BadInteger_init => k_is); (case i_BadInteger_init => k_is); (case l_BadInteger_init => k_is); (case c_BadInteger_init => k_is); (case k_BadInteger_init => k_is); (case ti_BadInteger_init => k_is)
    (case a_BadGoal_init => k_is); (case i_BadGoal_init => k_is); (case l_BadGoal_init => k_is); (case c_BadGoal_init => k_is); (case k_BadGoal_init => k_is); (case ti_BadGoal_init => k_is)
    (case a_BadCommand_init => k_is); (case i_BadCommand_init => k_is); (case l_BadCommand_init => k_is); (case c_BadCommand_init => k_is); (case k_BadCommand_init => k_is); (case ti_BadCommand_init => k_is)
    (case a_UnknownName_init => k_is); (case i_UnknownName_init => k_is); (case l_UnknownName_init => k_is); (case c_UnknownName_init => k_is); (case k_UnknownName_init => k_is); (case ti_UnknownName_init => k_is)
    (case a_NoKey_init => k_is); (case i_NoKey_init => k_is); (case l_NoKey_init => k_is); (case c_NoKey_init => k_is); (case k_NoKey_init => k_is); (case ti_NoKey_init => k_is)
    (case a_NoBase_init => k_is); (case i_NoBase_init => k_is); (case l_NoBase_init => k_is); (case c_NoBase_init => k_is); (case k_NoBase_init => k_is); (case ti_NoBase_init => k_is)
    (case a_NoPlace_init => k_is); (case i_NoPlace_init => k_is); (case l_NoPlace_init => k_is); (case c_NoPlace_init => k_is); (case k_NoPlace_init => k_is); (case ti_NoPlace_init => k_is)
    (case a_TooMany_init => k_is); (case i_TooMany_init => k_is); (case l_TooMany_init => k_is); (case c_TooMany_init => k_is); (case k_TooMany_init => k_is); (case ti_TooMany_init => k_is)
    (case a_Taken_init => k_is); (case i_Taken_init => k_is); (case l_Taken_init => k_is); (case c_Taken_init => k_is); (case k_Taken_init => k_is); (case ti_Taken_init => k_is)
    (case a_InUse_init => k_is); (case i_InUse_init => k_is); (case l_InUse_init => k_is); (case c_InUse_init => k_is); (case k_InUse_init => k_is); (case ti_InUse_init => k_is)
    (case a_Stale_init => k_is); (case i_Stale_init => k_is); (case l_Stale_init => k_is); (case c_Stale_init => k_is); (case k_Stale_init => k_is); (case ti_Stale_init => k_is)
    (case a_Busy_init => k_is); (case i_Busy_init => k_is); (case l_Busy_init => k_is); (case c_Busy_init => k_is); (case k_Busy_init => k_is); (case ti_Busy_init => k_is)
    (case a_NothingLeft_init => k_is); (case i_NothingLeft_init => k_is); (case l_NothingLeft_init => k_is); (case c_NothingLeft_init => k_is); (case k_NothingLeft_init => k_is); (case ti_NothingLeft_init => k_is)
    (case a_law_bag => k_is); (case l_law_bag => k_is); (case c_law_bag => k_is); (case k_law_bag => k_is); (case a_law_take => k_is); (case l_law_take => k_is)
    (case c_law_take => k_is); (case k_law_take => k_is); (case a_law_thing => k_is); (case l_law_thing => k_is); (case c_law_thing => k_is); (case k_law_thing => k_is)
    (case a_law_by_position => k_is); (case l_law_by_position => k_is); (case c_law_by_position => k_is); (case k_law_by_position => k_is); (case a_law_by_parameters => k_is); (case l_law_by_parameters => k_is)
    (case c_law_by_parameters => k_is); (case k_law_by_parameters => k_is); (case a_law_fields => k_is); (case l_law_fields => k_is); (case c_law_fields => k_is); (case k_law_fields => k_is)
    (case a_law_kinds => k_is); (case l_law_kinds => k_is); (case c_law_kinds => k_is); (case k_law_kinds => k_is); (case a_law_above => k_is); (case l_law_above => k_is)
    (case c_law_above => k_is); (case k_law_above => k_is); (case a_law => k_is); (case l_law => k_is); (case c_law => k_is); (case k_law => k_is)
    (case z_ArithmeticError => k_is); (case z_IndexError => k_is); (case z_KeyError => k_is); (case z_LookupError => k_is); (case z_NotImplementedError => k_is); (case z_OverflowError => k_is)
    (case z_RuntimeError => k_is); (case z_ValueError => k_is); (case z_abs => k_is); (case z_enumerate => k_is); (case z_int => k_is); (case z_isinstance => k_is)
    (case z_len => k_is); (case z_max => k_is); (case z_min => k_is); (case z_range => k_is); (case z_repr => k_is)
#print axioms PySem.Challenge.cw_dictorders_k89_exceptions_made_by_hand_holds
