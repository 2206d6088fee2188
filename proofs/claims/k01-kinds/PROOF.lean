import PyProof.Rows.All
import Wide.All
import OpenK.AllK
import Wide.FinOn
import HandS.ForMost
import HandS.More
import HandS.IsInst
import HandS.Walk
import HandS.Zip
import HandS.CallLocal
import HandS.Flow
import HandS.Codes
import HandS.NoneIn
import PySem.Challenge.RW_tornwrite_k01_kinds_of_values
set_option Elab.async false
set_option linter.all false
set_option maxRecDepth 100000
set_option maxHeartbeats 4000000
/-! Tw: what the laws of tornwrite share: defs that write texts of values (repr), data in the abstract heap, a law's reader of its script. -/
namespace Tw
open PySem PySem.Spec PyProof.Rows L2

/-! ### a def that runs where nothing is being written out (no guard stands); no exception leaves it -/
structure FnG (P : Program) (w : World) (K : PySem.W.Frag) (mg : Str → Option Value) (base : Heap)
    (k : Nat) (f : Addr) (fd : FuncData) (ps : List Str) (sp : Sp) : Prop where
  len : ∀ vs H Q E, sp vs H Q E → vs.length = ps.length
  go : ∀ (A : Around) (outer : List Env) (s : Shared) (H : Hp) (args : Args) (us : List Value) (vs : List V) (Q : VK),
    A.guards = some [] → Room k A → Env0 P w K mg base A outer s H → BindsTo s fd args (ps.zip us) → Vals vs us →
    sp vs H Q E0 → codeAny (model P w) A (.call (.ref f) args) (CR CX0 outer P w H s Q E0) s

section
variable {P : Program} {w : World} {K : PySem.W.Frag} {mg : Str → Option Value} {base : Heap}
theorem fnG {x qual : Str} {st : Stmt} {f : Addr} {fd : FuncData} {N ps : List Str} {k : Nat} {sp : Sp}
    (F : Fun K x qual st f fd) (S : FnScope N ps (defScope st)) (len : ∀ vs H Q E, sp vs H Q E → vs.length = ps.length)
    (hbody : ∀ (cdv : Value) (A : Around) (outer : List Env) (s : Shared) (H : Hp) (vs : List V) (Q : VK),
      (A.deeper (envOfC qual (defScope st) s.heap.objs.size f cdv)).guards = some [] →
      Room k (A.deeper (envOfC qual (defScope st) s.heap.objs.size f cdv)) → sp vs H Q E0 →
      ∃ t, PSs (cxOf CX0 P w K mg base N qual (defScope st) f cdv A outer s H E0).nox (defBody st) t ∧
        t { nx := fun _ H' => Q .non H', rt := Q } (start N vs) H) : FnG P w K mg base (k + 1) f fd ps sp := by
  obtain ⟨oc, od, kV, doc, pm, an, cdv, ct, osl, rfl, lk, hcd⟩ := F.ex
  refine ⟨len, fun A outer s H args us vs Q hgd hr e0 hb r hsp => ?_⟩
  have KX : K.In s.heap := e0.mod.kin.keeps fun b o e => (e0.bs b o e).1
  have hl := len _ _ _ _ hsp
  have hkind : ∀ y ∈ ps.zip us, (defScope st).names.lookup y.1 = some .local ∨
      ((defScope st).names.lookup y.1 = some .cell ∧ ((cellsFrom (s.heap.objs.size + 1) (defScope st).names []).lookup y.1).isSome = true) := by
    rintro ⟨n, v⟩ hy
    rcases S.par n (List.of_mem_zip hy).1 with q | q
    · exact Or.inl q
    · exact Or.inr ⟨q, PySem.W.cellsFrom_some _ _ _ (Or.inl q)⟩
  refine codeAny_call_function hr.depth (KX _ _ lk) rfl S.co S.gen rfl (PySem.W.codeRec_of KX hcd) (hb _ _ _ _ ?_)
  refine wpAny_newFunctionEnv_cells S.kind hkind fun env he s1 x => ?_
  subst he
  refine ⟨(e0.mod.nolimit.keeps fun b o e => (e0.bs b o e).1).keeps x.toInCall.keep, codeAny_func ?_⟩
  obtain ⟨t, ht, hq⟩ := hbody cdv A outer s H vs Q (by first | exact hgd | simpa using hgd) (hr.deeper _) hsp
  have I : Inv (cxOf CX0 P w K mg base N qual (defScope st) f cdv A outer s H E0) [] (start N vs) H s1 := inv_start S hr.hd e0 hl r x
  refine wpAny_mono (ht.nox.run [] s1 (start N vs) H _ I hq) (fun fl s' hs => ?_) fun e s' hs => hs
  cases fl with
  | ret u =>
    obtain ⟨v, σ', H', J, rv, q⟩ := hs
    exact ⟨v, H', J.os, J.bare, J.base, J.hok, rv, q⟩
  | next =>
    obtain ⟨σ', H', J, q⟩ := hs
    exact ⟨V.non, H', J.os, J.bare, J.base, J.hok, rfl, q⟩
  | brk => exact False.elim hs.choose_spec.choose_spec.2
  | cont => exact False.elim hs.choose_spec.choose_spec.2
end
end Tw

set_option Elab.async false
set_option linter.all false
set_option maxRecDepth 100000
set_option maxHeartbeats 4000000
namespace Tw
open PySem PySem.Spec PyProof.Rows L2

/-! ### the law's own call, at the head's end -/
section
variable {P : Program} {w : World} {K : PySem.W.Frag} {mg mb : Str → Option Value} {k : Nat} {fa a : Addr} {fd : FuncData} {x : Str} {sp : Sp}
theorem law_runs {s1 : Shared} {H : Hp} {us : List Value} {ns : List Int} (KX : K.In s1.heap) (hns : s1.heap.Ns mainGlobals mg)
    (hb : s1.heap.Ns builtinsNs mb) (hbb : ∀ y : Str, y ≠ "__name__" → mb y = bootBuiltins y) (hlim : s1.heap.NoLimit) (hg : s1.gens = #[])
    (ha : s1.heap.get? a = some { cls := .type "list", data := .seq us.toArray }) (hr : Room k callerA)
    (F : ∀ base : Heap, K.In base → base.Ns mainGlobals mg → FnG P w K mg base k fa fd [x] sp)
    (hbind : ∀ (s : Shared) (u : Value), BindsTo s fd ⟨[u], []⟩ [(x, u)])
    (hO : Only H) (hok : HOk P w H s1.heap) (hA : ∀ b, H b ≠ none → b = a) (hK : H a ≠ none → K.lookup a = none)
    (hs : sp [.ref a] H (fun v _ => v = .bl true) E0) :
    codeAny (model P w) callerA (.call (.ref fa) ⟨[.ref a], []⟩)
      (fun r s' => r = .ok (.ret (.bool true)) ∧ OldK s1.heap s'.heap ∧ s'.os = s1.os ∧ AllBare s'.gens) s1 := by
  have dictFree : ∀ {b : Addr} {o : Obj} {es : Array DictEntry} {ep : Nat}, s1.heap.get? b = some o → o.data = .dict es ep → H b = none := by
    intro b o es ep e d
    by_cases q : H b = none
    · exact q
    · have e' := hA b q
      subst e'
      rw [ha] at e
      cases e
      cases (show Data.seq us.toArray _ = Data.dict es ep from d)
  have nsK : ∀ {b : Addr} {m : Str → Option Value}, s1.heap.Ns b m → (hidT s1.heap H).Ns b m := by
    rintro b m ⟨o, es, ep, e, d, r⟩
    exact ⟨o, es, ep, hidT_get e (dictFree e d), d, r⟩
  have hKb : K.In (hidT s1.heap H) := by
    intro b o e
    refine hidT_get (KX b o e) ?_
    by_cases q : H b = none
    · exact q
    · have e' := hA b q
      subst e'
      rw [hK q] at e
      cases e
  have hM : Mod K mg (hidT s1.heap H) := by
    obtain ⟨mc, h1, h2⟩ := hlim
    exact ⟨hKb, nsK hns, ⟨mb, nsK hb, hbb⟩, ⟨mc, nsK h1, h2⟩⟩
  have none0 : ∀ b : Addr, b ∉ frs [] := fun b z => absurd (show b ∈ ([] : List Addr) from z) (by simp)
  have e0 : Env0 P w K mg (hidT s1.heap H) callerA [] s1 H :=
    ⟨rfl, hM, fun b o e => of_hidT e, Nat.le_of_eq (hidT_size _ _), trivial, fun b z => absurd z (none0 b), hok, .of_eq hg⟩
  refine codeAny_mono ((F _ hKb (nsK hns)).go callerA [] s1 H ⟨[.ref a], []⟩ [.ref a] [.ref a] _ rfl hr e0 (hbind s1 (.ref a)) (.cons rfl .nil) hs) ?_
  intro r s' h
  match r, h with
  | .error e, h => exact False.elim h
  | .ok .next, h => exact False.elim h
  | .ok .brk, h => exact False.elim h
  | .ok .cont, h => exact False.elim h
  | .ok (.ret u), h =>
    obtain ⟨v, H', os, bare, un, hok', r', q⟩ := h
    have q' : v = .bl true := q
    subst q'
    obtain rfl : u = Value.bool true := r'
    refine ⟨rfl, OldK.of_keep fun b o e => ?_, os, bare⟩
    rcases hO b with z | ⟨ob, xs, z⟩
    · exact un.keep b o e z (none0 b) (by simp)
    · have z1 := (hok b _ z).1
      have z2 := (hok' b _ (un.frzs b ob _ z)).1
      rw [e] at z1
      cases z1
      exact z2

theorem law_callG {s1 : Shared} {us : List Value} {ns : List Int} (KX : K.In s1.heap) (hns : s1.heap.Ns mainGlobals mg)
    (hb : s1.heap.Ns builtinsNs mb) (hbb : ∀ y : Str, y ≠ "__name__" → mb y = bootBuiltins y) (hlim : s1.heap.NoLimit) (hg : s1.gens = #[])
    (ha : s1.heap.get? a = some { cls := .type "list", data := .seq us.toArray }) (hi : IntsAre us ns) (hl : ns.length ≤ sizeLine) (hr : Room k callerA)
    (F : ∀ base : Heap, K.In base → base.Ns mainGlobals mg → FnG P w K mg base k fa fd [x] sp)
    (hbind : ∀ (s : Shared) (u : Value), BindsTo s fd ⟨[u], []⟩ [(x, u)])
    (hs : ∀ H : Hp, Only H → SqL K H a (ns.map V.int) → sp [.ref a] H (fun v _ => v = .bl true) E0) :
    codeAny (model P w) callerA (.call (.ref fa) ⟨[.ref a], []⟩)
      (fun r s' => r = .ok (.ret (.bool true)) ∧ OldK s1.heap s'.heap ∧ s'.os = s1.os ∧ AllBare s'.gens) s1 := by
  have rv := vals_ints hi
  have lv := hi.length
  by_cases hk : K.lookup a = none
  · let fz : HO := .frz { cls := .type "list", data := .seq us.toArray } (.lst (ns.map V.int))
    let H : Hp := fun b => if b = a then some fz else none
    have Ha : H a = some fz := if_pos rfl
    have Hn : ∀ {b}, b ≠ a → H b = none := fun hb => if_neg hb
    have hO : Only H := by
      intro b
      by_cases e : b = a
      · exact Or.inr ⟨_, _, (if_pos e : H b = some fz)⟩
      · exact Or.inl (Hn e)
    have hok : HOk P w H s1.heap := by
      intro b u z
      by_cases e : b = a
      · subst e
        rw [Ha] at z
        cases z
        exact ⟨ha, by rw [List.length_map]; exact hl, us, _, rv, ha⟩
      · rw [Hn e] at z
        cases z
    refine law_runs (ns := ns) KX hns hb hbb hlim hg ha hr F hbind hO hok (fun b z => ?_) (fun _ => hk) (hs H hO (Or.inl (Or.inr ⟨_, Ha⟩)))
    by_cases e : b = a
    · exact e
    · exact absurd (Hn e) z
  · obtain ⟨o, ho⟩ : ∃ o, K.lookup a = some o := by
      cases q : K.lookup a with
      | none => exact absurd q hk
      | some o => exact ⟨o, rfl⟩
    have e := KX a o ho
    rw [ha] at e
    cases e
    have hO : Only (fun _ => none) := fun _ => Or.inl rfl
    refine law_runs (ns := ns) KX hns hb hbb hlim hg ha hr F hbind hO (fun b u z => nomatch z) (fun b z => absurd rfl z) (fun z => absurd rfl z) (hs _ hO (Or.inr ?_))
    exact ⟨_, us.toArray, _, ho, rfl, rfl, rfl, by rw [List.size_toArray, lv]; exact hl, by simpa using rv⟩
end

theorem walkG {l : PySem.W.OpenLaw} {n k : Nat} {q : Program} {loose : List Str} {XP : (Str → Option Value) → Heap → Prop} {YP : World → Heap → Prop}
    {d : DefRec} {K : Params → PySem.W.Frag} {sp : PySem.W.Frag → Sp} {x : Str}
    (hn : l.most = some n) (hn2 : n ≤ sizeLine) (hdf : d.params.defaults = []) (hr : Room k callerA)
    (hY : ∀ (w : World) (h : Heap), YP w h → (K w.params).In h)
    (F : ∀ (w : World) (mg : Str → Option Value) (fa : Addr) (h : Heap), (K w.params).In h → h.Ns mainGlobals mg → mg d.name = some (.ref fa) →
      ∃ fd : FuncData, (∀ (s : Shared) (u : Value), BindsTo s fd ⟨[u], []⟩ [(x, u)]) ∧
        ∀ base : Heap, (K w.params).In base → base.Ns mainGlobals mg → FnG l.prog w (K w.params) mg base k fa fd [x] (sp (K w.params)))
    (hsp : ∀ (K : PySem.W.Frag) (H : Hp) (a : Addr) (ns : List Int), ns.length ≤ n → Only H → SqL K H a (ns.map V.int) →
      sp K [.ref a] H (fun v _ => v = .bl true) E0) :
    PySem.W.WalkO q loose XP YP l.row.toRowW d [] (fun f vs => PySem.call f vs) := by
  refine Att.attach_call hn hdf fun w s₀ s₁ mg mb fa o pm cd doc a vs ns G Y ho hd hcd hmg hobj hints hlen hg => ?_
  obtain ⟨fd, hb, hF⟩ := F w mg fa _ (hY w _ Y) G.T.g hmg
  exact law_callG (hY w _ Y) G.T.g G.T.b G.T.builtins G.T.nolimit hg hobj hints (Nat.le_trans hlen hn2) hr hF hb
    fun H hO hS => hsp _ H a ns hlen hO hS

/-! ### calls of such defs -/
section
variable {X : Cx} {k : Nat} {f : Addr} {fd : FuncData} {ps : List Str} {sp : Sp} {x : Str} {p pos : Pos} {e : Expr} {es : List Expr} {t : TA}
theorem runG {pins : List (Addr × Obj)} {σ : L2.St} {H : Hp} {s : Shared} {Q : VK} {us : List Value} {vs : List V}
    (F : FnG X.prog X.w X.K X.mg X.base k f fd ps sp) (hgd : X.A.guards = some []) (hr : Room k X.A) (hb : Binds X.K fd ps [])
    (I : Inv X pins σ H s) (r : Vals vs us) (h : sp vs H Q E0) : wpAny (model X.prog X.w) X.A (call (.ref f) us) (EP X pins σ Q) X.xe s := by
  have hl : (us ++ []).length = ps.length := by
    rw [List.append_nil, ← r.length]
    exact F.len _ _ _ _ h
  have hb' := hb s us I.kIn hl
  rw [List.append_nil] at hb'
  refine wpAny_call (codeAny_mono (F.go X.A X.stack s H ⟨us, []⟩ us vs Q hgd hr I.env0 hb' r h) ?_)
  intro r s' hq
  match r, hq with
  | .error e, hq => exact False.elim hq
  | .ok .next, hq => exact False.elim hq
  | .ok .brk, hq => exact False.elim hq
  | .ok .cont, hq => exact False.elim hq
  | .ok (.ret u), hq => exact I.after hq
/-- f(e, ..) of such a def -/
theorem pe_callG (F : FnG X.prog X.w X.K X.mg X.base k f fd ps sp) (hgd : X.A.guards = some []) (hr : Room k X.A) (hg : Gl X x)
    (hm : X.mg x = some (.ref f)) (hk : PySem.W.keepIn X.K (.ref f) = true) (hb : Binds X.K fd ps []) (ha : PA X (e :: es) t)
    (hdb : (x == ("__debug__" : Str)) = false := by decide)
    (he : starEach (e :: es) X.env = (false, eval e X.env) :: starEach es X.env := by rfl)
    (hpl : (backTo pos (starEach es X.env)).any (·.1) = false := by rfl) :
    PE X (.Call (.Name x p) (e :: es) [] pos) (tCall sp [] E0 t) := by
  refine ⟨fun pins s σ H Q I h => ?_⟩
  refine wpAny_Call_Name_kw (ld_glob I hg hm ?_ hdb)
  refine PySem.W.callWith_K (h₀ := X.base) I.ok.mod.kin hk (thn (ha.run pos pins s σ H _ I h) ?_) he hpl
  rintro us s1 ⟨vs, H1, I1, r, q⟩
  have q' : sp vs H1 Q E0 := by
    have e : vs ++ [] = vs := List.append_nil vs
    rw [← e]
    exact q
  exact ⟨I1.kIn, runG F hgd hr hb I1 r q'⟩
end

/-! ### repr of data -/
theorem noDict_of {K : PySem.W.Frag} {H : Hp} : ∀ {v : V} {d : PyData}, Dp K H v d → d.hasDict = false := by
  intro v d h
  refine Dp.rec (motive_1 := fun _ d _ => d.hasDict = false) (motive_2 := fun _ ds _ => PyData.hasDictAll ds = false) ?_ ?_ ?_ ?_ ?_ ?_ ?_ ?_ h
  · rfl
  · intro b
    rfl
  · intro i
    rfl
  · intro y
    rfl
  · intro a xs ds _ _ ih
    simpa only [PyData.hasDict] using ih
  · intro a xs ds _ _ ih
    simpa only [PyData.hasDict] using ih
  · rfl
  · intro v vs d ds _ _ i1 i2
    simp only [PyData.hasDictAll, i1, i2, Bool.or_self]
def rRepr (K : PySem.W.Frag) : List V → Hp → VK → Prop := fun xs H Q => ∃ (x : V) (d : PyData), xs = [x] ∧ Dp K H x d ∧ d.showable = true ∧
  d.depth ≤ 64 ∧ d.shown.length ≤ sizeLine ∧ Q (.str d.shown) H
theorem call_repr {X : Cx} {k : Nat} (hgd : X.A.guards = some []) (hr : Room k X.A) : CallR X (.builtin "repr") (rRepr X.K) := by
  intro pins s σ H xs us Q I r h
  obtain ⟨x, d, rfl, hd, hs, hde, hz, q⟩ := h
  obtain ⟨u, rfl, rx⟩ := vals1 r
  have hun := hr.un
  have nd := noDict_of hd
  obtain ⟨as, rd⟩ := Dp.reads I d x u hd rx
  cases hd with
  | non =>
    cases rx
    exact PySem.P.repr_of_none ⟨.str _, H, I.tok _, ⟨_, rfl⟩, q⟩
  | bl b =>
    cases rx
    exact PySem.P.repr_of_bool ⟨.str _, H, I.tok _, ⟨_, rfl⟩, q⟩
  | int i =>
    obtain ⟨t, rfl⟩ := rx
    exact PySem.P.repr_of_int (by simpa [PyData.showable] using hs) ⟨.str _, H, I.tok _, ⟨_, rfl⟩, q⟩
  | str y =>
    obtain ⟨t, rfl⟩ := rx
    exact PySem.P.repr_of_str ⟨.str _, H, I.tok _, ⟨_, rfl⟩, q⟩ (by simpa only [PyData.shown] using hz)
  | lst h1 h2 =>
    cases rx
    refine repr_of_reads' rd hs (PyData.noDict_hsm nd) hgd (by omega) (fun _ _ e => e) (fun h' u tk hk => ?_) hz
    exact ⟨.str _, H, I.kept hk, ⟨u, rfl⟩, q⟩
  | tup h1 h2 =>
    cases rx
    refine repr_of_reads' rd hs (PyData.noDict_hsm nd) hgd (by omega) (fun _ _ e => e) (fun h' u tk hk => ?_) hz
    exact ⟨.str _, H, I.kept hk, ⟨u, rfl⟩, q⟩
end Tw

set_option Elab.async false
set_option linter.all false
set_option maxRecDepth 100000
set_option maxHeartbeats 4000000
namespace Tw
open PySem PySem.Spec PyProof.Rows L2

/-! ### the built-ins that no name of the text hides -/
structure Bs (mg : Str → Option Value) : Prop where
  int_ : mg "int" = none
  str_ : mg "str" = none
  bool_ : mg "bool" = none
  tuple_ : mg "tuple" = none
  list_ : mg "list" = none
  dict_ : mg "dict" = none
  len_ : mg "len" = none
  isinstance_ : mg "isinstance" = none
  all_ : mg "all" = none
  any_ : mg "any" = none
  sum_ : mg "sum" = none
  repr_ : mg "repr" = none
  range_ : mg "range" = none
  zip_ : mg "zip" = none
  sorted_ : mg "sorted" = none
  set_ : mg "set" = none
  enumerate_ : mg "enumerate" = none

/-! ### a def of the text with its promise, by its name -/
structure Df (P : Program) (w : World) (K : PySem.W.Frag) (mg : Str → Option Value) (base : Heap) (k : Nat) (x : Str) (ps : List Str) (sp : Sp) : Prop where
  ex : ∃ (f : Addr) (fd : FuncData), FnOk P w K mg base CX0 k f fd ps sp ∧ mg x = some (.ref f) ∧ PySem.W.keepIn K (.ref f) = true ∧ Binds K fd ps []
structure DfG (P : Program) (w : World) (K : PySem.W.Frag) (mg : Str → Option Value) (base : Heap) (k : Nat) (x : Str) (ps : List Str) (sp : Sp) : Prop where
  ex : ∃ (f : Addr) (fd : FuncData), FnG P w K mg base k f fd ps sp ∧ mg x = some (.ref f) ∧ PySem.W.keepIn K (.ref f) = true ∧ Binds K fd ps []
section
variable {X : Cx} {k : Nat} {x : Str} {ps : List Str} {sp : Sp} {p pos : Pos} {e : Expr} {es : List Expr} {t : TA}
theorem pe_def (D : Df X.prog X.w X.K X.mg X.base k x ps sp) (hr : Room k X.A) (hg : Gl X x) (ha : PA X (e :: es) t)
    (hdb : (x == ("__debug__" : Str)) = false := by decide)
    (he : starEach (e :: es) X.env = (false, eval e X.env) :: starEach es X.env := by rfl)
    (hpl : (backTo pos (starEach es X.env)).any (·.1) = false := by rfl) :
    PE X (.Call (.Name x p) (e :: es) [] pos) (tCall sp [] E0 t) := by
  obtain ⟨f, fd, F, hm, hk, hb⟩ := D.ex
  exact pe_call F hr hg hm hk hb .nil pass0 ha hdb he hpl
theorem pe_def0 (D : Df X.prog X.w X.K X.mg X.base k x ps sp) (hr : Room k X.A) (hg : Gl X x)
    (hdb : (x == ("__debug__" : Str)) = false := by decide) : PE X (.Call (.Name x p) [] [] pos) (tCall sp [] E0 tNil) := by
  obtain ⟨f, fd, F, hm, hk, hb⟩ := D.ex
  exact pe_call0 F hr hg hm hk hb .nil pass0 hdb
theorem pe_defG (D : DfG X.prog X.w X.K X.mg X.base k x ps sp) (hgd : X.A.guards = some []) (hr : Room k X.A) (hg : Gl X x) (ha : PA X (e :: es) t)
    (hdb : (x == ("__debug__" : Str)) = false := by decide)
    (he : starEach (e :: es) X.env = (false, eval e X.env) :: starEach es X.env := by rfl)
    (hpl : (backTo pos (starEach es X.env)).any (·.1) = false := by rfl) :
    PE X (.Call (.Name x p) (e :: es) [] pos) (tCall sp [] E0 t) := by
  obtain ⟨f, fd, F, hm, hk, hb⟩ := D.ex
  exact pe_callG F hgd hr hg hm hk hb ha hdb he hpl
end

/-! ### heaps -/
theorem same_new {H : Hp} {p : Addr} {o : HO} (h : H p = none) : Same H (upd H p o) := fun b x e => by
  rw [upd_ne (ne_of_none e h)]
  exact e
theorem _root_.L2.Same.seqT {K : PySem.W.Frag} {H H' : Hp} {a : Addr} {xs : List V} (e : Same H H') (h : SqT K H a xs) : SqT K H' a xs := by
  rcases h with (h | ⟨o, h⟩) | h
  · exact Or.inl (Or.inl (e _ _ h))
  · exact Or.inl (Or.inr ⟨o, e _ _ h⟩)
  · exact Or.inr h
theorem _root_.L2.Same.upd_at {H H' : Hp} {p : Addr} {o : HO} (e : Same H H') (h : H p = none) : Same H (upd H' p o) := fun b x q => by
  rw [upd_ne (ne_of_none q h)]
  exact e b x q
mutual
theorem dp_mono {K : PySem.W.Frag} {H H' : Hp} (e : Same H H') : ∀ {v : V} {d : PyData}, Dp K H v d → Dp K H' v d
  | _, _, .non => .non
  | _, _, .bl b => .bl b
  | _, _, .int i => .int i
  | _, _, .str y => .str y
  | _, _, .lst h1 h2 => .lst (e.seq h1) (dps_mono e h2)
  | _, _, .tup h1 h2 => .tup (e.seqT h1) (dps_mono e h2)
theorem dps_mono {K : PySem.W.Frag} {H H' : Hp} (e : Same H H') : ∀ {vs : List V} {ds : List PyData}, DpAll K H vs ds → DpAll K H' vs ds
  | _, _, .nil => .nil
  | _, _, .cons h1 h2 => .cons (dp_mono e h1) (dps_mono e h2)
end
section
variable {K : PySem.W.Frag} {H : Hp}
theorem dps_len : ∀ {vs : List V} {ds : List PyData}, DpAll K H vs ds → vs.length = ds.length
  | _, _, .nil => rfl
  | _, _, .cons _ h => by simp [dps_len h]
theorem dps_get : ∀ {vs : List V} {ds : List PyData} {i : Nat} {v : V}, DpAll K H vs ds → vs[i]? = some v → ∃ d, ds[i]? = some d ∧ Dp K H v d
  | _, _, _, _, .nil, e => by simp at e
  | _, _, 0, _, .cons h _, e => by
    simp at e
    subst e
    exact ⟨_, rfl, h⟩
  | _, _, i + 1, v, .cons _ h, e => by
    obtain ⟨d, h1, h2⟩ := dps_get (i := i) (v := v) h (by simpa using e)
    exact ⟨d, by simpa using h1, h2⟩
theorem dps_at : ∀ {vs : List V} {ds : List PyData} {i : Nat} {d : PyData}, DpAll K H vs ds → ds[i]? = some d → ∃ v, vs[i]? = some v ∧ Dp K H v d
  | _, _, _, _, .nil, e => by simp at e
  | _, _, 0, _, .cons h _, e => by
    simp at e
    subst e
    exact ⟨_, rfl, h⟩
  | _, _, i + 1, v, .cons _ h, e => by
    obtain ⟨d, h1, h2⟩ := dps_at (i := i) (d := v) h (by simpa using e)
    exact ⟨d, by simpa using h1, h2⟩
theorem dps_app : ∀ {vs us : List V} {ds es : List PyData}, DpAll K H vs ds → DpAll K H us es → DpAll K H (vs ++ us) (ds ++ es)
  | _, _, _, _, .nil, h => h
  | _, _, _, _, .cons h1 h2, h => .cons h1 (dps_app h2 h)
theorem dps_set {v : V} {d : PyData} (h : Dp K H v d) : ∀ {vs : List V} {ds : List PyData} (i : Nat), DpAll K H vs ds → DpAll K H (vs.set i v) (ds.set i d)
  | _, _, _, .nil => .nil
  | _, _, 0, .cons _ t => .cons h t
  | _, _, i + 1, .cons q t => .cons q (dps_set h i t)
theorem dps_take : ∀ {vs : List V} {ds : List PyData} (i : Nat), DpAll K H vs ds → DpAll K H (vs.take i) (ds.take i)
  | _, _, 0, _ => .nil
  | _, _, _ + 1, .nil => .nil
  | _, _, i + 1, .cons q t => .cons q (dps_take i t)
theorem dps_drop : ∀ {vs : List V} {ds : List PyData} (i : Nat), DpAll K H vs ds → DpAll K H (vs.drop i) (ds.drop i)
  | _, _, 0, h => h
  | _, _, _ + 1, .nil => .nil
  | _, _, i + 1, .cons _ t => dps_drop i t
theorem dps_erase : ∀ {vs : List V} {ds : List PyData} (i : Nat), DpAll K H vs ds → DpAll K H (vs.eraseIdx i) (ds.eraseIdx i)
  | _, _, _, .nil => .nil
  | _, _, 0, .cons _ t => t
  | _, _, i + 1, .cons q t => .cons q (dps_erase i t)
theorem dps_ints : ∀ ns : List Int, DpAll K H (ns.map V.int) (ns.map PyData.int)
  | [] => .nil
  | n :: ns => .cons (.int n) (dps_ints ns)
theorem dps_bools : ∀ bs : List Bool, DpAll K H (bs.map V.bl) (bs.map PyData.bool)
  | [] => .nil
  | b :: bs => .cons (.bl b) (dps_bools bs)
theorem dps_strs : ∀ ss : List Str, DpAll K H (ss.map V.str) (ss.map PyData.str)
  | [] => .nil
  | b :: bs => .cons (.str b) (dps_strs bs)

/-! ### isinstance over data -/
def tyn : PyData → String
  | .none => "NoneType"
  | .bool _ => "bool"
  | .int _ => "int"
  | .str _ => "str"
  | .list _ => "list"
  | .tuple _ => "tuple"
  | .dict _ => "dict"
theorem dp_ty {v : V} {d : PyData} (h : Dp K H v d) : TyX K H v (.type (tyn d)) := by
  cases h with
  | non => exact .base .non
  | bl b => exact .base (.bl b)
  | int i => exact .base (.int i)
  | str y => exact .base (.str y)
  | lst h1 _ =>
    rcases h1 with (h | ⟨o, h⟩) | ⟨o, its, n, hk, hc, _⟩
    · exact .base (.lst h)
    · exact .base (.frz h)
    · exact .kList hk hc
  | tup h1 _ =>
    rcases h1 with (h | ⟨o, h⟩) | ⟨o, its, n, hk, hc, _⟩
    · exact .base (.tup h)
    · exact .fTuple h
    · exact .kTuple hk hc
end
def isInt : PyData → Bool
  | .int _ | .bool _ => true
  | _ => false
def isBool : PyData → Bool
  | .bool _ => true
  | _ => false
def isStr : PyData → Bool
  | .str _ => true
  | _ => false
def isTup : PyData → Bool
  | .tuple _ => true
  | _ => false
def isLst : PyData → Bool
  | .list _ => true
  | _ => false
/-- isinstance(.., T) answers g -/
def Isa (T : String) (g : PyData → Bool) : Prop := ∀ d, kitB (tyn d) T = some (g d)
theorem isa_int : Isa "int" isInt := fun d => by cases d <;> (simp only [tyn, isInt]; decide +kernel)
theorem isa_bool : Isa "bool" isBool := fun d => by cases d <;> (simp only [tyn, isBool]; decide +kernel)
theorem isa_str : Isa "str" isStr := fun d => by cases d <;> (simp only [tyn, isStr]; decide +kernel)
theorem isa_tuple : Isa "tuple" isTup := fun d => by cases d <;> (simp only [tyn, isTup]; decide +kernel)
theorem isa_list : Isa "list" isLst := fun d => by cases d <;> (simp only [tyn, isLst]; decide +kernel)
/-- isinstance(x, T) of data -/
def rIsiD (K : PySem.W.Frag) (T : String) (g : PyData → Bool) : List V → Hp → VK → Prop := fun xs H Q => ∃ (x : V) (d : PyData), xs = [x, .ty T] ∧ Dp K H x d ∧ Q (.bl (g d)) H
/-- isinstance(x, (tuple, list)) of data -/
def rIsiTL (K : PySem.W.Frag) : List V → Hp → VK → Prop := fun xs H Q => ∃ (x : V) (p : Addr) (d : PyData), xs = [x, .ref p] ∧
  H p = some (.tup [.ty "tuple", .ty "list"]) ∧ Dp K H x d ∧ Q (.bl (isTup d || isLst d)) H
section
variable {X : Cx}
theorem call_isiD {T : String} {g : PyData → Bool} (hi : Isa T g) : CallR X (.builtin "isinstance") (rIsiD X.K T g) := by
  intro pins s σ H xs us Q I r h
  obtain ⟨x, d, rfl, hd, q⟩ := h
  exact call_isi pins s σ H _ us Q I r ⟨x, .ty T, _, _, g d, rfl, .ty T, dp_ty hd, kit_ty (hi d), q⟩
theorem call_isiTL : CallR X (.builtin "isinstance") (rIsiTL X.K) := by
  intro pins s σ H xs us Q I r h
  obtain ⟨x, p, d, rfl, hp, hd, q⟩ := h
  refine call_isiT pins s σ H _ us Q I r ⟨x, p, _, _, [.type "tuple", .type "list"], isTup d || isLst d, rfl, hp, .cons (.ty _) (.cons (.ty _) .nil), dp_ty hd, ?_, q⟩
  refine kitAny_cons (kit_ty (isa_tuple d)) (fun e => ?_) (fun e => by rw [e]; rfl)
  rw [e, Bool.false_or]
  refine kitAny_cons (kit_ty (isa_list d)) (fun e2 => ?_) (fun e2 => e2)
  rw [e2]
  exact kitAny_nil
theorem op_add_bi : OpR X (binaryOp .Add) (fun x y H Q => ∃ k i, x = .bl k ∧ y = .int i ∧ Q (.int (b2i k + i)) H) := by
  intro pins s σ H x y v u Q I rx ry h
  obtain ⟨k, i, rfl, rfl, q⟩ := h
  cases rx
  obtain ⟨t, rfl⟩ := ry
  exact IntBool.add_bool_int ⟨.int (b2i k + i), H, I.tok _, ⟨_, rfl⟩, q⟩
end
end Tw

set_option Elab.async false
set_option linter.all false
set_option maxRecDepth 100000
set_option maxHeartbeats 4000000
namespace Tw
open PySem PySem.Spec PyProof.Rows L2
/-! ### displays of data: what is new lies in new objects alone -/
/-- N: some of the objects of H' that H had not -/
structure Nw (H N H' : Hp) : Prop where
  sub : Same N H'
  new : ∀ b, H b ≠ none → N b = none
def un (M N : Hp) : Hp := fun b => match M b with
  | some o => some o
  | none => N b
theorem un_left {M N : Hp} : Same M (un M N) := fun b o e => by
  unfold un
  rw [e]
theorem un_right {M N : Hp} (h : ∀ b, M b ≠ none → N b = none) : Same N (un M N) := fun b o e => by
  unfold un
  cases q : M b with
  | none => exact e
  | some x =>
    have := h b (by rw [q]; exact fun z => nomatch z)
    rw [e] at this
    cases this
theorem Nw.un {H M H1 N H2 : Hp} (a : Nw H M H1) (b : Nw H1 N H2) (s : Same H H1) (s2 : Same H1 H2) : Nw H (un M N) H2 := by
  constructor
  · intro c o e
    unfold Tw.un at e
    cases q : M c with
    | none =>
      rw [q] at e
      exact b.sub c o e
    | some x =>
      rw [q] at e
      cases e
      exact s2 c _ (a.sub c _ q)
  · intro c hc
    unfold Tw.un
    rw [a.new c hc]
    refine b.new c ?_
    cases q : H c with
    | none => exact absurd q hc
    | some x =>
      rw [s c x q]
      exact fun z => nomatch z
theorem Nw.apart {H M H1 N H2 : Hp} (a : Nw H M H1) (b : Nw H1 N H2) : ∀ c, M c ≠ none → N c = none := fun c hc => by
  refine b.new c ?_
  cases q : M c with
  | none => exact absurd q hc
  | some x =>
    rw [a.sub c x q]
    exact fun z => nomatch z
theorem Nw.put {H N H' : Hp} {p : Addr} {o : HO} (a : Nw H N H') (np : H' p = none) (s : Same H H') : Nw H (upd N p o) (upd H' p o) := by
  constructor
  · intro b x e
    by_cases hb : b = p
    · subst hb
      rw [upd_same] at e ⊢
      exact e
    · rw [upd_ne hb] at e ⊢
      exact a.sub b x e
  · intro b hb
    have nb : b ≠ p := by
      rintro rfl
      exact hb (s.free np)
    rw [upd_ne nb]
    exact a.new b hb
theorem Nw.none (H : Hp) : Nw H (fun _ => none) H := ⟨fun _ _ e => (nomatch e), fun _ _ => rfl⟩
/-- an expression whose value is data -/
abbrev TDt := L2.St → PyData → Prop
abbrev TDs := L2.St → List PyData → Prop
def tDt (K : PySem.W.Frag) (t : TDt) : TE := fun σ H Q => ∃ d, t σ d ∧ ∀ (v : V) (H' N : Hp), Same H H' → Nw H N H' → Dp K N v d → Q v H'
def tDs (K : PySem.W.Frag) (t : TDs) : TA := fun σ H Q => ∃ ds, t σ ds ∧ ∀ (vs : List V) (H' N : Hp), Same H H' → Nw H N H' → DpAll K N vs ds → Q vs H'
theorem PE.weak {X : Cx} {e : Expr} {t t' : TE} (h : PE X e t) (w : ∀ σ H Q, t' σ H Q → t σ H Q) : PE X e t' :=
  ⟨fun pins s σ H Q I q => h.run pins s σ H Q I (w σ H Q q)⟩
theorem PA.weak {X : Cx} {e : List Expr} {t t' : TA} (h : PA X e t) (w : ∀ σ H Q, t' σ H Q → t σ H Q) : PA X e t' :=
  ⟨fun pos pins s σ H Q I q => h.run pos pins s σ H Q I (w σ H Q q)⟩
/-- what an atom is as data -/
def atomV : V → Option PyData
  | .non => some .none
  | .bl b => some (.bool b)
  | .int i => some (.int i)
  | .str x => some (.str x)
  | _ => none
theorem atom_dp {K : PySem.W.Frag} {H : Hp} {v : V} {d : PyData} (h : atomV v = some d) : Dp K H v d := by
  cases v <;> first | (cases h; constructor) | cases h
section
variable {X : Cx} {e : Expr} {es : List Expr} {pos : Pos}
theorem pd_of {t : TE} {u : TDt} (h : PE X e t) (w : ∀ σ H Q d, u σ d → (∀ v, atomV v = some d → Q v H) → t σ H Q) : PE X e (tDt X.K u) :=
  PE.weak h fun σ H Q ⟨d, hd, q⟩ => w σ H Q d hd fun v hv => q v H _ (Same.refl H) (Nw.none H) (atom_dp hv)
theorem pd_int {i j} : PE X (.Constant (.int i) j pos) (tDt X.K fun _ d => d = .int i) := pd_of pe_int fun σ H Q d e q => by
  subst e
  exact q _ rfl
theorem pd_str {i j} : PE X (.Constant (.str i) j pos) (tDt X.K fun _ d => d = .str i) := pd_of pe_str fun σ H Q d e q => by
  subst e
  exact q _ rfl
theorem pd_bl {i j} : PE X (.Constant (.bool i) j pos) (tDt X.K fun _ d => d = .bool i) := pd_of pe_bl fun σ H Q d e q => by
  subst e
  exact q _ rfl
theorem pd_non {j} : PE X (.Constant .none j pos) (tDt X.K fun _ d => d = .none) := pd_of pe_non fun σ H Q d e q => by
  subst e
  exact q _ rfl
/-- a name that holds an atom -/
theorem pd_var (i : Nat) {x : Str} (hN : X.N[i]? = some x := by rfl) (hv : Vis X.env.scope x := by first | exact Or.inl rfl | exact Or.inr (Or.inl rfl) | exact Or.inr (Or.inr rfl))
    (hd : (x == ("__debug__" : Str)) = false := by decide) (hcd : (x == ("__classdict__" : Str)) = false := by decide) :
    PE X (.Name x pos) (tDt X.K fun σ d => ∃ v, σ[i]? = some (some v) ∧ atomV v = some d) :=
  pd_of (pe_var hN hv hd hcd) fun σ H Q d ⟨v, h1, h2⟩ q => ⟨v, h1, q v h2⟩
theorem pd_neg {a : Expr} {t : TDt} (h : PE X a (tDt X.K t)) : PE X (.UnaryOp .USub a pos) (tDt X.K fun σ d => ∃ i, t σ (.int i) ∧ d = .int (-i)) := by
  refine PE.weak (pe_un un_neg h) ?_
  rintro σ H Q ⟨d, ⟨i, ht, rfl⟩, q⟩
  refine ⟨_, ht, fun v H' N s n hd => ?_⟩
  cases hd
  exact ⟨i, rfl, q _ H' N s n (.int _)⟩
theorem pd_pow {a b : Expr} {t u : TDt} (h : PE X a (tDt X.K t)) (h2 : PE X b (tDt X.K u)) :
    PE X (.BinOp a .Pow b pos) (tDt X.K fun σ d => ∃ i j, t σ (.int i) ∧ u σ (.int j) ∧ (0 ≤ j ∧ j ≤ 1000000 ∧ i.natAbs < 2 ^ 64) ∧ d = .int (i ^ j.toNat)) := by
  refine PE.weak (pe_op op_pow h h2) ?_
  rintro σ H Q ⟨d, ⟨i, j, ht, hu, hc, rfl⟩, q⟩
  refine ⟨_, ht, fun v H1 N1 s1 n1 hd1 => ⟨_, hu, fun v2 H2 N2 s2 n2 hd2 => ?_⟩⟩
  cases hd1
  cases hd2
  exact ⟨i, j, rfl, rfl, hc, q _ H2 _ (s1.trans s2) (n1.un n2 s1 s2) (.int _)⟩
theorem pd_cat {a b : Expr} {t u : TDt} (h : PE X a (tDt X.K t)) (h2 : PE X b (tDt X.K u)) :
    PE X (.BinOp a .Add b pos) (tDt X.K fun σ d => ∃ x y, t σ (.str x) ∧ u σ (.str y) ∧ x.length + y.length ≤ sizeLine ∧ d = .str (x ++ y)) := by
  refine PE.weak (pe_op op_add_str h h2) ?_
  rintro σ H Q ⟨d, ⟨x, y, ht, hu, hl, rfl⟩, q⟩
  refine ⟨_, ht, fun v H1 N1 s1 n1 hd1 => ⟨_, hu, fun v2 H2 N2 s2 n2 hd2 => ?_⟩⟩
  cases hd1
  cases hd2
  exact ⟨x, y, rfl, rfl, hl, q _ H2 _ (s1.trans s2) (n1.un n2 s1 s2) (.str _)⟩
theorem pds_nil : PA X [] (tDs X.K fun _ ds => ds = []) := PA.weak pa_nil fun σ H Q ⟨ds, e, q⟩ => by
  subst e
  exact q [] H _ (Same.refl H) (Nw.none H) .nil
theorem pds_cons {t : TDt} {u : TDs} (h : PE X e (tDt X.K t)) (h2 : PA X es (tDs X.K u)) (hs : starEach (e :: es) X.env = (false, eval e X.env) :: starEach es X.env := by rfl) :
    PA X (e :: es) (tDs X.K fun σ ds => ∃ d r, t σ d ∧ u σ r ∧ ds = d :: r) := by
  refine PA.weak (pa_cons h h2 hs) ?_
  rintro σ H Q ⟨ds, ⟨d, r, ht, hu, rfl⟩, q⟩
  refine ⟨d, ht, fun v H1 N1 s1 n1 hd1 => ⟨r, hu, fun vs H2 N2 s2 n2 hd2 => ?_⟩⟩
  exact q _ H2 _ (s1.trans s2) (n1.un n2 s1 s2) (.cons (dp_mono un_left hd1) (dps_mono (un_right (n1.apart n2)) hd2))
theorem pd_tup {x1} {t : TDs} (h : PA X es (tDs X.K t)) : PE X (.Tuple es x1 pos) (tDt X.K fun σ d => ∃ ds, t σ ds ∧ ds.length ≤ 1000 ∧ d = .tuple ds) := by
  refine PE.weak (pe_tup h) ?_
  rintro σ H Q ⟨d, ⟨ds, ht, hl, rfl⟩, q⟩
  refine ⟨ds, ht, fun vs H1 N1 s1 n1 hd1 => ⟨?_, fun p np => ?_⟩⟩
  · rw [dps_len hd1]
    exact Nat.le_trans hl (by decide)
  · exact q _ _ _ (s1.trans (same_new np)) (n1.put np s1) (.tup (SqT.of upd_same) (dps_mono (same_new (n1.sub.free np)) hd1))
theorem pd_lst {t : TDs} (h : PA X es (tDs X.K t)) : PE X (.List es pos) (tDt X.K fun σ d => ∃ ds, t σ ds ∧ ds.length ≤ 1000 ∧ d = .list ds) := by
  refine PE.weak (pe_lst h) ?_
  rintro σ H Q ⟨d, ⟨ds, ht, hl, rfl⟩, q⟩
  refine ⟨ds, ht, fun vs H1 N1 s1 n1 hd1 => ⟨?_, fun p np => ?_⟩⟩
  · rw [dps_len hd1]
    exact Nat.le_trans hl (by decide)
  · exact q _ _ _ (s1.trans (same_new np)) (n1.put np s1) (.lst (SqL.of upd_same) (dps_mono (same_new (n1.sub.free np)) hd1))
/-- a list display of data, as a list that stands by itself -/
def tLs (K : PySem.W.Frag) (t : TDs) : TE := fun σ H Q => ∃ ds, t σ ds ∧ ds.length ≤ 1000 ∧ ∀ (p : Addr) (vs : List V) (H' N : Hp), Same H H' → Nw H N H' → H p = none → H' p = some (.lst vs) → DpAll K N vs ds → Q (.ref p) H'
theorem pl_lst {t : TDs} (h : PA X es (tDs X.K t)) : PE X (.List es pos) (tLs X.K t) := by
  refine PE.weak (pe_lst h) ?_
  rintro σ H Q ⟨ds, ht, hl, q⟩
  refine ⟨ds, ht, fun vs H1 N1 s1 n1 hd1 => ⟨?_, fun p np => ?_⟩⟩
  · rw [dps_len hd1]
    exact Nat.le_trans hl (by decide)
  · exact q p vs _ _ (s1.trans (same_new np)) (n1.put np s1) (s1.free np) upd_same (dps_mono (same_new (n1.sub.free np)) hd1)
end
end Tw

set_option Elab.async false
set_option linter.all false
set_option maxRecDepth 100000
set_option maxHeartbeats 4000000
namespace K01
open PySem PySem.Spec PyProof.Rows L2 Tw
open C8 (pss_cut)
open RZ (pi_zipA)
def top (i : Nat) : Stmt := PySem.Challenge.pw_tornwrite_k01_kinds_of_values.main.body.getD i (.Pass ⟨0, 0, 0, 0⟩)
abbrev s_is_integer : Stmt := top 4
abbrev s_is_number : Stmt := top 5
abbrev s_is_name : Stmt := top 6
abbrev s_is_word : Stmt := top 7
abbrev s_is_path : Stmt := top 8
abbrev s_is_deed : Stmt := top 10
abbrev s__law_reader : Stmt := top 12
abbrev s__law_draw : Stmt := top 13
abbrev s__law_changed : Stmt := top 14
abbrev s__law_is_integer : Stmt := top 15
abbrev s__law_is_name : Stmt := top 16
abbrev s__law_is_word : Stmt := top 17
abbrev s__law_is_path : Stmt := top 18
abbrev s__law_is_deed : Stmt := top 19
abbrev s__law_fixed_values : Stmt := top 20
abbrev s_law : Stmt := top 21

/-! ### the reader of the script: a list of its cells, a place, a rest, a count of draws -/
def RdAt (K : PySem.W.Frag) (c : Addr) (H : Hp) (r : Addr) (n : Nat) : Prop := ∃ (ns : List Int) (i z m : Int),
  H r = some (.lst [.ref c, .int i, .int z, .int m]) ∧ SqL K H c (ns.map V.int) ∧ c ≠ r ∧ 0 ≤ m ∧ m ≤ (n : Int) ∧ ns.length ≤ 63
/-- all but r is as it was -/
def Off (r : Addr) (H H' : Hp) : Prop := ∀ b o, b ≠ r → H b = some o → H' b = some o
theorem Off.refl (r : Addr) (H : Hp) : Off r H H := fun _ _ _ h => h
theorem Off.trans {r : Addr} {H H1 H2 : Hp} (a : Off r H H1) (b : Off r H1 H2) : Off r H H2 := fun c o n h => b c o n (a c o n h)
theorem Off.of {r : Addr} {H H' : Hp} (s : Same H H') : Off r H H' := fun b o _ h => s b o h
theorem Off.seq {K : PySem.W.Frag} {r a : Addr} {H H' : Hp} {xs : List V} (s : Off r H H') (n : a ≠ r) (h : SqL K H a xs) : SqL K H' a xs := by
  rcases h with (h | ⟨o, h⟩) | h
  · exact Or.inl (Or.inl (s _ _ n h))
  · exact Or.inl (Or.inr ⟨o, s _ _ n h⟩)
  · exact Or.inr h
theorem off_upd (r : Addr) (H : Hp) (o : HO) : Off r H (upd H r o) := fun b x n h => by
  rw [upd_ne n]
  exact h
theorem off_new {r p : Addr} {H : Hp} {o : HO} (h : H p = none) : Off r H (upd H p o) := Off.of (same_new h)
def spDraw (K : PySem.W.Frag) : Sp := fun vs H Q _ => ∃ (r c : Addr) (m : Int) (n : Nat), vs = [.ref r, .int m] ∧ 0 < m ∧ m < 1000000 ∧ n < 1000000 ∧ RdAt K c H r n ∧
  ∀ (v : Int) (H' : Hp), 0 ≤ v → v < m → RdAt K c H' r (n + 1) → Off r H H' → Q (.int v) H'

theorem canLay_ints : ∀ ns : List Int, PyData.canLayAll0 (ns.map PyData.int) = true
  | [] => rfl
  | n :: ns => by simp only [List.map_cons, PyData.canLayAll0, PyData.canLay0, canLay_ints ns, Bool.and_self]
theorem depth_ints : ∀ ns : List Int, PyData.depthAll (ns.map PyData.int) = 0
  | [] => rfl
  | n :: ns => by simp only [List.map_cons, PyData.depthAll, PyData.depth, depth_ints ns, Nat.max_self]
theorem shaped_ints (ns : List Int) : SeqAt.shaped (.list (ns.map PyData.int)) = true := by
  simp only [SeqAt.shaped, PyData.canLay0, canLay_ints, PyData.depth, depth_ints]
  decide
theorem fm (a : Int) {b : Int} (h : 0 < b) : 0 ≤ a.fmod b ∧ a.fmod b < b := ⟨Int.fmod_nonneg_of_pos a h, Int.fmod_lt_of_pos a h⟩
section
variable {P : Program} {w : World} {K : PySem.W.Frag} {mg : Str → Option Value} {base : Heap}
theorem sc_draw : FnScope ["_law_reader_here", "_law_many", "_law_found", "_law_cell", "_law_once"] ["_law_reader_here", "_law_many"] (defScope s__law_draw) := ⟨rfl, rfl, rfl, by decide +kernel, rfl, by decide +kernel, by decide +kernel⟩
theorem ok_draw {f : Addr} {fd : FuncData} (F : Fun K "_law_draw" "_law_draw" s__law_draw f fd) (B : Bs mg) :
    FnOk P w K mg base CX0 1 f fd ["_law_reader_here", "_law_many"] (spDraw K) := by
  refine F.ok sc_draw (fun vs H Q E h => ?_) (fun cdv A outer s H vs Q E hr h => ?_)
  · obtain ⟨r, c, m, n, rfl, _⟩ := h
    rfl
  · obtain ⟨r, c, m, n, rfl, hm, hm2, hn, ⟨ns, i, z, k, hR, hC, hcr, hk0, hkn, hl⟩, q⟩ := h
    have hmm : m ≠ 0 ∧ m.natAbs < 1073741824 := ⟨by omega, by omega⟩
    refine ⟨_, (pss_cons (ps_asg (pe_op op_add (pe_ix ix_list (pv 0) pe_int (fun _ _ => rfl)) pe_int) (pg_sub (pv 0) pe_int set_list))
 (pss_cons (ps_if (pt_cmpR op_gt (pe_ix ix_list (pv 0) pe_int (fun _ _ => rfl)) pe_int (nomark _))
 (pss_cons (ps_set (i := 2) sc_draw.nd rfl (by first | exact Or.inl rfl | exact Or.inr rfl) (pe_op op_modN (pe_callTy call_int1 (by rfl) B.int_ (by decide +kernel) (pa_cons (pe_ix ix_list (pv 0) pe_int (fun _ _ => rfl)) pa_nil)) (pv 1)))
 (pss_cons (ps_asg (pe_op op_fdivN (pe_ix ix_list (pv 0) pe_int (fun _ _ => rfl)) (pv 1)) (pg_sub (pv 0) pe_int set_list))
 (pss_one (ps_ret (pv 2)))))
 pss_nil)
 (pss_cons (ps_set (i := 3) sc_draw.nd rfl (by first | exact Or.inl rfl | exact Or.inr rfl) pe_int)
 (pss_cut (ps_if (pt_cmpR (op_neD hr.units) (pe_ix ix_list (pv 0) pe_int (fun _ _ => rfl)) (pe_lst pa_nil) (nomark _))
 (pss_one (ps_set (i := 3) sc_draw.nd rfl (by first | exact Or.inl rfl | exact Or.inr rfl) (pe_ix ix_list (pe_ix ix_list (pv 0) pe_int (fun _ _ => rfl)) (pe_op op_modN (pe_callTy call_int1 (by rfl) B.int_ (by decide +kernel) (pa_cons (pe_ix ix_list (pv 0) pe_int (fun _ _ => rfl)) pa_nil)) (pe_callB call_len_seq (by rfl) B.len_ (by decide +kernel) (pa_cons (pe_ix ix_list (pv 0) pe_int (fun _ _ => rfl)) pa_nil))) (fun _ _ => rfl))))
 pss_nil)
 (pss_cons (ps_asg (pe_op op_add (pe_ix ix_list (pv 0) pe_int (fun _ _ => rfl)) pe_int) (pg_sub (pv 0) pe_int set_list))
 (pss_cut (ps_if (PW.pt (pw_and (pt_cmpR op_ge (pv 3) (pe_op op_pow pe_int pe_int) (nomark _)) (pw_and1 (pt_cmpR op_le (pe_ix ix_list (pv 0) pe_int (fun _ _ => rfl)) (pe_callB call_len_seq (by rfl) B.len_ (by decide +kernel) (pa_cons (pe_ix ix_list (pv 0) pe_int (fun _ _ => rfl)) pa_nil)) (nomark _)))))
 (pss_cons (ps_asg (pe_op op_fdivN (pv 3) (pv 1)) (pg_sub (pv 0) pe_int set_list))
 (pss_one (ps_ret (pe_op op_modN (pe_callTy call_int1 (by rfl) B.int_ (by decide +kernel) (pa_cons (pv 3) pa_nil)) (pv 1)))))
 pss_nil)
 (pss_cons (ps_set (i := 4) sc_draw.nd rfl (by first | exact Or.inl rfl | exact Or.inr rfl) (pe_op op_modN (pe_callTy call_int1 (by rfl) B.int_ (by decide +kernel) (pa_cons (pe_op op_pow (pe_op op_add (pe_op op_add (pe_op op_modN (pe_callTy call_int1 (by rfl) B.int_ (by decide +kernel) (pa_cons (pv 3) pa_nil)) pe_int) (pe_op op_mul pe_int (pe_ix ix_list (pv 0) pe_int (fun _ _ => rfl)))) pe_int) pe_int) pa_nil)) pe_int))
 (pss_one (ps_ret (pe_op op_modN (pe_callTy call_int1 (by rfl) B.int_ (by decide +kernel) (pa_cons (pe_op op_fdivN (pe_op op_modN (pe_callTy call_int1 (by rfl) B.int_ (by decide +kernel) (pa_cons (pe_op op_pow (pe_op op_add (pv 4) (pe_op op_mul pe_int (pe_ix ix_list (pv 0) pe_int (fun _ _ => rfl)))) pe_int) pa_nil)) pe_int) pe_int) pa_nil)) (pv 1))))))))))), ?_⟩
    refine ⟨_, rfl, r, _, 3, _, rfl, rfl, SqL.of hR, rfl, _, _, rfl, rfl, _, rfl, r, _, 3, 3, rfl, rfl, hR, rfl, ?_⟩
    have o1 : Off r H (upd H r (.lst [.ref c, .int i, .int z, .int (k + 1)])) := off_upd r H _
    have hR1 : (upd H r (.lst [.ref c, .int i, .int z, .int (k + 1)])) r = some (.lst [.ref c, .int i, .int z, .int (k + 1)]) := upd_same
    show _root_.L2.tSeq _ _ _ _ (upd H r (.lst [.ref c, .int i, .int z, .int (k + 1)]))
    generalize upd H r (.lst [.ref c, .int i, .int z, .int (k + 1)]) = H1 at o1 hR1
    have hC1 := o1.seq hcr hC
    refine ⟨_, rfl, r, _, 2, _, rfl, rfl, SqL.of hR1, rfl, _, _, rfl, rfl, _, rfl, ite2 (fun e => ?_) (fun e => ?_)⟩
    · refine ⟨_, rfl, r, _, 2, _, rfl, rfl, SqL.of hR1, rfl, .inl ⟨_, rfl, _, rfl, _, _, rfl, rfl, by omega, ?_⟩⟩
      refine ⟨_, rfl, r, _, 2, _, rfl, rfl, SqL.of hR1, rfl, _, rfl, _, _, rfl, rfl, hmm, _, rfl, r, _, 2, 2, rfl, rfl, hR1, rfl, ?_⟩
      refine ⟨_, rfl, q _ _ (fm z hm).1 (fm z hm).2 ⟨ns, i, z.fdiv m, k + 1, upd_same, ?_, hcr, by omega, by omega, hl⟩ (o1.trans (off_upd _ _ _))⟩
      exact (off_upd r H1 _).seq hcr hC1
    · refine ⟨fun σ' H' => ∃ y : Int, σ' = [some (.ref r), some (.int m), none, some (.int y), none] ∧
        Off r H1 H' ∧ H' r = some (.lst [.ref c, .int i, .int z, .int (k + 1)]), ⟨_, rfl, r, _, 0, _, rfl, rfl, SqL.of hR1, rfl, Nat.zero_le _, fun p np => ?_⟩, ?_⟩
      have o2 : Off r H1 (upd H1 p (.lst [])) := off_new np
      have hR2 : (upd H1 p (.lst [])) r = some (.lst [.ref c, .int i, .int z, .int (k + 1)]) := by
        rw [upd_ne (ne_of_none hR1 np)]
        exact hR1
      have hp2 : (upd H1 p (.lst [])) p = some (.lst []) := upd_same
      generalize upd H1 p (.lst []) = H2 at o2 hR2 hp2
      have hC2 := o2.seq hcr hC1
      refine ⟨.list (ns.map PyData.int), .list [], .lst hC2 (dps_ints ns), .lst (SqL.of hp2) .nil, shaped_ints ns, by decide, _, rfl, ?_⟩
      refine ite2 (fun e2 => ?_) (fun e2 => ?_)
      · have hpos : 0 < (ns.length : Int) := by
          cases ns with
          | nil => exact absurd e2 (by decide)
          | cons y ys => simp
        have hx := fm i hpos
        obtain ⟨y, hy⟩ : ∃ y, ns[(i.fmod (ns.length : Int)).toNat]? = some y := ⟨_, List.getElem?_eq_getElem (by omega)⟩
        have hat : atI (ns.map V.int) (i.fmod ((ns.map V.int).length : Int)) = some (.int y) := by
          rw [List.length_map]
          unfold atI ixN
          rw [if_pos hx.1, List.length_map, if_pos hx.2]
          show (ns.map V.int)[(i.fmod (ns.length : Int)).toNat]? = some (.int y)
          rw [List.getElem?_map, hy]
          rfl
        refine ⟨_, rfl, r, _, 0, _, rfl, rfl, SqL.of hR2, rfl, _, rfl, r, _, 1, _, rfl, rfl, SqL.of hR2, rfl, .inl ⟨_, rfl, _, rfl, r, _, 0, _, rfl, rfl, SqL.of hR2, rfl, c, _, rfl, .inl hC2, _, _, rfl, rfl, ?_, c, _, _, _, rfl, rfl, hC2, hat, ?_⟩⟩
        · rw [List.length_map]
          omega
        · exact ⟨y, rfl, o2, hR2⟩
      · exact ⟨37, rfl, o2, hR2⟩
      rintro σ' H' ⟨y, rfl, o2, hR2⟩
      · have hC2 := o2.seq hcr hC1
        refine ⟨_, rfl, r, _, 1, _, rfl, rfl, SqL.of hR2, rfl, _, _, rfl, rfl, _, rfl, r, _, 1, 1, rfl, rfl, hR2, rfl, ?_⟩
        have o3 : Off r H' (upd H' r (.lst [.ref c, .int (i + 1), .int z, .int (k + 1)])) := off_upd r H' _
        have hR3 : (upd H' r (.lst [.ref c, .int (i + 1), .int z, .int (k + 1)])) r = some (.lst [.ref c, .int (i + 1), .int z, .int (k + 1)]) := upd_same
        show _root_.L2.tSeq _ _ _ _ (upd H' r (.lst [.ref c, .int (i + 1), .int z, .int (k + 1)]))
        generalize upd H' r (.lst [.ref c, .int (i + 1), .int z, .int (k + 1)]) = H3 at o3 hR3
        have hC3 := o3.seq hcr hC2
        have o13 := (o1.trans o2).trans o3
        have fin : ∀ v : Int, 0 ≤ v → v < m → Q (.int v) H3 := fun v h1 h2 => q v H3 h1 h2 ⟨ns, i + 1, z, k + 1, hR3, hC3, hcr, by omega, by omega, hl⟩ o13
        refine ⟨fun σ' H' => σ' = [some (.ref r), some (.int m), none, some (.int y), none] ∧ H' = H3, ⟨_, rfl, 10, 18, rfl, rfl, ⟨by decide, by decide, by decide⟩, _, _, rfl, rfl, _, rfl, ite2 (fun e3 => ?_) (fun e3 => ?_)⟩, ?_⟩
        · refine ⟨_, rfl, r, _, 1, _, rfl, rfl, SqL.of hR3, rfl, _, rfl, r, _, 0, _, rfl, rfl, SqL.of hR3, rfl, c, _, rfl, .inl hC3, _, _, rfl, rfl, _, rfl, ite2 (fun e4 => ?_) (fun e4 => ?_)⟩
          · refine ⟨_, rfl, _, rfl, _, _, rfl, rfl, hmm, _, rfl, r, _, 2, 2, rfl, rfl, hR3, rfl, ?_⟩
            refine ⟨_, rfl, .inl ⟨_, rfl, _, rfl, _, _, rfl, rfl, by omega, ?_⟩⟩
            refine q _ _ (fm y hm).1 (fm y hm).2 ⟨ns, i + 1, y.fdiv m, k + 1, upd_same, ?_, hcr, by omega, by omega, hl⟩ (o13.trans (off_upd _ _ _))
            exact (off_upd r H3 _).seq hcr hC3
          · exact ⟨rfl, rfl⟩
        · exact ⟨rfl, rfl⟩
        · rintro σ' H' ⟨rfl, rfl⟩
          have h3 := fm y (b := 2147483587) (by decide)
          refine ⟨_, rfl, .inl ⟨_, rfl, _, _, rfl, rfl, (by show (2147483587 : Int) ≠ 0; decide), _, rfl, r, _, 3, _, rfl, rfl, SqL.of hR3, rfl, _, _, rfl, rfl, .inl ⟨by decide, by decide⟩, _, _, rfl, rfl, _, _, rfl, rfl, _, _, rfl, rfl, ⟨by decide, by decide, ?_⟩, .inl ⟨_, rfl, _, _, rfl, rfl, (by show (2147483629 : Int) ≠ 0; decide), ?_⟩⟩⟩
          · omega
          · generalize (y.fmod 2147483587 + 7307 * (k + 1) + 3) ^ (5 : Int).toNat = u
            have h4 := fm u (b := 2147483629) (by decide)
            refine ⟨_, rfl, _, rfl, r, _, 3, _, rfl, rfl, SqL.of hR3, rfl, _, _, rfl, rfl, .inl ⟨by decide, by decide⟩, _, _, rfl, rfl, _, _, rfl, rfl, ⟨by decide, by decide, ?_⟩, .inl ⟨_, rfl, _, _, rfl, rfl, (by show (2147483647 : Int) ≠ 0; decide), _, _, rfl, rfl, ⟨by decide, by decide⟩, .inl ⟨_, rfl, _, rfl, _, _, rfl, rfl, by omega, ?_⟩⟩⟩
            · omega
            · exact fin _ (fm _ hm).1 (fm _ hm).2
end
end K01

set_option Elab.async false
set_option linter.all false
set_option maxRecDepth 100000
set_option maxHeartbeats 4000000
namespace K01
open PySem PySem.Spec PyProof.Rows L2 Tw
open C8 (pss_cut)
open RZ (pi_zipA)
/-! ### data that fits -/
structure Fit (d : PyData) : Prop where
  lay : d.canLay0 = true
  dep : d.depth ≤ 60
  blk : d.bulk ≤ 100000
theorem canLay_mem : ∀ {ds : List PyData} {d : PyData}, PyData.canLayAll0 ds = true → d ∈ ds → d.canLay0 = true
  | e :: ds, d, h, m => by
    simp only [PyData.canLayAll0, Bool.and_eq_true] at h
    rcases List.mem_cons.mp m with rfl | m
    · exact h.1
    · exact canLay_mem h.2 m
theorem depth_mem : ∀ {ds : List PyData} {d : PyData}, d ∈ ds → d.depth ≤ PyData.depthAll ds
  | e :: ds, d, m => by
    simp only [PyData.depthAll]
    rcases List.mem_cons.mp m with rfl | m
    · exact Nat.le_max_left _ _
    · exact Nat.le_trans (depth_mem m) (Nat.le_max_right _ _)
theorem bulk_mem : ∀ {ds : List PyData} {d : PyData}, d ∈ ds → d.bulk + 1 ≤ PyData.bulkAll ds
  | e :: ds, d, m => by
    simp only [PyData.bulkAll]
    rcases List.mem_cons.mp m with rfl | m
    · omega
    · have := bulk_mem m
      omega
theorem Fit.mem {ds : List PyData} {d : PyData} (h : Fit (.tuple ds)) (m : d ∈ ds) : Fit d := by
  obtain ⟨h1, h2, h3⟩ := h
  simp only [PyData.canLay0, PyData.depth, PyData.bulk] at h1 h2 h3
  have h4 := depth_mem m
  have h5 := bulk_mem m
  exact ⟨canLay_mem h1 m, by omega, by omega⟩
theorem Fit.shaped {d : PyData} (h : Fit d) : SeqAt.shaped d = true := by
  unfold SeqAt.shaped
  rw [h.lay, Bool.true_and]
  exact decide_eq_true (by have := h.dep; omega)
theorem Fit.strLen {x : Str} (h : Fit (.str x)) : x.length ≤ 100000 := h.blk

/-! ### what the checks answer -/
def nameS (x : Str) : Bool := (decide (1 ≤ x.length) && decide (x.length ≤ 8)) && x.cps.toList.all fun c => decide (97 ≤ c ∧ c ≤ 122)
def gInt : PyData → Bool
  | .int _ => true
  | _ => false
def gNum : PyData → Bool
  | .int i => decide (0 ≤ i)
  | _ => false
def gNam : PyData → Bool
  | .str x => nameS x
  | _ => false
def gWord : PyData → Bool
  | .str x => nameS x || decide (x = "")
  | _ => false
def gPath : PyData → Bool
  | .str x => (Txt.split x "/").all nameS
  | _ => false
/-- a text that is not too long, if it is one -/
def Lit : PyData → Prop
  | .str x => x.length ≤ 100000 ∧ PyData.strOk x = true
  | _ => True
theorem strOk_iff {x : Str} : PyData.strOk x = true ↔ ∀ c ∈ x.cps.toList, c < 0x110000 := by
  unfold PyData.strOk
  rw [← Array.all_toList, List.all_eq_true]
  simp only [decide_eq_true_eq]
theorem Fit.lit {d : PyData} (h : Fit d) : Lit d := by
  cases d with
  | str x => exact ⟨h.strLen, by simpa only [PyData.canLay0] using h.lay⟩
  | _ => exact trivial
def spP (K : PySem.W.Frag) (g : PyData → Bool) : Sp := fun vs H Q _ => ∃ (v : V) (d : PyData), vs = [v] ∧ Dp K H v d ∧ Lit d ∧ ∀ H', Same H H' → Q (.bl (g d)) H'
theorem spP_len {K : PySem.W.Frag} {g : PyData → Bool} {x : Str} : ∀ vs H Q E, spP K g vs H Q E → vs.length = [x].length := by
  rintro vs H Q E ⟨v, d, rfl, _⟩
  rfl
theorem lt1 (a b : Nat) : ([a] < [b]) ↔ a < b := by
  constructor
  · intro h
    rcases List.cons_lt_cons_iff.mp h with h | ⟨_, h⟩
    · exact h
    · exact absurd h (List.not_lt_nil _)
  · intro h
    exact List.cons_lt_cons_iff.mpr (Or.inl h)
theorem letters (c : Nat) : decide (c ∈ ("abcdefghijklmnopqrstuvwxyz" : Str).cps.toList) = decide (97 ≤ c ∧ c ≤ 122) := by
  have e : ("abcdefghijklmnopqrstuvwxyz" : Str).cps.toList = [97, 98, 99, 100, 101, 102, 103, 104, 105, 106, 107, 108, 109, 110, 111, 112, 113, 114, 115, 116, 117, 118, 119, 120, 121, 122] := by decide +kernel
  rw [e]
  apply decide_eq_decide.mpr
  simp only [List.mem_cons, List.not_mem_nil, or_false]
  omega
theorem mapB {α : Type} (f : α → Bool) (l : List α) : l.map (fun c => V.bl (f c)) = (l.map f).map V.bl := by
  rw [List.map_map]
  rfl
theorem take_more {α : Type} {l : List α} {i : Nat} {c : α} (h : l[i]? = some c) : l.take (i + 1) = l.take i ++ [c] := by
  rw [List.take_add_one, h]
  rfl
structure Cst (mg : Str → Option Value) : Prop where
  letters : ∃ t, mg "LETTERS" = some (.str "abcdefghijklmnopqrstuvwxyz" t)
  longest : ∃ t, mg "LONGEST_NAME" = some (.int 8 t)
  slash : ∃ t, mg "SLASH" = some (.str "/" t)
section
variable {P : Program} {w : World} {K : PySem.W.Frag} {mg : Str → Option Value} {base : Heap}
theorem sc_is_integer : FnScope ["thing"] ["thing"] (defScope s_is_integer) := ⟨rfl, rfl, rfl, by decide +kernel, rfl, by decide +kernel, by decide +kernel⟩
theorem ok_is_integer {f : Addr} {fd : FuncData} (F : Fun K "is_integer" "is_integer" s_is_integer f fd) (B : Bs mg) : FnOk P w K mg base CX0 1 f fd ["thing"] (spP K gInt) := by
  refine F.ok sc_is_integer spP_len (fun cdv A outer s H vs Q E hr h => ?_)
  obtain ⟨v, d, rfl, hd, hf, q⟩ := h
  refine ⟨_, (pss_one (ps_ret (pe_and (pe_callB (call_isiD isa_int) (by rfl) B.isinstance_ (by decide +kernel) (pa_cons (pv 0) (pa_cons (pe_bltn (v := .ty "int") (by rfl) B.int_ (by decide +kernel) rfl) pa_nil))) (pe_one (pe_not (pe_callB (call_isiD isa_bool) (by rfl) B.isinstance_ (by decide +kernel) (pa_cons (pv 0) (pa_cons (pe_bltn (v := .ty "bool") (by rfl) B.bool_ (by decide +kernel) rfl) pa_nil)))))))), ?_⟩
  refine ⟨v, rfl, v, d, rfl, hd, isInt d, rfl, ?_⟩
  have q1 := q H (Same.refl H)
  cases d with
  | int i => exact iteT ⟨v, rfl, v, _, rfl, hd, _, rfl, q1⟩
  | bool i => exact iteT ⟨v, rfl, v, _, rfl, hd, _, rfl, q1⟩
  | _ => exact iteF q1
theorem sc__law_is_integer : FnScope ["_law_thing"] ["_law_thing"] (defScope s__law_is_integer) := ⟨rfl, rfl, rfl, by decide +kernel, rfl, by decide +kernel, by decide +kernel⟩
theorem ok__law_is_integer {f : Addr} {fd : FuncData} (F : Fun K "_law_is_integer" "_law_is_integer" s__law_is_integer f fd) (B : Bs mg) : FnOk P w K mg base CX0 1 f fd ["_law_thing"] (spP K gInt) := by
  refine F.ok sc__law_is_integer spP_len (fun cdv A outer s H vs Q E hr h => ?_)
  obtain ⟨v, d, rfl, hd, hf, q⟩ := h
  refine ⟨_, (pss_one (ps_ret (pe_and (pe_callB (call_isiD isa_int) (by rfl) B.isinstance_ (by decide +kernel) (pa_cons (pv 0) (pa_cons (pe_bltn (v := .ty "int") (by rfl) B.int_ (by decide +kernel) rfl) pa_nil))) (pe_one (pe_not (pe_callB (call_isiD isa_bool) (by rfl) B.isinstance_ (by decide +kernel) (pa_cons (pv 0) (pa_cons (pe_bltn (v := .ty "bool") (by rfl) B.bool_ (by decide +kernel) rfl) pa_nil)))))))), ?_⟩
  refine ⟨v, rfl, v, d, rfl, hd, isInt d, rfl, ?_⟩
  have q1 := q H (Same.refl H)
  cases d with
  | int i => exact iteT ⟨v, rfl, v, _, rfl, hd, _, rfl, q1⟩
  | bool i => exact iteT ⟨v, rfl, v, _, rfl, hd, _, rfl, q1⟩
  | _ => exact iteF q1
theorem sc_number : FnScope ["thing"] ["thing"] (defScope s_is_number) := ⟨rfl, rfl, rfl, by decide +kernel, rfl, by decide +kernel, by decide +kernel⟩
theorem ok_number {f : Addr} {fd : FuncData} (F : Fun K "is_number" "is_number" s_is_number f fd) (B : Bs mg) (Di : Df P w K mg base 1 "is_integer" ["thing"] (spP K gInt)) :
    FnOk P w K mg base CX0 2 f fd ["thing"] (spP K gNum) := by
  refine F.ok sc_number spP_len (fun cdv A outer s H vs Q E hr h => ?_)
  obtain ⟨v, d, rfl, hd, hf, q⟩ := h
  refine ⟨_, (pss_one (ps_ret (pe_and (pe_def Di (hr.mono (by decide)) (by rfl) (pa_cons (pv 0) pa_nil)) (pe_one (pe_cmpR op_ge (pv 0) pe_int (nomark _)))))), ?_⟩
  refine ⟨v, rfl, v, d, rfl, hd, hf, fun H1 s1 => ⟨gInt d, rfl, ?_⟩⟩
  have hd1 := dp_mono s1 hd
  cases hd1 with
  | int i => exact iteT ⟨_, rfl, i, 0, rfl, rfl, q H1 s1⟩
  | _ => exact iteF (q H1 s1)
theorem sc_name : FnScope ["thing", "char"] ["thing"] (defScope s_is_name) := ⟨rfl, rfl, rfl, by decide +kernel, rfl, by decide +kernel, by decide +kernel⟩
theorem ok_name {f : Addr} {fd : FuncData} (F : Fun K "is_name" "is_name" s_is_name f fd) (B : Bs mg) (C : Cst mg) :
    FnOk P w K mg base CX0 1 f fd ["thing"] (spP K gNam) := by
  refine F.ok sc_name spP_len (fun cdv A outer s H vs Q E hr h => ?_)
  obtain ⟨v, d, rfl, hd, hf, q⟩ := h
  refine ⟨_, (pss_cons (ps_if (PW.pt (pw_or (pt_not (pt_val (pe_callB (call_isiD isa_str) (by rfl) B.isinstance_ (by decide +kernel) (pa_cons (pv 0) (pa_cons (pe_bltn (v := .ty "str") (by rfl) B.str_ (by decide +kernel) rfl) pa_nil))))) (pw_or1 (pt_not (pt_chain op_le op_le pe_int (pe_callB call_len_str (by rfl) B.len_ (by decide +kernel) (pa_cons (pv 0) pa_nil)) (pe_glob (v := .int 8) (by rfl) C.longest.choose_spec ⟨_, rfl⟩))))))
 (pss_one (ps_ret pe_bl))
 pss_nil)
 (pss_one (ps_ret (pe_callB (cr_all rfl) (by rfl) B.all_ (by decide +kernel) (pa_cons (pe_lc (own := [("char", 1)]) (g := gName 1) (by rfl) sc_name.nd (pi_str (pv 0)) (blkOk_by (own := [("char", 1)]) (N := ["thing", "char"]) (sc := defScope s_is_name) (by decide +kernel)) (fun _ _ _ _ _ => (pg_name (i := 1) sc_name.nd rfl (by first | exact Or.inl rfl | exact Or.inr rfl))) (fun _ _ _ _ _ => pts_nil) (fun _ _ _ _ _ => (pe_cmpR op_in_sign (pv 1) (pe_glob (v := .str "abcdefghijklmnopqrstuvwxyz") (by rfl) C.letters.choose_spec ⟨_, rfl⟩) (by rfl)))) pa_nil))))), ?_⟩
  refine ⟨v, rfl, v, d, rfl, hd, isStr d, rfl, ?_⟩
  cases hd with
  | str x =>
    have hx : x.length ≤ 100000 := hf.1
    refine iteF ⟨_, rfl, x, rfl, Nat.le_trans hx (by decide), 1, _, rfl, rfl, _, rfl, ?_⟩
    refine ite2 (fun e1 => ⟨_, _, rfl, rfl, _, rfl, ?_⟩) (fun e1 => ⟨_, rfl, ?_⟩)
    · have e1' := of_decide_eq_true e1
      refine ite2 (fun e2 => ?_) (fun e2 => ?_)
      · have e2' : ¬ x.length ≤ 8 := fun z => by
          rw [decide_eq_true (show (x.length : Int) ≤ 8 by omega)] at e2
          cases e2
        have g : gNam (.str x) = false := by
          show nameS x = false
          unfold nameS
          rw [decide_eq_false e2', Bool.and_false, Bool.false_and]
        rw [g] at q
        exact q H (Same.refl H)
      · have e2' : x.length ≤ 8 := by
          refine Decidable.byContradiction fun z => e2 ?_
          rw [decide_eq_false (show ¬ (x.length : Int) ≤ 8 by omega)]
          rfl
        have g : gNam (.str x) = x.cps.toList.all fun c => decide (97 ≤ c ∧ c ≤ 122) := by
          show nameS x = _
          unfold nameS
          rw [decide_eq_true e2', decide_eq_true (show 1 ≤ x.length by omega), Bool.true_and, Bool.true_and]
        rw [g] at q
        refine ⟨_, rfl, x, rfl, fun D nD => lc_it walk_str (fun i H' => Same H H' ∧ H' D = some (.lst ((x.cps.toList.take i).map fun c => V.bl (decide (97 ≤ c ∧ c ≤ 122))))) ⟨same_new nD, upd_same⟩ (fun _ _ _ _ => trivial) ?_ ?_⟩
        · rintro i y H1 H2 hi ⟨sm, hD⟩ ⟨rfl, c, hc, rfl⟩
          refine ⟨rfl, _, rfl, c, _, rfl, rfl, _, hD, ?_, sm.upd_at nD, ?_⟩
          · rw [List.length_map, List.length_take]
            exact Nat.lt_of_le_of_lt (Nat.min_le_right _ _) (Nat.lt_of_le_of_lt (show x.cps.toList.length ≤ 8 from e2') (by decide))
          · rw [upd_same, letters, take_more (by simpa using hc), List.map_append]
            rfl
        · rintro H1 ⟨sm, hD⟩
          rw [show x.cps.size = x.cps.toList.length from rfl, List.take_length, mapB] at hD
          refine ⟨D, _, rfl, SqL.of hD, ?_⟩
          rw [List.all_map]
          exact q H1 sm
    · have g : gNam (.str x) = false := by
        show nameS x = false
        unfold nameS
        rw [decide_eq_false (show ¬ 1 ≤ x.length from fun z => e1 (decide_eq_true (by omega))), Bool.false_and, Bool.false_and]
      rw [g] at q
      exact q H (Same.refl H)
  | _ => exact iteT (q H (Same.refl H))
end
end K01

set_option Elab.async false
set_option linter.all false
set_option maxRecDepth 100000
set_option maxHeartbeats 4000000
namespace K01
open PySem PySem.Spec PyProof.Rows L2 Tw
open C8 (pss_cut)
open RZ (pi_zipA)
theorem eqv_strs (ss : List Str) : PyData.eqv (.list (ss.map PyData.str)) (.list []) = ss.isEmpty := by
  cases ss <;> rfl
theorem canLay_strs : ∀ {ss : List Str}, (∀ x ∈ ss, PyData.strOk x = true) → PyData.canLayAll0 (ss.map PyData.str) = true
  | [], _ => rfl
  | x :: ss, h => by
    simp only [List.map_cons, PyData.canLayAll0, PyData.canLay0, h x List.mem_cons_self, canLay_strs fun y hy => h y (List.mem_cons_of_mem _ hy), Bool.and_self]
theorem depth_strs : ∀ ss : List Str, PyData.depthAll (ss.map PyData.str) = 0
  | [] => rfl
  | n :: ns => by simp only [List.map_cons, PyData.depthAll, PyData.depth, depth_strs ns, Nat.max_self]
theorem shaped_strs {ss : List Str} (h : ∀ x ∈ ss, PyData.strOk x = true) : SeqAt.shaped (.list (ss.map PyData.str)) = true := by
  simp only [SeqAt.shaped, PyData.canLay0, canLay_strs h, PyData.depth, depth_strs]
  decide
theorem le_a (c : Nat) : (!decide ((⟨#[c]⟩ : Str).cps.toList < (Str.ofString "a").cps.toList)) = decide (97 ≤ c) := by
  have e : (Str.ofString "a").cps.toList = [97] := by decide +kernel
  rw [e, show (⟨#[c]⟩ : Str).cps.toList = [c] from rfl, decide_eq_decide.mpr (lt1 c 97)]
  by_cases h : c < 97
  · rw [decide_eq_true h, decide_eq_false (by omega)]
    rfl
  · rw [decide_eq_false h, decide_eq_true (by omega)]
    rfl
theorem le_z (c : Nat) : (!decide ((Str.ofString "z").cps.toList < (⟨#[c]⟩ : Str).cps.toList)) = decide (c ≤ 122) := by
  have e : (Str.ofString "z").cps.toList = [122] := by decide +kernel
  rw [e, show (⟨#[c]⟩ : Str).cps.toList = [c] from rfl, decide_eq_decide.mpr (lt1 122 c)]
  by_cases h : 122 < c
  · rw [decide_eq_true h, decide_eq_false (by omega)]
    rfl
  · rw [decide_eq_false h, decide_eq_true (by omega)]
    rfl
def bad (c : Nat) : Bool := !decide (97 ≤ c ∧ c ≤ 122)
theorem all_bad (l : List Nat) : (l.all fun c => decide (97 ≤ c ∧ c ≤ 122)) = (l.filter bad).isEmpty := by
  induction l with
  | nil => rfl
  | cons c l ih =>
    rw [List.all_cons, List.filter_cons, ih]
    by_cases h : 97 ≤ c ∧ c ≤ 122
    · rw [decide_eq_true h, show bad c = false by unfold bad; rw [decide_eq_true h]; rfl]
      rfl
    · rw [decide_eq_false h, show bad c = true by unfold bad; rw [decide_eq_false h]; rfl]
      rfl
theorem all_not {α : Type} (f : α → Bool) (l : List α) : l.all f = (l.filter fun y => !f y).isEmpty := by
  induction l with
  | nil => rfl
  | cons c l ih =>
    rw [List.all_cons, List.filter_cons, ih]
    cases f c <;> rfl
section
variable {P : Program} {w : World} {K : PySem.W.Frag} {mg : Str → Option Value} {base : Heap}
theorem sc_lname : FnScope ["_law_thing", "_law_sign"] ["_law_thing"] (defScope s__law_is_name) := ⟨rfl, rfl, rfl, by decide +kernel, rfl, by decide +kernel, by decide +kernel⟩
theorem ok_lname {f : Addr} {fd : FuncData} (F : Fun K "_law_is_name" "_law_is_name" s__law_is_name f fd) (B : Bs mg) :
    FnOk P w K mg base CX0 1 f fd ["_law_thing"] (spP K gNam) := by
  refine F.ok sc_lname spP_len (fun cdv A outer s H vs Q E hr h => ?_)
  obtain ⟨v, d, rfl, hd, hf, q⟩ := h
  refine ⟨_, (pss_one (ps_ret (pe_and (pe_callB (call_isiD isa_str) (by rfl) B.isinstance_ (by decide +kernel) (pa_cons (pv 0) (pa_cons (pe_bltn (v := .ty "str") (by rfl) B.str_ (by decide +kernel) rfl) pa_nil))) (pe_and (pe_chain op_lt op_lt pe_int (pe_callB call_len_str (by rfl) B.len_ (by decide +kernel) (pa_cons (pv 0) pa_nil)) pe_int) (pe_one (pe_cmpR (op_eqD hr.units) (pe_lc (own := [("_law_sign", 1)]) (g := gName 1) (by rfl) sc_lname.nd (pi_str (pv 0)) (blkOk_by (own := [("_law_sign", 1)]) (N := ["_law_thing", "_law_sign"]) (sc := defScope s__law_is_name) (by decide +kernel)) (fun _ _ _ _ _ => (pg_name (i := 1) sc_lname.nd rfl (by first | exact Or.inl rfl | exact Or.inr rfl))) (fun _ _ _ _ _ => (pts_one (pt_not (pt_chain op_le_str op_le_str pe_str (pv 1) pe_str)))) (fun _ _ _ _ _ => (pv 1))) (pe_lst pa_nil) (nomark _))))))), ?_⟩
  refine ⟨v, rfl, v, d, rfl, hd, isStr d, rfl, ?_⟩
  cases hd with
  | str x =>
    have hx : x.length ≤ 100000 := hf.1
    have g1 : gNam (.str x) = ((decide (1 ≤ x.length) && decide (x.length ≤ 8)) && (x.cps.toList.filter bad).isEmpty) := by
      rw [← all_bad]
      rfl
    refine ⟨_, rfl, x, rfl, Nat.le_trans hx (by decide), 0, _, rfl, rfl, _, rfl, ?_⟩
    by_cases h1 : 1 ≤ x.length
    · rw [decide_eq_true (show (0 : Int) < (x.length : Int) by omega)]
      refine iteT ⟨_, _, rfl, rfl, _, rfl, ?_⟩
      by_cases h2 : x.length ≤ 8
      · rw [decide_eq_true (show (x.length : Int) < 9 by omega)]
        rw [g1, decide_eq_true h1, decide_eq_true h2, Bool.true_and, Bool.true_and] at q
        refine iteT ⟨_, rfl, x, rfl, fun D nD => lc_it walk_str (fun i H' => Same H H' ∧ H' D = some (.lst ((((x.cps.toList.take i).filter bad).map fun c => (⟨#[c]⟩ : Str)).map V.str))) ⟨same_new nD, upd_same⟩ (fun _ _ _ _ => trivial) ?_ ?_⟩
        · rintro i y H1 H2 hi ⟨sm, hD⟩ ⟨rfl, c, hc, rfl⟩
          have hc' : x.cps.toList[i]? = some c := by simpa using hc
          refine ⟨rfl, _, rfl, _, _, rfl, rfl, _, rfl, ?_⟩
          rw [le_a]
          have skip : bad c = false → (Same H H2 ∧ H2 D = some (.lst ((((x.cps.toList.take (i + 1)).filter bad).map fun c => (⟨#[c]⟩ : Str)).map V.str))) := fun e => by
            rw [take_more hc', List.filter_append, List.filter_cons, e, if_neg Bool.false_ne_true, List.filter_nil, List.append_nil]
            exact ⟨sm, hD⟩
          have put : bad c = true → ∃ acc, H2 D = some (.lst acc) ∧ acc.length < sizeLine ∧ Same H (upd H2 D (.lst (acc ++ [V.str ⟨#[c]⟩]))) ∧
              upd H2 D (.lst (acc ++ [V.str ⟨#[c]⟩])) D = some (.lst ((((x.cps.toList.take (i + 1)).filter bad).map fun c => (⟨#[c]⟩ : Str)).map V.str)) := fun e => by
            refine ⟨_, hD, ?_, sm.upd_at nD, ?_⟩
            · rw [List.length_map, List.length_map]
              refine Nat.lt_of_le_of_lt (Nat.le_trans (List.length_filter_le _ _) ?_) (show 8 < sizeLine by decide)
              rw [List.length_take]
              exact Nat.le_trans (Nat.min_le_right _ _) (show x.cps.toList.length ≤ 8 from h2)
            · rw [upd_same, take_more hc', List.filter_append, List.filter_cons, e, if_pos rfl, List.filter_nil, List.map_append, List.map_append]
              rfl
          by_cases c1 : 97 ≤ c
          · rw [decide_eq_true c1]
            refine iteT ⟨_, _, rfl, rfl, _, rfl, ?_⟩
            rw [le_z]
            by_cases c2 : c ≤ 122
            · rw [decide_eq_true c2]
              exact skip (by unfold bad; rw [decide_eq_true ⟨c1, c2⟩]; rfl)
            · rw [decide_eq_false c2]
              exact ⟨_, rfl, put (by unfold bad; rw [decide_eq_false fun z => c2 z.2]; rfl)⟩
          · rw [decide_eq_false c1]
            exact ⟨_, rfl, _, rfl, put (by unfold bad; rw [decide_eq_false fun z => c1 z.1]; rfl)⟩
        · rintro H1 ⟨sm, hD⟩
          rw [show x.cps.size = x.cps.toList.length from rfl, List.take_length] at hD
          refine ⟨Nat.zero_le _, fun p np => ?_⟩
          have hD' : (upd H1 p (.lst [])) D = _ := (upd_ne (ne_of_none hD np)).trans hD
          refine ⟨_, _, .lst (SqL.of hD') (dps_strs _), .lst (SqL.of upd_same) .nil, shaped_strs ?_, by decide, ?_⟩
          · intro y hy
            obtain ⟨c, hc, rfl⟩ := List.mem_map.mp hy
            refine strOk_iff.mpr fun a ha => ?_
            rw [show a = c by simpa using ha]
            exact strOk_iff.mp hf.2 c (List.mem_filter.mp hc).1
          · rw [eqv_strs, show (((x.cps.toList.filter bad).map fun c => (⟨#[c]⟩ : Str))).isEmpty = (x.cps.toList.filter bad).isEmpty by cases x.cps.toList.filter bad <;> rfl]
            exact q _ (sm.trans (same_new np))
      · rw [decide_eq_false (show ¬ (x.length : Int) < 9 by omega)]
        rw [g1, decide_eq_false h2, Bool.and_false, Bool.false_and] at q
        exact q H (Same.refl H)
    · rw [decide_eq_false (show ¬ (0 : Int) < (x.length : Int) by omega)]
      rw [g1, decide_eq_false h1, Bool.false_and, Bool.false_and] at q
      exact ⟨_, rfl, q H (Same.refl H)⟩
  | _ => exact q H (Same.refl H)
theorem sc_is_word : FnScope ["thing"] ["thing"] (defScope s_is_word) := ⟨rfl, rfl, rfl, by decide +kernel, rfl, by decide +kernel, by decide +kernel⟩
theorem ok_is_word {f : Addr} {fd : FuncData} (F : Fun K "is_word" "is_word" s_is_word f fd) (B : Bs mg) (Dn : Df P w K mg base 1 "is_name" ["thing"] (spP K gNam)) :
    FnOk P w K mg base CX0 2 f fd ["thing"] (spP K gWord) := by
  refine F.ok sc_is_word spP_len (fun cdv A outer s H vs Q E hr h => ?_)
  obtain ⟨v, d, rfl, hd, hf, q⟩ := h
  refine ⟨_, (pss_one (ps_ret (pe_or (pe_def Dn (hr.mono (by decide)) (by rfl) (pa_cons (pv 0) pa_nil)) (pe_one (pe_and (pe_callB (call_isiD isa_str) (by rfl) B.isinstance_ (by decide +kernel) (pa_cons (pv 0) (pa_cons (pe_bltn (v := .ty "str") (by rfl) B.str_ (by decide +kernel) rfl) pa_nil))) (pe_one (pe_cmpR op_eq (pv 0) pe_str (nomark _)))))))), ?_⟩
  refine ⟨v, rfl, v, d, rfl, hd, hf, fun H1 s1 => ⟨gNam d, rfl, ?_⟩⟩
  have hd1 := dp_mono s1 hd
  have q1 := q H1 s1
  have hd2 := hd1
  cases hd1 with
  | str x =>
    refine ite2 (fun e => ?_) (fun e => ?_)
    · rw [show gWord (.str x) = true by show (nameS x || _) = true; rw [show nameS x = true from e]; rfl] at q1
      exact q1
    · refine ⟨_, rfl, _, _, rfl, .str x, true, rfl, _, rfl, rfl, ?_⟩
      rw [show gWord (.str x) = decide (V.str x = V.str "") by
        show (nameS x || decide (x = "")) = _
        rw [show nameS x = false from Bool.eq_false_iff.mpr e, Bool.false_or]
        exact decide_eq_decide.mpr ⟨fun z => by rw [z], fun z => V.str.inj z⟩] at q1
      exact q1
  | _ => exact ⟨_, rfl, _, _, rfl, hd2, false, rfl, q1⟩
theorem sc__law_is_word : FnScope ["_law_thing"] ["_law_thing"] (defScope s__law_is_word) := ⟨rfl, rfl, rfl, by decide +kernel, rfl, by decide +kernel, by decide +kernel⟩
theorem ok__law_is_word {f : Addr} {fd : FuncData} (F : Fun K "_law_is_word" "_law_is_word" s__law_is_word f fd) (B : Bs mg) (Dn : Df P w K mg base 1 "_law_is_name" ["_law_thing"] (spP K gNam)) :
    FnOk P w K mg base CX0 2 f fd ["_law_thing"] (spP K gWord) := by
  refine F.ok sc__law_is_word spP_len (fun cdv A outer s H vs Q E hr h => ?_)
  obtain ⟨v, d, rfl, hd, hf, q⟩ := h
  refine ⟨_, (pss_one (ps_ret (pe_or (pe_def Dn (hr.mono (by decide)) (by rfl) (pa_cons (pv 0) pa_nil)) (pe_one (pe_and (pe_callB (call_isiD isa_str) (by rfl) B.isinstance_ (by decide +kernel) (pa_cons (pv 0) (pa_cons (pe_bltn (v := .ty "str") (by rfl) B.str_ (by decide +kernel) rfl) pa_nil))) (pe_one (pe_cmpR op_eq (pv 0) pe_str (nomark _)))))))), ?_⟩
  refine ⟨v, rfl, v, d, rfl, hd, hf, fun H1 s1 => ⟨gNam d, rfl, ?_⟩⟩
  have hd1 := dp_mono s1 hd
  have q1 := q H1 s1
  have hd2 := hd1
  cases hd1 with
  | str x =>
    refine ite2 (fun e => ?_) (fun e => ?_)
    · rw [show gWord (.str x) = true by show (nameS x || _) = true; rw [show nameS x = true from e]; rfl] at q1
      exact q1
    · refine ⟨_, rfl, _, _, rfl, .str x, true, rfl, _, rfl, rfl, ?_⟩
      rw [show gWord (.str x) = decide (V.str x = V.str "") by
        show (nameS x || decide (x = "")) = _
        rw [show nameS x = false from Bool.eq_false_iff.mpr e, Bool.false_or]
        exact decide_eq_decide.mpr ⟨fun z => by rw [z], fun z => V.str.inj z⟩] at q1
      exact q1
  | _ => exact ⟨_, rfl, _, _, rfl, hd2, false, rfl, q1⟩
theorem part_lit {x y : Str} (h : Lit (.str x)) (hy : y ∈ Txt.split x "/") : Lit (.str y) := by
  have e : Str.join "/" (Txt.split x "/") = x := StrLaws.join_split x "/"
  refine ⟨?_, strOk_iff.mpr fun c hc => strOk_iff.mp h.2 c ?_⟩
  · have h1 := join_mem_le "/" _ y hy
    rw [e] at h1
    exact Nat.le_trans h1 h.1
  · rw [← e]
    exact (mem_join "/" c _).mpr (Or.inl ⟨y, hy, hc⟩)
theorem sc_path : FnScope ["thing", "part"] ["thing"] (defScope s_is_path) := ⟨rfl, rfl, rfl, by decide +kernel, rfl, by decide +kernel, by decide +kernel⟩
theorem ok_path {f : Addr} {fd : FuncData} (F : Fun K "is_path" "is_path" s_is_path f fd) (B : Bs mg) (C : Cst mg) (Dn : Df P w K mg base 1 "is_name" ["thing"] (spP K gNam)) :
    FnOk P w K mg base CX0 2 f fd ["thing"] (spP K gPath) := by
  refine F.ok sc_path spP_len (fun cdv A outer s H vs Q E hr h => ?_)
  obtain ⟨v, d, rfl, hd, hf, q⟩ := h
  refine ⟨_, (pss_one (ps_ret (pe_and (pe_callB (call_isiD isa_str) (by rfl) B.isinstance_ (by decide +kernel) (pa_cons (pv 0) (pa_cons (pe_bltn (v := .ty "str") (by rfl) B.str_ (by decide +kernel) rfl) pa_nil))) (pe_one (pe_callB (cr_all rfl) (by rfl) B.all_ (by decide +kernel) (pa_cons (pe_lc (own := [("part", 1)]) (g := gName 1) (by rfl) sc_path.nd (pi_list (pe_split (pv 0) (pe_glob (v := .str "/") (by rfl) C.slash.choose_spec ⟨_, rfl⟩))) (blkOk_by (own := [("part", 1)]) (N := ["thing", "part"]) (sc := defScope s_is_path) (by decide +kernel)) (fun _ _ _ _ _ => (pg_name (i := 1) sc_path.nd rfl (by first | exact Or.inl rfl | exact Or.inr rfl))) (fun _ _ _ _ _ => pts_nil) (fun _ _ _ _ _ => (pe_def Dn (hr.mono (by decide)) (by rfl) (pa_cons (pv 1) pa_nil)))) pa_nil)))))), ?_⟩
  refine ⟨v, rfl, v, d, rfl, hd, isStr d, rfl, ?_⟩
  cases hd with
  | str x =>
    have hsl := split_le x "/"
    refine ⟨_, rfl, ⟨x, rfl⟩, x, "/", rfl, rfl, by decide, Nat.le_trans (Nat.add_le_add_right hf.1 2) (by decide), fun p np => ?_⟩
    have s1 : Same H (upd H p (.lst ((Txt.split x "/").map V.str))) := same_new np
    have hp : (upd H p (.lst ((Txt.split x "/").map V.str))) p = some (.lst ((Txt.split x "/").map V.str)) := upd_same
    generalize upd H p (.lst ((Txt.split x "/").map V.str)) = H1 at s1 hp
    refine ⟨p, rfl, ⟨_, SqL.of hp⟩, fun D nD => lc_it walk_list (fun i H' => Same H1 H' ∧ H' D = some (.lst (((Txt.split x "/").take i).map fun y => V.bl (nameS y)))) ⟨same_new nD, upd_same⟩ (fun _ _ _ h => SqL.of (h.1 _ _ hp)) ?_ ?_⟩
    · rintro i y H2 H3 hi ⟨sm, hD⟩ ⟨rfl, hy⟩
      rw [List.length_map] at hi
      rw [List.getElem?_map, List.getElem?_eq_getElem hi] at hy
      obtain rfl := Option.some.inj hy
      refine ⟨rfl, _, rfl, _, _, rfl, .str _, part_lit hf (List.getElem_mem hi), fun H4 s4 => ⟨_, s4 _ _ hD, ?_, (sm.trans s4).upd_at nD, ?_⟩⟩
      · rw [List.length_map, List.length_take]
        exact Nat.lt_of_le_of_lt (Nat.le_trans (Nat.min_le_right _ _) (Nat.le_trans hsl (Nat.add_le_add_right hf.1 2))) (by decide)
      · rw [upd_same, take_more (List.getElem?_eq_getElem hi), List.map_append]
        rfl
    · rintro H2 ⟨sm, hD⟩
      rw [List.length_map, List.take_length, mapB] at hD
      refine ⟨D, _, rfl, SqL.of hD, ?_⟩
      rw [List.all_map]
      exact q H2 (s1.trans sm)
  | _ => exact q H (Same.refl H)
theorem sc_lpath : FnScope ["_law_thing", "_law_part"] ["_law_thing"] (defScope s__law_is_path) := ⟨rfl, rfl, rfl, by decide +kernel, rfl, by decide +kernel, by decide +kernel⟩
theorem ok_lpath {f : Addr} {fd : FuncData} (F : Fun K "_law_is_path" "_law_is_path" s__law_is_path f fd) (B : Bs mg) (Dn : Df P w K mg base 1 "_law_is_name" ["_law_thing"] (spP K gNam)) :
    FnOk P w K mg base CX0 2 f fd ["_law_thing"] (spP K gPath) := by
  refine F.ok sc_lpath spP_len (fun cdv A outer s H vs Q E hr h => ?_)
  obtain ⟨v, d, rfl, hd, hf, q⟩ := h
  refine ⟨_, (pss_one (ps_ret (pe_and (pe_callB (call_isiD isa_str) (by rfl) B.isinstance_ (by decide +kernel) (pa_cons (pv 0) (pa_cons (pe_bltn (v := .ty "str") (by rfl) B.str_ (by decide +kernel) rfl) pa_nil))) (pe_one (pe_cmpR (op_eqD hr.units) (pe_lc (own := [("_law_part", 1)]) (g := gName 1) (by rfl) sc_lpath.nd (pi_list (pe_split (pv 0) pe_str)) (blkOk_by (own := [("_law_part", 1)]) (N := ["_law_thing", "_law_part"]) (sc := defScope s__law_is_path) (by decide +kernel)) (fun _ _ _ _ _ => (pg_name (i := 1) sc_lpath.nd rfl (by first | exact Or.inl rfl | exact Or.inr rfl))) (fun _ _ _ _ _ => (pts_one (pt_not (pt_val (pe_def Dn (hr.mono (by decide)) (by rfl) (pa_cons (pv 1) pa_nil)))))) (fun _ _ _ _ _ => (pv 1))) (pe_lst pa_nil) (nomark _)))))), ?_⟩
  refine ⟨v, rfl, v, d, rfl, hd, isStr d, rfl, ?_⟩
  cases hd with
  | str x =>
    have hsl := split_le x "/"
    refine ⟨_, rfl, ⟨x, rfl⟩, x, "/", rfl, rfl, by decide, Nat.le_trans (Nat.add_le_add_right hf.1 2) (by decide), fun p np => ?_⟩
    have s1 : Same H (upd H p (.lst ((Txt.split x "/").map V.str))) := same_new np
    have hp : (upd H p (.lst ((Txt.split x "/").map V.str))) p = some (.lst ((Txt.split x "/").map V.str)) := upd_same
    generalize upd H p (.lst ((Txt.split x "/").map V.str)) = H1 at s1 hp
    refine ⟨p, rfl, ⟨_, SqL.of hp⟩, fun D nD => lc_it walk_list (fun i H' => Same H1 H' ∧ H' D = some (.lst ((((Txt.split x "/").take i).filter fun y => !nameS y).map V.str))) ⟨same_new nD, upd_same⟩ (fun _ _ _ h => SqL.of (h.1 _ _ hp)) ?_ ?_⟩
    · rintro i y H2 H3 hi ⟨sm, hD⟩ ⟨rfl, hy⟩
      rw [List.length_map] at hi
      rw [List.getElem?_map, List.getElem?_eq_getElem hi] at hy
      obtain rfl := Option.some.inj hy
      refine ⟨rfl, _, rfl, _, _, rfl, .str _, part_lit hf (List.getElem_mem hi), fun H4 s4 => ⟨_, rfl, ?_⟩⟩
      rw [take_more (List.getElem?_eq_getElem hi), List.filter_append, List.filter_cons, List.filter_nil]
      show if (!nameS _) = true then _ else _
      cases e : nameS ((Txt.split x "/")[i])
      · refine ⟨_, rfl, _, s4 _ _ hD, ?_, (sm.trans s4).upd_at nD, ?_⟩
        · rw [List.length_map]
          refine Nat.lt_of_le_of_lt (List.length_filter_le _ _) ?_
          rw [List.length_take]
          exact Nat.lt_of_le_of_lt (Nat.le_trans (Nat.min_le_right _ _) (Nat.le_trans hsl (Nat.add_le_add_right hf.1 2))) (by decide)
        · rw [upd_same, List.map_append]
          rfl
      · refine ⟨sm.trans s4, ?_⟩
        rw [s4 _ _ hD]
        simp
    · rintro H2 ⟨sm, hD⟩
      rw [List.length_map, List.take_length] at hD
      refine ⟨Nat.zero_le _, fun p2 np2 => ?_⟩
      have hD' := (upd_ne (o := .lst []) (ne_of_none hD np2)).trans hD
      refine ⟨_, _, .lst (SqL.of hD') (dps_strs _), .lst (SqL.of upd_same) .nil, shaped_strs ?_, by decide, ?_⟩
      · intro y hy
        exact (part_lit hf (List.mem_filter.mp hy).1).2
      · rw [eqv_strs, ← all_not]
        exact q _ ((s1.trans sm).trans (same_new np2))
  | _ => exact q H (Same.refl H)
end
end K01

set_option Elab.async false
set_option linter.all false
set_option maxRecDepth 100000
set_option maxHeartbeats 4000000
namespace K01
open PySem PySem.Spec PyProof.Rows L2 Tw
open C8 (pss_cut)
open RZ (pi_zipA ItzT)
inductive Kd where
  | path | num | name
def Kd.g : Kd → PyData → Bool
  | .path => gPath
  | .num => gNum
  | .name => gNam
def table : List (Str × List Kd) := [("make", [.path]), ("fold", [.path]), ("link", [.path, .path]), ("remove", [.path]), ("move", [.path, .path]),
  ("put", [.path, .num, .name]), ("short", [.path, .num])]
def parts (z : Str) : Option (List Kd) := (table.find? fun p => p.1 == z).map (·.2)
def gDeed : PyData → Bool
  | .tuple (.str z :: ds) => (match parts z with
    | some ks => decide (ds.length = ks.length) && (ks.zip ds).all fun p => p.1.g p.2
    | none => false)
  | _ => false
theorem walk_zipT {K : PySem.W.Frag} {a b : Addr} {xs ys : List V} {n : Nat} (hn : n = min xs.length ys.length) :
    Walk (ItzT K a b) n (fun H => SqT K H a xs ∧ SqT K H b ys) (YPair (fun i => xs[i]?) (fun i => ys[i]?)) := by
  subst hn
  constructor
  · rintro i H hi ⟨q1, q2⟩
    exact ⟨xs, ys, _, _, q1, q2, List.getElem?_eq_getElem (show i < xs.length by omega), List.getElem?_eq_getElem (show i < ys.length by omega)⟩
  · rintro H ⟨q1, q2⟩
    exact ⟨xs, ys, q1, q2, by omega⟩
  · rintro i H v H' hi ⟨q1, q2⟩ ⟨T, x, y, h1, h2, h3, h4, h5⟩
    exact ⟨T, x, y, h1, h2, h3, h4 xs q1, h5 ys q2⟩
/-- the module's table of checks, as it is written -/
structure Prt (K : PySem.W.Frag) (w : World) (mg : Str → Option Value) (fa : Kd → Addr) (d : Addr) (ta : Str → Addr) : Prop where
  hm : mg "PARTS" = some (.ref d)
  kd : ∃ es n, KDict K w d es n
  ns : ∀ z, PySem.W.nsIn K d z = some ((parts z).map fun _ => .ref (ta z))
  tu : ∀ z ks, parts z = some ks → ∀ H, SqT K H (ta z) (ks.map fun k => V.ref (fa k))
  ne : fa .path ≠ fa .num ∧ fa .path ≠ fa .name ∧ fa .num ≠ fa .name
def spD (K : PySem.W.Frag) (g : PyData → Bool) : Sp := fun vs H Q _ => ∃ (v : V) (d : PyData), vs = [v] ∧ Dp K H v d ∧ Fit d ∧ ∀ H', Same H H' → Q (.bl (g d)) H'
theorem spD_len {K : PySem.W.Frag} {g : PyData → Bool} {x : Str} : ∀ vs H Q E, spD K g vs H Q E → vs.length = [x].length := by
  rintro vs H Q E ⟨v, d, rfl, _⟩
  rfl
theorem parts_len {z : Str} {ks : List Kd} (h : parts z = some ks) : ks.length ≤ 3 := by
  obtain ⟨p, hp, rfl⟩ := Option.map_eq_some_iff.mp h
  have hm := List.mem_of_find?_eq_some hp
  simp only [table, List.mem_cons, List.not_mem_nil, or_false] at hm
  rcases hm with rfl | rfl | rfl | rfl | rfl | rfl | rfl <;> decide
section
variable {P : Program} {w : World} {K : PySem.W.Frag} {mg : Str → Option Value} {base : Heap}
def pick (K : PySem.W.Frag) (fa : Kd → Addr) (f : Addr) : Option Sp :=
  if f = fa .path then some (spP K gPath) else if f = fa .num then some (spP K gNum) else if f = fa .name then some (spP K gNam) else none
theorem pick_at {fa : Kd → Addr} (ne : fa .path ≠ fa .num ∧ fa .path ≠ fa .name ∧ fa .num ≠ fa .name) (k : Kd) : pick K fa (fa k) = some (spP K k.g) := by
  unfold pick
  cases k
  · rw [if_pos rfl]
    rfl
  · rw [if_neg ne.1.symm, if_pos rfl]
    rfl
  · rw [if_neg ne.2.1.symm, if_neg ne.2.2.symm, if_pos rfl]
    rfl
theorem sc_deed : FnScope ["thing", "checks", "check", "part"] ["thing"] (defScope s_is_deed) := ⟨rfl, rfl, rfl, by decide +kernel, rfl, by decide +kernel, by decide +kernel⟩
theorem ok_deed {f : Addr} {fd : FuncData} (F : Fun K "is_deed" "is_deed" s_is_deed f fd) (B : Bs mg) {fa : Kd → Addr} {d : Addr} {ta : Str → Addr} (T : Prt K w mg fa d ta)
    (Hs : ∀ f sp, pick K fa f = some sp → Held P w K mg base 2 f sp) :
    FnOk P w K mg base CX0 3 f fd ["thing"] (spD K gDeed) := by
  refine F.ok sc_deed spD_len (fun cdv A outer s H vs Q E hr h => ?_)
  obtain ⟨v, dd, rfl, hd, hf, q⟩ := h
  obtain ⟨es, en, hkd⟩ := T.kd
  obtain ⟨kat, klit, klow⟩ := id hkd
  refine ⟨_, (pss_cons (ps_if (PW.pt (pw_or (pt_not (pt_val (pe_callB (call_isiD isa_tuple) (by rfl) B.isinstance_ (by decide +kernel) (pa_cons (pv 0) (pa_cons (pe_bltn (v := .ty "tuple") (by rfl) B.tuple_ (by decide +kernel) rfl) pa_nil))))) (pw_or (pt_cmpR (op_eqD hr.units) (pv 0) (pe_tup pa_nil) (nomark _)) (pw_or (pt_not (pt_val (pe_callB (call_isiD isa_str) (by rfl) B.isinstance_ (by decide +kernel) (pa_cons (pe_ix ix_tup (pv 0) pe_int (fun _ _ => rfl)) (pa_cons (pe_bltn (v := .ty "str") (by rfl) B.str_ (by decide +kernel) rfl) pa_nil))))) (pw_or1 (pt_cmpR (op_notIn_kd hkd) (pe_ix ix_tup (pv 0) pe_int (fun _ _ => rfl)) (pe_glob (v := .ref d) (by rfl) T.hm rfl) (by rfl)))))))
 (pss_one (ps_ret pe_bl))
 pss_nil)
 (pss_cons (ps_set (i := 1) sc_deed.nd rfl (by first | exact Or.inl rfl | exact Or.inr rfl) (pe_ix ix_kdict (pe_glob (v := .ref d) (by rfl) T.hm rfl) (pe_ix ix_tup (pv 0) pe_int (fun _ _ => rfl)) (fun _ _ => rfl)))
 (pss_cons (ps_if (pt_cmpR op_ne (pe_callB call_len_seq (by rfl) B.len_ (by decide +kernel) (pa_cons (pv 0) pa_nil)) (pe_op op_add (pe_callB call_len_seq (by rfl) B.len_ (by decide +kernel) (pa_cons (pv 1) pa_nil)) pe_int) (nomark _))
 (pss_one (ps_ret pe_bl))
 pss_nil)
 (pss_one (ps_ret (pe_callB (cr_all rfl) (by rfl) B.all_ (by decide +kernel) (pa_cons (pe_lc (own := [("check", 2), ("part", 3)]) (g := gTup _ 2 (gCons (gName 2) (gCons (gName 3) gNil))) (by rfl) sc_deed.nd (pi_zipA (by rfl) B.zip_ (pa_cons (pv 1) (pa_cons (pe_slice sl_tup (pv 0) (po_some pe_int) po_none) pa_nil))) (blkOk_by (own := [("check", 2), ("part", 3)]) (N := ["thing", "checks", "check", "part"]) (sc := defScope s_is_deed) (by decide +kernel)) (fun _ _ _ _ _ => (pg_tup rfl (pgs_cons (pg_name (i := 2) sc_deed.nd rfl (by first | exact Or.inl rfl | exact Or.inr rfl)) (pgs_cons (pg_name (i := 3) sc_deed.nd rfl (by first | exact Or.inl rfl | exact Or.inr rfl)) pgs_nil)))) (fun _ _ _ _ _ => pts_nil) (fun _ _ _ _ _ => (pe_callA (i := 2) Hs (hr.mono (by decide)) (by rfl) (Or.inl rfl) (pa_cons (pv 3) pa_nil)))) pa_nil))))))), ?_⟩
  refine ⟨v, rfl, v, dd, rfl, hd, isTup dd, rfl, ?_⟩
  cases hd with
  | @tup a xs ds h1 h2 =>
    refine ⟨_, rfl, Nat.zero_le _, fun p np => ?_⟩
    have s1 : Same H (upd H p (.tup [])) := same_new np
    have hp : (upd H p (.tup [])) p = some (.tup []) := upd_same
    generalize upd H p (.tup []) = H1 at s1 hp
    have h1' := s1.seqT h1
    have h2' := dps_mono s1 h2
    refine ⟨.tuple ds, .tuple [], .tup h1' h2', .tup (SqT.of hp) .nil, hf.shaped, by decide, _, rfl, ?_⟩
    cases h2' with
    | nil => exact q H1 s1
    | @cons x0 xr d0 dr hd0 hdr =>
      refine ⟨_, rfl, a, _, 0, _, rfl, rfl, h1', atI_nat (j := 0) rfl, x0, d0, rfl, hd0, isStr d0, rfl, ?_⟩
      cases hd0 with
      | str z =>
        refine ⟨_, rfl, a, _, 0, _, rfl, rfl, h1', atI_nat (j := 0) rfl, z, _, rfl, rfl, T.ns z, _, rfl, ?_⟩
        cases hz : parts z with
        | none =>
          have g : gDeed (.tuple (.str z :: dr)) = false := by
            show (match parts z with | some ks => _ | none => false) = false
            rw [hz]
          rw [g] at q
          exact q H1 s1
        | some ks =>
          have g : gDeed (.tuple (.str z :: dr)) = (decide (dr.length = ks.length) && (ks.zip dr).all fun p => p.1.g p.2) := by
            show (match parts z with | some ks => _ | none => false) = _
            rw [hz]
          rw [g] at q
          have hn := T.ns z
          rw [hz] at hn
          have hT := T.tu z ks hz
          refine ⟨_, rfl, a, _, 0, _, rfl, rfl, h1', atI_nat (j := 0) rfl, d, z, .ref (ta z), rfl, rfl, ⟨es, en, _, kat, klit, hn, rfl⟩, ?_⟩
          refine ⟨_, rfl, a, _, rfl, .inr h1', _, rfl, ta z, _, rfl, .inr (hT H1), _, _, rfl, rfl, rfl, _, rfl, ?_⟩
          have hlr : xr.length = dr.length := dps_len hdr
          by_cases hl : dr.length = ks.length
          · rw [decide_eq_true hl, Bool.true_and] at q
            rw [show (!decide (V.int (((V.str z :: xr).length : Nat) : Int) = V.int (((ks.map fun k => V.ref (fa k)).length : Nat) + 1))) = false by
              rw [decide_eq_true (by rw [List.length_cons, List.length_map, hlr, hl]; rfl)]
              rfl]
            have h3 := parts_len hz
            refine ⟨_, rfl, _, rfl, _, rfl, a, _, rfl, h1', ?_, fun b nb => ?_⟩
            · rw [show HT.sIx (V.str z :: xr).length 0 (some 1) = min 1 (V.str z :: xr).length from HT.sIx_nat _ 0 1, List.length_cons]
              omega
            have ec : cutV (V.str z :: xr) (some 1) none = xr := by
              unfold cutV
              rw [show HT.sIx (V.str z :: xr).length 0 (some 1) = min 1 (V.str z :: xr).length from HT.sIx_nat _ 0 1, HT.sIx_none, List.length_cons, show min 1 (xr.length + 1) = 1 by omega]
              show xr.take (xr.length + 1 - 1) = xr
              rw [Nat.add_sub_cancel]
              exact List.take_length
            rw [ec]
            have s2 : Same H1 (upd H1 b (.tup xr)) := same_new nb
            have hb : (upd H1 b (.tup xr)) b = some (.tup xr) := upd_same
            generalize upd H1 b (.tup xr) = H2 at s2 hb
            have hdr2 := dps_mono s2 hdr
            refine ⟨ta z, b, _, _, rfl, .inr ⟨hT H2, SqT.of hb, fun D nD => ?_⟩⟩
            refine lc_it (walk_zipT (xs := ks.map fun k => V.ref (fa k)) (ys := xr) (n := ks.length) (by rw [List.length_map]; omega))
              (fun i H' => Same H2 H' ∧ H' D = some (.lst (((ks.zip dr).take i).map fun p => V.bl (p.1.g p.2)))) ⟨same_new nD, upd_same⟩ (fun _ H' _ h => ⟨hT H', SqT.of (h.1 _ _ hb)⟩) ?_ ?_
            · rintro i y H3 H4 hi ⟨sm, hD⟩ ⟨U, x, y', rfl, nU, rfl, hx, hy⟩
              have s4 : Same H3 (upd H3 U (.tup [x, y'])) := same_new nU
              have hi' : i < dr.length := by omega
              have hx : (ks.map fun k => V.ref (fa k))[i]? = some x := hx
              have hy : xr[i]? = some y' := hy
              rw [List.getElem?_map, List.getElem?_eq_getElem hi] at hx
              obtain rfl := Option.some.inj hx
              obtain ⟨e, he, hde⟩ := dps_get (dps_mono (sm.trans s4) hdr2) hy
              have hfe : Fit e := hf.mem (List.mem_cons_of_mem _ (List.mem_of_getElem? he))
              refine ⟨U, _, rfl, SqT.of upd_same, rfl, _, _, rfl, _, _, rfl, rfl, rfl, _, _, rfl, pick_at T.ne _, _, rfl, _, e, rfl, hde, hfe.lit, fun H5 s5 => ⟨_, s5 _ _ (s4 _ _ hD), ?_, ((sm.trans s4).trans s5).upd_at nD, ?_⟩⟩
              · rw [List.length_map, List.length_take, List.length_zip]
                exact Nat.lt_of_le_of_lt (show _ ≤ 3 by omega) (by decide)
              · have hz2 : (ks.zip dr)[i]? = some (ks[i], e) := by
                  rw [List.getElem?_zip_eq_some]
                  exact ⟨List.getElem?_eq_getElem hi, he⟩
                rw [upd_same, take_more hz2, List.map_append]
                rfl
            · rintro H3 ⟨sm, hD⟩
              rw [List.take_of_length_le (by rw [List.length_zip]; omega), mapB] at hD
              refine ⟨D, _, rfl, SqL.of hD, ?_⟩
              rw [List.all_map]
              exact q H3 ((s1.trans s2).trans sm)
          · rw [decide_eq_false hl, Bool.false_and] at q
            rw [show (!decide (V.int (((V.str z :: xr).length : Nat) : Int) = V.int (((ks.map fun k => V.ref (fa k)).length : Nat) + 1))) = true by
              rw [decide_eq_false (by
                rw [List.length_cons, List.length_map, hlr]
                intro z
                have := V.int.inj z
                omega)]
              rfl]
            exact q H1 s1
      | _ => exact q H1 s1
  | _ => exact q H (Same.refl H)
end
end K01

set_option Elab.async false
set_option linter.all false
set_option maxRecDepth 100000
set_option maxHeartbeats 4000000
namespace K01
open PySem PySem.Spec PyProof.Rows L2 Tw
open C8 (pss_cut)
theorem parts_in {z : Str} {ks : List Kd} (h : parts z = some ks) : (z, ks) ∈ table := by
  obtain ⟨⟨z', ks'⟩, hp, rfl⟩ := Option.map_eq_some_iff.mp h
  have h1 := List.mem_of_find?_eq_some hp
  have h2 : (z' == z) = true := List.find?_some (p := fun p : Str × List Kd => p.1 == z) hp
  rw [beq_iff_eq.mp h2] at h1
  exact h1
def many : List (Key × V) := table.map fun p => (Sum.inr p.1, V.int ((p.2.length : Nat) + 1))
theorem many_at (z : Str) : valV many (Sum.inr z) = (parts z).map fun ks => V.int ((ks.length : Nat) + 1) := by
  have h : ∀ l : List (Str × List Kd), valV (l.map fun p => ((Sum.inr p.1 : Key), V.int ((p.2.length : Nat) + 1))) (Sum.inr z) = ((l.find? fun p => p.1 == z).map (·.2)).map fun ks => V.int ((ks.length : Nat) + 1) := by
    intro l
    induction l with
    | nil => rfl
    | cons p l ih =>
      unfold valV at ih ⊢
      rw [List.map_cons, List.find?_cons, List.find?_cons]
      by_cases e : p.1 = z
      · rw [decide_eq_true (show ((Sum.inr p.1 : Key) = Sum.inr z) by rw [e]), beq_iff_eq.mpr e]
        rfl
      · rw [decide_eq_false (fun q => e (Sum.inr.inj q)), beq_eq_false_iff_ne.mpr e]
        exact ih
  exact h table
theorem deed_nopath {z : Str} {d : PyData} {dr : List PyData} (h : gPath d = false) : gDeed (.tuple (.str z :: d :: dr)) = false := by
  show (match parts z with | some ks => _ | none => false) = false
  cases hz : parts z with
  | none => rfl
  | some ks =>
    have hm := parts_in hz
    simp only [table, List.mem_cons, List.not_mem_nil, or_false, Prod.mk.injEq] at hm
    rcases hm with ⟨_, rfl⟩ | ⟨_, rfl⟩ | ⟨_, rfl⟩ | ⟨_, rfl⟩ | ⟨_, rfl⟩ | ⟨_, rfl⟩ | ⟨_, rfl⟩ <;> simp [List.zip_cons_cons, Kd.g, h]
theorem deed_one (z : Str) : gDeed (.tuple [.str z]) = false := by
  show (match parts z with | some ks => _ | none => false) = false
  cases hz : parts z with
  | none => rfl
  | some ks =>
    have hm := parts_in hz
    simp only [table, List.mem_cons, List.not_mem_nil, or_false, Prod.mk.injEq] at hm
    rcases hm with ⟨_, rfl⟩ | ⟨_, rfl⟩ | ⟨_, rfl⟩ | ⟨_, rfl⟩ | ⟨_, rfl⟩ | ⟨_, rfl⟩ | ⟨_, rfl⟩ <;> rfl
def lm (z : Str) : Bool := inV (.str z) [.str "link", .str "move"]
def ps (z : Str) : Bool := inV (.str z) [.str "put", .str "short"]
theorem four {z : Str} {ks : List Kd} (h : (z, ks) ∈ table) :
    (ks = [.path] ∧ lm z = false ∧ ps z = false ∧ decide (V.str z = V.str "put") = false) ∨ (ks = [.path, .path] ∧ lm z = true) ∨
    (ks = [.path, .num, .name] ∧ lm z = false ∧ ps z = true ∧ decide (V.str z = V.str "put") = true) ∨
    (ks = [.path, .num] ∧ lm z = false ∧ ps z = true ∧ decide (V.str z = V.str "put") = false) := by
  simp only [table, List.mem_cons, List.not_mem_nil, or_false, Prod.mk.injEq] at h
  rcases h with ⟨rfl, rfl⟩ | ⟨rfl, rfl⟩ | ⟨rfl, rfl⟩ | ⟨rfl, rfl⟩ | ⟨rfl, rfl⟩ | ⟨rfl, rfl⟩ | ⟨rfl, rfl⟩
  · exact Or.inl ⟨rfl, by decide +kernel, by decide +kernel, by decide +kernel⟩
  · exact Or.inl ⟨rfl, by decide +kernel, by decide +kernel, by decide +kernel⟩
  · exact Or.inr (Or.inl ⟨rfl, by decide +kernel⟩)
  · exact Or.inl ⟨rfl, by decide +kernel, by decide +kernel, by decide +kernel⟩
  · exact Or.inr (Or.inl ⟨rfl, by decide +kernel⟩)
  · exact Or.inr (Or.inr (Or.inl ⟨rfl, by decide +kernel, by decide +kernel, by decide +kernel⟩))
  · exact Or.inr (Or.inr (Or.inr ⟨rfl, by decide +kernel, by decide +kernel, by decide +kernel⟩))
section
variable {P : Program} {w : World} {K : PySem.W.Frag} {mg : Str → Option Value} {base : Heap}
theorem sc_ldeed : FnScope ["_law_thing", "_law_many"] ["_law_thing"] (defScope s__law_is_deed) := ⟨rfl, rfl, rfl, by decide +kernel, rfl, by decide +kernel, by decide +kernel⟩
theorem ok_ldeed {f : Addr} {fd : FuncData} (F : Fun K "_law_is_deed" "_law_is_deed" s__law_is_deed f fd) (B : Bs mg)
    (Di : Df P w K mg base 1 "_law_is_integer" ["_law_thing"] (spP K gInt)) (Dn : Df P w K mg base 1 "_law_is_name" ["_law_thing"] (spP K gNam)) (Dp_ : Df P w K mg base 2 "_law_is_path" ["_law_thing"] (spP K gPath)) :
    FnOk P w K mg base CX0 3 f fd ["_law_thing"] (spD K gDeed) := by
  refine F.ok sc_ldeed spD_len (fun cdv A outer s H vs Q E hr h => ?_)
  obtain ⟨v, dd, rfl, hd, hf, q⟩ := h
  refine ⟨_, (pss_cons (ps_if (PW.pt (pw_or (pt_not (pt_val (pe_callB (call_isiD isa_tuple) (by rfl) B.isinstance_ (by decide +kernel) (pa_cons (pv 0) (pa_cons (pe_bltn (v := .ty "tuple") (by rfl) B.tuple_ (by decide +kernel) rfl) pa_nil))))) (pw_or (pt_cmpR op_lt (pe_callB call_len_seq (by rfl) B.len_ (by decide +kernel) (pa_cons (pv 0) pa_nil)) pe_int (nomark _)) (pw_or (pt_not (pt_val (pe_callB (call_isiD isa_str) (by rfl) B.isinstance_ (by decide +kernel) (pa_cons (pe_ix ix_tup (pv 0) pe_int (fun _ _ => rfl)) (pa_cons (pe_bltn (v := .ty "str") (by rfl) B.str_ (by decide +kernel) rfl) pa_nil))))) (pw_or1 (pt_not (pt_val (pe_def Dp_ (hr.mono (by decide)) (by rfl) (pa_cons (pe_ix ix_tup (pv 0) pe_int (fun _ _ => rfl)) pa_nil)))))))))
 (pss_one (ps_ret pe_bl))
 pss_nil)
 (pss_cons (ps_set (i := 1) sc_ldeed.nd rfl (by first | exact Or.inl rfl | exact Or.inr rfl) (pe_disp (pps_cons pe_str pe_int (pps_cons pe_str pe_int (pps_cons pe_str pe_int (pps_cons pe_str pe_int (pps_cons pe_str pe_int (pps_cons pe_str pe_int (pps_cons pe_str pe_int pps_nil))))))) (by rfl) (by rfl) (fun z => by cases z) (by decide)))
 (pss_cons (ps_if (PW.pt (pw_or (pt_cmp (pc_dnotin (hu_of hr) (pe_ix ix_tup (pv 0) pe_int (fun _ _ => rfl)) (pv 1))) (pw_or1 (pt_cmpR op_ne (pe_dget (hu_of hr) (pv 1) (pe_ix ix_tup (pv 0) pe_int (fun _ _ => rfl)) (fun _ _ => rfl)) (pe_callB call_len_seq (by rfl) B.len_ (by decide +kernel) (pa_cons (pv 0) pa_nil)) (nomark _)))))
 (pss_one (ps_ret pe_bl))
 pss_nil)
 (pss_cons (ps_if (pt_cmpR op_in_seq (pe_ix ix_tup (pv 0) pe_int (fun _ _ => rfl)) (pe_tup (pa_cons pe_str (pa_cons pe_str pa_nil))) (by rfl))
 (pss_one (ps_ret (pe_def Dp_ (hr.mono (by decide)) (by rfl) (pa_cons (pe_ix ix_tup (pv 0) pe_int (fun _ _ => rfl)) pa_nil))))
 pss_nil)
 (pss_cons (ps_if (PW.pt (pw_and (pt_cmpR op_in_seq (pe_ix ix_tup (pv 0) pe_int (fun _ _ => rfl)) (pe_tup (pa_cons pe_str (pa_cons pe_str pa_nil))) (by rfl)) (pw_and1 (PW.pt (pw_or (pt_not (pt_val (pe_def Di (hr.mono (by decide)) (by rfl) (pa_cons (pe_ix ix_tup (pv 0) pe_int (fun _ _ => rfl)) pa_nil)))) (pw_or1 (pt_cmpR op_lt (pe_ix ix_tup (pv 0) pe_int (fun _ _ => rfl)) pe_int (nomark _))))))))
 (pss_one (ps_ret pe_bl))
 pss_nil)
 (pss_one (ps_ret (pe_or (pe_cmpR op_ne (pe_ix ix_tup (pv 0) pe_int (fun _ _ => rfl)) pe_str (nomark _)) (pe_one (pe_def Dn (hr.mono (by decide)) (by rfl) (pa_cons (pe_ix ix_tup (pv 0) pe_int (fun _ _ => rfl)) pa_nil))))))))))), ?_⟩
  refine ⟨v, rfl, v, dd, rfl, hd, isTup dd, rfl, ?_⟩
  cases hd with
  | @tup a xs ds h1 h2 =>
    refine ⟨_, rfl, a, _, rfl, .inr h1, _, _, rfl, rfl, _, rfl, ?_⟩
    cases h2 with
    | nil => exact q H (Same.refl H)
    | @cons x0 xr d0 dr hd0 hdr =>
      cases hdr with
      | nil =>
        have g : gDeed (.tuple [d0]) = false := by
          cases d0 <;> first | rfl | exact deed_one _
        rw [g] at q
        exact q H (Same.refl H)
      | @cons x1 xr d1 dr hd1 hdr =>
        rw [show decide ((((x0 :: x1 :: xr).length : Nat) : Int) < 2) = false from decide_eq_false (by rw [List.length_cons, List.length_cons]; omega)]
        refine ⟨_, rfl, a, _, 0, _, rfl, rfl, h1, atI_nat (j := 0) rfl, x0, d0, rfl, hd0, isStr d0, rfl, ?_⟩
        cases hd0 with
        | str z =>
          refine ⟨_, rfl, a, _, 1, _, rfl, rfl, h1, atI_nat (j := 1) rfl, x1, d1, rfl, hd1, (hf.mem (by simp)).lit, fun H1 s1 => ⟨_, rfl, ?_⟩⟩
          have h1' := s1.seqT h1
          cases hp1 : gPath d1 with
          | false =>
            rw [deed_nopath hp1] at q
            exact q H1 s1
          | true =>
            refine fun p np => ⟨upd_same, many, rfl, by decide, ?_⟩
            rw [upd_upd, show mergeK [] many = many by decide +kernel]
            have s2 : Same H1 (upd H1 p (.dK many)) := same_new np
            have hp : (upd H1 p (.dK many)) p = some (.dK many) := upd_same
            generalize upd H1 p (.dK many) = H2 at s2 hp
            have s12 := s1.trans s2
            have h1'' := s12.seqT h1
            have q2 := q H2 s12
            have hget : DGet H2 p (.str z) ((parts z).map fun ks => V.int ((ks.length : Nat) + 1)) := by
              rw [← many_at]
              exact DGet.k (k := Sum.inr z) hp
            refine ⟨_, rfl, a, _, 0, _, rfl, rfl, h1'', atI_nat (j := 0) rfl, _, rfl, p, _, rfl, hget, _, rfl, ?_⟩
            cases hz : parts z with
            | none =>
              rw [show gDeed (.tuple (.str z :: d1 :: dr)) = false by
                show (match parts z with | some ks => _ | none => false) = false
                rw [hz]] at q2
              exact q2
            | some ks =>
              rw [hz] at hget
              have hget : DGet H2 p (.str z) (some (V.int ((ks.length : Nat) + 1))) := hget
              have g : gDeed (.tuple (.str z :: d1 :: dr)) = (decide ((d1 :: dr).length = ks.length) && (ks.zip (d1 :: dr)).all fun p => p.1.g p.2) := by
                show (match parts z with | some ks => _ | none => false) = _
                rw [hz]
              rw [g] at q2 q
              refine ⟨_, rfl, _, rfl, a, _, 0, _, rfl, rfl, h1'', atI_nat (j := 0) rfl, p, _, rfl, hget, _, rfl, a, _, rfl, .inr h1'', rfl, _, rfl, ?_⟩
              have hlr : xr.length = dr.length := dps_len hdr
              by_cases hl : (d1 :: dr).length = ks.length
              · rw [decide_eq_true (by rw [List.length_cons, List.length_cons, hlr, ← hl, List.length_cons]; rfl)]
                rw [decide_eq_true hl, Bool.true_and] at q2 q
                refine ⟨_, rfl, a, _, 0, _, rfl, rfl, h1'', atI_nat (j := 0) rfl, by decide, fun t nt => ⟨t, _, rfl, .inr (SqT.of upd_same), rfl, rfl, _, rfl, ?_⟩⟩
                have s3 : Same H2 (upd H2 t (.tup [.str "link", .str "move"])) := same_new nt
                show if lm z = true then _ else _
                generalize upd H2 t (.tup [.str "link", .str "move"]) = H3 at s3
                have s13 := s12.trans s3
                have h13 := s13.seqT h1
                have hdr3 := dps_mono s13 hdr
                rcases four (parts_in hz) with ⟨rfl, e1, e2, e3⟩ | ⟨rfl, e1⟩ | ⟨rfl, e1, e2, e3⟩ | ⟨rfl, e1, e2, e3⟩
                · have hq : ([Kd.path].zip (d1 :: dr)).all (fun p => p.1.g p.2) = true := by
                    simp [List.zip_cons_cons, Kd.g, hp1]
                  rw [hq] at q
                  rw [e1]
                  refine ⟨_, rfl, a, _, 0, _, rfl, rfl, h13, atI_nat (j := 0) rfl, by decide, fun t nt => ⟨t, _, rfl, .inr (SqT.of upd_same), rfl, rfl, _, rfl, ?_⟩⟩
                  have s4 : Same H3 (upd H3 t (.tup [.str "put", .str "short"])) := same_new nt
                  show if ps z = true then _ else _
                  generalize upd H3 t (.tup [.str "put", .str "short"]) = H4 at s4
                  rw [e2]
                  refine ⟨_, rfl, a, _, 0, _, rfl, rfl, s4.seqT h13, atI_nat (j := 0) rfl, rfl, _, rfl, ?_⟩
                  rw [e3]
                  exact q H4 (s13.trans s4)
                · rw [List.length_cons] at hl
                  obtain ⟨d2, rfl⟩ : ∃ d2, dr = [d2] := by
                    match dr, hl with
                    | [d2], _ => exact ⟨d2, rfl⟩
                  cases hdr3 with
                  | @cons x2 xr _ _ hd2 hdr4 =>
                    cases hdr4
                    have hq : ([Kd.path, Kd.path].zip [d1, d2]).all (fun p => p.1.g p.2) = gPath d2 := by
                      simp [List.zip_cons_cons, Kd.g, hp1]
                    rw [hq] at q
                    rw [e1]
                    exact ⟨_, rfl, a, _, 2, _, rfl, rfl, h13, atI_nat (j := 2) rfl, x2, d2, rfl, hd2, (hf.mem (by simp)).lit, fun H4 s4 => q H4 (s13.trans s4)⟩
                · rw [List.length_cons] at hl
                  obtain ⟨d2, d3, rfl⟩ : ∃ d2 d3, dr = [d2, d3] := by
                    match dr, hl with
                    | [d2, d3], _ => exact ⟨d2, d3, rfl⟩
                  cases hdr3 with
                  | @cons x2 xr _ _ hd2 hdr4 =>
                    cases hdr4 with
                    | @cons x3 xr _ _ hd3 hdr5 =>
                    cases hdr5
                    have hq : ([Kd.path, Kd.num, Kd.name].zip [d1, d2, d3]).all (fun p => p.1.g p.2) = (gNum d2 && gNam d3) := by
                      simp [List.zip_cons_cons, Kd.g, hp1]
                    rw [hq] at q
                    rw [e1]
                    refine ⟨_, rfl, a, _, 0, _, rfl, rfl, h13, atI_nat (j := 0) rfl, by decide, fun t nt => ⟨t, _, rfl, .inr (SqT.of upd_same), rfl, rfl, _, rfl, ?_⟩⟩
                    have s4 : Same H3 (upd H3 t (.tup [.str "put", .str "short"])) := same_new nt
                    show if ps z = true then _ else _
                    generalize upd H3 t (.tup [.str "put", .str "short"]) = H4 at s4
                    rw [e2]
                    have h14 := s4.seqT h13
                    refine ⟨_, rfl, a, _, 2, _, rfl, rfl, h14, atI_nat (j := 2) rfl, x2, d2, rfl, dp_mono s4 hd2, (hf.mem (by simp)).lit, fun H5 s5 => ⟨_, rfl, ?_⟩⟩
                    have h15 := s5.seqT h14
                    have s15 := (s13.trans s4).trans s5
                    cases hd2 with
                    | int i =>
                      refine ⟨_, rfl, a, _, 2, _, rfl, rfl, h15, atI_nat (j := 2) rfl, i, 0, rfl, rfl, _, rfl, ite2 (fun c => ?_) (fun c => ?_)⟩
                      · have c' := of_decide_eq_true c
                        rw [show gNum (.int i) = false from decide_eq_false (by omega), Bool.false_and] at q
                        exact q H5 s15
                      · have c' : ¬ i < 0 := fun u => c (decide_eq_true u)
                        rw [show gNum (.int i) = true from decide_eq_true (by omega), Bool.true_and] at q
                        refine ⟨_, rfl, a, _, 0, _, rfl, rfl, h15, atI_nat (j := 0) rfl, rfl, _, rfl, ?_⟩
                        rw [e3]
                        exact ⟨_, rfl, a, _, 3, _, rfl, rfl, h15, atI_nat (j := 3) rfl, x3, d3, rfl, dp_mono (s4.trans s5) hd3, (hf.mem (by simp)).lit, fun H6 s6 => q H6 (s15.trans s6)⟩
                    | _ => exact q H5 s15
                · rw [List.length_cons] at hl
                  obtain ⟨d2, rfl⟩ : ∃ d2, dr = [d2] := by
                    match dr, hl with
                    | [d2], _ => exact ⟨d2, rfl⟩
                  cases hdr3 with
                  | @cons x2 xr _ _ hd2 hdr4 =>
                    cases hdr4
                    have hq : ([Kd.path, Kd.num].zip [d1, d2]).all (fun p => p.1.g p.2) = gNum d2 := by
                      simp [List.zip_cons_cons, Kd.g, hp1]
                    rw [hq] at q
                    rw [e1]
                    refine ⟨_, rfl, a, _, 0, _, rfl, rfl, h13, atI_nat (j := 0) rfl, by decide, fun t nt => ⟨t, _, rfl, .inr (SqT.of upd_same), rfl, rfl, _, rfl, ?_⟩⟩
                    have s4 : Same H3 (upd H3 t (.tup [.str "put", .str "short"])) := same_new nt
                    show if ps z = true then _ else _
                    generalize upd H3 t (.tup [.str "put", .str "short"]) = H4 at s4
                    rw [e2]
                    have h14 := s4.seqT h13
                    refine ⟨_, rfl, a, _, 2, _, rfl, rfl, h14, atI_nat (j := 2) rfl, x2, d2, rfl, dp_mono s4 hd2, (hf.mem (by simp)).lit, fun H5 s5 => ⟨_, rfl, ?_⟩⟩
                    have h15 := s5.seqT h14
                    have s15 := (s13.trans s4).trans s5
                    cases hd2 with
                    | int i =>
                      refine ⟨_, rfl, a, _, 2, _, rfl, rfl, h15, atI_nat (j := 2) rfl, i, 0, rfl, rfl, _, rfl, ite2 (fun c => ?_) (fun c => ?_)⟩
                      · have c' := of_decide_eq_true c
                        rw [show gNum (.int i) = false from decide_eq_false (by omega)] at q
                        exact q H5 s15
                      · have c' : ¬ i < 0 := fun u => c (decide_eq_true u)
                        rw [show gNum (.int i) = true from decide_eq_true (by omega)] at q
                        refine ⟨_, rfl, a, _, 0, _, rfl, rfl, h15, atI_nat (j := 0) rfl, rfl, _, rfl, ?_⟩
                        rw [e3]
                        exact q H5 s15
                    | _ => exact q H5 s15
              · rw [decide_eq_false (by
                  rw [List.length_cons, List.length_cons, hlr]
                  rw [List.length_cons] at hl
                  intro z
                  have := V.int.inj z
                  omega)]
                rw [decide_eq_false hl, Bool.false_and] at q2
                exact q2
        | _ => exact q H (Same.refl H)
  | _ => exact q H (Same.refl H)
end
end K01

set_option Elab.async false
set_option linter.all false
set_option maxRecDepth 100000
set_option maxHeartbeats 4000000
namespace K01
open PySem PySem.Spec PyProof.Rows L2 Tw
open C8 (pss_cut)
/-! ### leaves that are not too great -/
mutual
def lf (n : Nat) : PyData → Bool
  | .none | .bool _ => true
  | .int i => decide (i.natAbs ≤ 10 ^ 59 + n)
  | .str x => x.cps.toList.all fun c => decide (c < 128)
  | .list xs | .tuple xs => lfAll n xs
  | .dict _ => false
def lfAll (n : Nat) : List PyData → Bool
  | [] => true
  | x :: xs => lf n x && lfAll n xs
end
theorem lfAll_iff {n : Nat} : ∀ {ds : List PyData}, lfAll n ds = true ↔ ∀ d ∈ ds, lf n d = true
  | [] => ⟨fun _ _ h => (nomatch h), fun _ => by simp only [lfAll]⟩
  | x :: ds => by
    simp only [lfAll, Bool.and_eq_true, lfAll_iff (ds := ds), List.mem_cons]
    constructor
    · rintro ⟨h1, h2⟩ d (rfl | h)
      · exact h1
      · exact h2 d h
    · intro h
      exact ⟨h x (Or.inl rfl), fun d m => h d (Or.inr m)⟩
mutual
theorem lf_mono {n : Nat} : ∀ {d : PyData}, lf n d = true → lf (n + 1) d = true
  | .none, _ => by simp only [lf]
  | .bool _, _ => by simp only [lf]
  | .int i, h => by
    simp only [lf, decide_eq_true_eq] at h ⊢
    omega
  | .str x, h => by simpa only [lf] using h
  | .list xs, h => by
    simp only [lf] at h ⊢
    exact lfAll_mono h
  | .tuple xs, h => by
    simp only [lf] at h ⊢
    exact lfAll_mono h
  | .dict _, h => by
    simp only [lf] at h
    cases h
theorem lfAll_mono {n : Nat} : ∀ {ds : List PyData}, lfAll n ds = true → lfAll (n + 1) ds = true
  | [], _ => by simp only [lfAll]
  | x :: ds, h => by
    simp only [lfAll, Bool.and_eq_true] at h ⊢
    exact ⟨lf_mono h.1, lfAll_mono h.2⟩
end
mutual
theorem lf_lay {n : Nat} : ∀ {d : PyData}, lf n d = true → d.canLay0 = true
  | .none, _ => by simp only [PyData.canLay0]
  | .bool _, _ => by simp only [PyData.canLay0]
  | .int i, h => by simp only [PyData.canLay0]
  | .str x, h => by
    simp only [lf, List.all_eq_true, decide_eq_true_eq] at h
    simp only [PyData.canLay0]
    exact strOk_iff.mpr fun c hc => by
      have := h c hc
      omega
  | .list xs, h => by
    simp only [lf] at h
    simp only [PyData.canLay0]
    exact lfAll_lay h
  | .tuple xs, h => by
    simp only [lf] at h
    simp only [PyData.canLay0]
    exact lfAll_lay h
  | .dict _, h => by
    simp only [lf] at h
    cases h
theorem lfAll_lay {n : Nat} : ∀ {ds : List PyData}, lfAll n ds = true → PyData.canLayAll0 ds = true
  | [], _ => by simp only [PyData.canLayAll0]
  | x :: ds, h => by
    simp only [lfAll, Bool.and_eq_true] at h
    simp only [PyData.canLayAll0, lf_lay h.1, lfAll_lay h.2, Bool.and_self]
end
theorem depthAll_le {m : Nat} : ∀ {ds : List PyData}, PyData.depthAll ds ≤ m ↔ ∀ d ∈ ds, d.depth ≤ m
  | [] => ⟨fun _ _ h => (nomatch h), fun _ => by simp only [PyData.depthAll]; exact Nat.zero_le _⟩
  | x :: ds => by
    simp only [PyData.depthAll, List.mem_cons, Nat.max_le, depthAll_le (ds := ds)]
    constructor
    · rintro ⟨h1, h2⟩ d (rfl | h)
      · exact h1
      · exact h2 d h
    · intro h
      exact ⟨h x (Or.inl rfl), fun d m => h d (Or.inr m)⟩
theorem bulkAll_app : ∀ (xs ys : List PyData), PyData.bulkAll (xs ++ ys) = PyData.bulkAll xs + PyData.bulkAll ys
  | [], ys => by simp only [List.nil_append, PyData.bulkAll]; omega
  | x :: xs, ys => by
    simp only [List.cons_append, PyData.bulkAll, bulkAll_app xs ys]
    omega
theorem bulkAll_len : ∀ (xs : List PyData), xs.length ≤ PyData.bulkAll xs
  | [] => Nat.zero_le _
  | x :: xs => by
    have := bulkAll_len xs
    simp only [List.length_cons, PyData.bulkAll]
    omega
theorem bulkAll_set {d' : PyData} : ∀ {xs : List PyData} {i : Nat} {d : PyData}, xs[i]? = some d → PyData.bulkAll (xs.set i d') + d.bulk = PyData.bulkAll xs + d'.bulk
  | [], _, _, h => by simp at h
  | x :: xs, 0, d, h => by
    simp at h
    subst h
    simp only [List.set_cons_zero, PyData.bulkAll]
    omega
  | x :: xs, i + 1, d, h => by
    have := bulkAll_set (d' := d') (xs := xs) (i := i) (d := d) (by simpa using h)
    simp only [List.set_cons_succ, PyData.bulkAll]
    omega
theorem bulkAll_erase : ∀ (xs : List PyData) (i : Nat), PyData.bulkAll (xs.eraseIdx i) ≤ PyData.bulkAll xs
  | [], _ => by simp
  | x :: xs, 0 => by
    simp only [List.eraseIdx_zero, List.tail_cons, PyData.bulkAll]
    omega
  | x :: xs, i + 1 => by
    have := bulkAll_erase xs i
    simp only [List.eraseIdx_cons_succ, PyData.bulkAll]
    omega
theorem bulkAll_cut (xs : List PyData) (i : Nat) : PyData.bulkAll (xs.take i) + PyData.bulkAll (xs.drop i) = PyData.bulkAll xs := by
  rw [← bulkAll_app, List.take_append_drop]
/-- what a change may do -/
structure Grown (i : Nat) (d d' : PyData) : Prop where
  dep : d'.depth ≤ d.depth + 1
  blk : d'.bulk ≤ 2 * d.bulk + 20
  lf : lf (i + 1) d' = true
/-- the same of a list's items -/
structure GrownL (i : Nat) (es es' : List PyData) : Prop where
  dep : PyData.depthAll es' ≤ PyData.depthAll es + 1
  blk : PyData.bulkAll es' ≤ 2 * PyData.bulkAll es + 20
  lf : lfAll (i + 1) es' = true
/-- an item of the menu -/
structure Small (d : PyData) : Prop where
  dep : d.depth ≤ 1
  blk : d.bulk ≤ 10
  lf : lf 0 d = true
theorem lf_le {m n : Nat} (h : m ≤ n) {d : PyData} (l : lf m d = true) : lf n d = true := by
  induction h with
  | refl => exact l
  | step _ ih => exact lf_mono ih
theorem grown_small {i : Nat} {d e : PyData} (h : Small e) : Grown i d e := ⟨by have := h.dep; omega, by have := h.blk; omega, lf_le (Nat.zero_le _) h.lf⟩
section
variable {i : Nat} {es : List PyData}
theorem grownL_set {j : Nat} {d d' : PyData} (he : lfAll i es = true) (hj : es[j]? = some d) (h : Grown i d d') : GrownL i es (es.set j d') := by
  have hm := List.mem_of_getElem? hj
  have h1 := depth_mem hm
  have h2 := bulk_mem hm
  refine ⟨depthAll_le.mpr fun e m => ?_, ?_, lfAll_iff.mpr fun e m => ?_⟩
  · rcases List.mem_or_eq_of_mem_set m with m | rfl
    · exact Nat.le_succ_of_le (depth_mem m)
    · have := h.dep
      omega
  · have := bulkAll_set (d' := d') hj
    have := h.blk
    omega
  · rcases List.mem_or_eq_of_mem_set m with m | rfl
    · exact lf_mono (lfAll_iff.mp he e m)
    · exact h.lf
theorem grownL_erase {j : Nat} (he : lfAll i es = true) : GrownL i es (es.eraseIdx j) := by
  refine ⟨depthAll_le.mpr fun e m => Nat.le_succ_of_le (depth_mem (List.mem_of_mem_eraseIdx m)), ?_, lfAll_iff.mpr fun e m => lf_mono (lfAll_iff.mp he e (List.mem_of_mem_eraseIdx m))⟩
  have := bulkAll_erase es j
  omega
theorem grownL_ins {j : Nat} {d : PyData} (he : lfAll i es = true) (h : d ∈ es ∨ Small d) : GrownL i es (es.take j ++ [d] ++ es.drop j) := by
  have hm : ∀ e ∈ es.take j ++ [d] ++ es.drop j, e ∈ es ∨ e = d := by
    intro e m
    rcases List.mem_append.mp m with m | m
    · rcases List.mem_append.mp m with m | m
      · exact Or.inl (List.mem_of_mem_take m)
      · exact Or.inr (by simpa using m)
    · exact Or.inl (List.mem_of_mem_drop m)
  refine ⟨depthAll_le.mpr fun e m => ?_, ?_, lfAll_iff.mpr fun e m => ?_⟩
  · rcases hm e m with m | rfl
    · exact Nat.le_succ_of_le (depth_mem m)
    · rcases h with h | h
      · exact Nat.le_succ_of_le (depth_mem h)
      · have := h.dep
        omega
  · have h1 := bulkAll_cut es j
    rw [bulkAll_app, bulkAll_app]
    simp only [PyData.bulkAll]
    rcases h with h | h
    · have := bulk_mem h
      omega
    · have := h.blk
      omega
  · rcases hm e m with m | rfl
    · exact lf_mono (lfAll_iff.mp he e m)
    · rcases h with h | h
      · exact lf_mono (lfAll_iff.mp he e h)
      · exact lf_le (Nat.zero_le _) h.lf
end
theorem RdAt.mono {K : PySem.W.Frag} {cl : Addr} {H : Hp} {r : Addr} {m n : Nat} (h : RdAt K cl H r m) (l : m ≤ n) : RdAt K cl H r n := by
  obtain ⟨ns, i, z, k, h1, h2, h3, h4, h5, h6⟩ := h
  exact ⟨ns, i, z, k, h1, h2, h3, h4, by omega, h6⟩
theorem RdAt.same {K : PySem.W.Frag} {cl : Addr} {H H' : Hp} {r : Addr} {n : Nat} (h : RdAt K cl H r n) (s : Same H H') : RdAt K cl H' r n := by
  obtain ⟨ns, i, z, k, h1, h2, h3, h4, h5, h6⟩ := h
  exact ⟨ns, i, z, k, s _ _ h1, s.seq h2, h3, h4, h5, h6⟩
theorem RdAt.some {K : PySem.W.Frag} {cl : Addr} {H : Hp} {r : Addr} {n : Nat} (h : RdAt K cl H r n) : H r ≠ none := by
  obtain ⟨ns, i, z, k, h1, _⟩ := h
  rw [h1]
  exact fun e => nomatch e
/-- an object that is newer than the reader's cells is written -/
theorem RdAt.put {K : PySem.W.Frag} {cl : Addr} {H H' : Hp} {r p : Addr} {m n : Nat} {o : HO} (h : RdAt K cl H' r n) (h0 : RdAt K cl H r m) (np : H p = none) : RdAt K cl (upd H' p o) r n := by
  obtain ⟨ns, i, z, k, h1, h2, h3, h4, h5, h6⟩ := h
  obtain ⟨ns0, _, _, _, g1, g2, _, _, _, g6⟩ := h0
  have nr : r ≠ p := ne_of_none g1 np
  have hR : (upd H' p o) r = _ := (upd_ne nr).trans h1
  by_cases hc : cl = p
  · subst hc
    rcases g2 with (g | ⟨_, g⟩) | g
    · rw [np] at g
      cases g
    · rw [np] at g
      cases g
    · exact ⟨ns0, i, z, k, hR, Or.inr g, h3, h4, h5, g6⟩
  · refine ⟨ns, i, z, k, hR, ?_, h3, h4, h5, h6⟩
    rcases h2 with (g | ⟨x, g⟩) | g
    · exact Or.inl (Or.inl ((upd_ne hc).trans g))
    · exact Or.inl (Or.inr ⟨x, (upd_ne hc).trans g⟩)
    · exact Or.inr g
theorem Off.sub {Hd H H' : Hp} {r : Addr} (o : Off r H H') (s : Same Hd H) (n : Hd r = none) : Same Hd H' := fun b x e =>
  o b x (ne_of_none e n) (s b x e)
/-- the data heap grows by new objects alone -/
structure Ext (H Hd Hd' : Hp) : Prop where
  same : Same Hd Hd'
  new : ∀ b, H b ≠ none → Hd b = none → Hd' b = none
theorem Ext.refl (H Hd : Hp) : Ext H Hd Hd := ⟨Same.refl Hd, fun _ _ h => h⟩
theorem Ext.more {H H2 Hd Hd' : Hp} (e : Ext H2 Hd Hd') (h : ∀ b, H b ≠ none → H2 b ≠ none) : Ext H Hd Hd' := ⟨e.same, fun b h1 h2 => e.new b (h b h1) h2⟩
theorem Ext.put {H Hd Hd' : Hp} (e : Ext H Hd Hd') {p : Addr} {o : HO} (h : H p = none) (hp : Hd' p = none) : Ext H Hd (upd Hd' p o) :=
  ⟨e.same.trans (same_new hp), fun b h1 h2 => by
    have nb : b ≠ p := by
      rintro rfl
      exact h1 h
    rw [upd_ne nb]
    exact e.new b h1 h2⟩
end K01

set_option Elab.async false
set_option linter.all false
set_option maxRecDepth 100000
set_option maxHeartbeats 4000000
namespace K01
open PySem PySem.Spec PyProof.Rows L2 Tw
open C8 (pss_cut)
theorem op_addA {X : Cx} : OpR X (binaryOp .Add) (fun x y H Q => ∃ i j, (x = .int i ∨ ∃ k, x = .bl k ∧ i = b2i k) ∧ y = .int j ∧ Q (.int (i + j)) H) := by
  intro pins s σ H x y v u Q I rx ry h
  obtain ⟨i, j, hx, rfl, q⟩ := h
  rcases hx with rfl | ⟨k, rfl, rfl⟩
  · exact op_add pins s σ H _ _ v u Q I rx ry ⟨i, j, rfl, rfl, q⟩
  · exact op_add_bi pins s σ H _ _ v u Q I rx ry ⟨k, j, rfl, rfl, q⟩
def spCh (K : PySem.W.Frag) (n : Nat) : Sp := fun vs H Q _ => ∃ (r cl mn : Addr) (v : V) (Hd : Hp) (d : PyData) (ds : List PyData) (c i : Nat), vs = [.ref r, v, .ref mn] ∧
  RdAt K cl H r c ∧ c + 4 * n ≤ 900000 ∧ Same Hd H ∧ Hd r = none ∧ Dp K Hd v d ∧ d.depth < n ∧ d.bulk ≤ 3000 ∧ lf i d = true ∧
  Dp K Hd (.ref mn) (.list ds) ∧ ds ≠ [] ∧ ds.length ≤ 1000 ∧ (∀ e ∈ ds, Small e) ∧
  ∀ (v' : V) (H' Hd' : Hp) (d' : PyData), RdAt K cl H' r (c + 4 * n) → Off r H H' → Same Hd' H' → Ext H Hd Hd' → Dp K Hd' v' d' → Grown i d d' → Q v' H'
theorem seq_cases {d : PyData} (h : (isTup d || isLst d) = true) : ∃ es, d = .tuple es ∨ d = .list es := by
  cases d with
  | list es => exact ⟨es, Or.inr rfl⟩
  | tuple es => exact ⟨es, Or.inl rfl⟩
  | _ => cases h
theorem dp_seq {K : PySem.W.Frag} {H : Hp} {v : V} {d : PyData} {es : List PyData} (h : Dp K H v d) (e : d = .tuple es ∨ d = .list es) :
    ∃ a xs, v = .ref a ∧ (SqL K H a xs ∨ SqT K H a xs) ∧ DpAll K H xs es := by
  rcases e with rfl | rfl
  · cases h with
    | tup h1 h2 => exact ⟨_, _, rfl, Or.inr h1, h2⟩
  · cases h with
    | lst h1 h2 => exact ⟨_, _, rfl, Or.inl h1, h2⟩
theorem seq_same {K : PySem.W.Frag} {H H' : Hp} {a : Addr} {xs : List V} (s : Same H H') (h : SqL K H a xs ∨ SqT K H a xs) : SqL K H' a xs ∨ SqT K H' a xs :=
  h.elim (fun q => Or.inl (s.seq q)) fun q => Or.inr (s.seqT q)
theorem at_of {vs : List V} {k : Int} {m : Nat} (h0 : 0 ≤ k) (h1 : k < (m : Int)) (hm : vs.length = m) : ∃ v, atI vs k = some v ∧ vs[k.toNat]? = some v := by
  obtain ⟨v, hv⟩ : ∃ v, vs[k.toNat]? = some v := ⟨_, List.getElem?_eq_getElem (by omega)⟩
  refine ⟨v, ?_, hv⟩
  unfold atI ixN
  rw [if_pos h0, if_pos (by omega)]
  exact hv
theorem off_none {r l : Addr} {H H' : Hp} (o : Off r H H') (h : H' l = none) (hr : H' r ≠ none) : H l = none := by
  cases e : H l with
  | none => rfl
  | some x =>
    have nl : l ≠ r := by
      rintro rfl
      exact hr h
    rw [o l x nl e] at h
    cases h
section
variable {P : Program} {w : World} {K : PySem.W.Frag} {mg : Str → Option Value} {base : Heap}
theorem sc_ch : FnScope ["_law_reader_here", "_law_thing", "_law_menu", "_law_at", "_law_way", "_law_parts"] ["_law_reader_here", "_law_thing", "_law_menu"] (defScope s__law_changed) := ⟨rfl, rfl, rfl, by decide +kernel, rfl, by decide +kernel, by decide +kernel⟩
theorem ok_ch {f : Addr} {fd : FuncData} (F : Fun K "_law_changed" "_law_changed" s__law_changed f fd) (B : Bs mg) (Dd : Df P w K mg base 1 "_law_draw" ["_law_reader_here", "_law_many"] (spDraw K)) (n : Nat)
    (Dc : Df P w K mg base (n + 2) "_law_changed" ["_law_reader_here", "_law_thing", "_law_menu"] (spCh K n)) :
    FnOk P w K mg base CX0 (n + 3) f fd ["_law_reader_here", "_law_thing", "_law_menu"] (spCh K (n + 1)) := by
  refine F.ok sc_ch (fun vs H Q E h => ?_) (fun cdv A outer s H vs Q E hr h => ?_)
  · obtain ⟨r, cl, mn, v, Hd, d, ds, c, i, rfl, _⟩ := h
    rfl
  · obtain ⟨r, cl, mn, v, Hd, d, ds, c, i, rfl, hrd, hcn, hsub, hnr, hd, hdep, hblk, hlf, hmn, hds0, hdsl, hsm, q⟩ := h
    refine ⟨_, (pss_cut (ps_if (PW.pt (pw_and (pt_val (pe_callB call_isiTL (by rfl) B.isinstance_ (by decide +kernel) (pa_cons (pv 1) (pa_cons (pe_tup (pa_cons (pe_bltn (v := .ty "tuple") (by rfl) B.tuple_ (by decide +kernel) rfl) (pa_cons (pe_bltn (v := .ty "list") (by rfl) B.list_ (by decide +kernel) rfl) pa_nil))) pa_nil)))) (pw_and (pt_cmpR op_gt (pe_callB call_len_seq (by rfl) B.len_ (by decide +kernel) (pa_cons (pv 1) pa_nil)) pe_int (nomark _)) (pw_and1 (pt_cmpR op_gt (pe_def Dd (hr.mono (by omega)) (by rfl) (pa_cons (pv 0) (pa_cons pe_int pa_nil))) pe_int (nomark _))))))
 (pss_cons (ps_par (i := 3) (j := 4) (by rfl) sc_ch.nd rfl rfl (by decide) rfl rfl (pa_cons (pe_def Dd (hr.mono (by omega)) (by rfl) (pa_cons (pv 0) (pa_cons (pe_callB call_len_seq (by rfl) B.len_ (by decide +kernel) (pa_cons (pv 1) pa_nil)) pa_nil))) (pa_cons (pe_def Dd (hr.mono (by omega)) (by rfl) (pa_cons (pv 0) (pa_cons pe_int pa_nil))) pa_nil)) (by rfl))
 (pss_cons (ps_set (i := 5) sc_ch.nd rfl (by first | exact Or.inl rfl | exact Or.inr rfl) (pe_callTy call_list_of (by rfl) B.list_ (by decide +kernel) (pa_cons (pv 1) pa_nil)))
 (pss_cut (ps_if (pt_cmpR op_lt (pv 4) pe_int (nomark _))
 (pss_one (ps_asg (pe_def Dc (hr.mono (by omega)) (by rfl) (pa_cons (pv 0) (pa_cons (pe_ix ix_list (pv 5) (pv 3) (fun _ _ => rfl)) (pa_cons (pv 2) pa_nil)))) (pg_sub (pv 5) (pv 3) set_list)))
 (pss_one (ps_if (pt_cmpR op_eq (pv 4) pe_int (nomark _))
 (pss_one (ps_expr (pe_bm PySem.F.plainAttrs_list PySem.F.slot_list_pop PySem.F.type_list_pop mt_popAt (pv 5) (pa_cons (pv 3) pa_nil))))
 (pss_one (ps_if (pt_cmpR op_eq (pv 4) pe_int (nomark _))
 (pss_one (ps_expr (pe_bm PySem.F.plainAttrs_list PySem.F.slot_list_insert PySem.F.type_list_insert mt_insert (pv 5) (pa_cons (pv 3) (pa_cons (pe_ix ix_list (pv 5) (pe_def Dd (hr.mono (by omega)) (by rfl) (pa_cons (pv 0) (pa_cons (pe_callB call_len_seq (by rfl) B.len_ (by decide +kernel) (pa_cons (pv 5) pa_nil)) pa_nil))) (fun _ _ => rfl)) pa_nil)))))
 (pss_one (ps_expr (pe_bm PySem.F.plainAttrs_list PySem.F.slot_list_insert PySem.F.type_list_insert mt_insert (pv 5) (pa_cons (pv 3) (pa_cons (pe_ix ix_list (pv 2) (pe_def Dd (hr.mono (by omega)) (by rfl) (pa_cons (pv 0) (pa_cons (pe_callB call_len_seq (by rfl) B.len_ (by decide +kernel) (pa_cons (pv 2) pa_nil)) pa_nil))) (fun _ _ => rfl)) pa_nil))))))))))
 (pss_one (ps_ret (pe_ifExp (pt_val (pe_callB (call_isiD isa_list) (by rfl) B.isinstance_ (by decide +kernel) (pa_cons (pv 1) (pa_cons (pe_bltn (v := .ty "list") (by rfl) B.list_ (by decide +kernel) rfl) pa_nil)))) (pv 5) (pe_callTy call_tuple_of (by rfl) B.tuple_ (by decide +kernel) (pa_cons (pv 5) pa_nil))))))))
 pss_nil)
 (pss_cons (ps_set (i := 4) sc_ch.nd rfl (by first | exact Or.inl rfl | exact Or.inr rfl) (pe_def Dd (hr.mono (by omega)) (by rfl) (pa_cons (pv 0) (pa_cons pe_int pa_nil))))
 (pss_cut (ps_if (PW.pt (pw_and (pt_cmpR op_eq (pv 4) pe_int (nomark _)) (pw_and1 (pt_val (pe_callB call_isiTL (by rfl) B.isinstance_ (by decide +kernel) (pa_cons (pv 1) (pa_cons (pe_tup (pa_cons (pe_bltn (v := .ty "tuple") (by rfl) B.tuple_ (by decide +kernel) rfl) (pa_cons (pe_bltn (v := .ty "list") (by rfl) B.list_ (by decide +kernel) rfl) pa_nil))) pa_nil)))))))
 (pss_one (ps_ret (pe_ifExp (pt_val (pe_callB (call_isiD isa_tuple) (by rfl) B.isinstance_ (by decide +kernel) (pa_cons (pv 1) (pa_cons (pe_bltn (v := .ty "tuple") (by rfl) B.tuple_ (by decide +kernel) rfl) pa_nil)))) (pe_callTy call_list_of (by rfl) B.list_ (by decide +kernel) (pa_cons (pv 1) pa_nil)) (pe_callTy call_tuple_of (by rfl) B.tuple_ (by decide +kernel) (pa_cons (pv 1) pa_nil)))))
 pss_nil)
 (pss_cut (ps_if (PW.pt (pw_and (pt_cmpR op_eq (pv 4) pe_int (nomark _)) (pw_and1 (pt_val (pe_callB (call_isiD isa_int) (by rfl) B.isinstance_ (by decide +kernel) (pa_cons (pv 1) (pa_cons (pe_bltn (v := .ty "int") (by rfl) B.int_ (by decide +kernel) rfl) pa_nil)))))))
 (pss_one (ps_ret (pe_op op_addA (pv 1) (pe_ix ix_list (pe_lst (pa_cons pe_int (pa_cons (pe_un un_neg pe_int) pa_nil))) (pe_def Dd (hr.mono (by omega)) (by rfl) (pa_cons (pv 0) (pa_cons pe_int pa_nil))) (fun _ _ => rfl)))))
 pss_nil)
 (pss_cut (ps_if (PW.pt (pw_and (pt_cmpR op_eq (pv 4) pe_int (nomark _)) (pw_and1 (pt_val (pe_callB (call_isiD isa_str) (by rfl) B.isinstance_ (by decide +kernel) (pa_cons (pv 1) (pa_cons (pe_bltn (v := .ty "str") (by rfl) B.str_ (by decide +kernel) rfl) pa_nil)))))))
 (pss_one (ps_ret (pe_ifExp (pt_cmpR op_eq (pe_def Dd (hr.mono (by omega)) (by rfl) (pa_cons (pv 0) (pa_cons pe_int pa_nil))) pe_int (nomark _)) (pe_op op_add_str (pv 1) pe_str) (pe_slice sl_str (pv 1) (po_some pe_int) po_none))))
 pss_nil)
 (pss_one (ps_ret (pe_ix ix_list (pv 2) (pe_def Dd (hr.mono (by omega)) (by rfl) (pa_cons (pv 0) (pa_cons (pe_callB call_len_seq (by rfl) B.len_ (by decide +kernel) (pa_cons (pv 2) pa_nil)) pa_nil))) (fun _ _ => rfl))))))))), ?_⟩
    -- behind the first if
    refine ⟨fun σ' H' => σ' = [some (.ref r), some v, some (.ref mn), none, none, none] ∧ RdAt K cl H' r (c + 1) ∧ Off r H H', ?_, ?_⟩
    · refine ⟨_, rfl, by decide, fun p np => ⟨v, p, d, rfl, upd_same, dp_mono (hsub.trans (same_new np)) hd, _, rfl, ?_⟩⟩
      have s1 : Same H (upd H p (.tup [.ty "tuple", .ty "list"])) := same_new np
      generalize upd H p (.tup [.ty "tuple", .ty "list"]) = H1 at s1
      have rd1 := hrd.same s1
      refine ite2 (fun e1 => ?_) (fun e1 => ?_)
      · obtain ⟨es, hes⟩ := seq_cases e1
        obtain ⟨a, xs, rfl, hxs, hall⟩ := dp_seq hd hes
        have hsub1 := hsub.trans s1
        refine ⟨_, rfl, a, _, rfl, seq_same hsub1 hxs, _, _, rfl, rfl, _, rfl, ite2 (fun e2 => ?_) (fun e2 => ?_)⟩
        · refine ⟨_, rfl, r, cl, 4, c, rfl, by decide, by decide, by omega, rd1, fun k H2 hk0 hk1 rd2 o2 => ?_⟩
          refine ⟨_, _, rfl, rfl, _, rfl, ite2 (fun e3 => ?_) (fun e3 => ?_)⟩
          · have o02 := (Off.of s1).trans o2
            have hs2 := o02.sub hsub hnr
            have hxl : xs.length = es.length := dps_len hall
            have hel : es.length ≤ 3000 := by
              have h1 := bulkAll_len es
              have h2 : PyData.bulkAll es ≤ 3000 := by
                rcases hes with rfl | rfl
                · simpa only [PyData.bulk] using hblk
                · simpa only [PyData.bulk] using hblk
              omega
            have hpos : 0 < (xs.length : Int) := of_decide_eq_true e2
            have hdepE : PyData.depthAll es < n := by
              rcases hes with rfl | rfl
              · simp only [PyData.depth] at hdep
                omega
              · simp only [PyData.depth] at hdep
                omega
            have hblkE : PyData.bulkAll es ≤ 3000 := by
              rcases hes with rfl | rfl
              · simpa only [PyData.bulk] using hblk
              · simpa only [PyData.bulk] using hblk
            have hlfE : lfAll i es = true := by
              rcases hes with rfl | rfl
              · simpa only [lf] using hlf
              · simpa only [lf] using hlf
            refine ⟨_, rfl, _, rfl, a, xs, rfl, seq_same hs2 hxs, r, cl, _, c + 1, rfl, hpos, by omega, by omega, rd2, fun ka H3 ha0 ha1 rd3 o3 => ?_⟩
            refine ⟨_, rfl, r, cl, 7, c + 2, rfl, by decide, by decide, by omega, rd3, fun kw H4 hw0 hw1 rd4 o4 => ⟨_, _, rfl, ?_⟩⟩
            have o04 := (o02.trans o3).trans o4
            have hs4 := o04.sub hsub hnr
            refine ⟨_, rfl, a, xs, rfl, seq_same hs4 hxs, fun p np => ?_⟩
            have npr : p ≠ r := by
              rintro rfl
              exact rd4.some np
            have hpH : H p = none := off_none o04 np rd4.some
            have hpD : Hd p = none := hsub.free hpH
            have s5 : Same H4 (upd H4 p (.lst xs)) := same_new np
            have hp5 : (upd H4 p (.lst xs)) p = some (.lst xs) := upd_same
            have rd5 := rd4.same s5
            have o05 := o04.trans (Off.of s5)
            have hs5 := hs4.trans s5
            generalize upd H4 p (.lst xs) = H5 at s5 hp5 rd5 o05 hs5
            obtain ⟨x, hat, hatN⟩ := at_of ha0 ha1 rfl
            obtain ⟨dx, hdx, hddx⟩ := dps_get hall hatN
            have hdxm := List.mem_of_getElem? hdx
            have keepH : ∀ b, H b ≠ none → H5 b ≠ none := fun b hb z => hb (off_none o05 z rd5.some)
            refine ⟨fun σ' H' => σ' = [some (.ref r), some (.ref a), some (.ref mn), some (.int ka), some (.int kw), some (.ref p)] ∧
              ∃ (Hd' : Hp) (xs' : List V) (es' : List PyData), RdAt K cl H' r (c + 4 * (n + 1)) ∧ Off r H H' ∧ Same Hd' H' ∧ Ext H Hd Hd' ∧ Hd' p = none ∧
              H' p = some (.lst xs') ∧ DpAll K Hd' xs' es' ∧ GrownL i es es', ?_, ?_⟩
            · refine ⟨_, rfl, _, _, rfl, rfl, _, rfl, ite2 (fun w1 => ?_) (fun w1 => ?_)⟩
              · refine ⟨_, rfl, _, rfl, _, rfl, p, xs, ka, x, rfl, rfl, SqL.of hp5, hat, _, rfl, r, cl, mn, x, Hd, dx, ds, c + 3, i, rfl, rd5, by omega, hs5, hnr, hddx, ?_, ?_, lfAll_iff.mp hlfE dx hdxm, hmn, hds0, hdsl, hsm, fun v' H6 Hd' d' rd6 o6 s6 ex6 hd6 gr6 => ?_⟩
                · have := depth_mem hdxm
                  omega
                · have := bulk_mem hdxm
                  omega
                · have hp6 := o6 p _ npr hp5
                  have hpD' := ex6.new p (by rw [hp5]; exact fun z => nomatch z) hpD
                  refine ⟨_, rfl, _, rfl, p, xs, ka, ka.toNat, rfl, rfl, hp6, ?_, rfl, Hd', _, es.set ka.toNat d', ?_, ?_, ?_, ex6.more keepH, hpD', upd_same, dps_set hd6 _ (dps_mono ex6.same hall), grownL_set hlfE hdx gr6⟩
                  · unfold ixN
                    rw [if_pos ha0, if_pos ha1]
                  · exact (rd6.put rd4 np).mono (by omega)
                  · intro b o hb e
                    rw [upd_ne (ne_of_none e hpH)]
                    exact (o05.trans o6) b o hb e
                  · exact s6.upd_at hpD'
              · have fin : ∀ (H6 : Hp) (xs' : List V) (es' : List PyData), RdAt K cl H6 r (c + 4) → Off r H5 H6 → DpAll K Hd xs' es' → GrownL i es es' →
                    ∃ (Hd' : Hp) (ys : List V) (es' : List PyData), RdAt K cl (upd H6 p (.lst xs')) r (c + 4 * (n + 1)) ∧ Off r H (upd H6 p (.lst xs')) ∧ Same Hd' (upd H6 p (.lst xs')) ∧ Ext H Hd Hd' ∧ Hd' p = none ∧
                    (upd H6 p (.lst xs')) p = some (.lst ys) ∧ DpAll K Hd' ys es' ∧ GrownL i es es' := by
                  intro H6 xs' es' h1 h2 h3 h4
                  refine ⟨Hd, xs', es', (h1.put rd4 np).mono (by omega), ?_, ?_, Ext.refl H Hd, hpD, upd_same, h3, h4⟩
                  · intro b o hb e
                    rw [upd_ne (ne_of_none e hpH)]
                    exact (o05.trans h2) b o hb e
                  · exact (h2.sub hs5 hnr).upd_at hpD
                refine ⟨_, rfl, rfl, _, rfl, ite2 (fun w2 => ?_) (fun w2 => ?_)⟩
                · refine ⟨_, rfl, .inl ⟨rfl, _, SqL.of hp5⟩, _, rfl, p, xs, ka, ka.toNat, x, rfl, rfl, hp5, by omega, by omega, ?_, hatN, rfl, ?_⟩
                  · show (if decide (0 ≤ (if ka < 0 then ka + (xs.length : Int) else ka)) && decide ((if ka < 0 then ka + (xs.length : Int) else ka) < (xs.length : Int)) then some (if ka < 0 then ka + (xs.length : Int) else ka).toNat else none) = some ka.toNat
                    rw [if_neg (show ¬ ka < 0 by omega), decide_eq_true ha0, decide_eq_true ha1]
                    rfl
                  · exact fin H5 _ _ (rd5.mono (by omega)) (Off.refl _ _) (dps_erase _ hall) (grownL_erase hlfE)
                · refine ⟨_, rfl, rfl, _, rfl, ite2 (fun w3 => ?_) (fun w3 => ?_)⟩
                  · refine ⟨_, rfl, .inl ⟨rfl, _, SqL.of hp5⟩, _, rfl, _, rfl, _, rfl, _, rfl, p, xs, rfl, .inl (SqL.of hp5), r, cl, _, c + 3, rfl, hpos, by omega, by omega, rd5, fun k6 H6 h60 h61 rd6 o6 => ?_⟩
                    obtain ⟨y, hy, hyN⟩ := at_of h60 h61 rfl
                    obtain ⟨dy, hdy, hddy⟩ := dps_get hall hyN
                    have hp6 := o6 p _ npr hp5
                    refine ⟨p, xs, k6, y, rfl, rfl, SqL.of hp6, hy, p, xs, ka, y, rfl, rfl, hp6, ?_, ha0, by omega, rfl, ?_⟩
                    · exact Nat.lt_of_le_of_lt (show xs.length ≤ 3000 by omega) (by decide)
                    · exact fin H6 _ _ rd6 o6 (dps_app (dps_app (dps_take _ hall) (.cons hddy .nil)) (dps_drop _ hall)) (grownL_ins hlfE (Or.inl (List.mem_of_getElem? hdy)))
                  · cases hmn with
                    | @lst _ ms _ hms hmall =>
                    have hml := dps_len hmall
                    have hdpos : 0 < ds.length := List.length_pos_iff.mpr hds0
                    refine ⟨_, rfl, .inl ⟨rfl, _, SqL.of hp5⟩, _, rfl, _, rfl, _, rfl, _, rfl, mn, ms, rfl, .inl (hs5.seq hms), r, cl, _, c + 3, rfl, by omega, by omega, by omega, rd5, fun k6 H6 h60 h61 rd6 o6 => ?_⟩
                    obtain ⟨y, hy, hyN⟩ := at_of h60 h61 rfl
                    obtain ⟨dy, hdy, hddy⟩ := dps_get hmall hyN
                    have hp6 := o6 p _ npr hp5
                    have hs6 := o6.sub hs5 hnr
                    refine ⟨mn, ms, k6, y, rfl, rfl, hs6.seq hms, hy, p, xs, ka, y, rfl, rfl, hp6, ?_, ha0, by omega, rfl, ?_⟩
                    · exact Nat.lt_of_le_of_lt (show xs.length ≤ 3000 by omega) (by decide)
                    · exact fin H6 _ _ rd6 o6 (dps_app (dps_app (dps_take _ hall) (.cons hddy .nil)) (dps_drop _ hall)) (grownL_ins hlfE (Or.inr (hsm dy (List.mem_of_getElem? hdy))))
            · rintro σ' H6 ⟨rfl, Hd', xs', es', rd6, o6, s6, ex6, hpD', hp6, hall6, gr6⟩
              have hd6 : Dp K H6 (.ref a) d := dp_mono (ex6.same.trans s6) hd
              refine ⟨_, rfl, _, d, rfl, hd6, _, rfl, ite2 (fun l1 => ?_) (fun l1 => ?_)⟩
              · refine ⟨_, rfl, q _ _ (upd Hd' p (.lst xs')) (.list es') rd6 o6 ?_ (ex6.put hpH hpD') (.lst (SqL.of upd_same) (dps_mono (same_new hpD') hall6)) ?_⟩
                · intro b o e
                  by_cases hb : b = p
                  · subst hb
                    rw [upd_same] at e
                    rw [hp6]
                    exact e
                  · rw [upd_ne hb] at e
                    exact s6 b o e
                · rcases hes with rfl | rfl
                  · cases l1
                  · exact ⟨by simp only [PyData.depth]; have := gr6.dep; omega, by simp only [PyData.bulk]; exact gr6.blk, by simp only [lf]; exact gr6.lf⟩
              · refine ⟨_, rfl, p, xs', rfl, .inl ⟨SqL.of hp6, fun t nt => ?_⟩⟩
                have htH : H t = none := off_none o6 nt rd6.some
                have htD : Hd' t = none := s6.free nt
                refine q _ _ (upd Hd' t (.tup xs')) (.tuple es') (rd6.same (same_new nt)) (o6.trans (off_new nt)) ?_ (ex6.put htH htD) (.tup (SqT.of upd_same) (dps_mono (same_new htD) hall6)) ?_
                · intro b o e
                  by_cases hb : b = t
                  · subst hb
                    rw [upd_same] at e ⊢
                    exact e
                  · rw [upd_ne hb] at e ⊢
                    exact s6 b o e
                · rcases hes with rfl | rfl
                  · exact ⟨by simp only [PyData.depth]; have := gr6.dep; omega, by simp only [PyData.bulk]; exact gr6.blk, by simp only [lf]; exact gr6.lf⟩
                  · exact absurd rfl l1
          · exact ⟨rfl, rd2, (Off.of s1).trans o2⟩
        · exact ⟨rfl, rd1.mono (Nat.le_succ c), Off.of s1⟩
      · exact ⟨rfl, rd1.mono (Nat.le_succ c), Off.of s1⟩
    · rintro σ' H1 ⟨rfl, rd1, o1⟩
      have hs1 := o1.sub hsub hnr
      refine ⟨_, rfl, r, cl, 4, c + 1, rfl, by decide, by decide, by omega, rd1, fun k H2 hk0 hk1 rd2 o2 => ?_⟩
      have o12 := o1.trans o2
      have hs2 := o12.sub hsub hnr
      -- a value that is no object
      have atom : ∀ (v' : V) (d' : PyData) (Hc : Hp), RdAt K cl Hc r (c + 4) → Off r H Hc → (∀ Hx, Dp K Hx v' d') → Grown i d d' → Q v' Hc := fun v' d' Hc h1 h2 h3 h4 =>
        q v' Hc Hd d' (h1.mono (by omega)) h2 (h2.sub hsub hnr) (Ext.refl H Hd) (h3 Hd) h4
      -- a new list or tuple of the items
      have made : ∀ (Hc : Hp) (l : Addr) (o : HO) (d' : PyData), Hc l = none → RdAt K cl Hc r (c + 4) → Off r H Hc → Dp K (upd Hd l o) (.ref l) d' → Grown i d d' → Q (.ref l) (upd Hc l o) := fun Hc l o d' h0 h1 h2 h3 h4 => by
        have hl : H l = none := off_none h2 h0 h1.some
        refine q _ _ (upd Hd l o) d' ((h1.same (same_new h0)).mono (by omega)) (h2.trans (off_new h0)) ?_ ((Ext.refl H Hd).put hl (hsub.free hl)) h3 h4
        intro b x e
        by_cases hb : b = l
        · subst hb
          rw [upd_same] at e ⊢
          exact e
        · rw [upd_ne hb] at e ⊢
          exact h2.sub hsub hnr b x e
      let Mid : Nat → L2.St → Hp → Prop := fun m σ' H' => σ' = [some (.ref r), some v, some (.ref mn), none, some (.int k), none] ∧ RdAt K cl H' r (c + 2) ∧ Off r H H'
      have mid2 : Mid 0 [some (.ref r), some v, some (.ref mn), none, some (.int k), none] H2 := ⟨rfl, rd2, o12⟩
      refine ⟨Mid 0, ⟨_, rfl, rfl, _, rfl, ite2 (fun e1 => ?_) (fun _ => mid2)⟩, ?_⟩
      · refine ⟨_, rfl, by decide, fun p np => ⟨v, p, d, rfl, upd_same, dp_mono (hs2.trans (same_new np)) hd, _, rfl, ?_⟩⟩
        have s3 : Same H2 (upd H2 p (.tup [.ty "tuple", .ty "list"])) := same_new np
        generalize upd H2 p (.tup [.ty "tuple", .ty "list"]) = H3 at s3
        have rd3 := rd2.same s3
        have o3 := o12.trans (Off.of s3)
        have hs3 := hs2.trans s3
        refine ite2 (fun e2 => ?_) (fun _ => ⟨rfl, rd3, o3⟩)
        obtain ⟨es, hes⟩ := seq_cases e2
        obtain ⟨a, xs, rfl, hxs, hall⟩ := dp_seq hd hes
        refine ⟨_, rfl, _, d, rfl, dp_mono hs3 hd, _, rfl, ite2 (fun e3 => ?_) (fun e3 => ?_)⟩
        · refine ⟨_, rfl, a, xs, rfl, seq_same hs3 hxs, fun l nl => made H3 l _ (.list es) nl (rd3.mono (by omega)) o3 ?_ ?_⟩
          · exact .lst (SqL.of upd_same) (dps_mono (same_new (hs3.free nl)) hall)
          · rcases hes with rfl | rfl
            · exact ⟨Nat.le_succ _, by simp only [PyData.bulk]; omega, by simpa only [lf] using lf_mono hlf⟩
            · cases e3
        · rcases hes with rfl | rfl
          · exact absurd rfl e3
          · cases hd with
            | @lst _ xs _ hxl hall =>
            refine ⟨_, rfl, a, xs, rfl, .inl ⟨hs3.seq hxl, fun l nl => made H3 l _ (.tuple es) nl (rd3.mono (by omega)) o3 ?_ ?_⟩⟩
            · exact .tup (SqT.of upd_same) (dps_mono (same_new (hs3.free nl)) hall)
            · exact ⟨Nat.le_succ _, by simp only [PyData.bulk]; omega, by simpa only [lf] using lf_mono hlf⟩
      rintro σ' H2 ⟨rfl, rd2, o12⟩
      have hs2 := o12.sub hsub hnr
      have mid2 : Mid 0 [some (.ref r), some v, some (.ref mn), none, some (.int k), none] H2 := ⟨rfl, rd2, o12⟩
      refine ⟨Mid 0, ⟨_, rfl, rfl, _, rfl, ite2 (fun e1 => ?_) (fun _ => mid2)⟩, ?_⟩
      · refine ⟨_, rfl, v, d, rfl, dp_mono hs2 hd, _, rfl, ite2 (fun e2 => ?_) (fun _ => mid2)⟩
        refine ⟨_, rfl, 1, rfl, by decide, fun l nl => ⟨_, rfl, r, cl, 2, c + 2, rfl, by decide, by decide, by omega, rd2.same (same_new nl), fun k3 H3 h0 h1 rd3 o3 => ?_⟩⟩
        have nlr : l ≠ r := (ne_of_none (show H2 r = some ((H2 r).get (Option.isSome_iff_ne_none.mpr rd2.some)) by simp) nl).symm
        have hl3 := o3 l _ nlr upd_same
        obtain ⟨j, hj, hj2⟩ : ∃ j : Int, atI [V.int 1, V.int (-1)] k3 = some (.int j) ∧ j.natAbs = 1 := by
          have : k3 = 0 ∨ k3 = 1 := by omega
          rcases this with rfl | rfl
          · exact ⟨1, rfl, rfl⟩
          · exact ⟨-1, rfl, rfl⟩
        refine ⟨l, _, k3, _, rfl, rfl, SqL.of hl3, hj, ?_⟩
        have o4 := (o12.trans (off_new nl)).trans o3
        cases d with
        | int x =>
          cases hd
          simp only [lf, decide_eq_true_eq] at hlf
          refine ⟨x, j, .inl rfl, rfl, atom _ (.int (x + j)) H3 (rd3.mono (by omega)) o4 (fun _ => .int _) ⟨Nat.zero_le _, Nat.zero_le _, ?_⟩⟩
          simp only [lf, decide_eq_true_eq]
          omega
        | bool b =>
          cases hd
          refine ⟨b2i b, j, .inr ⟨b, rfl, rfl⟩, rfl, atom _ (.int (b2i b + j)) H3 (rd3.mono (by omega)) o4 (fun _ => .int _) ⟨Nat.zero_le _, Nat.zero_le _, ?_⟩⟩
          simp only [lf, decide_eq_true_eq]
          have : (b2i b).natAbs ≤ 1 := by cases b <;> decide
          omega
        | _ => cases e2
      rintro σ' H2 ⟨rfl, rd2, o12⟩
      have hs2 := o12.sub hsub hnr
      have mid2 : Mid 0 [some (.ref r), some v, some (.ref mn), none, some (.int k), none] H2 := ⟨rfl, rd2, o12⟩
      refine ⟨Mid 0, ⟨_, rfl, rfl, _, rfl, ite2 (fun e1 => ?_) (fun _ => mid2)⟩, ?_⟩
      · refine ⟨_, rfl, v, d, rfl, dp_mono hs2 hd, _, rfl, ite2 (fun e2 => ?_) (fun _ => mid2)⟩
        cases d with
        | str x =>
          cases hd
          have hx : x.length ≤ 3000 := hblk
          simp only [lf] at hlf
          refine ⟨_, rfl, r, cl, 2, c + 2, rfl, by decide, by decide, by omega, rd2, fun k3 H3 h0 h1 rd3 o3 => ⟨rfl, _, rfl, ite2 (fun e3 => ?_) (fun e3 => ?_)⟩⟩
          · refine ⟨_, rfl, x, _, rfl, rfl, ?_, atom _ (.str (x ++ "a")) H3 (rd3.mono (by omega)) (o12.trans o3) (fun _ => .str _) ⟨Nat.zero_le _, ?_, ?_⟩⟩
            · rw [show (Str.ofString "a").length = 1 from rfl]
              exact Nat.le_trans (Nat.add_le_add_right hx 1) (by decide)
            · have e : (x ++ Str.ofString "a").length = x.length + (Str.ofString "a").length := strLen_append _ _
              rw [show (Str.ofString "a").length = 1 from rfl] at e
              show (x ++ Str.ofString "a").length ≤ 2 * x.length + 20
              omega
            · simp only [lf, List.all_eq_true, decide_eq_true_eq] at hlf ⊢
              intro u hu
              rw [cps_toList_append] at hu
              rcases List.mem_append.mp hu with hu | hu
              · exact hlf u hu
              · rw [show (Str.ofString "a").cps.toList = [97] by decide +kernel] at hu
                rw [List.mem_singleton.mp hu]
                decide
          · refine ⟨_, rfl, _, rfl, x, rfl, ?_, atom _ (.str (cutS x (some 1) none)) H3 (rd3.mono (by omega)) (o12.trans o3) (fun _ => .str _) ⟨Nat.zero_le _, ?_, ?_⟩⟩
            · exact Nat.le_trans hx (by decide)
            · have := cutS_length x (some 1) none
              show (cutS x (some 1) none).length ≤ 2 * x.length + 20
              omega
            · simp only [lf, List.all_eq_true, decide_eq_true_eq] at hlf ⊢
              intro u hu
              exact hlf u (List.mem_of_mem_drop (List.mem_of_mem_take (by simpa [cutS] using hu)))
        | _ => cases e2
      rintro σ' H2 ⟨rfl, rd2, o12⟩
      have hs2 := o12.sub hsub hnr
      cases hmn with
      | @lst _ ms _ hms hall =>
      have hml := dps_len hall
      have hpos : 0 < ds.length := List.length_pos_iff.mpr hds0
      refine ⟨_, rfl, _, rfl, _, rfl, mn, ms, rfl, .inl (hs2.seq hms), r, cl, _, c + 2, rfl, by omega, by omega, by omega, rd2, fun k3 H3 h0 h1 rd3 o3 => ?_⟩
      obtain ⟨u, hu, hu2⟩ := at_of h0 h1 rfl
      obtain ⟨e, he, hde⟩ := dps_get hall hu2
      have o4 := o12.trans o3
      refine ⟨mn, ms, k3, u, rfl, rfl, (o4.sub hsub hnr).seq hms, hu, ?_⟩
      exact q u H3 Hd e (rd3.mono (by omega)) o4 (o4.sub hsub hnr) (Ext.refl H Hd) hde (grown_small (hsm e (List.mem_of_getElem? he)))
end
end K01

set_option Elab.async false
set_option linter.all false
set_option maxRecDepth 100000
set_option maxHeartbeats 4000000
namespace K01
open PySem PySem.Spec PyProof.Rows L2 Tw
open C8 (pss_cut)
structure Okf (d : PyData) : Prop where
  dep : d.depth ≤ 3
  blk : d.bulk ≤ 20000
  lf : lf 0 d = true
def okb (d : PyData) : Bool := decide (d.depth ≤ 3) && decide (d.bulk ≤ 20000) && lf 0 d
theorem ok_of {d : PyData} (h : okb d = true) : Okf d := by
  unfold okb at h
  simp only [Bool.and_eq_true, decide_eq_true_eq] at h
  exact ⟨h.1.1, h.1.2, h.2⟩
theorem oks_of {ds : List PyData} (h : ds.all okb = true) : ∀ d ∈ ds, Okf d := fun d m => ok_of (List.all_eq_true.mp h d m)
def spRd (K : PySem.W.Frag) : Sp := fun vs H Q _ => ∃ (a : Addr) (ns : List Int), vs = [.ref a] ∧ SqL K H a (ns.map V.int) ∧ ns.length ≤ 63 ∧
  ∀ (r c : Addr) (H' : Hp), Same H H' → H r = none → RdAt K c H' r 0 → Q (.ref r) H'
/-- a list by itself, its items data in new objects -/
structure Lst (K : PySem.W.Frag) (H H' : Hp) (p : Addr) (ds : List PyData) : Prop where
  same : Same H H'
  ex : ∃ vs N, H' p = some (.lst vs) ∧ Nw H N H' ∧ DpAll K N vs ds
def spFx (K : PySem.W.Frag) : Sp := fun vs H Q _ => vs = [] ∧ ∀ (p : Addr) (H' : Hp) (ds : List PyData), Lst K H H' p ds → (∀ d ∈ ds, Okf d) → ds.length ≤ 200 → Q (.ref p) H'
theorem cat_step {K : PySem.W.Frag} {H H1 : Hp} {σ : L2.St} {i : Nat} {l : Addr} {ds ds2 : List PyData} {t : TDs} {R : VK} (hs : σ[i]? = some (some (.ref l))) (h : Lst K H H1 l ds) (hl : ds.length ≤ 1000) (ht : t σ ds2) (h2 : ds2.length ≤ 1000)
    (q : ∀ (p : Addr) (H' : Hp), Lst K H H' p (ds ++ ds2) → R (.ref p) H') : tOp rCat (tVar i) (tLs K t) σ H1 R := by
  obtain ⟨s1, vs, N, hv, n1, hd⟩ := h
  refine ⟨_, hs, ds2, ht, h2, fun b ws H2 N2 s2 n2 nb hb hd2 => ⟨l, b, vs, ws, rfl, rfl, s2 _ _ hv, hb, ?_, fun p np => ?_⟩⟩
  · rw [dps_len hd, dps_len hd2]
    exact Nat.le_trans (Nat.add_le_add hl h2) (by decide)
  · refine q p _ ⟨(s1.trans s2).trans (same_new np), _, _, upd_same, ⟨(n1.un n2 s1 s2).sub.trans (same_new np), (n1.un n2 s1 s2).new⟩, ?_⟩
    exact dps_app (dps_mono un_left hd) (dps_mono (un_right (n1.apart n2)) hd2)
theorem join_len (ts : List Str) {n : Nat} (h : (ts.map (·.length)).sum + ts.length * 1 ≤ n) : (Txt.join "/" ts).length ≤ n := by
  refine Nat.le_trans ?_ h
  rw [show Txt.join "/" ts = Str.join "/" ts from StrLaws.glued_eq_join _ _]
  exact StrLaws.join_length_le "/" ts
theorem join_codes (ts : List Str) (h : (ts.all fun t => t.cps.toList.all fun c => decide (c < 128)) = true) : ∀ c ∈ (Txt.join "/" ts).cps.toList, c < 128 := by
  rw [show Txt.join "/" ts = Str.join "/" ts from StrLaws.glued_eq_join _ _]
  intro c hc
  rcases (mem_join "/" c ts).mp hc with ⟨t, ht, hc⟩ | ⟨_, hc⟩
  · exact of_decide_eq_true (List.all_eq_true.mp (List.all_eq_true.mp h t ht) c hc)
  · rw [show (Str.ofString "/").cps.toList = [47] by decide +kernel] at hc
    rw [List.mem_singleton.mp hc]
    decide
theorem rep_flat (n : Nat) (x : Str) : (List.replicate n [V.str x]).flatten = (List.replicate n x).map V.str := by
  induction n with
  | zero => rfl
  | succ n ih => rw [List.replicate_succ, List.replicate_succ, List.flatten_cons, ih, List.map_cons]; rfl
theorem oks_app {ds es : List PyData} (h : ∀ d ∈ ds, Okf d) (g : ∀ d ∈ es, Okf d) : ∀ d ∈ ds ++ es, Okf d := fun d m =>
  (List.mem_append.mp m).elim (h d) (g d)
theorem _root_.L2.Same.keep {H H' : Hp} (s : Same H H') {b : Addr} (h : H b ≠ none) : H' b ≠ none := fun z => h (s.free z)
theorem ok_str {x : Str} (h : x.length ≤ 4010) (hc : ∀ c ∈ x.cps.toList, c < 128) : Okf (.str x) :=
  ⟨Nat.zero_le _, Nat.le_trans h (by decide), by simp only [lf, List.all_eq_true, decide_eq_true_eq]; exact hc⟩
theorem app_codes {x y : Str} (hc : ∀ c ∈ x.cps.toList, c < 128) (hy : (y.cps.toList.all fun c => decide (c < 128)) = true) : ∀ c ∈ (x ++ y).cps.toList, c < 128 := by
  intro c h
  rw [cps_toList_append] at h
  rcases List.mem_append.mp h with h | h
  · exact hc c h
  · exact of_decide_eq_true (List.all_eq_true.mp hy c h)
theorem app_len {x y : Str} {n k : Nat} (h : x.length ≤ n) (hy : y.length ≤ k) : (x ++ y).length ≤ n + k := by
  have e : (x ++ y).length = x.length + y.length := strLen_append _ _
  omega
theorem oks_long {x : Str} (h : x.length ≤ 4000) (hc : ∀ c ∈ x.cps.toList, c < 128) :
    ∀ d ∈ [PyData.str x, .str (x ++ (Str.ofString "/")), .str (x ++ (Str.ofString "i")), .tuple [], .list [], .tuple [.str (Str.ofString "a")], .tuple [.str (Str.ofString "make")]], Okf d := by
  intro d m
  simp only [List.mem_cons, List.not_mem_nil, or_false] at m
  rcases m with rfl | rfl | rfl | rfl | rfl | rfl | rfl
  · exact ok_str (Nat.le_trans h (by decide)) hc
  · exact ok_str (Nat.le_trans (app_len h (show _ ≤ 1 by decide)) (by decide)) (app_codes hc (by decide +kernel))
  · exact ok_str (Nat.le_trans (app_len h (show _ ≤ 1 by decide)) (by decide)) (app_codes hc (by decide +kernel))
  · exact ok_of (by decide +kernel)
  · exact ok_of (by decide +kernel)
  · exact ok_of (by decide +kernel)
  · exact ok_of (by decide +kernel)
theorem oks_deep {y : Str} (h : y.length ≤ 4000) (hc : ∀ c ∈ y.cps.toList, c < 128) :
    ∀ d ∈ [PyData.str y, .str (y ++ (Str.ofString "/A")), .str (y ++ (Str.ofString "/")), .tuple [.str (Str.ofString "make"), .str y], .tuple [.str (Str.ofString "move"), .str y, .str (y ++ (Str.ofString "//a"))]], Okf d := by
  intro d m
  have o0 := ok_str (Nat.le_trans h (by decide)) hc
  have o3 : Okf (.str (y ++ (Str.ofString "//a"))) := ok_str (Nat.le_trans (app_len h (show _ ≤ 3 by decide)) (by decide)) (app_codes hc (by decide +kernel))
  have o4 : lf 0 (.str (Str.ofString "make")) = true := by decide +kernel
  have o5 : lf 0 (.str (Str.ofString "move")) = true := by decide +kernel
  have h0 : (PyData.str y).bulk ≤ 4000 := h
  have h3 : (PyData.str (y ++ (Str.ofString "//a"))).bulk ≤ 4003 := app_len h (show _ ≤ 3 by decide)
  have h4 : (PyData.str (Str.ofString "make")).bulk ≤ 10 := by decide
  have h5 : (PyData.str (Str.ofString "move")).bulk ≤ 10 := by decide
  simp only [List.mem_cons, List.not_mem_nil, or_false] at m
  rcases m with rfl | rfl | rfl | rfl | rfl
  · exact o0
  · exact ok_str (Nat.le_trans (app_len h (show _ ≤ 2 by decide)) (by decide)) (app_codes hc (by decide +kernel))
  · exact ok_str (Nat.le_trans (app_len h (show _ ≤ 1 by decide)) (by decide)) (app_codes hc (by decide +kernel))
  · refine ⟨by simp [PyData.depth, PyData.depthAll], ?_, ?_⟩
    · simp only [PyData.bulk, PyData.bulkAll] at h0 h4 ⊢
      omega
    · simp only [lf, lfAll, Bool.and_eq_true] at o4 ⊢
      exact ⟨o4, by simpa only [lf] using o0.lf, trivial⟩
  · refine ⟨by simp [PyData.depth, PyData.depthAll], ?_, ?_⟩
    · simp only [PyData.bulk, PyData.bulkAll] at h0 h3 h5 ⊢
      omega
    · simp only [lf, lfAll, Bool.and_eq_true] at o5 ⊢
      exact ⟨o5, by simpa only [lf] using o0.lf, by simpa only [lf] using o3.lf, trivial⟩
local macro_rules | `(tactic| walk_at "dd") => `(tactic| repeat' (first | exact rfl | exact Nat.le_of_ble_eq_true rfl | exact ⟨_, rfl, rfl⟩ | refine ⟨_, _, ?_, ?_, rfl⟩ | refine ⟨_, ?_, ?_, rfl⟩ | refine ⟨_, ?_, rfl⟩ | refine ⟨_, _, ?_, ?_, ?_, rfl⟩ | exact Nat.le_trans (Nat.add_le_add (by assumption) (show _ ≤ 10 from Nat.le_of_ble_eq_true rfl)) (by decide)))
theorem Lst.more {K : PySem.W.Frag} {H H1 H2 : Hp} {p : Addr} {ds : List PyData} (h : Lst K H H1 p ds) (s : Same H1 H2) : Lst K H H2 p ds := by
  obtain ⟨s1, vs, N, h1, h2, h3⟩ := h
  exact ⟨s1.trans s, vs, N, s _ _ h1, ⟨h2.sub.trans s, h2.new⟩, h3⟩
section
variable {P : Program} {w : World} {K : PySem.W.Frag} {mg : Str → Option Value} {base : Heap}
theorem sc_rd : FnScope ["_law_script"] ["_law_script"] (defScope s__law_reader) := ⟨rfl, rfl, rfl, by decide +kernel, rfl, by decide +kernel, by decide +kernel⟩
theorem ok_rd {f : Addr} {fd : FuncData} (F : Fun K "_law_reader" "_law_reader" s__law_reader f fd) :
    FnOk P w K mg base CX0 1 f fd ["_law_script"] (spRd K) := by
  refine F.ok sc_rd (fun vs H Q E h => ?_) (fun cdv A outer s H vs Q E hr h => ?_)
  · obtain ⟨a, ns, rfl, _⟩ := h
    rfl
  · obtain ⟨a, ns, rfl, ha, hl, q⟩ := h
    refine ⟨_, (pss_one (ps_ret (pe_lst (pa_cons (pe_slice sl_list (pv 0) po_none (po_some pe_int)) (pa_cons pe_int (pa_cons pe_int (pa_cons pe_int pa_nil))))))), ?_⟩
    refine ⟨_, rfl, 63, rfl, a, _, rfl, ha, fun c nc => ⟨(by show 4 ≤ sizeLine; decide), fun r nr => ?_⟩⟩
    have ncr : c ≠ r := by
      rintro rfl
      rw [upd_same] at nr
      cases nr
    refine q r c _ ((same_new nc).trans (same_new nr)) ((same_new nc).free nr) ⟨(ns.drop (HT.sIx (ns.map V.int).length 0 none)).take (HT.sIx (ns.map V.int).length (ns.map V.int).length (some 63) - HT.sIx (ns.map V.int).length 0 none), 0, 0, 0, upd_same, SqL.of ?_, ncr, by decide, by decide, ?_⟩
    · rw [upd_ne ncr, upd_same]
      unfold cutV
      rw [List.map_take, List.map_drop]
    · exact Nat.le_trans (List.length_take_le' _ _) (Nat.le_trans (by rw [List.length_drop]; omega) hl)
theorem sc_fx : FnScope ["_law_far", "_law_long", "_law_found", "_law_deep"] [] (defScope s__law_fixed_values) := ⟨rfl, rfl, rfl, by decide +kernel, rfl, by decide +kernel, by decide +kernel⟩
theorem ok_fx {f : Addr} {fd : FuncData} (F : Fun K "_law_fixed_values" "_law_fixed_values" s__law_fixed_values f fd) (B : Bs mg) :
    FnOk P w K mg base CX0 1 f fd [] (spFx K) := by
  refine F.ok sc_fx (fun vs H Q E h => ?_) (fun cdv A outer s H vs Q E hr h => ?_)
  · obtain ⟨rfl, _⟩ := h
    rfl
  · obtain ⟨rfl, q⟩ := h
    refine ⟨_, (pss_cut (ps_par (i := 0) (j := 1) (by rfl) sc_fx.nd rfl rfl (by decide) rfl rfl (pa_cons (pe_op op_pow pe_int pe_int) (pa_cons (pe_join pe_str (pe_op op_rep (pl_lst (pds_cons pd_str pds_nil)) pe_int)) pa_nil)) (by rfl))
 (pss_cut (ps_set (i := 2) sc_fx.nd rfl (by first | exact Or.inl rfl | exact Or.inr rfl) (pl_lst (pds_cons pd_non (pds_cons pd_bl (pds_cons pd_bl (pds_cons pd_int (pds_cons pd_int (pds_cons (pd_neg pd_int) (pds_cons (pd_var 0) (pds_cons (pd_neg (pd_var 0)) (pds_cons pd_str (pds_cons pd_str pds_nil))))))))))))
 (pss_cut (ps_set (i := 2) sc_fx.nd rfl (by first | exact Or.inl rfl | exact Or.inr rfl) (pe_op op_cat (pv 2) (pl_lst (pds_cons pd_str (pds_cons pd_str (pds_cons pd_str (pds_cons pd_str (pds_cons pd_str (pds_cons pd_str (pds_cons pd_str (pds_cons pd_str (pds_cons pd_str pds_nil))))))))))))
 (pss_cut (ps_set (i := 2) sc_fx.nd rfl (by first | exact Or.inl rfl | exact Or.inr rfl) (pe_op op_cat (pv 2) (pl_lst (pds_cons pd_str (pds_cons pd_str (pds_cons pd_str (pds_cons pd_str (pds_cons pd_str (pds_cons pd_str (pds_cons pd_str pds_nil))))))))))
 (pss_cut (ps_set (i := 2) sc_fx.nd rfl (by first | exact Or.inl rfl | exact Or.inr rfl) (pe_op op_cat (pv 2) (pl_lst (pds_cons pd_str (pds_cons pd_str (pds_cons pd_str (pds_cons pd_str (pds_cons pd_str (pds_cons pd_str pds_nil)))))))))
 (pss_cut (ps_set (i := 2) sc_fx.nd rfl (by first | exact Or.inl rfl | exact Or.inr rfl) (pe_op op_cat (pv 2) (pl_lst (pds_cons (pd_var 1) (pds_cons (pd_cat (pd_var 1) pd_str) (pds_cons (pd_cat (pd_var 1) pd_str) (pds_cons (pd_tup pds_nil) (pds_cons (pd_lst pds_nil) (pds_cons (pd_tup (pds_cons pd_str pds_nil)) (pds_cons (pd_tup (pds_cons pd_str pds_nil)) pds_nil))))))))))
 (pss_cut (ps_set (i := 2) sc_fx.nd rfl (by first | exact Or.inl rfl | exact Or.inr rfl) (pe_op op_cat (pv 2) (pl_lst (pds_cons (pd_tup (pds_cons pd_str (pds_cons pd_str pds_nil))) (pds_cons (pd_lst (pds_cons pd_str (pds_cons pd_str pds_nil))) (pds_cons (pd_tup (pds_cons pd_str (pds_cons pd_str pds_nil))) pds_nil))))))
 (pss_cut (ps_set (i := 2) sc_fx.nd rfl (by first | exact Or.inl rfl | exact Or.inr rfl) (pe_op op_cat (pv 2) (pl_lst (pds_cons (pd_tup (pds_cons pd_str (pds_cons pd_str (pds_cons pd_str pds_nil)))) (pds_cons (pd_tup (pds_cons pd_str (pds_cons pd_str pds_nil))) (pds_cons (pd_tup (pds_cons pd_str (pds_cons pd_str pds_nil))) pds_nil))))))
 (pss_cut (ps_set (i := 2) sc_fx.nd rfl (by first | exact Or.inl rfl | exact Or.inr rfl) (pe_op op_cat (pv 2) (pl_lst (pds_cons (pd_tup (pds_cons pd_str (pds_cons pd_str (pds_cons pd_str pds_nil)))) (pds_cons (pd_tup (pds_cons pd_str (pds_cons pd_str pds_nil))) (pds_cons (pd_tup (pds_cons pd_str (pds_cons pd_str (pds_cons pd_str pds_nil)))) pds_nil))))))
 (pss_cut (ps_set (i := 2) sc_fx.nd rfl (by first | exact Or.inl rfl | exact Or.inr rfl) (pe_op op_cat (pv 2) (pl_lst (pds_cons (pd_tup (pds_cons pd_str (pds_cons pd_str pds_nil))) (pds_cons (pd_tup (pds_cons pd_str (pds_cons pd_non pds_nil))) (pds_cons (pd_tup (pds_cons pd_str (pds_cons pd_str (pds_cons pd_str pds_nil)))) pds_nil))))))
 (pss_cut (ps_set (i := 2) sc_fx.nd rfl (by first | exact Or.inl rfl | exact Or.inr rfl) (pe_op op_cat (pv 2) (pl_lst (pds_cons (pd_tup (pds_cons pd_str (pds_cons pd_str (pds_cons pd_str (pds_cons pd_str pds_nil))))) (pds_cons (pd_tup (pds_cons pd_str (pds_cons pd_str (pds_cons pd_str pds_nil)))) pds_nil)))))
 (pss_cut (ps_set (i := 2) sc_fx.nd rfl (by first | exact Or.inl rfl | exact Or.inr rfl) (pe_op op_cat (pv 2) (pl_lst (pds_cons (pd_tup (pds_cons pd_str (pds_cons pd_str (pds_cons pd_int (pds_cons pd_str pds_nil))))) (pds_cons (pd_tup (pds_cons pd_str (pds_cons pd_str (pds_cons pd_int (pds_cons pd_str pds_nil))))) (pds_cons (pd_tup (pds_cons pd_str (pds_cons pd_str (pds_cons (pd_neg pd_int) (pds_cons pd_str pds_nil))))) pds_nil))))))
 (pss_cut (ps_set (i := 2) sc_fx.nd rfl (by first | exact Or.inl rfl | exact Or.inr rfl) (pe_op op_cat (pv 2) (pl_lst (pds_cons (pd_tup (pds_cons pd_str (pds_cons pd_str (pds_cons pd_bl (pds_cons pd_str pds_nil))))) (pds_cons (pd_tup (pds_cons pd_str (pds_cons pd_str (pds_cons (pd_var 0) (pds_cons pd_str pds_nil))))) pds_nil)))))
 (pss_cut (ps_set (i := 2) sc_fx.nd rfl (by first | exact Or.inl rfl | exact Or.inr rfl) (pe_op op_cat (pv 2) (pl_lst (pds_cons (pd_tup (pds_cons pd_str (pds_cons pd_str (pds_cons pd_int (pds_cons pd_str pds_nil))))) (pds_cons (pd_tup (pds_cons pd_str (pds_cons pd_str (pds_cons pd_int pds_nil)))) pds_nil)))))
 (pss_cut (ps_set (i := 2) sc_fx.nd rfl (by first | exact Or.inl rfl | exact Or.inr rfl) (pe_op op_cat (pv 2) (pl_lst (pds_cons (pd_tup (pds_cons pd_str (pds_cons pd_str (pds_cons pd_str (pds_cons pd_str pds_nil))))) (pds_cons (pd_tup (pds_cons pd_str (pds_cons pd_str (pds_cons pd_int pds_nil)))) (pds_cons (pd_tup (pds_cons pd_str (pds_cons pd_str (pds_cons (pd_neg pd_int) pds_nil)))) pds_nil))))))
 (pss_cut (ps_set (i := 2) sc_fx.nd rfl (by first | exact Or.inl rfl | exact Or.inr rfl) (pe_op op_cat (pv 2) (pl_lst (pds_cons (pd_tup (pds_cons pd_str (pds_cons pd_str (pds_cons pd_bl pds_nil)))) (pds_cons (pd_tup (pds_cons pd_str (pds_cons pd_str (pds_cons (pd_var 0) pds_nil)))) (pds_cons (pd_tup (pds_cons pd_str (pds_cons pd_str pds_nil))) pds_nil))))))
 (pss_cut (ps_set (i := 2) sc_fx.nd rfl (by first | exact Or.inl rfl | exact Or.inr rfl) (pe_op op_cat (pv 2) (pl_lst (pds_cons (pd_tup (pds_cons pd_str (pds_cons pd_str pds_nil))) (pds_cons (pd_tup (pds_cons pd_str (pds_cons pd_str pds_nil))) (pds_cons (pd_tup (pds_cons pd_int (pds_cons pd_str pds_nil))) (pds_cons (pd_tup (pds_cons (pd_tup pds_nil) (pds_cons pd_str pds_nil))) pds_nil)))))))
 (pss_cut (ps_set (i := 3) sc_fx.nd rfl (by first | exact Or.inl rfl | exact Or.inr rfl) (pe_join pe_str (pe_op op_rep (pl_lst (pds_cons pd_str pds_nil)) pe_int)))
 (pss_cut (ps_set (i := 2) sc_fx.nd rfl (by first | exact Or.inl rfl | exact Or.inr rfl) (pe_op op_cat (pv 2) (pl_lst (pds_cons (pd_var 3) (pds_cons (pd_cat (pd_var 3) pd_str) (pds_cons (pd_cat (pd_var 3) pd_str) (pds_cons (pd_tup (pds_cons pd_str (pds_cons (pd_var 3) pds_nil))) (pds_cons (pd_tup (pds_cons pd_str (pds_cons (pd_var 3) (pds_cons (pd_cat (pd_var 3) pd_str) pds_nil)))) pds_nil))))))))
 (pss_cut (ps_set (i := 2) sc_fx.nd rfl (by first | exact Or.inl rfl | exact Or.inr rfl) (pe_op op_cat (pv 2) (pl_lst (pds_cons (pd_tup (pds_cons pd_str (pds_cons pd_str pds_nil))) (pds_cons (pd_tup (pds_cons pd_str (pds_cons pd_str (pds_cons pd_int (pds_cons pd_str pds_nil))))) (pds_cons (pd_tup (pds_cons pd_str pds_nil)) (pds_cons (pd_tup (pds_cons pd_str (pds_cons pd_int pds_nil))) pds_nil)))))))
 (pss_one (ps_ret (pe_op op_cat (pv 2) (pl_lst (pds_cons (pd_tup (pds_cons (pd_tup (pds_cons pd_str (pds_cons pd_str pds_nil))) pds_nil)) (pds_cons (pd_tup (pds_cons pd_str (pds_cons pd_str pds_nil))) pds_nil)))))))))))))))))))))))))), ?_⟩
    refine ⟨fun σ' H' => ∃ x : Str, σ' = [some (.int (10 ^ 59)), some (.str x), none, none] ∧ Same H H' ∧ x.length ≤ 4000 ∧ ∀ c ∈ x.cps.toList, c < 128, ?_, ?_⟩
    · refine ⟨10, 59, rfl, rfl, ⟨by decide, by decide, by decide⟩, ⟨_, rfl⟩, [.str "abcdefgh"], (by walk_at "dd"), by decide, fun b vs H1 N s1 n1 nb hb hd => ?_⟩
      obtain ⟨rfl⟩ : vs = [.str "abcdefgh"] := by
        cases hd with
        | cons h1 h2 =>
          cases h2
          cases h1
          rfl
      refine ⟨b, 300, _, rfl, rfl, hb, by decide, by decide, by decide, fun p np => ?_⟩
      refine ⟨"/", p, List.replicate 300 "abcdefgh", rfl, rfl, .inl (SqL.of (by rw [upd_same, rep_flat]; rfl)), by decide +kernel, ?_⟩
      exact ⟨_, _, rfl, Txt.join "/" (List.replicate 300 "abcdefgh"), rfl, s1.trans (same_new np), join_len _ (by decide +kernel), join_codes _ (by decide +kernel)⟩
    rintro σ' H1 ⟨x, rfl, s1, hx, hxc⟩
    refine ⟨fun σ' H' => ∃ (p : Addr) (ds : List PyData), σ' = [some (.int (10 ^ 59)), some (.str x), some (.ref p), none] ∧ Lst K H H' p ds ∧ (∀ d ∈ ds, Okf d) ∧ ds.length ≤ 10, ⟨[.none, .bool true, .bool false, .int 0, .int 1, .int (-1), .int (10 ^ 59), .int (-(10 ^ 59)), .str (Str.ofString ""), .str (Str.ofString "a")], (by walk_at "dd"), by decide, fun p vs H2 N s2 n2 np hp hd => ⟨p, _, rfl, ⟨s1.trans s2, vs, N, hp, ⟨n2.sub, fun b hb => n2.new b (s1.keep hb)⟩, hd⟩, (oks_of (by decide +kernel)), by decide⟩⟩, ?_⟩
    rintro σ' H1 ⟨p, ds, rfl, hL, hok, hln⟩
    refine ⟨fun σ' H' => ∃ (p : Addr) (ds : List PyData), σ' = [some (.int (10 ^ 59)), some (.str x), some (.ref p), none] ∧ Lst K H H' p ds ∧ (∀ d ∈ ds, Okf d) ∧ ds.length ≤ 19, cat_step (i := 2) (ds2 := [.str (Str.ofString "abcdefgh"), .str (Str.ofString "abcdefghi"), .str (Str.ofString "Ann"), .str (Str.ofString "a b"), .str (Str.ofString "a1"), .str (Str.ofString "{"), .str (Str.ofString "a_"), .str (Str.ofString "`"), .str (Str.ofString "a`")]) rfl hL (Nat.le_trans hln (by decide)) (by walk_at "dd") (Nat.le_of_ble_eq_true rfl) (fun p H2 h2 => ⟨p, _, rfl, h2, oks_app hok (oks_of (by decide +kernel)), (by rw [List.length_append]; exact Nat.add_le_add_right hln _)⟩), ?_⟩
    rintro σ' H1 ⟨p, ds, rfl, hL, hok, hln⟩
    refine ⟨fun σ' H' => ∃ (p : Addr) (ds : List PyData), σ' = [some (.int (10 ^ 59)), some (.str x), some (.ref p), none] ∧ Lst K H H' p ds ∧ (∀ d ∈ ds, Okf d) ∧ ds.length ≤ 26, cat_step (i := 2) (ds2 := [.str (Str.ofString "/"), .str (Str.ofString "a/"), .str (Str.ofString "/a"), .str (Str.ofString "a//b"), .str (Str.ofString "a/b"), .str (Str.ofString "a/b/c"), .str (Str.ofString "a/B")]) rfl hL (Nat.le_trans hln (by decide)) (by walk_at "dd") (Nat.le_of_ble_eq_true rfl) (fun p H2 h2 => ⟨p, _, rfl, h2, oks_app hok (oks_of (by decide +kernel)), (by rw [List.length_append]; exact Nat.add_le_add_right hln _)⟩), ?_⟩
    rintro σ' H1 ⟨p, ds, rfl, hL, hok, hln⟩
    refine ⟨fun σ' H' => ∃ (p : Addr) (ds : List PyData), σ' = [some (.int (10 ^ 59)), some (.str x), some (.ref p), none] ∧ Lst K H H' p ds ∧ (∀ d ∈ ds, Okf d) ∧ ds.length ≤ 32, cat_step (i := 2) (ds2 := [.str (Str.ofString "a/abcdefghi"), .str (Str.ofString "abcdefgh/abcdefgh"), .str (Str.ofString "a/b/"), .str (Str.ofString "a.b"), .str (Str.ofString "-"), .str (Str.ofString ".")]) rfl hL (Nat.le_trans hln (by decide)) (by walk_at "dd") (Nat.le_of_ble_eq_true rfl) (fun p H2 h2 => ⟨p, _, rfl, h2, oks_app hok (oks_of (by decide +kernel)), (by rw [List.length_append]; exact Nat.add_le_add_right hln _)⟩), ?_⟩
    rintro σ' H1 ⟨p, ds, rfl, hL, hok, hln⟩
    refine ⟨fun σ' H' => ∃ (p : Addr) (ds : List PyData), σ' = [some (.int (10 ^ 59)), some (.str x), some (.ref p), none] ∧ Lst K H H' p ds ∧ (∀ d ∈ ds, Okf d) ∧ ds.length ≤ 39, cat_step (i := 2) (ds2 := [.str x, .str (x ++ (Str.ofString "/")), .str (x ++ (Str.ofString "i")), .tuple [], .list [], .tuple [.str (Str.ofString "a")], .tuple [.str (Str.ofString "make")]]) rfl hL (Nat.le_trans hln (by decide)) (by walk_at "dd") (Nat.le_of_ble_eq_true rfl) (fun p H2 h2 => ⟨p, _, rfl, h2, oks_app hok (oks_long hx hxc), (by rw [List.length_append]; exact Nat.add_le_add_right hln _)⟩), ?_⟩
    rintro σ' H1 ⟨p, ds, rfl, hL, hok, hln⟩
    refine ⟨fun σ' H' => ∃ (p : Addr) (ds : List PyData), σ' = [some (.int (10 ^ 59)), some (.str x), some (.ref p), none] ∧ Lst K H H' p ds ∧ (∀ d ∈ ds, Okf d) ∧ ds.length ≤ 42, cat_step (i := 2) (ds2 := [.tuple [.str (Str.ofString "make"), .str (Str.ofString "a")], .list [.str (Str.ofString "make"), .str (Str.ofString "a")], .tuple [.str (Str.ofString "make"), .str (Str.ofString "a/")]]) rfl hL (Nat.le_trans hln (by decide)) (by walk_at "dd") (Nat.le_of_ble_eq_true rfl) (fun p H2 h2 => ⟨p, _, rfl, h2, oks_app hok (oks_of (by decide +kernel)), (by rw [List.length_append]; exact Nat.add_le_add_right hln _)⟩), ?_⟩
    rintro σ' H1 ⟨p, ds, rfl, hL, hok, hln⟩
    refine ⟨fun σ' H' => ∃ (p : Addr) (ds : List PyData), σ' = [some (.int (10 ^ 59)), some (.str x), some (.ref p), none] ∧ Lst K H H' p ds ∧ (∀ d ∈ ds, Okf d) ∧ ds.length ≤ 45, cat_step (i := 2) (ds2 := [.tuple [.str (Str.ofString "make"), .str (Str.ofString "a"), .str (Str.ofString "b")], .tuple [.str (Str.ofString "fold"), .str (Str.ofString "")], .tuple [.str (Str.ofString "fold"), .str (Str.ofString "a/b")]]) rfl hL (Nat.le_trans hln (by decide)) (by walk_at "dd") (Nat.le_of_ble_eq_true rfl) (fun p H2 h2 => ⟨p, _, rfl, h2, oks_app hok (oks_of (by decide +kernel)), (by rw [List.length_append]; exact Nat.add_le_add_right hln _)⟩), ?_⟩
    rintro σ' H1 ⟨p, ds, rfl, hL, hok, hln⟩
    refine ⟨fun σ' H' => ∃ (p : Addr) (ds : List PyData), σ' = [some (.int (10 ^ 59)), some (.str x), some (.ref p), none] ∧ Lst K H H' p ds ∧ (∀ d ∈ ds, Okf d) ∧ ds.length ≤ 48, cat_step (i := 2) (ds2 := [.tuple [.str (Str.ofString "link"), .str (Str.ofString "a"), .str (Str.ofString "b/c")], .tuple [.str (Str.ofString "link"), .str (Str.ofString "a")], .tuple [.str (Str.ofString "link"), .str (Str.ofString "a"), .str (Str.ofString "")]]) rfl hL (Nat.le_trans hln (by decide)) (by walk_at "dd") (Nat.le_of_ble_eq_true rfl) (fun p H2 h2 => ⟨p, _, rfl, h2, oks_app hok (oks_of (by decide +kernel)), (by rw [List.length_append]; exact Nat.add_le_add_right hln _)⟩), ?_⟩
    rintro σ' H1 ⟨p, ds, rfl, hL, hok, hln⟩
    refine ⟨fun σ' H' => ∃ (p : Addr) (ds : List PyData), σ' = [some (.int (10 ^ 59)), some (.str x), some (.ref p), none] ∧ Lst K H H' p ds ∧ (∀ d ∈ ds, Okf d) ∧ ds.length ≤ 51, cat_step (i := 2) (ds2 := [.tuple [.str (Str.ofString "remove"), .str (Str.ofString "a")], .tuple [.str (Str.ofString "remove"), .none], .tuple [.str (Str.ofString "move"), .str (Str.ofString "a"), .str (Str.ofString "a")]]) rfl hL (Nat.le_trans hln (by decide)) (by walk_at "dd") (Nat.le_of_ble_eq_true rfl) (fun p H2 h2 => ⟨p, _, rfl, h2, oks_app hok (oks_of (by decide +kernel)), (by rw [List.length_append]; exact Nat.add_le_add_right hln _)⟩), ?_⟩
    rintro σ' H1 ⟨p, ds, rfl, hL, hok, hln⟩
    refine ⟨fun σ' H' => ∃ (p : Addr) (ds : List PyData), σ' = [some (.int (10 ^ 59)), some (.str x), some (.ref p), none] ∧ Lst K H H' p ds ∧ (∀ d ∈ ds, Okf d) ∧ ds.length ≤ 53, cat_step (i := 2) (ds2 := [.tuple [.str (Str.ofString "move"), .str (Str.ofString "a"), .str (Str.ofString "b"), .str (Str.ofString "c")], .tuple [.str (Str.ofString "move"), .str (Str.ofString "A"), .str (Str.ofString "b")]]) rfl hL (Nat.le_trans hln (by decide)) (by walk_at "dd") (Nat.le_of_ble_eq_true rfl) (fun p H2 h2 => ⟨p, _, rfl, h2, oks_app hok (oks_of (by decide +kernel)), (by rw [List.length_append]; exact Nat.add_le_add_right hln _)⟩), ?_⟩
    rintro σ' H1 ⟨p, ds, rfl, hL, hok, hln⟩
    refine ⟨fun σ' H' => ∃ (p : Addr) (ds : List PyData), σ' = [some (.int (10 ^ 59)), some (.str x), some (.ref p), none] ∧ Lst K H H' p ds ∧ (∀ d ∈ ds, Okf d) ∧ ds.length ≤ 56, cat_step (i := 2) (ds2 := [.tuple [.str (Str.ofString "put"), .str (Str.ofString "a"), .int 0, .str (Str.ofString "hi")], .tuple [.str (Str.ofString "put"), .str (Str.ofString "a"), .int 0, .str (Str.ofString "")], .tuple [.str (Str.ofString "put"), .str (Str.ofString "a"), .int (-1), .str (Str.ofString "hi")]]) rfl hL (Nat.le_trans hln (by decide)) (by walk_at "dd") (Nat.le_of_ble_eq_true rfl) (fun p H2 h2 => ⟨p, _, rfl, h2, oks_app hok (oks_of (by decide +kernel)), (by rw [List.length_append]; exact Nat.add_le_add_right hln _)⟩), ?_⟩
    rintro σ' H1 ⟨p, ds, rfl, hL, hok, hln⟩
    refine ⟨fun σ' H' => ∃ (p : Addr) (ds : List PyData), σ' = [some (.int (10 ^ 59)), some (.str x), some (.ref p), none] ∧ Lst K H H' p ds ∧ (∀ d ∈ ds, Okf d) ∧ ds.length ≤ 58, cat_step (i := 2) (ds2 := [.tuple [.str (Str.ofString "put"), .str (Str.ofString "a"), .bool true, .str (Str.ofString "hi")], .tuple [.str (Str.ofString "put"), .str (Str.ofString "a"), .int (10 ^ 59), .str (Str.ofString "x")]]) rfl hL (Nat.le_trans hln (by decide)) (by walk_at "dd") (Nat.le_of_ble_eq_true rfl) (fun p H2 h2 => ⟨p, _, rfl, h2, oks_app hok (oks_of (by decide +kernel)), (by rw [List.length_append]; exact Nat.add_le_add_right hln _)⟩), ?_⟩
    rintro σ' H1 ⟨p, ds, rfl, hL, hok, hln⟩
    refine ⟨fun σ' H' => ∃ (p : Addr) (ds : List PyData), σ' = [some (.int (10 ^ 59)), some (.str x), some (.ref p), none] ∧ Lst K H H' p ds ∧ (∀ d ∈ ds, Okf d) ∧ ds.length ≤ 60, cat_step (i := 2) (ds2 := [.tuple [.str (Str.ofString "put"), .str (Str.ofString "a"), .int 0, .str (Str.ofString "abcdefghi")], .tuple [.str (Str.ofString "put"), .str (Str.ofString "a"), .int 0]]) rfl hL (Nat.le_trans hln (by decide)) (by walk_at "dd") (Nat.le_of_ble_eq_true rfl) (fun p H2 h2 => ⟨p, _, rfl, h2, oks_app hok (oks_of (by decide +kernel)), (by rw [List.length_append]; exact Nat.add_le_add_right hln _)⟩), ?_⟩
    rintro σ' H1 ⟨p, ds, rfl, hL, hok, hln⟩
    refine ⟨fun σ' H' => ∃ (p : Addr) (ds : List PyData), σ' = [some (.int (10 ^ 59)), some (.str x), some (.ref p), none] ∧ Lst K H H' p ds ∧ (∀ d ∈ ds, Okf d) ∧ ds.length ≤ 63, cat_step (i := 2) (ds2 := [.tuple [.str (Str.ofString "put"), .str (Str.ofString "a"), .str (Str.ofString "0"), .str (Str.ofString "hi")], .tuple [.str (Str.ofString "short"), .str (Str.ofString "a"), .int 0], .tuple [.str (Str.ofString "short"), .str (Str.ofString "a"), .int (-1)]]) rfl hL (Nat.le_trans hln (by decide)) (by walk_at "dd") (Nat.le_of_ble_eq_true rfl) (fun p H2 h2 => ⟨p, _, rfl, h2, oks_app hok (oks_of (by decide +kernel)), (by rw [List.length_append]; exact Nat.add_le_add_right hln _)⟩), ?_⟩
    rintro σ' H1 ⟨p, ds, rfl, hL, hok, hln⟩
    refine ⟨fun σ' H' => ∃ (p : Addr) (ds : List PyData), σ' = [some (.int (10 ^ 59)), some (.str x), some (.ref p), none] ∧ Lst K H H' p ds ∧ (∀ d ∈ ds, Okf d) ∧ ds.length ≤ 66, cat_step (i := 2) (ds2 := [.tuple [.str (Str.ofString "short"), .str (Str.ofString "a"), .bool false], .tuple [.str (Str.ofString "short"), .str (Str.ofString "a"), .int (10 ^ 59)], .tuple [.str (Str.ofString "short"), .str (Str.ofString "a")]]) rfl hL (Nat.le_trans hln (by decide)) (by walk_at "dd") (Nat.le_of_ble_eq_true rfl) (fun p H2 h2 => ⟨p, _, rfl, h2, oks_app hok (oks_of (by decide +kernel)), (by rw [List.length_append]; exact Nat.add_le_add_right hln _)⟩), ?_⟩
    rintro σ' H1 ⟨p, ds, rfl, hL, hok, hln⟩
    refine ⟨fun σ' H' => ∃ (p : Addr) (ds : List PyData), σ' = [some (.int (10 ^ 59)), some (.str x), some (.ref p), none] ∧ Lst K H H' p ds ∧ (∀ d ∈ ds, Okf d) ∧ ds.length ≤ 70, cat_step (i := 2) (ds2 := [.tuple [.str (Str.ofString "Make"), .str (Str.ofString "a")], .tuple [.str (Str.ofString ""), .str (Str.ofString "a")], .tuple [.int 1, .str (Str.ofString "a")], .tuple [.tuple [], .str (Str.ofString "a")]]) rfl hL (Nat.le_trans hln (by decide)) (by walk_at "dd") (Nat.le_of_ble_eq_true rfl) (fun p H2 h2 => ⟨p, _, rfl, h2, oks_app hok (oks_of (by decide +kernel)), (by rw [List.length_append]; exact Nat.add_le_add_right hln _)⟩), ?_⟩
    rintro σ' H1 ⟨p, ds, rfl, hL, hok, hln⟩
    refine ⟨fun σ' H' => ∃ (p : Addr) (ds : List PyData) (y : Str), σ' = [some (.int (10 ^ 59)), some (.str x), some (.ref p), some (.str y)] ∧ Lst K H H' p ds ∧ (∀ d ∈ ds, Okf d) ∧ ds.length ≤ 70 ∧ y.length ≤ 4000 ∧ ∀ c ∈ y.cps.toList, c < 128, ?_, ?_⟩
    · refine ⟨⟨_, rfl⟩, [.str "a"], (by walk_at "dd"), by decide, fun b vs H2 N s2 n1 nb hb hd => ?_⟩
      obtain ⟨rfl⟩ : vs = [.str "a"] := by
        cases hd with
        | cons h1 h2 =>
          cases h2
          cases h1
          rfl
      refine ⟨b, 1900, _, rfl, rfl, hb, by decide, by decide, by decide, fun t nt => ?_⟩
      refine ⟨"/", t, List.replicate 1900 "a", rfl, rfl, .inl (SqL.of (by rw [upd_same, rep_flat]; rfl)), by decide +kernel, ?_⟩
      exact ⟨p, ds, Txt.join "/" (List.replicate 1900 "a"), rfl, hL.more (s2.trans (same_new nt)), hok, hln, join_len _ (by decide +kernel), join_codes _ (by decide +kernel)⟩
    rintro σ' H1 ⟨p, ds, y, rfl, hL, hok, hln, hy, hyc⟩
    refine ⟨fun σ' H' => ∃ (p : Addr) (ds : List PyData), σ' = [some (.int (10 ^ 59)), some (.str x), some (.ref p), some (.str y)] ∧ Lst K H H' p ds ∧ (∀ d ∈ ds, Okf d) ∧ ds.length ≤ 75, cat_step (i := 2) (ds2 := [.str y, .str (y ++ (Str.ofString "/A")), .str (y ++ (Str.ofString "/")), .tuple [.str (Str.ofString "make"), .str y], .tuple [.str (Str.ofString "move"), .str y, .str (y ++ (Str.ofString "//a"))]]) rfl hL (Nat.le_trans hln (by decide)) (by walk_at "dd") (Nat.le_of_ble_eq_true rfl) (fun p H2 h2 => ⟨p, _, rfl, h2, oks_app hok (oks_deep hy hyc), (by rw [List.length_append]; exact Nat.add_le_add_right hln _)⟩), ?_⟩
    rintro σ' H1 ⟨p, ds, rfl, hL, hok, hln⟩
    refine ⟨fun σ' H' => ∃ (p : Addr) (ds : List PyData), σ' = [some (.int (10 ^ 59)), some (.str x), some (.ref p), some (.str y)] ∧ Lst K H H' p ds ∧ (∀ d ∈ ds, Okf d) ∧ ds.length ≤ 79, cat_step (i := 2) (ds2 := [.tuple [.str (Str.ofString "make"), .str (Str.ofString "make")], .tuple [.str (Str.ofString "put"), .str (Str.ofString "file"), .int 3, .str (Str.ofString "put")], .tuple [.str (Str.ofString "sync")], .tuple [.str (Str.ofString "write"), .int 3]]) rfl hL (Nat.le_trans hln (by decide)) (by walk_at "dd") (Nat.le_of_ble_eq_true rfl) (fun p H2 h2 => ⟨p, _, rfl, h2, oks_app hok (oks_of (by decide +kernel)), (by rw [List.length_append]; exact Nat.add_le_add_right hln _)⟩), ?_⟩
    rintro σ' H1 ⟨p, ds, rfl, hL, hok, hln⟩
    refine cat_step (i := 2) (ds2 := [.tuple [.tuple [.str (Str.ofString "make"), .str (Str.ofString "a")]], .tuple [.str (Str.ofString "folder"), .str (Str.ofString "a")]]) rfl hL (Nat.le_trans hln (by decide)) (by walk_at "dd") (Nat.le_of_ble_eq_true rfl) (fun p H2 h2 => q p H2 _ h2 (oks_app hok (oks_of (by decide +kernel))) (by rw [List.length_append]; exact Nat.le_trans (Nat.add_le_add_right hln _) (by decide)))
end
end K01

set_option Elab.async false
set_option linter.all false
set_option maxRecDepth 100000
set_option maxHeartbeats 4000000
namespace K01
open PySem PySem.Spec PyProof.Rows L2 Tw
open C8 (pss_cut)
/-! ### what repr asks -/
theorem pow_small {i : Int} {n : Nat} (hn : n ≤ 100) (h : i.natAbs ≤ 10 ^ 59 + n) : i.natAbs < 10 ^ 60 := by
  have e : (10 : Nat) ^ 60 = 10 * 10 ^ 59 := by rw [Nat.pow_succ, Nat.mul_comm]
  have e2 : 1000 ≤ (10 : Nat) ^ 59 := by decide
  omega
theorem log_small {i : Int} (h : i.natAbs < 10 ^ 60) : i.natAbs.log2 < 1920 := by
  by_cases h0 : i.natAbs = 0
  · rw [h0]
    decide
  · refine (Nat.log2_lt h0).mpr (Nat.lt_of_lt_of_le h ?_)
    decide +kernel
theorem text_small {i : Int} (h : i.natAbs < 10 ^ 60) : (PyData.shown (.int i)).length ≤ 70 := by
  have h1 := int_text_length_le10 (k := 60) (by decide) h
  have h2 : (Str.ofString (toString i)).length = (toString i).length := by
    exact PySem.ofString_length _
  simp only [PyData.shown]
  rw [h2]
  omega
mutual
theorem lf_show {n : Nat} (hn : n ≤ 100) : ∀ {d : PyData}, lf n d = true → d.showable = true
  | .none, _ => by simp only [PyData.showable]
  | .bool _, _ => by simp only [PyData.showable]
  | .int i, h => by
    simp only [lf, decide_eq_true_eq] at h
    simp only [PyData.showable, decide_eq_true_eq]
    exact log_small (pow_small hn h)
  | .str x, h => by simp only [PyData.showable]
  | .list xs, h => by
    simp only [lf] at h
    simp only [PyData.showable]
    exact lfAll_show hn h
  | .tuple xs, h => by
    simp only [lf] at h
    simp only [PyData.showable]
    exact lfAll_show hn h
  | .dict _, h => by
    simp only [lf] at h
    cases h
theorem lfAll_show {n : Nat} (hn : n ≤ 100) : ∀ {ds : List PyData}, lfAll n ds = true → PyData.showableAll ds = true
  | [], _ => by simp only [PyData.showableAll]
  | x :: ds, h => by
    simp only [lfAll, Bool.and_eq_true] at h
    simp only [PyData.showableAll, lf_show hn h.1, lfAll_show hn h.2, Bool.and_self]
end
mutual
theorem lf_short {n : Nat} (hn : n ≤ 100) : ∀ {d : PyData}, lf n d = true → d.leavesShort 70 = true
  | .none, _ => by simp only [PyData.leavesShort]
  | .bool _, _ => by simp only [PyData.leavesShort]
  | .int i, h => by
    simp only [lf, decide_eq_true_eq] at h
    simp only [PyData.leavesShort, decide_eq_true_eq]
    exact text_small (pow_small hn h)
  | .str x, h => by
    simp only [lf, List.all_eq_true, decide_eq_true_eq] at h
    simp only [PyData.leavesShort, List.all_eq_true, decide_eq_true_eq]
    intro c hc
    exact Nat.lt_trans (h c hc) (by decide)
  | .list xs, h => by
    simp only [lf] at h
    simp only [PyData.leavesShort]
    exact lfAll_short hn h
  | .tuple xs, h => by
    simp only [lf] at h
    simp only [PyData.leavesShort]
    exact lfAll_short hn h
  | .dict _, h => by
    simp only [lf] at h
    cases h
theorem lfAll_short {n : Nat} (hn : n ≤ 100) : ∀ {ds : List PyData}, lfAll n ds = true → PyData.leavesShortAll 70 ds = true
  | [], _ => by simp only [PyData.leavesShortAll]
  | x :: ds, h => by
    simp only [lfAll, Bool.and_eq_true] at h
    simp only [PyData.leavesShortAll, lf_short hn h.1, lfAll_short hn h.2, Bool.and_self]
end
/-- an item of the law's list -/
structure Okg (d : PyData) : Prop where
  dep : d.depth ≤ 4
  blk : d.bulk ≤ 20000
  lf : lf 2 d = true
theorem Okf.g {d : PyData} (h : Okf d) : Okg d := ⟨Nat.le_trans h.dep (by decide), h.blk, lf_le (by decide) h.lf⟩
theorem Okg.fit {d : PyData} (h : Okg d) : Fit d := ⟨lf_lay h.lf, Nat.le_trans h.dep (by decide), Nat.le_trans h.blk (by decide)⟩
theorem Okg.shown {d : PyData} (h : Okg d) : d.showable = true ∧ d.depth ≤ 64 ∧ d.shown.length ≤ sizeLine := by
  refine ⟨lf_show (by decide) h.lf, Nat.le_trans h.dep (by decide), ?_⟩
  have h1 := PyData.shown_le_bulk 70 (by decide) d (lf_short (by decide) h.lf)
  have h2 := h.blk
  exact Nat.le_trans (show _ ≤ 2000000 by omega) (by decide)
theorem bulk_bools : ∀ bs : List Bool, PyData.bulkAll (bs.map PyData.bool) = bs.length
  | [] => rfl
  | b :: bs => by simp only [List.map_cons, PyData.bulkAll, PyData.bulk, bulk_bools bs, List.length_cons]; omega
theorem depth_bools : ∀ bs : List Bool, PyData.depthAll (bs.map PyData.bool) = 0
  | [] => rfl
  | b :: bs => by simp only [List.map_cons, PyData.depthAll, PyData.depth, depth_bools bs, Nat.max_self]
theorem lf_bools : ∀ bs : List Bool, lfAll 2 (bs.map PyData.bool) = true
  | [] => rfl
  | b :: bs => by simp only [List.map_cons, lfAll, lf, lf_bools bs, Bool.and_self]
theorem okg_bools {bs : List Bool} (h : bs.length ≤ 100) : Okg (.list (bs.map PyData.bool)) := by
  refine ⟨?_, ?_, ?_⟩
  · simp only [PyData.depth, depth_bools]
    decide
  · simp only [PyData.bulk, bulk_bools]
    omega
  · simp only [lf, lf_bools]
theorem Small.of {d : PyData} (h : (decide (d.depth ≤ 1) && decide (d.bulk ≤ 10) && K01.lf 0 d) = true) : Small d := by
  simp only [Bool.and_eq_true, decide_eq_true_eq] at h
  exact ⟨h.1.1, h.1.2, h.2⟩
/-- a thing that is changed -/
structure Itm (d : PyData) : Prop where
  dep : d.depth ≤ 1
  blk : d.bulk ≤ 100
  lf : lf 0 d = true
theorem Itm.g {d : PyData} (h : Itm d) : Okg d := ⟨Nat.le_trans h.dep (by decide), Nat.le_trans h.blk (by decide), lf_le (by decide) h.lf⟩
/-- one of the law's names -/
structure Nm (x : Str) : Prop where
  len : x.length ≤ 8
  codes : ∀ c ∈ x.cps.toList, c < 128
/-! ### the heap without the reader -/
def mi (H : Hp) (r : Addr) : Hp := fun b => if b = r then none else H b
theorem mi_r (H : Hp) (r : Addr) : mi H r r = none := if_pos rfl
theorem mi_ne {H : Hp} {r b : Addr} (h : b ≠ r) : mi H r b = H b := if_neg h
theorem mi_sub (H : Hp) (r : Addr) : Same (mi H r) H := fun b o e => by
  by_cases h : b = r
  · rw [h, mi_r] at e
    cases e
  · rw [mi_ne h] at e
    exact e
theorem mi_off {r : Addr} {H H' : Hp} (o : Off r H H') : Same (mi H r) (mi H' r) := fun b x e => by
  by_cases h : b = r
  · rw [h, mi_r] at e
    cases e
  · rw [mi_ne h] at e ⊢
    exact o b x h e
theorem mi_in {r : Addr} {N H' : Hp} (s : Same N H') (n : N r = none) : Same N (mi H' r) := fun b x e => by
  rw [mi_ne (ne_of_none e n)]
  exact s b x e
/-- a list of the law, its items data -/
def Som (K : PySem.W.Frag) (r : Addr) (H : Hp) (s : Addr) (ds : List PyData) : Prop := s ≠ r ∧ ∃ vs, H s = some (.lst vs) ∧ DpAll K (mi H r) vs ds
theorem Som.off {K : PySem.W.Frag} {r s : Addr} {H H' : Hp} {ds : List PyData} (h : Som K r H s ds) (o : Off r H H') : Som K r H' s ds := by
  obtain ⟨n, vs, h1, h2⟩ := h
  exact ⟨n, vs, o _ _ n h1, dps_mono (mi_off o) h2⟩
theorem and_ge {K : PySem.W.Frag} {σ : L2.St} {i : Nat} {H : Hp} {Q : VK} {x : V} {d : PyData} (hx : σ[i]? = some (some x)) (hd : Dp K H x d) (q : Q (.bl (gNum d)) H) :
    if gInt d = true then tOp (rI0 fun i j => .bl (decide (j ≤ i))) (tVar i) (tC (.int 0)) σ H Q else Q (.bl false) H := by
  cases hd with
  | int k => exact ⟨_, hx, k, 0, rfl, rfl, q⟩
  | _ => exact q
end K01

set_option Elab.async false
set_option linter.all false
set_option maxRecDepth 100000
set_option maxHeartbeats 4000000
namespace K01
open PySem PySem.Spec PyProof.Rows L2 Tw
open C8 (pss_cut)
abbrev menu : List PyData := [.none, .bool true, .int 0, .int (-1), .int (10 ^ 59), .str (Str.ofString ""), .str (Str.ofString "a"), .str (Str.ofString "a/b"), .str (Str.ofString "A"), .str (Str.ofString "put"), .str (Str.ofString "make"), .tuple [], .list [], .tuple [.str (Str.ofString "make"), .str (Str.ofString "a")]]
abbrev names : List Str := [(Str.ofString "a"), (Str.ofString "ab"), (Str.ofString "zzzzzzzz"), (Str.ofString "make"), (Str.ofString "x")]
local macro_rules | `(tactic| walk_at "dd") => `(tactic| repeat' (first | exact rfl | exact Nat.le_of_ble_eq_true rfl | exact ⟨10, 59, rfl, rfl, ⟨by decide, by decide, by decide⟩, rfl⟩ | exact ⟨_, rfl, rfl⟩ | refine ⟨_, _, ?_, ?_, rfl⟩ | refine ⟨_, ?_, ?_, rfl⟩ | refine ⟨_, ?_, rfl⟩ | refine ⟨_, _, ?_, ?_, ?_, rfl⟩ | (refine Nat.le_trans (?_ : _ ≤ 1000) (by decide); simp only [strLen_append, show (Str.ofString "/").length = 1 from rfl]; omega)))
theorem dps_str_inv {K : PySem.W.Frag} {N : Hp} : ∀ {ss : List Str} {vs : List V}, DpAll K N vs (ss.map PyData.str) → vs = ss.map V.str
  | [], _, h => by
    cases h
    rfl
  | x :: ss, _, h => by
    cases h with
    | cons h1 h2 =>
      cases h1
      rw [dps_str_inv h2]
      rfl
theorem names_nm : ∀ x ∈ names, Nm x := by
  have h : (names.all fun x => decide (x.length ≤ 8) && x.cps.toList.all fun c => decide (c < 128)) = true := by decide +kernel
  intro x m
  have := List.all_eq_true.mp h x m
  simp only [Bool.and_eq_true, decide_eq_true_eq, List.all_eq_true] at this
  exact ⟨this.1, this.2⟩
theorem nm_lf {x : Str} (h : Nm x) : lf 0 (.str x) = true := by
  simp only [lf, List.all_eq_true, decide_eq_true_eq]
  exact h.codes
theorem lf_cat {x y : Str} (h : lf 0 (.str x) = true) (g : lf 0 (.str y) = true) : lf 0 (.str (x ++ y)) = true := by
  simp only [lf, List.all_eq_true, decide_eq_true_eq] at h g ⊢
  intro c hc
  rw [cps_toList_append] at hc
  exact (List.mem_append.mp hc).elim (h c) (g c)
theorem bulk_cat (x y : Str) : (PyData.str (x ++ y)).bulk = (PyData.str x).bulk + (PyData.str y).bulk := by
  have e : (x ++ y).length = x.length + y.length := strLen_append _ _
  exact e
theorem slash_lf : lf 0 (.str (Str.ofString "/")) = true := by decide +kernel
theorem slash_bulk : (PyData.str (Str.ofString "/")).bulk = 1 := rfl
theorem itmA {u v w : Str} (hu : Nm u) (hv : Nm v) (hw : Nm w) : Itm (.str ((((u ++ (Str.ofString "/")) ++ v) ++ (Str.ofString "/")) ++ w)) := by
  refine ⟨Nat.zero_le _, ?_, lf_cat (lf_cat (lf_cat (lf_cat (nm_lf hu) slash_lf) (nm_lf hv)) slash_lf) (nm_lf hw)⟩
  rw [bulk_cat, bulk_cat, bulk_cat, bulk_cat, slash_bulk]
  have h1 : (PyData.str u).bulk ≤ 8 := hu.len
  have h2 : (PyData.str v).bulk ≤ 8 := hv.len
  have h3 : (PyData.str w).bulk ≤ 8 := hw.len
  omega
structure Lf0 (d : PyData) : Prop where
  dep : d.depth = 0
  blk : d.bulk ≤ 20
  lf : lf 0 d = true
theorem lf0_nm {x : Str} (h : Nm x) : Lf0 (.str x) := ⟨rfl, Nat.le_trans (show (PyData.str x).bulk ≤ 8 from h.len) (by decide), nm_lf h⟩
theorem lf0_pair {x y : Str} (h : Nm x) (g : Nm y) : Lf0 (.str (x ++ (Str.ofString "/") ++ y)) := by
  refine ⟨rfl, ?_, lf_cat (lf_cat (nm_lf h) slash_lf) (nm_lf g)⟩
  rw [bulk_cat, bulk_cat, slash_bulk]
  have h1 : (PyData.str x).bulk ≤ 8 := h.len
  have h2 : (PyData.str y).bulk ≤ 8 := g.len
  omega
theorem lf0_int {k : Int} (h0 : 0 ≤ k) (h1 : k < 9) : Lf0 (.int k) := by
  refine ⟨rfl, Nat.zero_le _, ?_⟩
  simp only [lf, decide_eq_true_eq]
  omega
theorem itm_tup {ds : List PyData} (hl : ds.length ≤ 4) (h : ∀ d ∈ ds, Lf0 d) : Itm (.tuple ds) := by
  have hb : PyData.bulkAll ds ≤ 21 * ds.length := by
    clear hl
    induction ds with
    | nil => exact Nat.zero_le _
    | cons d ds ih =>
      have h1 := (h d List.mem_cons_self).blk
      have h2 := ih fun e m => h e (List.mem_cons_of_mem _ m)
      simp only [PyData.bulkAll, List.length_cons]
      omega
  refine ⟨?_, ?_, ?_⟩
  · simp only [PyData.depth]
    have : PyData.depthAll ds ≤ 0 := depthAll_le.mpr fun d m => by rw [(h d m).dep]; exact Nat.le_refl _
    omega
  · simp only [PyData.bulk]
    omega
  · simp only [lf]
    exact lfAll_iff.mpr fun d m => (h d m).lf
theorem lf0_lit {s : Str} (h : (decide (s.length ≤ 8) && s.cps.toList.all fun c => decide (c < 128)) = true) : Lf0 (.str s) := by
  simp only [Bool.and_eq_true, decide_eq_true_eq, List.all_eq_true] at h
  exact lf0_nm ⟨h.1, h.2⟩
theorem itm7 {u v w : Str} {ka : Int} (hu : Nm u) (hv : Nm v) (hw : Nm w) (h0 : 0 ≤ ka) (h1 : ka < 9) : ∀ d ∈ ([.tuple [.str (Str.ofString "make"), .str u], .tuple [.str (Str.ofString "fold"), .str ((u ++ (Str.ofString "/")) ++ v)], .tuple [.str (Str.ofString "link"), .str u, .str ((v ++ (Str.ofString "/")) ++ w)]] ++ [.tuple [.str (Str.ofString "remove"), .str v], .tuple [.str (Str.ofString "move"), .str ((u ++ (Str.ofString "/")) ++ w), .str v]]) ++ [.tuple [.str (Str.ofString "put"), .str u, .int ka, .str v], .tuple [.str (Str.ofString "short"), .str ((w ++ (Str.ofString "/")) ++ u), .int ka]], Itm d := by
  intro d m
  simp only [List.cons_append, List.nil_append, List.mem_cons, List.not_mem_nil, or_false] at m
  rcases m with rfl | rfl | rfl | rfl | rfl | rfl | rfl
  all_goals
    refine itm_tup (Nat.le_of_ble_eq_true rfl) fun d m => ?_
    simp only [List.mem_cons, List.not_mem_nil, or_false] at m
    rcases m with rfl | rfl | rfl | rfl
  all_goals first
    | exact lf0_lit (by decide +kernel)
    | exact lf0_nm (by assumption)
    | exact lf0_pair (by assumption) (by assumption)
    | exact lf0_int h0 h1
/-- the value of a change, where the data live -/
theorem changed_mi {K : PySem.W.Frag} {r : Addr} {H H' Hd' : Hp} {v : V} {d : PyData} (s : Same Hd' H') (e : Ext H (mi H r) Hd') (hr : H r ≠ none) (h : Dp K Hd' v d) : Dp K (mi H' r) v d :=
  dp_mono (mi_in s (e.new r hr (mi_r H r))) h
section
variable {P : Program} {w : World} {K : PySem.W.Frag} {mg : Str → Option Value} {base : Heap}
/-- all defs that the law calls -/
structure Defs (P : Program) (w : World) (K : PySem.W.Frag) (mg : Str → Option Value) (base : Heap) : Prop where
  Drd : Df P w K mg base 1 "_law_reader" ["_law_script"] (spRd K)
  Dd : Df P w K mg base 1 "_law_draw" ["_law_reader_here", "_law_many"] (spDraw K)
  Dc : Df P w K mg base 6 "_law_changed" ["_law_reader_here", "_law_thing", "_law_menu"] (spCh K 4)
  Dfx : Df P w K mg base 1 "_law_fixed_values" [] (spFx K)
  Ei : Df P w K mg base 1 "is_integer" ["thing"] (spP K gInt)
  Eu : Df P w K mg base 2 "is_number" ["thing"] (spP K gNum)
  En : Df P w K mg base 1 "is_name" ["thing"] (spP K gNam)
  Ew : Df P w K mg base 2 "is_word" ["thing"] (spP K gWord)
  Ep : Df P w K mg base 2 "is_path" ["thing"] (spP K gPath)
  Ed : Df P w K mg base 3 "is_deed" ["thing"] (spD K gDeed)
  Li : Df P w K mg base 1 "_law_is_integer" ["_law_thing"] (spP K gInt)
  Ln : Df P w K mg base 1 "_law_is_name" ["_law_thing"] (spP K gNam)
  Lw : Df P w K mg base 2 "_law_is_word" ["_law_thing"] (spP K gWord)
  Lp : Df P w K mg base 2 "_law_is_path" ["_law_thing"] (spP K gPath)
  Ld : Df P w K mg base 3 "_law_is_deed" ["_law_thing"] (spD K gDeed)
def spLaw (K : PySem.W.Frag) : Sp := fun vs H Q _ => ∃ (a : Addr) (ns : List Int), vs = [.ref a] ∧ SqL K H a (ns.map V.int) ∧ ns.length ≤ 63 ∧ ∀ H', Q (.bl true) H'
theorem sc_law : FnScope ["_law_script", "_law_reader_here", "_law_menu", "_law_some", "_law_names", "_law_turn", "_law_u", "_law_v", "_law_w", "_law_at", "_law_made", "_law_item", "_law_once", "_law_saved", "_law_want", "_law_got", "_law_k"] ["_law_script"] (defScope s_law) := ⟨rfl, rfl, rfl, by decide +kernel, rfl, by decide +kernel, by decide +kernel⟩
theorem menu_small : ∀ e ∈ menu, Small e := by
  have h : (menu.all fun d => decide (d.depth ≤ 1) && decide (d.bulk ≤ 10) && lf 0 d) = true := by decide +kernel
  exact fun e m => Small.of (List.all_eq_true.mp h e m)
theorem ok_law {f : Addr} {fd : FuncData} (F : Fun K "law" "law" s_law f fd) (B : Bs mg) (D : Defs P w K mg base) :
    FnG P w K mg base 9 f fd ["_law_script"] (spLaw K) := by
  obtain ⟨Drd, Dd, Dc, Dfx, Ei, Eu, En, Ew, Ep, Ed, Li, Ln, Lw, Lp, Ld⟩ := D
  refine fnG F sc_law (fun vs H Q E h => ?_) (fun cdv A outer s H vs Q hgd hr h => ?_)
  · obtain ⟨a, ns, rfl, _⟩ := h
    rfl
  · obtain ⟨a, ns, rfl, ha, hl, q⟩ := h
    refine ⟨_, (pss_cons (ps_set (i := 1) sc_law.nd rfl (by first | exact Or.inl rfl | exact Or.inr rfl) (pe_def Drd (hr.mono (by decide)) (by rfl) (pa_cons (pv 0) pa_nil)))
 (pss_cons (ps_set (i := 2) sc_law.nd rfl (by first | exact Or.inl rfl | exact Or.inr rfl) (pl_lst (pds_cons pd_non (pds_cons pd_bl (pds_cons pd_int (pds_cons (pd_neg pd_int) (pds_cons (pd_pow pd_int pd_int) (pds_cons pd_str (pds_cons pd_str (pds_cons pd_str (pds_cons pd_str (pds_cons pd_str (pds_cons pd_str (pds_cons (pd_tup pds_nil) (pds_cons (pd_lst pds_nil) (pds_cons (pd_tup (pds_cons pd_str (pds_cons pd_str pds_nil))) pds_nil))))))))))))))))
 (pss_cut (ps_set (i := 3) sc_law.nd rfl (by first | exact Or.inl rfl | exact Or.inr rfl) (pe_op op_cat (pv 2) (pe_def0 Dfx (hr.mono (by decide)) (by rfl))))
 (pss_cons (ps_set (i := 4) sc_law.nd rfl (by first | exact Or.inl rfl | exact Or.inr rfl) (pl_lst (pds_cons pd_str (pds_cons pd_str (pds_cons pd_str (pds_cons pd_str (pds_cons pd_str pds_nil)))))))
 (pss_cons (ps_for PassesOwn.never rfl (pi_range1 (by rfl) B.range_ (pa_cons pe_int pa_nil)) (pg_name (i := 5) sc_law.nd rfl (by first | exact Or.inl rfl | exact Or.inr rfl))
 (pss_cut (ps_asg (pe_lc (own := [("_law_k", 16)]) (g := gName 16) (by rfl) sc_law.nd (pi_range1 (by rfl) B.range_ (pa_cons pe_int pa_nil)) (blkOk_by (own := [("_law_k", 16)]) (N := ["_law_script", "_law_reader_here", "_law_menu", "_law_some", "_law_names", "_law_turn", "_law_u", "_law_v", "_law_w", "_law_at", "_law_made", "_law_item", "_law_once", "_law_saved", "_law_want", "_law_got", "_law_k"]) (sc := defScope s_law) (by decide +kernel)) (fun _ _ _ _ _ => (pg_name (i := 16) sc_law.nd rfl (by first | exact Or.inl rfl | exact Or.inr rfl))) (fun _ _ _ _ _ => pts_nil) (fun _ _ _ _ _ => (pe_ix (r := rIxL K) ix_list (pv 4) (pe_def Dd (hr.mono (by decide)) (by rfl) (pa_cons (pv 1) (pa_cons pe_int pa_nil))) (fun _ _ => rfl)))) (pg_unl rfl (pgs_cons (pg_name (i := 6) sc_law.nd rfl (by first | exact Or.inl rfl | exact Or.inr rfl)) (pgs_cons (pg_name (i := 7) sc_law.nd rfl (by first | exact Or.inl rfl | exact Or.inr rfl)) (pgs_cons (pg_name (i := 8) sc_law.nd rfl (by first | exact Or.inl rfl | exact Or.inr rfl)) pgs_nil)))))
 (pss_cut (ps_set (i := 9) sc_law.nd rfl (by first | exact Or.inl rfl | exact Or.inr rfl) (pe_def Dd (hr.mono (by decide)) (by rfl) (pa_cons (pv 1) (pa_cons pe_int pa_nil))))
 (pss_cut (ps_set (i := 10) sc_law.nd rfl (by first | exact Or.inl rfl | exact Or.inr rfl) (pl_lst (pds_cons (pd_tup (pds_cons pd_str (pds_cons (pd_var 6) pds_nil))) (pds_cons (pd_tup (pds_cons pd_str (pds_cons (pd_cat (pd_cat (pd_var 6) pd_str) (pd_var 7)) pds_nil))) (pds_cons (pd_tup (pds_cons pd_str (pds_cons (pd_var 6) (pds_cons (pd_cat (pd_cat (pd_var 7) pd_str) (pd_var 8)) pds_nil)))) pds_nil)))))
 (pss_cut (ps_set (i := 10) sc_law.nd rfl (by first | exact Or.inl rfl | exact Or.inr rfl) (pe_op op_cat (pv 10) (pl_lst (pds_cons (pd_tup (pds_cons pd_str (pds_cons (pd_var 7) pds_nil))) (pds_cons (pd_tup (pds_cons pd_str (pds_cons (pd_cat (pd_cat (pd_var 6) pd_str) (pd_var 8)) (pds_cons (pd_var 7) pds_nil)))) pds_nil)))))
 (pss_one (ps_for PassesOwn.never rfl (pi_tup (pe_tup (pa_cons (pd_cat (pd_cat (pd_cat (pd_cat (pd_var 6) pd_str) (pd_var 7)) pd_str) (pd_var 8)) (pa_cons (pe_ix ix_list (pe_op op_cat (pv 10) (pl_lst (pds_cons (pd_tup (pds_cons pd_str (pds_cons (pd_var 6) (pds_cons (pd_var 9) (pds_cons (pd_var 7) pds_nil))))) (pds_cons (pd_tup (pds_cons pd_str (pds_cons (pd_cat (pd_cat (pd_var 8) pd_str) (pd_var 6)) (pds_cons (pd_var 9) pds_nil)))) pds_nil)))) (pe_op op_modN (pv 5) pe_int) (fun _ _ => rfl)) pa_nil)))) (pg_name (i := 11) sc_law.nd rfl (by first | exact Or.inl rfl | exact Or.inr rfl))
 (pss_cut (ps_set (i := 12) sc_law.nd rfl (by first | exact Or.inl rfl | exact Or.inr rfl) (pe_def Dc (hr.mono (by decide)) (by rfl) (pa_cons (pv 1) (pa_cons (pv 11) (pa_cons (pv 2) pa_nil)))))
 (pss_one (ps_set (i := 3) sc_law.nd rfl (by first | exact Or.inl rfl | exact Or.inr rfl) (pe_op op_cat (pv 3) (pe_lst (pa_cons (pv 11) (pa_cons (pv 12) (pa_cons (pe_def Dc (hr.mono (by decide)) (by rfl) (pa_cons (pv 1) (pa_cons (pv 12) (pa_cons (pv 2) pa_nil)))) pa_nil)))))))))))))))
 (pss_cons (ps_for PassesOwn.never rfl (pi_list (pv 3)) (pg_name (i := 11) sc_law.nd rfl (by first | exact Or.inl rfl | exact Or.inr rfl))
 (pss_cut (ps_set (i := 13) sc_law.nd rfl (by first | exact Or.inl rfl | exact Or.inr rfl) (pe_callB (call_repr hgd hr) (by rfl) B.repr_ (by decide +kernel) (pa_cons (pv 11) pa_nil)))
 (pss_cut (ps_set (i := 14) sc_law.nd rfl (by first | exact Or.inl rfl | exact Or.inr rfl) (pe_lst (pa_cons (pe_def Li (hr.mono (by decide)) (by rfl) (pa_cons (pv 11) pa_nil)) (pa_cons (pe_and (pe_def Li (hr.mono (by decide)) (by rfl) (pa_cons (pv 11) pa_nil)) (pe_one (pe_cmpR op_ge (pv 11) pe_int (nomark _)))) (pa_cons (pe_def Ln (hr.mono (by decide)) (by rfl) (pa_cons (pv 11) pa_nil)) (pa_cons (pe_def Lw (hr.mono (by decide)) (by rfl) (pa_cons (pv 11) pa_nil)) pa_nil))))))
 (pss_cut (ps_set (i := 15) sc_law.nd rfl (by first | exact Or.inl rfl | exact Or.inr rfl) (pe_lst (pa_cons (pe_def Ei (hr.mono (by decide)) (by rfl) (pa_cons (pv 11) pa_nil)) (pa_cons (pe_def Eu (hr.mono (by decide)) (by rfl) (pa_cons (pv 11) pa_nil)) (pa_cons (pe_def En (hr.mono (by decide)) (by rfl) (pa_cons (pv 11) pa_nil)) (pa_cons (pe_def Ew (hr.mono (by decide)) (by rfl) (pa_cons (pv 11) pa_nil)) (pa_cons (pe_def Ep (hr.mono (by decide)) (by rfl) (pa_cons (pv 11) pa_nil)) (pa_cons (pe_def Ed (hr.mono (by decide)) (by rfl) (pa_cons (pv 11) pa_nil)) pa_nil))))))))
 (pss_one (ps_if (PW.pt (pw_or (pt_cmpR op_ne (pe_callB (call_repr hgd hr) (by rfl) B.repr_ (by decide +kernel) (pa_cons (pv 15) pa_nil)) (pe_callB (call_repr hgd hr) (by rfl) B.repr_ (by decide +kernel) (pa_cons (pe_op op_cat (pv 14) (pe_lst (pa_cons (pe_def Lp (hr.mono (by decide)) (by rfl) (pa_cons (pv 11) pa_nil)) (pa_cons (pe_def Ld (hr.mono (by decide)) (by rfl) (pa_cons (pv 11) pa_nil)) pa_nil)))) pa_nil)) (nomark _)) (pw_or1 (pt_cmpR op_ne (pe_callB (call_repr hgd hr) (by rfl) B.repr_ (by decide +kernel) (pa_cons (pv 11) pa_nil)) (pv 13) (nomark _)))))
 (pss_one (ps_ret pe_bl))
 pss_nil))))))
 (pss_one (ps_ret pe_bl)))))))), ?_⟩
    -- the reader, the menu
    refine ⟨_, rfl, a, ns, rfl, ha, hl, fun r cl H1 s1 nr rd1 => ?_⟩
    refine ⟨menu, (by walk_at "dd"), by decide, fun mn mvs H2 N2 s2 n2 nmn hmn hmd => ?_⟩
    have rd2 := rd1.same s2
    have nmr : mn ≠ r := by
      rintro rfl
      exact rd1.some nmn
    have hmdm : DpAll K (mi H2 r) mvs menu := dps_mono (mi_in n2.sub (n2.new r rd1.some)) hmd
    have menuAt : ∀ H', Off r H2 H' → Dp K (mi H' r) (.ref mn) (.list menu) := fun H' o =>
      .lst (SqL.of (by rw [mi_ne nmr]; exact o _ _ nmr hmn)) (dps_mono (mi_off o) hmdm)
    -- the fixed values
    refine ⟨fun σ' H' => ∃ (s : Addr) (ds : List PyData), σ' = [some (.ref a), some (.ref r), some (.ref mn), some (.ref s), none, none, none, none, none, none, none, none, none, none, none, none, none] ∧
      RdAt K cl H' r 0 ∧ Off r H2 H' ∧ Som K r H' s ds ∧ (∀ d ∈ ds, Okg d) ∧ ds.length ≤ 220, ?_, ?_⟩
    · refine ⟨_, rfl, rfl, fun b H3 fds hL hok hlen => ?_⟩
      obtain ⟨s3, zs, N3, hb, n3, hfd⟩ := hL
      have hzl := dps_len hfd
      have hml := dps_len hmd
      refine ⟨mn, b, mvs, zs, rfl, rfl, s3 _ _ hmn, hb, ?_, fun p np => ?_⟩
      · rw [hml, hzl]
        exact Nat.le_trans (Nat.add_le_add (show menu.length ≤ 20 by decide) hlen) (by decide)
      · have npr : p ≠ r := by
          rintro rfl
          exact (rd2.same s3).some np
        have s4 : Same H3 (upd H3 p (.lst (mvs ++ zs))) := same_new np
        refine ⟨p, menu ++ fds, rfl, (rd2.same s3).same s4, Off.of (s3.trans s4), ⟨npr, _, upd_same, ?_⟩, ?_, ?_⟩
        · refine dps_app (dps_mono (mi_off (Off.of (s3.trans s4))) hmdm) (dps_mono (mi_in (n3.sub.trans s4) (n3.new r rd2.some)) hfd)
        · intro d m
          rcases List.mem_append.mp m with m | m
          · have h := menu_small d m
            exact ⟨Nat.le_trans h.dep (by decide), Nat.le_trans h.blk (by decide), lf_le (by decide) h.lf⟩
          · exact (hok d m).g
        · rw [List.length_append]
          exact Nat.le_trans (Nat.add_le_add (show menu.length ≤ 20 by decide) hlen) (by decide)
    rintro σ' H3 ⟨s, ds, rfl, rd3, o3, hsom, hokg, hdl⟩
    -- the names
    refine ⟨names.map PyData.str, (by walk_at "dd"), by decide, fun nm nvs H4 N4 s4 n4 nnm hnm hnd => ?_⟩
    obtain rfl := dps_str_inv hnd
    have nnr : nm ≠ r := by
      rintro rfl
      exact rd3.some nnm
    have rd4 := rd3.same s4
    have o4 := o3.trans (Off.of s4)
    -- the draws
    refine ⟨14, rfl, by decide, by decide, for_range (n := 14) (fun t σ' H' => ∃ (s : Addr) (ds : List PyData) (t5 t6 t7 t8 t9 t10 t11 t12 : Option V),
      σ' = [some (.ref a), some (.ref r), some (.ref mn), some (.ref s), some (.ref nm), t5, t6, t7, t8, t9, t10, t11, t12, none, none, none, none] ∧
      RdAt K cl H' r (100 * t) ∧ Off r H4 H' ∧ Som K r H' s ds ∧ (∀ d ∈ ds, Okg d) ∧ ds.length ≤ 220 + 6 * t)
      ⟨s, ds, _, _, _, _, _, _, _, _, rfl, rd4, Off.refl _ _, hsom.off (Off.of s4), hokg, hdl⟩ ?_ ?_⟩
    · rintro t σ' H5 ht ⟨s, ds, t5, t6, t7, t8, t9, t10, t11, t12, rfl, rd5, o5, hsom, hokg, hdl⟩
      have o25 := o4.trans o5
      -- u, v, w
      refine ⟨fun σ' H' => ∃ u v w : Str, σ' = [some (.ref a), some (.ref r), some (.ref mn), some (.ref s), some (.ref nm), some (.int (0 + (t : Int))), some (.str u), some (.str v), some (.str w), t9, t10, t11, t12, none, none, none, none] ∧
        RdAt K cl H' r (100 * t + 3) ∧ Off r H5 H' ∧ Nm u ∧ Nm v ∧ Nm w, ?_, ?_⟩
      · refine ⟨3, rfl, by decide, by decide, fun D nD => lc_range (n := 3) (fun i H' => RdAt K cl H' r (100 * t + i) ∧ Off r H5 H' ∧ ∃ ss : List Str, H' D = some (.lst (ss.map V.str)) ∧ ss.length = i ∧ ∀ x ∈ ss, Nm x)
          ⟨rd5.same (same_new nD), off_new nD, [], upd_same, rfl, fun _ h => (nomatch h)⟩ ?_ ?_⟩
        · rintro i H6 hi ⟨rd6, o6, ss, hD, hsl, hss⟩
          have nDr : D ≠ r := by
            rintro rfl
            exact rd5.some nD
          refine ⟨rfl, _, rfl, _, rfl, r, cl, 5, 100 * t + i, rfl, by decide, by decide, by omega, rd6, fun k H7 hk0 hk1 rd7 o7 => ?_⟩
          obtain ⟨y, hy, hyN⟩ := at_of (vs := names.map V.str) hk0 hk1 rfl
          obtain ⟨x, hx, rfl⟩ : ∃ x, names[k.toNat]? = some x ∧ y = .str x := by
            rw [List.getElem?_map] at hyN
            obtain ⟨x, h1, h2⟩ := Option.map_eq_some_iff.mp hyN
            exact ⟨x, h1, h2.symm⟩
          have hnm7 := ((o5.trans o6).trans o7) nm _ nnr hnm
          refine ⟨nm, _, k, _, rfl, rfl, SqL.of hnm7, hy, _, o7 _ _ nDr hD, ?_, rd7.put rd5 nD, ?_, ss ++ [x], ?_, ?_, ?_⟩
          · rw [List.length_map, hsl]
            exact Nat.lt_of_lt_of_le hi (by decide)
          · intro b o hb e
            rw [upd_ne (ne_of_none e nD)]
            exact (o6.trans o7) b o hb e
          · rw [upd_same, List.map_append]
            rfl
          · rw [List.length_append, hsl]
            rfl
          · intro z m
            rcases List.mem_append.mp m with m | m
            · exact hss z m
            · rw [List.mem_singleton.mp m]
              exact names_nm x (List.mem_of_getElem? hx)
        · rintro H6 ⟨rd6, o6, ss, hD, hsl, hss⟩
          obtain ⟨u, v, w, rfl⟩ : ∃ u v w, ss = [u, v, w] := by
            match ss, hsl with
            | [u, v, w], _ => exact ⟨u, v, w, rfl⟩
          exact ⟨D, _, rfl, SqL.of hD, rfl, _, _, rfl, _, _, rfl, _, _, rfl, rfl, u, v, w, rfl, rd6, o6, hss u (by simp), hss v (by simp), hss w (by simp)⟩
      rintro σ' H6 ⟨u, v, w, rfl, rd6, o6, hu, hv, hw⟩
      have hu1 := hu.len
      have hv1 := hv.len
      have hw1 := hw.len
      -- at
      refine ⟨fun σ' H' => ∃ ka : Int, σ' = [some (.ref a), some (.ref r), some (.ref mn), some (.ref s), some (.ref nm), some (.int (0 + (t : Int))), some (.str u), some (.str v), some (.str w), some (.int ka), t10, t11, t12, none, none, none, none] ∧
        RdAt K cl H' r (100 * t + 4) ∧ Off r H6 H' ∧ 0 ≤ ka ∧ ka < 9, ?_, ?_⟩
      · exact ⟨_, rfl, r, cl, 9, 100 * t + 3, rfl, by decide, by decide, by omega, rd6, fun k H7 hk0 hk1 rd7 o7 => ⟨k, rfl, rd7, o7, hk0, hk1⟩⟩
      rintro σ' H7 ⟨ka, rfl, rd7, o7, hka0, hka1⟩
      -- made
      refine ⟨fun σ' H' => ∃ p : Addr, σ' = [some (.ref a), some (.ref r), some (.ref mn), some (.ref s), some (.ref nm), some (.int (0 + (t : Int))), some (.str u), some (.str v), some (.str w), some (.int ka), some (.ref p), t11, t12, none, none, none, none] ∧
        Lst K H7 H' p [.tuple [.str (Str.ofString "make"), .str u], .tuple [.str (Str.ofString "fold"), .str ((u ++ (Str.ofString "/")) ++ v)], .tuple [.str (Str.ofString "link"), .str u, .str ((v ++ (Str.ofString "/")) ++ w)]], ?_, ?_⟩
      · exact ⟨[.tuple [.str (Str.ofString "make"), .str u], .tuple [.str (Str.ofString "fold"), .str ((u ++ (Str.ofString "/")) ++ v)], .tuple [.str (Str.ofString "link"), .str u, .str ((v ++ (Str.ofString "/")) ++ w)]], (by walk_at "dd"), Nat.le_of_ble_eq_true rfl, fun p vs H8 N s8 n8 np hp hd => ⟨p, rfl, s8, vs, N, hp, n8, hd⟩⟩
      rintro σ' H8 ⟨p8, rfl, L8⟩
      refine ⟨fun σ' H' => ∃ p : Addr, σ' = [some (.ref a), some (.ref r), some (.ref mn), some (.ref s), some (.ref nm), some (.int (0 + (t : Int))), some (.str u), some (.str v), some (.str w), some (.int ka), some (.ref p), t11, t12, none, none, none, none] ∧
        Lst K H7 H' p ([.tuple [.str (Str.ofString "make"), .str u], .tuple [.str (Str.ofString "fold"), .str ((u ++ (Str.ofString "/")) ++ v)], .tuple [.str (Str.ofString "link"), .str u, .str ((v ++ (Str.ofString "/")) ++ w)]] ++ [.tuple [.str (Str.ofString "remove"), .str v], .tuple [.str (Str.ofString "move"), .str ((u ++ (Str.ofString "/")) ++ w), .str v]]), ?_, ?_⟩
      · exact cat_step (i := 10) rfl L8 (Nat.le_of_ble_eq_true rfl) (by walk_at "dd") (Nat.le_of_ble_eq_true rfl) (fun p H' h => ⟨p, rfl, h⟩)
      rintro σ' H9 ⟨p9, rfl, L9⟩
      -- the two items
      refine ⟨.str ((((u ++ (Str.ofString "/")) ++ v) ++ (Str.ofString "/")) ++ w), (by walk_at "dd"), fun vA HA NA sA nA dA => ?_⟩
      cases dA
      refine cat_step (i := 10) (ds2 := [.tuple [.str (Str.ofString "put"), .str u, .int ka, .str v], .tuple [.str (Str.ofString "short"), .str ((w ++ (Str.ofString "/")) ++ u), .int ka]]) rfl (L9.more sA) (Nat.le_of_ble_eq_true rfl) (by walk_at "dd") (Nat.le_of_ble_eq_true rfl) (fun p H10 L10 => ?_)
      obtain ⟨s10, ivs, N10, hp10, n10, hid⟩ := L10
      have h7 := fm (0 + (t : Int)) (b := 7) (by decide)
      have hil := dps_len hid
      obtain ⟨x, hx, hxN⟩ := at_of (vs := ivs) (m := 7) h7.1 h7.2 hil
      obtain ⟨dx, hdx, hddx⟩ := dps_get hid hxN
      have hitm : Itm dx := itm7 hu hv hw hka0 hka1 dx (List.mem_of_getElem? hdx)
      refine ⟨_, rfl, _, _, rfl, rfl, (by show (7 : Int) ≠ 0; decide), p, ivs, _, x, rfl, rfl, SqL.of hp10, hx, Nat.le_of_ble_eq_true rfl, fun tp ntp => ?_⟩
      have rd10 : RdAt K cl H10 r (100 * t + 4) := rd7.same s10
      have ntr : tp ≠ r := by
        rintro rfl
        exact rd10.some ntp
      have s11 : Same H10 (upd H10 tp (.tup [.str (u ++ (Str.ofString "/") ++ v ++ (Str.ofString "/") ++ w), x])) := same_new ntp
      have htp : (upd H10 tp (.tup [.str (u ++ (Str.ofString "/") ++ v ++ (Str.ofString "/") ++ w), x])) tp = some (.tup [.str (u ++ (Str.ofString "/") ++ v ++ (Str.ofString "/") ++ w), x]) := upd_same
      refine ⟨tp, rfl, ⟨_, SqT.of htp⟩, ?_⟩
      generalize upd H10 tp (.tup [.str (u ++ (Str.ofString "/") ++ v ++ (Str.ofString "/") ++ w), x]) = Hb at s11 htp
      have rdb := rd10.same s11
      have o7b : Off r H7 Hb := Off.of (s10.trans s11)
      have o5b := (o6.trans o7).trans o7b
      have o2b := o25.trans o5b
      have items : ∀ (j : Nat) (y : V), [V.str (u ++ (Str.ofString "/") ++ v ++ (Str.ofString "/") ++ w), x][j]? = some y → ∃ d, Dp K (mi Hb r) y d ∧ Itm d := by
        intro j y hy
        match j, hy with
        | 0, hy =>
          cases hy
          exact ⟨_, .str _, itmA hu hv hw⟩
        | 1, hy =>
          cases hy
          exact ⟨dx, dp_mono (mi_in (n10.sub.trans s11) (n10.new r rd7.some)) hddx, hitm⟩
      refine for_tup (K := K) (a := tp) (xs := [V.str (u ++ (Str.ofString "/") ++ v ++ (Str.ofString "/") ++ w), x]) (fun j σ' H' => ∃ (s : Addr) (ds : List PyData) (t11 t12 : Option V),
        σ' = [some (.ref a), some (.ref r), some (.ref mn), some (.ref s), some (.ref nm), some (.int (0 + (t : Int))), some (.str u), some (.str v), some (.str w), some (.int ka), some (.ref p9), t11, t12, none, none, none, none] ∧
        RdAt K cl H' r (100 * t + 4 + 40 * j) ∧ Off r Hb H' ∧ Som K r H' s ds ∧ (∀ d ∈ ds, Okg d) ∧ ds.length ≤ 220 + 6 * t + 3 * j)
        ⟨s, ds, _, _, rfl, rdb, Off.refl _ _, hsom.off o5b, hokg, hdl⟩ (fun j σ' H' _ ⟨_, _, _, _, _, _, o, _⟩ => SqT.of (o _ _ ntr htp)) ?_ ?_
      · rintro j y σ' H12 hj ⟨s, ds, t11, t12, rfl, rd12, o12, hsom, hokg, hdl⟩
        have hj2 : j < 2 := (List.getElem?_eq_some_iff.mp hj).1
        obtain ⟨d, hd, hi⟩ := items j y hj
        have hd12 := dp_mono (mi_off o12) hd
        have o2c := o2b.trans o12
        refine ⟨fun σ' H' => ∃ (v' : V) (d' : PyData), σ' = [some (.ref a), some (.ref r), some (.ref mn), some (.ref s), some (.ref nm), some (.int (0 + (t : Int))), some (.str u), some (.str v), some (.str w), some (.int ka), some (.ref p9), some y, some v', none, none, none, none] ∧
          RdAt K cl H' r (100 * t + 4 + 40 * j + 16) ∧ Off r H12 H' ∧ Dp K (mi H' r) v' d' ∧ Grown 0 d d', ?_, ?_⟩
        · refine ⟨_, rfl, _, rfl, _, rfl, r, cl, mn, y, mi H12 r, d, menu, 100 * t + 4 + 40 * j, 0, rfl, rd12, by omega, mi_sub _ _, mi_r _ _, hd12, Nat.lt_of_le_of_lt hi.dep (by decide), Nat.le_trans hi.blk (by decide), hi.lf, menuAt _ o2c, by decide, by decide, menu_small, fun v' H13 Hd' d' rd13 o13 s13 e13 hd13 g13 => ?_⟩
          exact ⟨v', d', rfl, rd13, o13, changed_mi s13 e13 rd12.some hd13, g13⟩
        rintro σ' H13 ⟨v', d', rfl, rd13, o13, hd13, g13⟩
        have o2d := o2c.trans o13
        have g1 := g13.dep
        have g2 := g13.blk
        have i1 := hi.dep
        have i2 := hi.blk
        refine ⟨_, rfl, _, rfl, _, rfl, _, rfl, _, rfl, _, rfl, r, cl, mn, v', mi H13 r, d', menu, 100 * t + 4 + 40 * j + 16, 1, rfl, rd13, by omega, mi_sub _ _, mi_r _ _, hd13, by omega, by omega, g13.lf, menuAt _ o2d, by decide, by decide, menu_small, fun v'' H14 Hd'' d'' rd14 o14 s14 e14 hd14 g14 => ⟨Nat.le_of_ble_eq_true rfl, fun b nb => ?_⟩⟩
        have hd14' := changed_mi s14 e14 rd13.some hd14
        have nbr : b ≠ r := by
          rintro rfl
          exact rd14.some nb
        obtain ⟨nsr, svs, hsv, hsd⟩ := (hsom.off o13).off o14
        have hsl := dps_len hsd
        have s15 : Same H14 (upd H14 b (.lst [y, v', v''])) := same_new nb
        refine ⟨s, b, svs, _, rfl, rfl, s15 _ _ hsv, upd_same, ?_, fun l nl => ?_⟩
        · rw [hsl]
          exact Nat.le_trans (show _ ≤ 1000 by simp only [List.length_cons, List.length_nil]; omega) (by decide)
        · have s16 := s15.trans (same_new (o := .lst (svs ++ [y, v', v''])) nl)
          have nlr : l ≠ r := by
            rintro rfl
            exact (rd14.same s15).some nl
          have oo := Off.of (r := r) s16
          have dy := dp_mono (mi_off ((o13.trans o14).trans oo)) hd12
          have dv' := dp_mono (mi_off (o14.trans oo)) hd13
          have dv'' := dp_mono (mi_off oo) hd14'
          refine ⟨l, ds ++ [d, d', d''], _, _, rfl, (rd14.same s16).mono (by omega), ((o12.trans o13).trans o14).trans oo, ⟨nlr, _, upd_same, ?_⟩, ?_, ?_⟩
          · exact dps_app (dps_mono (mi_off oo) hsd) (.cons dy (.cons dv' (.cons dv'' .nil)))
          · have g3 := g14.dep
            have g4 := g14.blk
            intro e m
            rcases List.mem_append.mp m with m | m
            · exact hokg e m
            · simp only [List.mem_cons, List.not_mem_nil, or_false] at m
              rcases m with rfl | rfl | rfl
              · exact hi.g
              · exact ⟨by omega, by omega, lf_le (by decide) g13.lf⟩
              · exact ⟨by omega, by omega, g14.lf⟩
          · rw [List.length_append]
            simp only [List.length_cons, List.length_nil]
            omega
      · rintro σ' H12 ⟨s, ds, t11, t12, rfl, rd12, o12, hsom, hokg, hdl⟩
        refine ⟨s, ds, _, _, _, _, _, _, _, _, rfl, rd12.mono ?_, (o5.trans o5b).trans o12, hsom, hokg, ?_⟩
        · simp only [List.length_cons, List.length_nil]
          omega
        · simp only [List.length_cons, List.length_nil] at hdl
          omega
    · rintro σ' H5 ⟨s, ds, t5, t6, t7, t8, t9, t10, t11, t12, rfl, rd5, o5, hsom, hokg, hdl⟩
      obtain ⟨nsr, svs, hsv, hsd⟩ := hsom
      have hsd' := dps_mono (mi_sub H5 r) hsd
      refine ⟨_, rfl, s, rfl, ⟨_, SqL.of hsv⟩, for_list (K := K) (a := s) (xs := svs) (fun i σ' H' => ∃ (t11 t13 t14 t15 : Option V),
        σ' = [some (.ref a), some (.ref r), some (.ref mn), some (.ref s), some (.ref nm), t5, t6, t7, t8, t9, t10, t11, t12, t13, t14, t15, none] ∧ Same H5 H')
        ⟨_, _, _, _, rfl, Same.refl _⟩ (fun i σ' H' _ ⟨_, _, _, _, _, sm⟩ => SqL.of (sm _ _ hsv)) ?_ (fun σ' H' _ => q H')⟩
      rintro i x σ' H6 hx ⟨t11, t13, t14, t15, rfl, s6⟩
      obtain ⟨d, hd, hdd⟩ := dps_get hsd' hx
      have hok := hokg d (List.mem_of_getElem? hd)
      have hfit := hok.fit
      have hlit := hfit.lit
      obtain ⟨sh1, sh2, sh3⟩ := hok.shown
      have d6 := dp_mono s6 hdd
      -- saved
      refine ⟨fun σ' H' => σ' = [some (.ref a), some (.ref r), some (.ref mn), some (.ref s), some (.ref nm), t5, t6, t7, t8, t9, t10, some x, t12, some (.str d.shown), t14, t15, none] ∧ H' = H6, ?_, ?_⟩
      · exact ⟨_, rfl, x, d, rfl, d6, sh1, sh2, sh3, rfl, rfl⟩
      rintro σ' H' ⟨rfl, rfl⟩
      -- want
      refine ⟨fun σ' H7 => ∃ wl : Addr, σ' = [some (.ref a), some (.ref r), some (.ref mn), some (.ref s), some (.ref nm), t5, t6, t7, t8, t9, t10, some x, t12, some (.str d.shown), some (.ref wl), t15, none] ∧
        Same H' H7 ∧ H7 wl = some (.lst ([gInt d, gNum d, gNam d, gWord d].map V.bl)), ?_, ?_⟩
      · refine ⟨_, rfl, x, d, rfl, d6, hlit, fun H1 s1 => ⟨_, rfl, x, d, rfl, dp_mono s1 d6, hlit, fun H2 s2 => ⟨_, rfl, and_ge rfl (dp_mono (s1.trans s2) d6) ⟨_, rfl, x, d, rfl, dp_mono (s1.trans s2) d6, hlit, fun H3 s3 =>
          ⟨_, rfl, x, d, rfl, dp_mono ((s1.trans s2).trans s3) d6, hlit, fun H4 s4 => ⟨Nat.le_of_ble_eq_true rfl, fun wl nw => ⟨wl, rfl, (((s1.trans s2).trans s3).trans s4).trans (same_new nw), upd_same⟩⟩⟩⟩⟩⟩⟩
      rintro σ' H7 ⟨wl, rfl, s7, hw7⟩
      have d7 := dp_mono s7 d6
      -- got
      refine ⟨fun σ' H8 => ∃ gl : Addr, σ' = [some (.ref a), some (.ref r), some (.ref mn), some (.ref s), some (.ref nm), t5, t6, t7, t8, t9, t10, some x, t12, some (.str d.shown), some (.ref wl), some (.ref gl), none] ∧
        Same H7 H8 ∧ H8 gl = some (.lst ([gInt d, gNum d, gNam d, gWord d, gPath d, gDeed d].map V.bl)), ?_, ?_⟩
      · refine ⟨_, rfl, x, d, rfl, d7, hlit, fun H1 s1 => ⟨_, rfl, x, d, rfl, dp_mono s1 d7, hlit, fun H2 s2 => ⟨_, rfl, x, d, rfl, dp_mono (s1.trans s2) d7, hlit, fun H3 s3 => ⟨_, rfl, x, d, rfl, dp_mono ((s1.trans s2).trans s3) d7, hlit, fun H4 s4 =>
          ⟨_, rfl, x, d, rfl, dp_mono (((s1.trans s2).trans s3).trans s4) d7, hlit, fun H5' s5 => ⟨_, rfl, x, d, rfl, dp_mono ((((s1.trans s2).trans s3).trans s4).trans s5) d7, hfit, fun H6' s6' => ⟨Nat.le_of_ble_eq_true rfl, fun gl ng => ⟨gl, rfl, (((((s1.trans s2).trans s3).trans s4).trans s5).trans s6').trans (same_new ng), upd_same⟩⟩⟩⟩⟩⟩⟩⟩
      rintro σ' H8 ⟨gl, rfl, s8, hg8⟩
      have d8 := dp_mono s8 d7
      -- the test
      obtain ⟨b1, b2, b3⟩ := (okg_bools (bs := [gInt d, gNum d, gNam d, gWord d, gPath d, gDeed d]) (Nat.le_of_ble_eq_true rfl)).shown
      refine ⟨_, rfl, _, _, rfl, .lst (SqL.of hg8) (dps_bools _), b1, b2, b3, ?_⟩
      refine ⟨_, rfl, _, rfl, x, d, rfl, d8, hlit, fun H9 s9 => ⟨_, rfl, x, d, rfl, dp_mono s9 d8, hfit, fun H10 s10 => ⟨Nat.le_of_ble_eq_true rfl, fun b nb => ?_⟩⟩⟩
      have s11 : Same H10 (upd H10 b (.lst ([gPath d, gDeed d].map V.bl))) := same_new nb
      have s12 := (s9.trans s10).trans s11
      refine ⟨wl, b, _, _, rfl, rfl, s12 _ _ (s8 _ _ hw7), upd_same, Nat.le_of_ble_eq_true rfl, fun p np => ?_⟩
      have s13 := s12.trans (same_new (o := .lst ([gInt d, gNum d, gNam d, gWord d].map V.bl ++ [gPath d, gDeed d].map V.bl)) np)
      refine ⟨_, .list ([gInt d, gNum d, gNam d, gWord d, gPath d, gDeed d].map PyData.bool), rfl, .lst (SqL.of upd_same) (dps_bools [gInt d, gNum d, gNam d, gWord d, gPath d, gDeed d]), b1, b2, b3, rfl, _, rfl, ?_⟩
      rw [decide_eq_true rfl]
      refine ⟨_, rfl, x, d, rfl, dp_mono s13 d8, sh1, sh2, sh3, _, rfl, rfl, _, rfl, ?_⟩
      rw [decide_eq_true rfl]
      exact ⟨_, _, _, _, rfl, ((s6.trans s7).trans s8).trans s13⟩
end
end K01

set_option Elab.async false
set_option linter.all false
set_option maxRecDepth 100000
set_option maxHeartbeats 4000000
namespace K01
open PySem PySem.Spec PyProof.Rows L2 Tw
theorem ns_none {K : PySem.W.Frag} {d : Addr} {es : Array DictEntry} {n : Nat} {z : Str} (at_ : K.lookup d = some ⟨.type "dict", none, .dict es n, #[]⟩) {l : List (Value × Value)} (he : es.toList.map (fun e => (e.key, e.val)) = l)
    (h : ∀ p ∈ l, (∃ x t, p.1 = Value.str x t ∧ x ≠ z)) : PySem.W.nsIn K d z = some none := by
  unfold PySem.W.nsIn
  rw [at_]
  have hm : ∀ e ∈ es.toList, ∃ x t, e.key = Value.str x t ∧ x ≠ z := fun e m => h (e.key, e.val) (by rw [← he]; exact List.mem_map_of_mem m)
  have h1 : es.toList.find? (·.key.isStr z) = none := by
    refine List.find?_eq_none.mpr fun e m => ?_
    obtain ⟨x, t, hk, hx⟩ := hm e m
    rw [hk]
    show ¬ (x == z) = true
    exact fun q => hx (beq_iff_eq.mp q)
  have h2 : es.toList.any (·.refKey) = false := by
    refine List.any_eq_false.mpr fun e m => ?_
    obtain ⟨x, t, hk, hx⟩ := hm e m
    unfold DictEntry.refKey
    rw [hk]
    exact Bool.false_ne_true
  simp only [h1, h2]
  rfl
theorem sqT_of {K : PySem.W.Frag} {a : Addr} {dd : Option Addr} {us : List Value} {n : Nat} {sl : Array (Option Value)} {xs : List V} (h : K.lookup a = some ⟨.type "tuple", dd, .seq us.toArray n, sl⟩) (hl : us.length ≤ 10) (r : Vals xs us) (H : Hp) : SqT K H a xs :=
  Or.inr ⟨_, us.toArray, n, h, rfl, rfl, by rw [List.size_toArray]; exact Nat.le_trans hl (by decide), by simpa using r⟩
theorem all_mk {l : PySem.W.OpenLaw} {w : World} {K : PySem.W.Frag} {h : Heap} {mg : Str → Option Value} {fa : Addr} (X : K.In h) (G : h.Ns mainGlobals mg) (hfa : mg "law" = some (.ref fa))
    {f0 : Addr} {od0 an0 : Option Addr} {sl0 : Array (Option Value)} {oc0 kV0 dc0 pm0 cd0 ct0 : Value}
    {f1 : Addr} {od1 an1 : Option Addr} {sl1 : Array (Option Value)} {oc1 kV1 dc1 pm1 cd1 ct1 : Value}
    {f2 : Addr} {od2 an2 : Option Addr} {sl2 : Array (Option Value)} {oc2 kV2 dc2 pm2 cd2 ct2 : Value}
    {f3 : Addr} {od3 an3 : Option Addr} {sl3 : Array (Option Value)} {oc3 kV3 dc3 pm3 cd3 ct3 : Value}
    {f4 : Addr} {od4 an4 : Option Addr} {sl4 : Array (Option Value)} {oc4 kV4 dc4 pm4 cd4 ct4 : Value}
    {f5 : Addr} {od5 an5 : Option Addr} {sl5 : Array (Option Value)} {oc5 kV5 dc5 pm5 cd5 ct5 : Value}
    {f6 : Addr} {od6 an6 : Option Addr} {sl6 : Array (Option Value)} {oc6 kV6 dc6 pm6 cd6 ct6 : Value}
    {f7 : Addr} {od7 an7 : Option Addr} {sl7 : Array (Option Value)} {oc7 kV7 dc7 pm7 cd7 ct7 : Value}
    {f8 : Addr} {od8 an8 : Option Addr} {sl8 : Array (Option Value)} {oc8 kV8 dc8 pm8 cd8 ct8 : Value}
    {f9 : Addr} {od9 an9 : Option Addr} {sl9 : Array (Option Value)} {oc9 kV9 dc9 pm9 cd9 ct9 : Value}
    {f10 : Addr} {od10 an10 : Option Addr} {sl10 : Array (Option Value)} {oc10 kV10 dc10 pm10 cd10 ct10 : Value}
    {f11 : Addr} {od11 an11 : Option Addr} {sl11 : Array (Option Value)} {oc11 kV11 dc11 pm11 cd11 ct11 : Value}
    {f12 : Addr} {od12 an12 : Option Addr} {sl12 : Array (Option Value)} {oc12 kV12 dc12 pm12 cd12 ct12 : Value}
    {f13 : Addr} {od13 an13 : Option Addr} {sl13 : Array (Option Value)} {oc13 kV13 dc13 pm13 cd13 ct13 : Value}
    {f14 : Addr} {od14 an14 : Option Addr} {sl14 : Array (Option Value)} {oc14 kV14 dc14 pm14 cd14 ct14 : Value}
    {f15 : Addr} {od15 an15 : Option Addr} {sl15 : Array (Option Value)} {oc15 kV15 dc15 pm15 cd15 ct15 : Value}
    {dP : Addr} {es : Array DictEntry} {nP : Nat} {tL tN tS : Tok} {u0 : Tok} {t0 : Addr} {tc0 : Option Addr} {tn0 : Nat} {ts0 : Array (Option Value)} {u1 : Tok} {t1 : Addr} {tc1 : Option Addr} {tn1 : Nat} {ts1 : Array (Option Value)} {u2 : Tok} {t2 : Addr} {tc2 : Option Addr} {tn2 : Nat} {ts2 : Array (Option Value)} {u3 : Tok} {t3 : Addr} {tc3 : Option Addr} {tn3 : Nat} {ts3 : Array (Option Value)} {u4 : Tok} {t4 : Addr} {tc4 : Option Addr} {tn4 : Nat} {ts4 : Array (Option Value)} {u5 : Tok} {t5 : Addr} {tc5 : Option Addr} {tn5 : Nat} {ts5 : Array (Option Value)} {u6 : Tok} {t6 : Addr} {tc6 : Option Addr} {tn6 : Nat} {ts6 : Array (Option Value)}
    (a0 : PySem.W.nsIn K mainGlobals "is_integer" = some (some (.ref f0)))
    (l0 : K.lookup f0 = some ⟨oc0, od0, .func (PySem.W.fnOf "is_integer" "is_integer" (defArgs s_is_integer) (defBody s_is_integer) (defScope s_is_integer) .none kV0 dc0 pm0 an0 cd0 ct0), sl0⟩)
    (c0 : PySem.W.codeIn K cd0 "is_integer" = true)
    (k0 : PySem.W.keepIn K (.ref f0) = true)
    (a1 : PySem.W.nsIn K mainGlobals "is_number" = some (some (.ref f1)))
    (l1 : K.lookup f1 = some ⟨oc1, od1, .func (PySem.W.fnOf "is_number" "is_number" (defArgs s_is_number) (defBody s_is_number) (defScope s_is_number) .none kV1 dc1 pm1 an1 cd1 ct1), sl1⟩)
    (c1 : PySem.W.codeIn K cd1 "is_number" = true)
    (k1 : PySem.W.keepIn K (.ref f1) = true)
    (a2 : PySem.W.nsIn K mainGlobals "is_name" = some (some (.ref f2)))
    (l2 : K.lookup f2 = some ⟨oc2, od2, .func (PySem.W.fnOf "is_name" "is_name" (defArgs s_is_name) (defBody s_is_name) (defScope s_is_name) .none kV2 dc2 pm2 an2 cd2 ct2), sl2⟩)
    (c2 : PySem.W.codeIn K cd2 "is_name" = true)
    (k2 : PySem.W.keepIn K (.ref f2) = true)
    (a3 : PySem.W.nsIn K mainGlobals "is_word" = some (some (.ref f3)))
    (l3 : K.lookup f3 = some ⟨oc3, od3, .func (PySem.W.fnOf "is_word" "is_word" (defArgs s_is_word) (defBody s_is_word) (defScope s_is_word) .none kV3 dc3 pm3 an3 cd3 ct3), sl3⟩)
    (c3 : PySem.W.codeIn K cd3 "is_word" = true)
    (k3 : PySem.W.keepIn K (.ref f3) = true)
    (a4 : PySem.W.nsIn K mainGlobals "is_path" = some (some (.ref f4)))
    (l4 : K.lookup f4 = some ⟨oc4, od4, .func (PySem.W.fnOf "is_path" "is_path" (defArgs s_is_path) (defBody s_is_path) (defScope s_is_path) .none kV4 dc4 pm4 an4 cd4 ct4), sl4⟩)
    (c4 : PySem.W.codeIn K cd4 "is_path" = true)
    (k4 : PySem.W.keepIn K (.ref f4) = true)
    (a5 : PySem.W.nsIn K mainGlobals "is_deed" = some (some (.ref f5)))
    (l5 : K.lookup f5 = some ⟨oc5, od5, .func (PySem.W.fnOf "is_deed" "is_deed" (defArgs s_is_deed) (defBody s_is_deed) (defScope s_is_deed) .none kV5 dc5 pm5 an5 cd5 ct5), sl5⟩)
    (c5 : PySem.W.codeIn K cd5 "is_deed" = true)
    (k5 : PySem.W.keepIn K (.ref f5) = true)
    (a6 : PySem.W.nsIn K mainGlobals "_law_reader" = some (some (.ref f6)))
    (l6 : K.lookup f6 = some ⟨oc6, od6, .func (PySem.W.fnOf "_law_reader" "_law_reader" (defArgs s__law_reader) (defBody s__law_reader) (defScope s__law_reader) .none kV6 dc6 pm6 an6 cd6 ct6), sl6⟩)
    (c6 : PySem.W.codeIn K cd6 "_law_reader" = true)
    (k6 : PySem.W.keepIn K (.ref f6) = true)
    (a7 : PySem.W.nsIn K mainGlobals "_law_draw" = some (some (.ref f7)))
    (l7 : K.lookup f7 = some ⟨oc7, od7, .func (PySem.W.fnOf "_law_draw" "_law_draw" (defArgs s__law_draw) (defBody s__law_draw) (defScope s__law_draw) .none kV7 dc7 pm7 an7 cd7 ct7), sl7⟩)
    (c7 : PySem.W.codeIn K cd7 "_law_draw" = true)
    (k7 : PySem.W.keepIn K (.ref f7) = true)
    (a8 : PySem.W.nsIn K mainGlobals "_law_changed" = some (some (.ref f8)))
    (l8 : K.lookup f8 = some ⟨oc8, od8, .func (PySem.W.fnOf "_law_changed" "_law_changed" (defArgs s__law_changed) (defBody s__law_changed) (defScope s__law_changed) .none kV8 dc8 pm8 an8 cd8 ct8), sl8⟩)
    (c8 : PySem.W.codeIn K cd8 "_law_changed" = true)
    (k8 : PySem.W.keepIn K (.ref f8) = true)
    (a9 : PySem.W.nsIn K mainGlobals "_law_is_integer" = some (some (.ref f9)))
    (l9 : K.lookup f9 = some ⟨oc9, od9, .func (PySem.W.fnOf "_law_is_integer" "_law_is_integer" (defArgs s__law_is_integer) (defBody s__law_is_integer) (defScope s__law_is_integer) .none kV9 dc9 pm9 an9 cd9 ct9), sl9⟩)
    (c9 : PySem.W.codeIn K cd9 "_law_is_integer" = true)
    (k9 : PySem.W.keepIn K (.ref f9) = true)
    (a10 : PySem.W.nsIn K mainGlobals "_law_is_name" = some (some (.ref f10)))
    (l10 : K.lookup f10 = some ⟨oc10, od10, .func (PySem.W.fnOf "_law_is_name" "_law_is_name" (defArgs s__law_is_name) (defBody s__law_is_name) (defScope s__law_is_name) .none kV10 dc10 pm10 an10 cd10 ct10), sl10⟩)
    (c10 : PySem.W.codeIn K cd10 "_law_is_name" = true)
    (k10 : PySem.W.keepIn K (.ref f10) = true)
    (a11 : PySem.W.nsIn K mainGlobals "_law_is_word" = some (some (.ref f11)))
    (l11 : K.lookup f11 = some ⟨oc11, od11, .func (PySem.W.fnOf "_law_is_word" "_law_is_word" (defArgs s__law_is_word) (defBody s__law_is_word) (defScope s__law_is_word) .none kV11 dc11 pm11 an11 cd11 ct11), sl11⟩)
    (c11 : PySem.W.codeIn K cd11 "_law_is_word" = true)
    (k11 : PySem.W.keepIn K (.ref f11) = true)
    (a12 : PySem.W.nsIn K mainGlobals "_law_is_path" = some (some (.ref f12)))
    (l12 : K.lookup f12 = some ⟨oc12, od12, .func (PySem.W.fnOf "_law_is_path" "_law_is_path" (defArgs s__law_is_path) (defBody s__law_is_path) (defScope s__law_is_path) .none kV12 dc12 pm12 an12 cd12 ct12), sl12⟩)
    (c12 : PySem.W.codeIn K cd12 "_law_is_path" = true)
    (k12 : PySem.W.keepIn K (.ref f12) = true)
    (a13 : PySem.W.nsIn K mainGlobals "_law_is_deed" = some (some (.ref f13)))
    (l13 : K.lookup f13 = some ⟨oc13, od13, .func (PySem.W.fnOf "_law_is_deed" "_law_is_deed" (defArgs s__law_is_deed) (defBody s__law_is_deed) (defScope s__law_is_deed) .none kV13 dc13 pm13 an13 cd13 ct13), sl13⟩)
    (c13 : PySem.W.codeIn K cd13 "_law_is_deed" = true)
    (k13 : PySem.W.keepIn K (.ref f13) = true)
    (a14 : PySem.W.nsIn K mainGlobals "_law_fixed_values" = some (some (.ref f14)))
    (l14 : K.lookup f14 = some ⟨oc14, od14, .func (PySem.W.fnOf "_law_fixed_values" "_law_fixed_values" (defArgs s__law_fixed_values) (defBody s__law_fixed_values) (defScope s__law_fixed_values) .none kV14 dc14 pm14 an14 cd14 ct14), sl14⟩)
    (c14 : PySem.W.codeIn K cd14 "_law_fixed_values" = true)
    (k14 : PySem.W.keepIn K (.ref f14) = true)
    (a15 : PySem.W.nsIn K mainGlobals "law" = some (some (.ref f15)))
    (l15 : K.lookup f15 = some ⟨oc15, od15, .func (PySem.W.fnOf "law" "law" (defArgs s_law) (defBody s_law) (defScope s_law) .none kV15 dc15 pm15 an15 cd15 ct15), sl15⟩)
    (c15 : PySem.W.codeIn K cd15 "law" = true)
    (k15 : PySem.W.keepIn K (.ref f15) = true)
    (z_int : PySem.W.nsIn K mainGlobals "int" = some none)
    (z_str : PySem.W.nsIn K mainGlobals "str" = some none)
    (z_bool : PySem.W.nsIn K mainGlobals "bool" = some none)
    (z_tuple : PySem.W.nsIn K mainGlobals "tuple" = some none)
    (z_list : PySem.W.nsIn K mainGlobals "list" = some none)
    (z_dict : PySem.W.nsIn K mainGlobals "dict" = some none)
    (z_len : PySem.W.nsIn K mainGlobals "len" = some none)
    (z_isinstance : PySem.W.nsIn K mainGlobals "isinstance" = some none)
    (z_all : PySem.W.nsIn K mainGlobals "all" = some none)
    (z_any : PySem.W.nsIn K mainGlobals "any" = some none)
    (z_sum : PySem.W.nsIn K mainGlobals "sum" = some none)
    (z_repr : PySem.W.nsIn K mainGlobals "repr" = some none)
    (z_range : PySem.W.nsIn K mainGlobals "range" = some none)
    (z_zip : PySem.W.nsIn K mainGlobals "zip" = some none)
    (z_sorted : PySem.W.nsIn K mainGlobals "sorted" = some none)
    (z_set : PySem.W.nsIn K mainGlobals "set" = some none)
    (z_enumerate : PySem.W.nsIn K mainGlobals "enumerate" = some none)
    (gL : PySem.W.nsIn K mainGlobals "LETTERS" = some (some (.str "abcdefghijklmnopqrstuvwxyz" tL)))
    (gN : PySem.W.nsIn K mainGlobals "LONGEST_NAME" = some (some (.int 8 tN)))
    (gS : PySem.W.nsIn K mainGlobals "SLASH" = some (some (.str "/" tS)))
    (gP : PySem.W.nsIn K mainGlobals "PARTS" = some (some (.ref dP)))
    (lP : K.lookup dP = some ⟨.type "dict", none, .dict es nP, #[]⟩)
    (p0 : PySem.W.nsIn K dP "make" = some (some (.ref t0)))
    (q0 : K.lookup t0 = some ⟨.type "tuple", tc0, .seq #[.ref f4] tn0, ts0⟩)
    (p1 : PySem.W.nsIn K dP "fold" = some (some (.ref t1)))
    (q1 : K.lookup t1 = some ⟨.type "tuple", tc1, .seq #[.ref f4] tn1, ts1⟩)
    (p2 : PySem.W.nsIn K dP "link" = some (some (.ref t2)))
    (q2 : K.lookup t2 = some ⟨.type "tuple", tc2, .seq #[.ref f4, .ref f4] tn2, ts2⟩)
    (p3 : PySem.W.nsIn K dP "remove" = some (some (.ref t3)))
    (q3 : K.lookup t3 = some ⟨.type "tuple", tc3, .seq #[.ref f4] tn3, ts3⟩)
    (p4 : PySem.W.nsIn K dP "move" = some (some (.ref t4)))
    (q4 : K.lookup t4 = some ⟨.type "tuple", tc4, .seq #[.ref f4, .ref f4] tn4, ts4⟩)
    (p5 : PySem.W.nsIn K dP "put" = some (some (.ref t5)))
    (q5 : K.lookup t5 = some ⟨.type "tuple", tc5, .seq #[.ref f4, .ref f1, .ref f2] tn5, ts5⟩)
    (p6 : PySem.W.nsIn K dP "short" = some (some (.ref t6)))
    (q6 : K.lookup t6 = some ⟨.type "tuple", tc6, .seq #[.ref f4, .ref f1] tn6, ts6⟩)
    (he : es.toList.map (fun e => (e.key, e.val)) = [(Value.str "make" u0, Value.ref t0), (Value.str "fold" u1, Value.ref t1), (Value.str "link" u2, Value.ref t2), (Value.str "remove" u3, Value.ref t3), (Value.str "move" u4, Value.ref t4), (Value.str "put" u5, Value.ref t5), (Value.str "short" u6, Value.ref t6)])
    (hlit : PySem.W.KeysLit w.params es.toList)
    (hlow : (dP == sysModules) = false)
    (hne : f4 ≠ f1 ∧ f4 ≠ f2 ∧ f1 ≠ f2) :
    ∃ fd : FuncData, (∀ (s : Shared) (v : Value), BindsTo s fd ⟨[v], []⟩ [("_law_script", v)]) ∧ ∀ base : Heap, K.In base → base.Ns mainGlobals mg → FnG l.prog w K mg base 9 fa fd ["_law_script"] (spLaw K) := by
  have F0 := fun_mk (st := s_is_integer) l0 c0 k0
  have b0 := F0.binds (ps := ["thing"]) fun _ _ _ _ _ _ us hl => match us, hl with | [_], _ => rfl
  have m0 := PySem.W.mg_of X G a0
  have F1 := fun_mk (st := s_is_number) l1 c1 k1
  have b1 := F1.binds (ps := ["thing"]) fun _ _ _ _ _ _ us hl => match us, hl with | [_], _ => rfl
  have m1 := PySem.W.mg_of X G a1
  have F2 := fun_mk (st := s_is_name) l2 c2 k2
  have b2 := F2.binds (ps := ["thing"]) fun _ _ _ _ _ _ us hl => match us, hl with | [_], _ => rfl
  have m2 := PySem.W.mg_of X G a2
  have F3 := fun_mk (st := s_is_word) l3 c3 k3
  have b3 := F3.binds (ps := ["thing"]) fun _ _ _ _ _ _ us hl => match us, hl with | [_], _ => rfl
  have m3 := PySem.W.mg_of X G a3
  have F4 := fun_mk (st := s_is_path) l4 c4 k4
  have b4 := F4.binds (ps := ["thing"]) fun _ _ _ _ _ _ us hl => match us, hl with | [_], _ => rfl
  have m4 := PySem.W.mg_of X G a4
  have F5 := fun_mk (st := s_is_deed) l5 c5 k5
  have b5 := F5.binds (ps := ["thing"]) fun _ _ _ _ _ _ us hl => match us, hl with | [_], _ => rfl
  have m5 := PySem.W.mg_of X G a5
  have F6 := fun_mk (st := s__law_reader) l6 c6 k6
  have b6 := F6.binds (ps := ["_law_script"]) fun _ _ _ _ _ _ us hl => match us, hl with | [_], _ => rfl
  have m6 := PySem.W.mg_of X G a6
  have F7 := fun_mk (st := s__law_draw) l7 c7 k7
  have b7 := F7.binds (ps := ["_law_reader_here", "_law_many"]) fun _ _ _ _ _ _ us hl => match us, hl with | [_, _], _ => rfl
  have m7 := PySem.W.mg_of X G a7
  have F8 := fun_mk (st := s__law_changed) l8 c8 k8
  have b8 := F8.binds (ps := ["_law_reader_here", "_law_thing", "_law_menu"]) fun _ _ _ _ _ _ us hl => match us, hl with | [_, _, _], _ => rfl
  have m8 := PySem.W.mg_of X G a8
  have F9 := fun_mk (st := s__law_is_integer) l9 c9 k9
  have b9 := F9.binds (ps := ["_law_thing"]) fun _ _ _ _ _ _ us hl => match us, hl with | [_], _ => rfl
  have m9 := PySem.W.mg_of X G a9
  have F10 := fun_mk (st := s__law_is_name) l10 c10 k10
  have b10 := F10.binds (ps := ["_law_thing"]) fun _ _ _ _ _ _ us hl => match us, hl with | [_], _ => rfl
  have m10 := PySem.W.mg_of X G a10
  have F11 := fun_mk (st := s__law_is_word) l11 c11 k11
  have b11 := F11.binds (ps := ["_law_thing"]) fun _ _ _ _ _ _ us hl => match us, hl with | [_], _ => rfl
  have m11 := PySem.W.mg_of X G a11
  have F12 := fun_mk (st := s__law_is_path) l12 c12 k12
  have b12 := F12.binds (ps := ["_law_thing"]) fun _ _ _ _ _ _ us hl => match us, hl with | [_], _ => rfl
  have m12 := PySem.W.mg_of X G a12
  have F13 := fun_mk (st := s__law_is_deed) l13 c13 k13
  have b13 := F13.binds (ps := ["_law_thing"]) fun _ _ _ _ _ _ us hl => match us, hl with | [_], _ => rfl
  have m13 := PySem.W.mg_of X G a13
  have F14 := fun_mk (st := s__law_fixed_values) l14 c14 k14
  have b14 := F14.binds (ps := []) fun _ _ _ _ _ _ us hl => match us, hl with | [], _ => rfl
  have m14 := PySem.W.mg_of X G a14
  have F15 := fun_mk (st := s_law) l15 c15 k15
  have m15 := PySem.W.mg_of X G a15
  have B : Bs mg := ⟨PySem.W.mg_none_of X G z_int, PySem.W.mg_none_of X G z_str, PySem.W.mg_none_of X G z_bool, PySem.W.mg_none_of X G z_tuple, PySem.W.mg_none_of X G z_list, PySem.W.mg_none_of X G z_dict, PySem.W.mg_none_of X G z_len, PySem.W.mg_none_of X G z_isinstance, PySem.W.mg_none_of X G z_all, PySem.W.mg_none_of X G z_any, PySem.W.mg_none_of X G z_sum, PySem.W.mg_none_of X G z_repr, PySem.W.mg_none_of X G z_range, PySem.W.mg_none_of X G z_zip, PySem.W.mg_none_of X G z_sorted, PySem.W.mg_none_of X G z_set, PySem.W.mg_none_of X G z_enumerate⟩
  have e := hfa.symm.trans m15
  cases e
  have C : Cst mg := ⟨⟨_, PySem.W.mg_of X G gL⟩, ⟨_, PySem.W.mg_of X G gN⟩, ⟨_, PySem.W.mg_of X G gS⟩⟩
  have pz : ∀ z : Str, z ≠ "make" → z ≠ "fold" → z ≠ "link" → z ≠ "remove" → z ≠ "move" → z ≠ "put" → z ≠ "short" → parts z = none ∧ PySem.W.nsIn K dP z = some none := by
    intro z n0 n1 n2 n3 n4 n5 n6
    refine ⟨?_, ns_none lP he ?_⟩
    · unfold parts table
      simp only [List.find?_cons, beq_eq_false_iff_ne.mpr n0.symm, beq_eq_false_iff_ne.mpr n1.symm, beq_eq_false_iff_ne.mpr n2.symm, beq_eq_false_iff_ne.mpr n3.symm, beq_eq_false_iff_ne.mpr n4.symm, beq_eq_false_iff_ne.mpr n5.symm, beq_eq_false_iff_ne.mpr n6.symm]
      rfl
    · intro p m
      simp only [List.mem_cons, List.not_mem_nil, or_false] at m
      rcases m with rfl | rfl | rfl | rfl | rfl | rfl | rfl
      · exact ⟨_, _, rfl, n0.symm⟩
      · exact ⟨_, _, rfl, n1.symm⟩
      · exact ⟨_, _, rfl, n2.symm⟩
      · exact ⟨_, _, rfl, n3.symm⟩
      · exact ⟨_, _, rfl, n4.symm⟩
      · exact ⟨_, _, rfl, n5.symm⟩
      · exact ⟨_, _, rfl, n6.symm⟩
  let fk : Kd → Addr := fun k => match k with
    | .path => f4
    | .num => f1
    | .name => f2
  let ta : Str → Addr := fun z => if z = "make" then t0 else if z = "fold" then t1 else if z = "link" then t2 else if z = "remove" then t3 else if z = "move" then t4 else if z = "put" then t5 else t6
  have T : Prt K w mg fk dP ta := by
    refine ⟨PySem.W.mg_of X G gP, ⟨es, nP, lP, hlit, hlow⟩, fun z => ?_, fun z ks hz H => ?_, hne⟩
    · by_cases n0 : z = "make"
      · subst n0; exact p0
      by_cases n1 : z = "fold"
      · subst n1; exact p1
      by_cases n2 : z = "link"
      · subst n2; exact p2
      by_cases n3 : z = "remove"
      · subst n3; exact p3
      by_cases n4 : z = "move"
      · subst n4; exact p4
      by_cases n5 : z = "put"
      · subst n5; exact p5
      by_cases n6 : z = "short"
      · subst n6; exact p6
      obtain ⟨h1, h2⟩ := pz z n0 n1 n2 n3 n4 n5 n6
      rw [h1, h2]
      rfl
    · have hm := parts_in hz
      simp only [table, List.mem_cons, List.not_mem_nil, or_false, Prod.mk.injEq] at hm
      rcases hm with ⟨rfl, rfl⟩ | ⟨rfl, rfl⟩ | ⟨rfl, rfl⟩ | ⟨rfl, rfl⟩ | ⟨rfl, rfl⟩ | ⟨rfl, rfl⟩ | ⟨rfl, rfl⟩
      · exact sqT_of (us := [.ref f4]) (xs := [.ref f4]) q0 (Nat.le_of_ble_eq_true rfl) (.cons rfl .nil) H
      · exact sqT_of (us := [.ref f4]) (xs := [.ref f4]) q1 (Nat.le_of_ble_eq_true rfl) (.cons rfl .nil) H
      · exact sqT_of (us := [.ref f4, .ref f4]) (xs := [.ref f4, .ref f4]) q2 (Nat.le_of_ble_eq_true rfl) (.cons rfl (.cons rfl .nil)) H
      · exact sqT_of (us := [.ref f4]) (xs := [.ref f4]) q3 (Nat.le_of_ble_eq_true rfl) (.cons rfl .nil) H
      · exact sqT_of (us := [.ref f4, .ref f4]) (xs := [.ref f4, .ref f4]) q4 (Nat.le_of_ble_eq_true rfl) (.cons rfl (.cons rfl .nil)) H
      · exact sqT_of (us := [.ref f4, .ref f1, .ref f2]) (xs := [.ref f4, .ref f1, .ref f2]) q5 (Nat.le_of_ble_eq_true rfl) (.cons rfl (.cons rfl (.cons rfl .nil))) H
      · exact sqT_of (us := [.ref f4, .ref f1]) (xs := [.ref f4, .ref f1]) q6 (Nat.le_of_ble_eq_true rfl) (.cons rfl (.cons rfl .nil)) H
  refine ⟨PySem.W.fnOf "law" "law" (defArgs s_law) (defBody s_law) (defScope s_law) .none kV15 dc15 pm15 an15 cd15 ct15, fun s v => .of_eq rfl, fun base _ _ => ?_⟩
  have Ei : Df l.prog w K mg base 1 "is_integer" ["thing"] (spP K gInt) := ⟨⟨_, _, (ok_is_integer F0 B), m0, F0.kp, b0⟩⟩
  have Eu : Df l.prog w K mg base 2 "is_number" ["thing"] (spP K gNum) := ⟨⟨_, _, (ok_number F1 B Ei), m1, F1.kp, b1⟩⟩
  have En : Df l.prog w K mg base 1 "is_name" ["thing"] (spP K gNam) := ⟨⟨_, _, (ok_name F2 B C), m2, F2.kp, b2⟩⟩
  have Ew : Df l.prog w K mg base 2 "is_word" ["thing"] (spP K gWord) := ⟨⟨_, _, (ok_is_word F3 B En), m3, F3.kp, b3⟩⟩
  have Ep : Df l.prog w K mg base 2 "is_path" ["thing"] (spP K gPath) := ⟨⟨_, _, (ok_path F4 B C En), m4, F4.kp, b4⟩⟩
  have Hs : ∀ f sp, pick K fk f = some sp → Held l.prog w K mg base 2 f sp := by
    intro f sp hp
    unfold pick at hp
    split at hp
    · rename_i e
      cases hp
      subst e
      exact ⟨⟨_, _, ok_path F4 B C En, F4.kp, b4⟩⟩
    · split at hp
      · rename_i e
        cases hp
        subst e
        exact ⟨⟨_, _, ok_number F1 B Ei, F1.kp, b1⟩⟩
      · split at hp
        · rename_i e
          cases hp
          subst e
          exact ⟨⟨_, _, (ok_name F2 B C).mono (by decide), F2.kp, b2⟩⟩
        · cases hp
  have Ed : Df l.prog w K mg base 3 "is_deed" ["thing"] (spD K gDeed) := ⟨⟨_, _, (ok_deed F5 B T Hs), m5, F5.kp, b5⟩⟩
  have Drd : Df l.prog w K mg base 1 "_law_reader" ["_law_script"] (spRd K) := ⟨⟨_, _, (ok_rd F6), m6, F6.kp, b6⟩⟩
  have Dd : Df l.prog w K mg base 1 "_law_draw" ["_law_reader_here", "_law_many"] (spDraw K) := ⟨⟨_, _, (ok_draw F7 B), m7, F7.kp, b7⟩⟩
  have Dc : ∀ n, Df l.prog w K mg base (n + 2) "_law_changed" ["_law_reader_here", "_law_thing", "_law_menu"] (spCh K n) := by
    intro n
    induction n with
    | zero =>
      refine ⟨⟨_, _, ?_, m8, F8.kp, b8⟩⟩
      refine ⟨fun vs H Q E hh => ?_, fun A outer s H args us vs Q E _ _ _ _ hh => ?_⟩
      · obtain ⟨_, _, _, _, _, _, _, _, _, _, _, _, _, _, _, hd, _⟩ := hh
        exact absurd hd (Nat.not_lt_zero _)
      · obtain ⟨_, _, _, _, _, _, _, _, _, _, _, _, _, _, _, hd, _⟩ := hh
        exact absurd hd (Nat.not_lt_zero _)
    | succ n ih => exact ⟨⟨_, _, (ok_ch F8 B Dd n ih), m8, F8.kp, b8⟩⟩
  have Li : Df l.prog w K mg base 1 "_law_is_integer" ["_law_thing"] (spP K gInt) := ⟨⟨_, _, (ok__law_is_integer F9 B), m9, F9.kp, b9⟩⟩
  have Ln : Df l.prog w K mg base 1 "_law_is_name" ["_law_thing"] (spP K gNam) := ⟨⟨_, _, (ok_lname F10 B), m10, F10.kp, b10⟩⟩
  have Lw : Df l.prog w K mg base 2 "_law_is_word" ["_law_thing"] (spP K gWord) := ⟨⟨_, _, (ok__law_is_word F11 B Ln), m11, F11.kp, b11⟩⟩
  have Lp : Df l.prog w K mg base 2 "_law_is_path" ["_law_thing"] (spP K gPath) := ⟨⟨_, _, (ok_lpath F12 B Ln), m12, F12.kp, b12⟩⟩
  have Ld : Df l.prog w K mg base 3 "_law_is_deed" ["_law_thing"] (spD K gDeed) := ⟨⟨_, _, (ok_ldeed F13 B Li Ln Lp), m13, F13.kp, b13⟩⟩
  have Dfx : Df l.prog w K mg base 1 "_law_fixed_values" [] (spFx K) := ⟨⟨_, _, (ok_fx F14 B), m14, F14.kp, b14⟩⟩
  exact ok_law F15 B ⟨Drd, Dd, Dc 4, Dfx, Ei, Eu, En, Ew, Ep, Ed, Li, Ln, Lw, Lp, Ld⟩
end K01

set_option Elab.async false
set_option linter.all false
open PySem PySem.W PyProof.Rows in
set_option maxRecDepth 100000 in
set_option maxHeartbeats 0 in
theorem PySem.Challenge.cw_tornwrite_k01_kinds_of_values_holds : PySem.Challenge.rw_tornwrite_k01_kinds_of_values.Holds := by
  w_on; o_law; k_head; (case hw => w_witness2)
  k_fill
  refine Tw.walkG (l := PySem.Challenge.rw_tornwrite_k01_kinds_of_values) (n := 63) (k := 9) (x := "_law_script") (sp := K01.spLaw) rfl (by decide) rfl ⟨rfl, by decide, by decide⟩ (fun w h Y => PySem.W.kIn_of Y) ?F (fun K H a ns hl _ hS => ⟨a, ns, rfl, hS, hl, fun _ => rfl⟩)
  case F =>
    intro w mg fa h KX G hmg
    refine' K01.all_mk KX G hmg ?a0 ?l0 ?c0 ?k0 ?a1 ?l1 ?c1 ?k1 ?a2 ?l2 ?c2 ?k2 ?a3 ?l3 ?c3 ?k3 ?a4 ?l4 ?c4 ?k4 ?a5 ?l5 ?c5 ?k5 ?a6 ?l6 ?c6 ?k6 ?a7 ?l7 ?c7 ?k7 ?a8 ?l8 ?c8 ?k8 ?a9 ?l9 ?c9 ?k9 ?a10 ?l10 ?c10 ?k10 ?a11 ?l11 ?c11 ?k11 ?a12 ?l12 ?c12 ?k12 ?a13 ?l13 ?c13 ?k13 ?a14 ?l14 ?c14 ?k14 ?a15 ?l15 ?c15 ?k15 ?z_int ?z_str ?z_bool ?z_tuple ?z_list ?z_dict ?z_len ?z_isinstance ?z_all ?z_any ?z_sum ?z_repr ?z_range ?z_zip ?z_sorted ?z_set ?z_enumerate ?gL ?gN ?gS ?gP ?lP ?p0 ?q0 ?p1 ?q1 ?p2 ?q2 ?p3 ?q3 ?p4 ?q4 ?p5 ?q5 ?p6 ?q6 ?he ?hlit ?hlow ?hne
    (case a0 => k_is)
    (case l0 => k_is)
    (case c0 => k_is)
    (case k0 => k_is)
    (case a1 => k_is)
    (case l1 => k_is)
    (case c1 => k_is)
    (case k1 => k_is)
    (case a2 => k_is)
    (case l2 => k_is)
    (case c2 => k_is)
    (case k2 => k_is)
    (case a3 => k_is)
    (case l3 => k_is)
    (case c3 => k_is)
    (case k3 => k_is)
    (case a4 => k_is)
    (case l4 => k_is)
    (case c4 => k_is)
    (case k4 => k_is)
    (case a5 => k_is)
    (case l5 => k_is)
    (case c5 => k_is)
    (case k5 => k_is)
    (case a6 => k_is)
    (case l6 => k_is)
    (case c6 => k_is)
    (case k6 => k_is)
    (case a7 => k_is)
    (case l7 => k_is)
    (case c7 => k_is)
    (case k7 => k_is)
    (case a8 => k_is)
    (case l8 => k_is)
    (case c8 => k_is)
    (case k8 => k_is)
    (case a9 => k_is)
    (case l9 => k_is)
    (case c9 => k_is)
    (case k9 => k_is)
    (case a10 => k_is)
    (case l10 => k_is)
    (case c10 => k_is)
    (case k10 => k_is)
    (case a11 => k_is)
    (case l11 => k_is)
    (case c11 => k_is)
    (case k11 => k_is)
    (case a12 => k_is)
    (case l12 => k_is)
    (case c12 => k_is)
    (case k12 => k_is)
    (case a13 => k_is)
    (case l13 => k_is)
    (case c13 => k_is)
    (case k13 => k_is)
    (case a14 => k_is)
    (case l14 => k_is)
    (case c14 => k_is)
    (case k14 => k_is)
    (case a15 => k_is)
    (case l15 => k_is)
    (case c15 => k_is)
    (case k15 => k_is)
    (case z_int => k_is)
    (case z_str => k_is)
    (case z_bool => k_is)
    (case z_tuple => k_is)
    (case z_list => k_is)
    (case z_dict => k_is)
    (case z_len => k_is)
    (case z_isinstance => k_is)
    (case z_all => k_is)
    (case z_any => k_is)
    (case z_sum => k_is)
    (case z_repr => k_is)
    (case z_range => k_is)
    (case z_zip => k_is)
    (case z_sorted => k_is)
    (case z_set => k_is)
    (case z_enumerate => k_is)
    (case gL => k_is)
    (case gN => k_is)
    (case gS => k_is)
    (case gP => k_is)
    (case lP => k_is)
    (case p0 => k_is)
    (case q0 => k_is)
    (case p1 => k_is)
    (case q1 => k_is)
    (case p2 => k_is)
    (case q2 => k_is)
    (case p3 => k_is)
    (case q3 => k_is)
    (case p4 => k_is)
    (case q4 => k_is)
    (case p5 => k_is)
    (case q5 => k_is)
    (case p6 => k_is)
    (case q6 => k_is)
    (case he => rfl)
    (case hlit => exact ⟨⟨_, _, rfl, rfl⟩, ⟨_, _, rfl, rfl⟩, ⟨_, _, rfl, rfl⟩, ⟨_, _, rfl, rfl⟩, ⟨_, _, rfl, rfl⟩, ⟨_, _, rfl, rfl⟩, ⟨_, _, rfl, rfl⟩, trivial⟩)
    (case hlow => decide)
    (case hne => decide)

