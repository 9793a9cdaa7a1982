import PyProof.Rows.All
import Wide.All
import OpenK.AllK
import Wide.FinOn
import HandS.ForMost
import HandS.Words
import HandS.Ends
import KE.LtData
import KE.KeyNested
import PyProof.EqLayable
import HandS.List
import HandS.Base
import HandS.Call
import HandS.Comp
import HandS.Iter
import HandS.WordsList
import HandS.ExcValue
import HandS.ExcInit
import KE.KIsAll
import HandS.TupAny
import HandS.Style
import HandS.Deep
import HandS.Wide
import HandS.Text
import PyProof.Rows.InDataRows
import HandS.Dict
import HandS.IsInst
import HandS.Conv
import HandS.TupLen
import HandS.WordsDict
import KE.SortData
import KE.DataMinMax
import HandS.SetKeys
import PyProof.ReprRoads
import HandS.Star
import PyProof.CollectIter
import KE.GoesMore
import KE.GoesEnum
import HandS.Zip
import HandS.SetFor
import HandS.Strs
import HandS.TupSets
import KE.KRevSl
import KE.KExcIs
import KE.KExcPX
import KE.KExcInit
import PyProof.Rows.FactsExc_KeyError
import HandS.HeadWalk
import PyProof.Rows.FactsExc_IndexError
import PyProof.Rows.FactsExc_OverflowError
import PyProof.Rows.FactsExc_RuntimeError
import PyProof.Rows.FactsExc_LookupError
import PySem.Challenge.RW_meetrows_k00_errors
section
set_option Elab.async false
set_option linter.all false
set_option maxRecDepth 100000
/-! Defs whose call stack's guards are known to be none: what repr of a list asks for. -/
namespace Mn
open PySem PySem.Spec PyProof.Rows L2
structure FnG (P : Program) (w : World) (K : PySem.W.Frag) (mg : Str → Option Value) (base : Heap) (k : Nat) (f : Addr) (fd : FuncData) (ps : List Str) (sp : Sp) : Prop where
  len : ∀ (vs : List V) (H : Hp) (Q : VK) (E : XK), sp vs H Q E → vs.length = ps.length
  run : ∀ (A : Around) (outer : List PySem.Env) (s : Shared) (H : Hp) (args : Args) (us : List Value) (vs : List V) (Q : VK) (E : XK), A.guards = some [] → Room k A → Env0 P w K mg base A outer s H → BindsTo s fd args (ps.zip us) → Vals vs us → sp vs H Q E → codeAny (model P w) A (.call (.ref f) args) (CR CX0 outer P w H s Q E) s
theorem FnG.mono {P : Program} {w : World} {K : PySem.W.Frag} {mg : Str → Option Value} {base : Heap} {j k : Nat} {f : Addr} {fd : FuncData} {ps : List Str} {sp : Sp} (F : FnG P w K mg base j f fd ps sp) (h : j ≤ k) : FnG P w K mg base k f fd ps sp :=
  ⟨F.len, fun A outer s H args us vs Q E hg hr => F.run A outer s H args us vs Q E hg ⟨hr.hd, by have := hr.dp; omega, by have := hr.un; omega⟩⟩
theorem fnG_of {P : Program} {w : World} {K : PySem.W.Frag} {mg : Str → Option Value} {base : Heap} {x qual : Str} {st : Stmt} {f : Addr} {fd : FuncData} {N ps : List Str} {k : Nat} {sp : Sp} (F : Fun K x qual st f fd) (S : FnScope N ps (defScope st)) (len : ∀ (vs : List V) (H : Hp) (Q : VK) (E : XK), sp vs H Q E → vs.length = ps.length)
    (body : ∀ (cdv : Value) (A : Around) (outer : List PySem.Env) (s : Shared) (H : Hp) (vs : List V) (Q : VK) (E : XK), A.guards = some [] → Room k (A.deeper (envOfC qual (defScope st) s.heap.objs.size f cdv)) → sp vs H Q E →
      ∃ t, PSs (cxOf CX0 P w K mg base N qual (defScope st) f cdv A outer s H E).nox (defBody st) t ∧ t { nx := fun _ H' => Q .non H', rt := Q } (start N vs) H) : FnG P w K mg base (k + 1) f fd ps sp := by
  obtain ⟨oc, od, kV, doc, pm, an, cdv, ct, osl, rfl, lk, hcd⟩ := F.ex
  refine ⟨len, fun A outer s H args us vs Q E hg hr e0 hb r hsp => ?_⟩
  have hl := len vs H Q E hsp
  have KX := PySem.W.Frag.In.keeps e0.mod.kin fun b o e => (e0.bs b o e).1
  have lim := Heap.NoLimit.keeps e0.mod.nolimit fun b o e => (e0.bs b o e).1
  refine codeAny_call_function hr.depth (KX f _ lk) rfl S.co S.gen rfl (PySem.W.codeRec_of KX hcd) (hb _ _ _ _ ?_)
  refine wpAny_newFunctionEnv_cells S.kind (fun y hy => ?_) fun env he s1 x => ?_
  · obtain ⟨n, v⟩ := y
    rcases S.par n (List.of_mem_zip hy).1 with q | q
    · exact .inl q
    · exact .inr ⟨q, PySem.W.cellsFrom_some _ _ [] (.inl q)⟩
  · subst he
    refine ⟨lim.keeps x.toInCall.keep, codeAny_func ?_⟩
    obtain ⟨t, ht, hq⟩ := body cdv A outer s H vs Q E hg (Room.deeper hr _) hsp
    have I := inv_start (CX := CX0) (E := E) S hr.hd e0 hl r x
    refine wpAny_mono (ht.nox.run [] s1 (start N vs) H _ I hq) (fun fl s' hs => ?_) fun e s' hs => hs
    cases fl with
    | next =>
      obtain ⟨σ', H', J, q⟩ := hs
      exact ⟨.non, H', J.os, J.bare, J.base, J.hok, rfl, q⟩
    | brk =>
      obtain ⟨_, _, _, q⟩ := hs
      exact q.elim
    | cont =>
      obtain ⟨_, _, _, q⟩ := hs
      exact q.elim
    | ret u =>
      obtain ⟨v, σ', H', J, rv, q⟩ := hs
      exact ⟨v, H', J.os, J.bare, J.base, J.hok, rv, q⟩
section
variable {X : Cx} {k : Nat} {f : Addr} {fd : FuncData} {ps : List Str} {sp : Sp}
theorem runG {pins : List (Addr × Obj)} {σ : L2.St} {H : Hp} {s : Shared} {Q : VK} {us : List Value} {vs : List V} {E : XK} (F : FnG X.prog X.w X.K X.mg X.base k f fd ps sp) (hg : X.A.guards = some []) (hr : Room k X.A) (hb : Binds X.K fd ps []) (hx : Passes CX0 X E) (I : Inv X pins σ H s) (r : Vals vs us) (h : sp vs H Q E) :
    wpAny (model X.prog X.w) X.A (call (.ref f) us) (EP X pins σ Q) X.xe s := by
  have hl : us.length = ps.length := by
    have := r.length
    rw [← F.len vs H Q E h]
    omega
  have hb' := hb s us I.kIn (by simpa using hl)
  rw [List.append_nil] at hb'
  refine wpAny_call (codeAny_mono (F.run X.A X.stack s H _ us vs Q E hg hr I.env0 hb' r h) fun res s' hq => ?_)
  match res, hq with
  | .error e, hq => exact hx pins σ H s e s' I hq
  | .ok .next, hq => exact hq.elim
  | .ok .brk, hq => exact hq.elim
  | .ok .cont, hq => exact hq.elim
  | .ok (.ret u), hq => exact I.after hq
theorem app_nil {α : Type} {f : List α → Prop} {vs : List α} (q : f (vs ++ [])) : f vs := by rw [List.append_nil] at q; exact q
theorem pe_callG {x : Str} {p pos : Pos} {e : Expr} {es : List Expr} {t : TA} {E : XK} (F : FnG X.prog X.w X.K X.mg X.base k f fd ps sp) (hg : X.A.guards = some []) (hr : Room k X.A) (hgl : Gl X x) (hm : X.mg x = some (.ref f)) (hk : PySem.W.keepIn X.K (.ref f) = true) (hb : Binds X.K fd ps []) (hx : Passes CX0 X E) (ha : PA X (e :: es) t)
    (hdb : (x == ("__debug__" : Str)) = false) (he : starEach (e :: es) X.env = (false, eval e X.env) :: starEach es X.env) (hpl : ((backTo pos (starEach es X.env)).any fun z => z.1) = false) : PE X (.Call (.Name x p) (e :: es) [] pos) (tCall sp [] E t) :=
  ⟨fun pins s σ H Q I h => wpAny_Call_Name_kw (ld_glob I hgl hm (PySem.W.callWith_K I.ok.mod.kin hk (thn (ha.run pos pins s σ H (fun vs H1 => sp (vs ++ []) H1 Q E) I h) fun us s1 z =>
    let ⟨vs, H1, I1, r, q⟩ := z
    ⟨I1.kIn, runG F hg hr hb hx I1 r (app_nil (f := fun vs => sp vs H1 Q E) q)⟩) he hpl) hdb)⟩
theorem pe_callG0 {x : Str} {p pos : Pos} {E : XK} (F : FnG X.prog X.w X.K X.mg X.base k f fd ps sp) (hg : X.A.guards = some []) (hr : Room k X.A) (hgl : Gl X x) (hm : X.mg x = some (.ref f)) (hk : PySem.W.keepIn X.K (.ref f) = true) (hb : Binds X.K fd ps []) (hx : Passes CX0 X E) (hdb : (x == ("__debug__" : Str)) = false) : PE X (.Call (.Name x p) [] [] pos) (tCall sp [] E tNil) :=
  ⟨fun pins s σ H Q I h => wpAny_Call_Name_kw (ld_glob I hgl hm (PySem.W.callWith_K0 I.kIn hk (runG F hg hr hb hx I .nil h)) hdb)⟩
end
/-- what may be called: a def, or a class of the program's own -/
structure CalG (P : Program) (w : World) (K : PySem.W.Frag) (mg : Str → Option Value) (base : Heap) (k : Nat) (f : Addr) (sp : Sp) : Prop where
  run : ∀ (A : Around) (outer : List PySem.Env) (s : Shared) (H : Hp) (us : List Value) (vs : List V) (Q : VK), A.guards = some [] → Room k A → Env0 P w K mg base A outer s H → Vals vs us → sp vs H Q E0 →
    wpAny (model P w) A (call (.ref f) us) (CE outer P w H s Q) (fun _ _ => False) s
theorem CalG.mono {P : Program} {w : World} {K : PySem.W.Frag} {mg : Str → Option Value} {base : Heap} {j k : Nat} {f : Addr} {sp : Sp} (F : CalG P w K mg base j f sp) (h : j ≤ k) : CalG P w K mg base k f sp :=
  ⟨fun A outer s H us vs Q hg hr => F.run A outer s H us vs Q hg ⟨hr.hd, by have := hr.dp; omega, by have := hr.un; omega⟩⟩
theorem FnG.cal {P : Program} {w : World} {K : PySem.W.Frag} {mg : Str → Option Value} {base : Heap} {k : Nat} {f : Addr} {fd : FuncData} {ps : List Str} {sp : Sp} (F : FnG P w K mg base k f fd ps sp) (hb : Binds K fd ps []) : CalG P w K mg base k f sp :=
  ⟨fun A outer s H us vs Q hg hr e0 r hsp => by
    have hl : us.length = ps.length := by
      have := r.length
      rw [← F.len vs H Q E0 hsp]
      omega
    have hb' := hb s us (PySem.W.Frag.In.keeps e0.mod.kin fun b o e => (e0.bs b o e).1) (by simpa using hl)
    rw [List.append_nil] at hb'
    refine wpAny_call (codeAny_mono (F.run A outer s H _ us vs Q E0 hg hr e0 hb' r hsp) fun res s' hq => ?_)
    match res, hq with
    | .error e, hq => exact hq.elim
    | .ok .next, hq => exact hq.elim
    | .ok .brk, hq => exact hq.elim
    | .ok .cont, hq => exact hq.elim
    | .ok (.ret u), hq => exact hq⟩
section
variable {X : Cx} {k : Nat} {f : Addr} {sp : Sp}
theorem runC {pins : List (Addr × Obj)} {σ : L2.St} {H : Hp} {s : Shared} {Q : VK} {us : List Value} {vs : List V} (F : CalG X.prog X.w X.K X.mg X.base k f sp) (hg : X.A.guards = some []) (hr : Room k X.A) (I : Inv X pins σ H s) (r : Vals vs us) (h : sp vs H Q E0) :
    wpAny (model X.prog X.w) X.A (call (.ref f) us) (EP X pins σ Q) X.xe s :=
  wpAny_mono (F.run X.A X.stack s H us vs Q hg hr I.env0 r h) (fun _ _ hq => I.after hq) fun _ _ z => z.elim
theorem pe_callC {x : Str} {p pos : Pos} {e : Expr} {es : List Expr} {t : TA} (F : CalG X.prog X.w X.K X.mg X.base k f sp) (hg : X.A.guards = some []) (hr : Room k X.A) (hgl : Gl X x) (hm : X.mg x = some (.ref f)) (hk : PySem.W.keepIn X.K (.ref f) = true) (ha : PA X (e :: es) t)
    (hdb : (x == ("__debug__" : Str)) = false) (he : starEach (e :: es) X.env = (false, eval e X.env) :: starEach es X.env) (hpl : ((backTo pos (starEach es X.env)).any fun z => z.1) = false) : PE X (.Call (.Name x p) (e :: es) [] pos) (tCall sp [] E0 t) :=
  ⟨fun pins s σ H Q I h => wpAny_Call_Name_kw (ld_glob I hgl hm (PySem.W.callWith_K I.ok.mod.kin hk (thn (ha.run pos pins s σ H (fun vs H1 => sp (vs ++ []) H1 Q E0) I h) fun us s1 z =>
    let ⟨vs, H1, I1, r, q⟩ := z
    ⟨I1.kIn, runC F hg hr I1 r (app_nil (f := fun vs => sp vs H1 Q E0) q)⟩) he hpl) hdb)⟩
theorem pe_callC0 {x : Str} {p pos : Pos} (F : CalG X.prog X.w X.K X.mg X.base k f sp) (hg : X.A.guards = some []) (hr : Room k X.A) (hgl : Gl X x) (hm : X.mg x = some (.ref f)) (hk : PySem.W.keepIn X.K (.ref f) = true) (hdb : (x == ("__debug__" : Str)) = false) : PE X (.Call (.Name x p) [] [] pos) (tCall sp [] E0 tNil) :=
  ⟨fun pins s σ H Q I h => wpAny_Call_Name_kw (ld_glob I hgl hm (PySem.W.callWith_K0 I.kIn hk (runC F hg hr I .nil h)) hdb)⟩
end
/-- the law's call -/
theorem law_callG {P : Program} {w : World} {K : PySem.W.Frag} {mg mb : Str → Option Value} {k : Nat} {fa a : Addr} {fd : FuncData} {x : Str} {sp : Sp} {s₁ : Shared} {vs : List Value} {ns : List Int} (KX : K.In s₁.heap) (hns : s₁.heap.Ns mainGlobals mg) (hb : s₁.heap.Ns builtinsNs mb) (hbb : ∀ y : Str, y ≠ ("__name__" : Str) → mb y = bootBuiltins y) (hlim : s₁.heap.NoLimit) (hg : s₁.gens = #[])
    (ha : s₁.heap.get? a = some { cls := .type "list", data := .seq vs.toArray }) (hi : IntsAre vs ns) (hl : ns.length ≤ sizeLine) (hr : Room k callerA) (F : ∀ base : Heap, K.In base → base.Ns mainGlobals mg → FnG P w K mg base k fa fd [x] sp) (hbind : ∀ (s : Shared) (u : Value), BindsTo s fd ⟨[u], []⟩ [(x, u)])
    (hsp : ∀ H : Hp, Only H → SqL K H a (ns.map V.int) → sp [.ref a] H (fun v _ => v = .bl true) fun _ _ _ => False) :
    codeAny (model P w) callerA (.call (.ref fa) ⟨[.ref a], []⟩) (fun r s' => r = .ok (.ret (.bool true)) ∧ OldK s₁.heap s'.heap ∧ s'.os = s₁.os ∧ AllBare s'.gens) s₁ := by
  have rv := vals_ints hi
  have core : ∀ H : Hp, Only H → SqL K H a (ns.map V.int) → HOk P w H s₁.heap → (∀ b, H b ≠ none → b = a) → (H a ≠ none → List.lookup a K = none) → codeAny (model P w) callerA (.call (.ref fa) ⟨[.ref a], []⟩) (fun r s' => r = .ok (.ret (.bool true)) ∧ OldK s₁.heap s'.heap ∧ s'.os = s₁.os ∧ AllBare s'.gens) s₁ := by
    intro H hO hS hok hA hK
    have noA : ∀ {b : Addr} {o : Obj} {es : Array DictEntry} {ep : Nat}, s₁.heap.get? b = some o → o.data = .dict es ep → H b = none := fun {b o es ep} e d => by
      cases h : H b with
      | none => rfl
      | some u =>
        have e' := hA b (by rw [h]; simp)
        subst e'
        rw [ha] at e
        cases e
        cases d
    have nsK : ∀ {b : Addr} {m : Str → Option Value}, s₁.heap.Ns b m → (hidT s₁.heap H).Ns b m := fun {b m} ⟨o, es, ep, e, d, r⟩ => ⟨o, es, ep, hidT_get e (noA e d), d, r⟩
    have hKb : K.In (hidT s₁.heap H) := fun b o e => hidT_get (KX b o e) (by
      cases h : H b with
      | none => rfl
      | some u =>
        have e' := hA b (by rw [h]; simp)
        subst e'
        rw [hK (by rw [h]; simp)] at e
        cases e)
    obtain ⟨mc, c1, c2⟩ := hlim
    have e0 : Env0 P w K mg (hidT s₁.heap H) callerA [] s₁ H := ⟨rfl, ⟨hKb, nsK hns, ⟨mb, nsK hb, hbb⟩, ⟨mc, nsK c1, c2⟩⟩, fun b o e => of_hidT e, Nat.le_of_eq (hidT_size s₁.heap H), trivial, fun b z => (nomatch z), hok, AllBare.of_eq hg⟩
    refine codeAny_mono ((F (hidT s₁.heap H) hKb (nsK hns)).run callerA [] s₁ H ⟨[.ref a], []⟩ [.ref a] [.ref a] (fun v _ => v = .bl true) (fun _ _ _ => False) rfl hr e0 (hbind s₁ (.ref a)) (.cons rfl .nil) (hsp H hO hS)) fun r s' h => ?_
    match r, h with
    | .error e, h => exact h.elim
    | .ok .next, h => exact h.elim
    | .ok .brk, h => exact h.elim
    | .ok .cont, h => exact h.elim
    | .ok (.ret u), h =>
      obtain ⟨v, H', os, bare, un, hok', r', q⟩ := h
      subst q
      cases (show u = Value.bool true from r')
      refine ⟨rfl, OldK.of_keep fun b o e => ?_, os, bare⟩
      cases h : H b with
      | none => exact un.keep b o e h (fun z => (nomatch z)) (fun z => (nomatch z))
      | some u =>
        rcases hO b with z | ⟨ob, xs, z⟩
        · rw [h] at z; cases z
        · have z2 := un.frzs b ob (.lst xs) z
          have e1 := (hok b _ z).1
          have e2 := (hok' b _ z2).1
          rw [e] at e1
          cases e1
          exact e2
  cases hk : List.lookup a K with
  | none =>
    refine core (fun b => if b = a then some (.frz { cls := .type "list", data := .seq vs.toArray } (.lst (ns.map V.int))) else none) (fun b => ?_) (.inl (.inr ⟨_, if_pos rfl⟩)) (fun b u z => ?_) (fun b z => ?_) fun _ => hk
    · by_cases e : b = a
      · exact .inr ⟨_, _, if_pos e⟩
      · exact .inl (if_neg e)
    · by_cases e : b = a
      · subst e
        have z' : some (HO.frz { cls := .type "list", data := .seq vs.toArray } (.lst (ns.map V.int))) = some u := (if_pos rfl).symm.trans z
        cases z'
        exact ⟨ha, by rw [List.length_map]; exact hl, vs, 0, rv, ha⟩
      · have z' : none = some u := (if_neg e).symm.trans z
        cases z'
    · by_cases e : b = a
      · exact e
      · exact absurd (if_neg e) z
  | some o =>
    have e := KX a o hk
    rw [ha] at e
    cases e
    refine core (fun _ => none) (fun _ => .inl rfl) (.inr ⟨_, vs.toArray, 0, hk, rfl, rfl, rfl, ?_, rv⟩) (fun b u z => (nomatch z)) (fun b z => absurd rfl z) fun z => absurd rfl z
    rw [List.size_toArray, IntsAre.length hi]
    exact hl
theorem walkG {l : PySem.W.OpenLaw} {n k : Nat} {q : Program} {loose : List Str} {XP : (Str → Option Value) → Heap → Prop} {YP : World → Heap → Prop} {d : DefRec} {K : Params → PySem.W.Frag} {sp : World → Sp} {x : Str} (hn : l.most = some n) (hn2 : n ≤ sizeLine) (hdf : d.params.defaults = []) (hr : Room k callerA) (hY : ∀ (w : World) (h : Heap), YP w h → (K w.params).In h)
    (F : ∀ (w : World) (mg : Str → Option Value) (fa : Addr) (h : Heap), (K w.params).In h → h.Ns mainGlobals mg → mg d.name = some (.ref fa) → ∃ fd : FuncData, (∀ (s : Shared) (u : Value), BindsTo s fd ⟨[u], []⟩ [(x, u)]) ∧ ∀ base : Heap, (K w.params).In base → base.Ns mainGlobals mg → FnG l.prog w (K w.params) mg base k fa fd [x] (sp w))
    (hsp : ∀ (w : World) (H : Hp) (a : Addr) (ns : List Int), ns.length ≤ n → Only H → SqL (K w.params) H a (ns.map V.int) → sp w [.ref a] H (fun v _ => v = .bl true) fun _ _ _ => False) : PySem.W.WalkO q loose XP YP l.row.toRowW d [] (fun f vs => PySem.call f vs) :=
  Att.attach_call hn hdf fun w s₀ s₁ mg mb fa o pm cd doc a vs ns G Y ho hd hcd hmg hobj hints hlen hg =>
    let KX := hY w s₁.heap Y
    let ⟨_, hb, hF⟩ := F w mg fa s₁.heap KX G.T.g hmg
    law_callG KX G.T.g G.T.b G.T.builtins G.T.nolimit hg hobj hints (Nat.le_trans hlen hn2) hr hF hb fun H hO hS => hsp w H a ns hlen hO hS
end Mn
end
section
set_option Elab.async false
set_option linter.all false
set_option maxRecDepth 100000
/-! The plain side: Python values as trees, a small language of expressions and statements, and what they compute. -/
namespace Mn
open PySem

/-- a Python value as a tree; `cell k` is the k-th mutable object -/
inductive D where
  | non
  | bl (b : Bool)
  | int (i : Int)
  | str (x : Str)
  | tup (xs : List D)
  | lst (xs : List D)
  /-- a dict: t false, its keys are ints and texts; t true, tuples of these -/
  | dic (t : Bool) (ks vs : List D)
  | set (xs : List D)
  /-- the law's script: a list of ints that nobody writes -/
  | scr (xs : List Int)
  | cell (k : Nat)
instance : Inhabited D := ⟨.non⟩

abbrev Env := List (Option D)
/-- the mutable objects: what stands in each, none for one that was frozen -/
abbrev Mu := List (Option D)

inductive R (α : Type) where
  | ok (a : α) (e : Env) (m : Mu)
  | exc (c : Nat) (vs : List D) (m : Mu)
  | stuck
abbrev M (α : Type) := Env → Mu → R α

@[reducible] def R.bind {α β : Type} (r : R α) (f : α → Env → Mu → R β) : R β :=
  match r with
  | .ok a e m => f a e m
  | .exc c vs m => .exc c vs m
  | .stuck => .stuck
@[reducible] def M.bind {α β : Type} (x : M α) (f : α → M β) : M β := fun e m => (x e m).bind f
@[reducible] def M.ret {α : Type} (a : α) : M α := fun e m => .ok a e m
@[reducible] def M.of {α : Type} (o : Option α) : M α := fun e m => match o with
  | some a => .ok a e m
  | none => .stuck

/-- the run ends well in P, or in an exception in E -/
def R.Ok {α : Type} (r : R α) (P : α → Env → Mu → Prop) (E : Nat → List D → Mu → Prop) : Prop :=
  match r with
  | .ok a e m => P a e m
  | .exc c vs m => E c vs m
  | .stuck => False
theorem R.Ok.bind {α β : Type} {r : R α} {f : α → Env → Mu → R β} {P : β → Env → Mu → Prop} {E : Nat → List D → Mu → Prop} (h : (r.bind f).Ok P E) : r.Ok (fun a e m => (f a e m).Ok P E) E := by
  cases r with
  | ok a e m => exact h
  | exc c vs m => exact h
  | stuck => exact h
theorem R.Ok.mono {α : Type} {r : R α} {P P' : α → Env → Mu → Prop} {E E' : Nat → List D → Mu → Prop} (h : r.Ok P E) (hp : ∀ a e m, P a e m → P' a e m) (he : ∀ c vs m, E c vs m → E' c vs m) : r.Ok P' E' := by
  cases r with
  | ok a e m => exact hp _ _ _ h
  | exc c vs m => exact he _ _ _ h
  | stuck => exact h
theorem R.Ok.of {α : Type} {o : Option α} {e : Env} {m : Mu} {P : α → Env → Mu → Prop} {E : Nat → List D → Mu → Prop} (h : (M.of o e m).Ok P E) : ∃ a, o = some a ∧ P a e m := by
  cases o with
  | none => exact h.elim
  | some a => exact ⟨a, rfl, h⟩

/-! ### data -/
mutual
def D.toPy : D → Option PyData
  | .non => some .none
  | .bl b => some (.bool b)
  | .int i => some (.int i)
  | .str x => some (.str x)
  | .tup xs => (D.toPys xs).map .tuple
  | .lst xs => (D.toPys xs).map .list
  | .dic _ _ _ => none
  | .set _ => none
  | .scr _ => none
  | .cell _ => none
def D.toPys : List D → Option (List PyData)
  | [] => some []
  | x :: xs => match D.toPy x, D.toPys xs with
    | some p, some ps => some (p :: ps)
    | _, _ => none
end
mutual
/-- data with dicts of plain keys in it, for repr -/
def D.toPyR : D → Option PyData
  | .non => some .none
  | .bl b => some (.bool b)
  | .int i => some (.int i)
  | .str x => some (.str x)
  | .tup xs => (D.toPysR xs).map .tuple
  | .lst xs => (D.toPysR xs).map .list
  | .dic false ks vs => match D.toPysR ks, D.toPysR vs with
    | some p, some q => some (.dict (p.zip q))
    | _, _ => none
  | _ => none
def D.toPysR : List D → Option (List PyData)
  | [] => some []
  | x :: xs => match D.toPyR x, D.toPysR xs with
    | some p, some ps => some (p :: ps)
    | _, _ => none
end
/-- what stands behind a value: a mutable object's content -/
def deref (m : Mu) : D → Option D
  | .cell k => (m[k]?).join
  | d => some d
/-- the items of a list or tuple -/
def seqOf (m : Mu) (d : D) : Option (List D) := match deref m d with
  | some (.lst xs) => some xs
  | some (.tup xs) => some xs
  | _ => none
/-- the data behind a value -/
def pyOf (m : Mu) (d : D) : Option PyData := (deref m d).bind fun d => match d.toPy with
  | some p => if SeqAt.shaped p = true then some p else none
  | none => none

def truD (m : Mu) (d : D) : Option Bool := match deref m d with
  | some .non => some false
  | some (.bl b) => some b
  | some (.int i) => some (i != 0)
  | some (.str x) => if x.length ≤ 16777216 then some ((x.length : Int) != 0) else none
  | some (.tup xs) => some (!xs.isEmpty)
  | some (.lst xs) => some (!xs.isEmpty)
  | some (.dic false ks _) => some (!ks.isEmpty)
  | _ => none

/-! ### operators -/
inductive Bop where
  | add | sub | mul | mod | fdiv | pow
  deriving DecidableEq
def Bop.op : Bop → Operator
  | .add => .Add
  | .sub => .Sub
  | .mul => .Mult
  | .mod => .Mod
  | .fdiv => .FloorDiv
  | .pow => .Pow
/-- bounded by 2 ^ 64 -/
def small64 (i : Int) : Bool := decide (-18446744073709551616 < i) && decide (i < 18446744073709551616)
def lim (xs : List D) : Bool := decide (xs.length ≤ 16777216)

def binD (m : Mu) (op : Bop) (a b : D) : Option D := match op, a, b with
  | .add, .int i, .int j => some (.int (i + j))
  | .sub, .int i, .int j => some (.int (i - j))
  | .mul, .int i, .int j => if small64 i || small64 j then some (.int (i * j)) else none
  | .mod, .int i, .int j => if 0 < j then some (.int (i % j)) else none
  | .fdiv, .int i, .int j => if 0 < j ∧ j < 1073741824 then some (.int (i / j)) else none
  | .pow, .int i, .int j => if 0 ≤ j ∧ (Builtin.Int.intBits i : Int) * j ≤ 134217728 then some (.int (i ^ j.toNat)) else none
  | .add, .str x, .str y => if x.length + y.length ≤ 16777216 then some (.str (x ++ y)) else none
  | .add, .tup xs, .tup ys => if lim (xs ++ ys) then some (.tup (xs ++ ys)) else none
  | .add, a, b => match deref m a, deref m b with
    | some (.lst xs), some (.lst ys) => if lim (xs ++ ys) then some (.lst (xs ++ ys)) else none
    | _, _ => none
  | .mul, a, .int k => match deref m a with
    | some (.lst xs) => if -9223372036854775808 ≤ k ∧ k < 9223372036854775808 ∧ xs.length * k.toNat ≤ 16777216 then some (.lst (List.replicate k.toNat xs).flatten) else none
    | _ => none
  | _, _, _ => none

inductive Cop where
  | eq | ne | lt | le | gt | ge | is | isNot | mem | notMem
  deriving DecidableEq
def Cop.op : Cop → CmpOp
  | .eq => .Eq
  | .ne => .NotEq
  | .lt => .Lt
  | .le => .LtE
  | .gt => .Gt
  | .ge => .GtE
  | .is => .Is
  | .isNot => .IsNot
  | .mem => .In
  | .notMem => .NotIn

/-- x == y -/
def eqD (m : Mu) (a b : D) : Option Bool := match pyOf m a, pyOf m b with
  | some p, some q => some (PyData.eqv p q)
  | _, _ => none
/-- x is y: for None, True, False -/
def isD (a b : D) : Option Bool := match a, b with
  | a, .non => match a with
    | .non => some true
    | .set _ => none
    | _ => some false
  | .bl x, .bl y => some (decide (x = y))
  | _, _ => none
/-- keys: ints, texts, tuples of these -/
def flatKey : D → Bool
  | .int _ => true
  | .str _ => true
  | _ => false
def isKey (t : Bool) (d : D) : Bool := if t = true then (match d with | .tup xs => xs.all flatKey | _ => false) else flatKey d
def keqF : D → D → Bool
  | .int i, .int j => decide (i = j)
  | .str x, .str y => decide (x = y)
  | _, _ => false
def keqFs : List D → List D → Bool
  | [], [] => true
  | x :: xs, y :: ys => keqF x y && keqFs xs ys
  | _, _ => false
def keq : D → D → Bool
  | .tup xs, .tup ys => keqFs xs ys
  | x, y => keqF x y
def lookD : List D → List D → D → Option D
  | k :: ks, v :: vs, y => if keq k y = true then some v else lookD ks vs y
  | _, _, _ => none
def replD : List D → List D → D → D → List D
  | k :: ks, v :: vs, y, x => (if keq k y = true then x else v) :: replD ks vs y x
  | _, vs, _, _ => vs
def hasD (ks : List D) (y : D) : Bool := ks.any fun k => keq k y
def putD (ks vs : List D) (y x : D) : List D × List D := if hasD ks y = true then (ks, replD ks vs y x) else (ks ++ [y], vs ++ [x])
def strLt (x y : Str) : Bool := decide (x.cps.toList < y.cps.toList)
/-- x in y -/
def memD (m : Mu) (a b : D) : Option Bool := match a, deref m b with
  | .str x, some (.str y) => some (!(Builtin.Str.occurrences y x 0 y.length 1).isEmpty)
  | a, some (.dic t ks vs) => if isKey t a = true then some (hasD ks a) else none
  | a, some (.lst ys) => match pyOf m a, pyOf m (.lst ys) with
    | some p, some (.list qs) => some (qs.any fun q => PyData.eqv q p)
    | _, _ => none
  | a, some (.tup ys) => match pyOf m a, pyOf m (.tup ys) with
    | some p, some (.tuple qs) => some (qs.any fun q => PyData.eqv q p)
    | _, _ => none
  | _, _ => none
/-- x < y, of data of one shape -/
def ltD (m : Mu) (a b : D) : Option Bool := match a, b with
  | .int i, .int j => some (decide (i < j))
  | .str x, .str y => some (strLt x y)
  | .tup xs, .tup ys => match pyOf m (.tup xs), pyOf m (.tup ys) with
    | some p, some q => if PySem.W.alike p q = true then some (PySem.W.dataLt p q) else none
    | _, _ => none
  | _, _ => none
def cmpD (m : Mu) (op : Cop) (a b : D) : Option Bool := match op with
  | .eq => eqD m a b
  | .ne => (eqD m a b).map (!·)
  | .lt => ltD m a b
  | .gt => match a, b with
    | .int i, .int j => some (decide (j < i))
    | _, _ => none
  | .le => match a, b with
    | .int i, .int j => some (decide (i ≤ j))
    | .str x, .str y => some (!strLt y x)
    | _, _ => none
  | .ge => match a, b with
    | .int i, .int j => some (decide (j ≤ i))
    | _, _ => none
  | .is => isD a b
  | .isNot => (isD a b).map (!·)
  | .mem => memD m a b
  | .notMem => (memD m a b).map (!·)

end Mn

namespace Mn
open PySem

/-! ### the language -/
/-- built-in functions -/
inductive Bi where
  | len | int | abs | max | min | list | tuple | set | sorted | all | any | sum | repr | dict | bool
  deriving DecidableEq
/-- built-in classes, for isinstance -/
inductive Ty where
  | int | bool | str | tuple | list | dict
  deriving DecidableEq
/-- methods that read -/
inductive Me where
  | index | get | get2 | append | extend | pop1 | setdefault | items
  deriving DecidableEq
/-- targets -/
inductive Tg where
  | nm (i : Nat)
  | tp (ts : List Tg)
inductive E where
  | lit (c : Const)
  | v (i : Nat)
  | frz (i : Nat)
  | glob (n : Nat)
  | bin (op : Bop) (a b : E)
  | neg (a : E)
  | not (a : E)
  | cmp (op : Cop) (a b : E)
  | chain (op op' : Cop) (a b c : E)
  | and (es : List E)
  | or (es : List E)
  /-- the truth of a value -/
  | tr (e : E)
  | ite (c a b : E)
  | tup (es : List E)
  | lst (es : List E)
  | mk (es : List E)
  | spr (e : E)
  | dic1 (k v : E)
  /-- list(a) as a mutable object -/
  | mkl (a : E)
  /-- sorted(set(a)) -/
  | srt (a : E)
  | mkd (t : Bool)
  | dic0
  | idx (a i : E)
  | slc (a : E) (lo hi : List E)
  | rev (a : E)
  | bi (b : Bi) (es : List E)
  | isi (e : E) (t : Ty)
  /-- isinstance(a, c), a an object of an own exception class, c a class -/
  | isx (a c : E)
  /-- a.f, of such an object -/
  | attr (a : E) (f : Str)
  | fn (n : Nat) (es : List E)
  | me (m : Me) (o : E) (es : List E)
  /-- [elt for tg in it if ifs] -/
  | lc (own : List Nat) (tg : Tg) (it : E) (ifs : List E) (elt : E)
  | lc2 (own own1 : List Nat) (tg : Tg) (it : E) (ifs : List E) (tg1 : Tg) (it1 : E) (ifs1 : List E) (elt : E)
  /-- what a for walks: a value, range, enumerate, zip -/
  | it (e : E)
  | rng1 (a : E)
  | rng2 (a b : E)
  | enum (e : E)
  | zip (a b : E) (strict : Bool)

/-! ### what they compute -/
abbrev Fn := List D → Mu → R D
/-- what the names of the module stand for -/
structure Pg where
  fn : Nat → Fn
  gl : Nat → Option D
def constD : Const → Option D
  | .none => some .non
  | .bool b => some (.bl b)
  | .int i => some (.int i)
  | .str x => some (.str x)
  | _ => none
def negD : D → Option D
  | .int i => some (.int (-i))
  | _ => none
def notD : D → Option D
  | .bl b => some (.bl (!b))
  | _ => none
def varD (i : Nat) : M D := fun e m => match e[i]? with
  | some (some d) => .ok d e m
  | _ => .stuck
/-- the name's mutable object is frozen: from here on a value -/
def frzD (i : Nat) : M D := fun e m => match e[i]? with
  | some (some (.cell k)) => match m[k]? with
    | some (some d) => .ok d (e.set i (some d)) (m.set k none)
    | _ => .stuck
  | some (some d) => .ok d e m
  | _ => .stuck

def idxD (m : Mu) (a i : D) : Option D := match deref m a, i with
  | some (.lst xs), .int i => L2.atI xs i
  | some (.tup xs), .int i => L2.atI xs i
  | some (.scr xs), .int i => L2.atI (xs.map .int) i
  | some (.dic t ks vs), k => if isKey t k = true then lookD ks vs k else none
  | _, _ => none
def sliceD (xs : List D) (lo hi : Option Int) : List D := (xs.drop (HT.sIx xs.length 0 lo)).take (HT.sIx xs.length xs.length hi - HT.sIx xs.length 0 lo)
def optInt : List D → Option (Option Int)
  | [] => some none
  | [.int i] => some (some i)
  | _ => none
def slcI (m : Mu) (a : D) (lo hi : Option Int) : Option D := match deref m a with
    | some (.lst xs) => some (.lst (sliceD xs lo hi))
    | some (.tup xs) => some (.tup (sliceD xs lo hi))
    | some (.scr xs) => some (.lst (sliceD (xs.map .int) lo hi))
    | _ => none
def slcD (m : Mu) (a : D) (lo hi : List D) : Option D := match optInt lo, optInt hi with
  | some lo, some hi => slcI m a lo hi
  | _, _ => none
def revD (m : Mu) (a : D) : Option D := match deref m a with
  | some (.tup xs) => some (.tup xs.reverse)
  | some (.lst xs) => some (.lst xs.reverse)
  | _ => none

def intsOf : List D → Option (List Int)
  | [] => some []
  | .int i :: r => (intsOf r).map (i :: ·)
  | _ :: _ => none
def boolsOf : List D → Option (List Bool)
  | [] => some []
  | .bl b :: r => (boolsOf r).map (b :: ·)
  | _ :: _ => none
def strsOf : List D → Option (List Str)
  | [] => some []
  | .str x :: r => (strsOf r).map (x :: ·)
  | _ :: _ => none
def maxI : Int → List Int → Int
  | a, [] => a
  | a, b :: r => maxI (if b > a then b else a) r
def minI : Int → List Int → Int
  | a, [] => a
  | a, b :: r => minI (if b < a then b else a) r
def isiD (m : Mu) (d : D) (t : Ty) : Option Bool := match deref m d with
  | some .non => some false
  | some (.bl _) => some (decide (t = .bool) || decide (t = .int))
  | some (.int _) => some (decide (t = .int))
  | some (.str _) => some (decide (t = .str))
  | some (.tup _) => some (decide (t = .tuple))
  | some (.lst _) => some (decide (t = .list))
  | some (.dic _ _ _) => some (decide (t = .dict))
  | _ => none

/-- of a class's table: is an object of the class x one of its -/
def lkB : List D → Str → Option Bool
  | .tup [.str y, .bl b] :: r, x => if y = x then some b else lkB r x
  | _, _ => none
/-- own exception objects: .set (.str x :: _); classes: .set [.non, .lst table] -/
def isxD : D → D → Option Bool
  | .set (.str x :: _), .set [.non, .lst tbl] => lkB tbl x
  | _, _ => none
def attrD : D → Str → Option D
  | .set [.str _, .str f, y], g => if f = g then some y else none
  | _, _ => none
def noCell : D → Bool
  | .cell _ => false
  | _ => true
/-- a sorted list of data of one shape -/
def pysOf (m : Mu) : List D → Option (List PyData)
  | [] => some []
  | x :: xs => match pyOf m x, pysOf m xs with
    | some p, some ps => some (p :: ps)
    | _, _ => none
def pyKey (m : Mu) (d : D) : PyData := (pyOf m d).getD .none
def allAlike (ps : List PyData) : Bool := ps.all fun p => (match p with | .none => false | _ => true) && ps.all fun q => PySem.W.alike p q
def sortable (ps : List PyData) : Bool := (ps.all fun p => match p with | .tuple (_ :: _) => true | _ => false) || (ps.all fun p => match p with | .none => false | .tuple _ => false | _ => true)
/-- sorted(xs) -/
def sortD (m : Mu) (xs : List D) : Option (List D) := match pysOf m xs with
  | some ps => if allAlike ps && sortable ps then some (xs.mergeSort fun a b => !PySem.W.dataLt (pyKey m b) (pyKey m a)) else none
  | none => none
/-- the first ones of equal items -/
def dedup (m : Mu) : List D → List D → List D
  | acc, [] => acc
  | acc, x :: r => dedup m (if acc.any fun y => eqD m y x == some true then acc else acc ++ [x]) r


/-- the items of pairs with plain keys -/
def pairsOf : List D → Option (List (D × D))
  | [] => some []
  | .tup [k, v] :: r => if flatKey k = true then (pairsOf r).map ((k, v) :: ·) else none
  | _ => none
def mergeD : List D → List D → List (D × D) → List D × List D
  | ks, vs, [] => (ks, vs)
  | ks, vs, (k, v) :: r => mergeD (putD ks vs k v).1 (putD ks vs k v).2 r
def listD (m : Mu) (d : D) : Option (List D) := match deref m d with
  | some (.lst xs) => some xs
  | some (.tup xs) => some xs
  | some (.dic false ks _) => some ks
  | _ => none
/-- a list of ints, rising, each once -/
def insI (i : Int) : List Int → List Int
  | [] => [i]
  | j :: r => if i < j then i :: j :: r else if i = j then j :: r else j :: insI i r
def srtI (is : List Int) : List Int := is.foldr insI []
def srtD0 (m : Mu) (d : D) : Option D := match deref m d with
  | some (.lst xs) => match intsOf xs with
    | some is => if is.length < 63 then some (.lst ((srtI is).map .int)) else none
    | none => none
  | _ => none
mutual
/-- a tuple of ints, texts, None and such tuples, as a key -/
def nkD : D → Option NestedKey
  | .non => some .none
  | .int i => some (.num i)
  | .str x => some (.text x)
  | .tup xs => (nkDs xs).map .tup
  | _ => none
def nkDs : List D → Option (List NestedKey)
  | [] => some []
  | x :: xs => match nkD x, nkDs xs with
    | some k, some ks => some (k :: ks)
    | _, _ => none
end
def isTup : D → Bool
  | .tup _ => true
  | _ => false
/-- the first ones of equal keys -/
def dedupK : List D → List D
  | [] => []
  | x :: xs => x :: (dedupK xs).filter fun y => !decide (nkD x = nkD y)
def srtND (m : Mu) (xs : List D) : Option D := match nkDs xs, pysOf m xs with
  | some ks, some ps => if xs.length < 64 ∧ xs.all isTup = true ∧ (ks.all fun k => decide (k.depth ≤ 8)) = true ∧ (allAlike ps && sortable ps) = true then
      some (.lst ((dedupK xs).mergeSort fun a b => !PySem.W.dataLt (pyKey m b) (pyKey m a))) else none
  | _, _ => none
/-- sorted(set(xs)) -/
def srtD (m : Mu) (d : D) : Option D := match deref m d with
  | some (.lst xs) => match srtD0 m d with
    | some r => some r
    | none => srtND m xs
  | _ => none
def dic1D (k v : D) : Option D := if flatKey k = true then some (.dic false [k] [v]) else none
def maxDD (m : Mu) (a : D) : Option D := match seqOf m a with
  | some (x :: r) => match pysOf m (x :: r) with
    | some ps => if allAlike ps = true ∧ SeqAt.shaped (.list ps) = true ∧ (x :: r).all noCell = true then some (r.foldl (fun a y => if PySem.W.dataLt (pyKey m a) (pyKey m y) = true then y else a) x) else none
    | none => none
  | _ => none
def minDD (m : Mu) (a : D) : Option D := match seqOf m a with
  | some (x :: r) => match pysOf m (x :: r) with
    | some ps => if allAlike ps = true ∧ SeqAt.shaped (.list ps) = true ∧ (x :: r).all noCell = true then some (r.foldl (fun a y => if PySem.W.dataLt (pyKey m y) (pyKey m a) = true then y else a) x) else none
    | none => none
  | _ => none
/-- repr of a list with dicts in it -/
def reprX (a : D) : Option D := match a with
  | .lst xs => match D.toPysR xs with
    | some ps => if (PyData.list ps).showable = true ∧ (PyData.list ps).depth ≤ 40 ∧ (PyData.list ps).shown.length ≤ 16777216 then some (.str (PyData.list ps).shown) else none
    | none => none
  | _ => none
def reprD (m : Mu) (a : D) : Option D := match a with
  | .bl b => some (.str (if b then "True" else "False"))
  | .lst _ | .tup _ | .cell _ => match pyOf m a with
    | some p => if p.showable = true ∧ p.hasDict = false ∧ p.shown.length ≤ 16777216 then some (.str p.shown) else none
    | none => reprX a
  | _ => none
def biD (m : Mu) (b : Bi) (ds : List D) : Option D := match b, ds with
  | .len, [a] => match deref m a with
    | some (.lst xs) => some (.int xs.length)
    | some (.tup xs) => some (.int xs.length)
    | some (.scr xs) => some (.int xs.length)
    | some (.dic _ ks _) => some (.int ks.length)
    | some (.str x) => if x.length ≤ 16777216 then some (.int x.length) else none
    | _ => none
  | .int, [.int i] => some (.int i)
  | .int, [.bl b] => some (.int (if b then 1 else 0))
  | .abs, [.int i] => some (.int (if i < 0 then -i else i))
  | .max, [.int i, .int j] => some (.int (if j > i then j else i))
  | .min, [.int i, .int j] => some (.int (if j < i then j else i))
  | .max, [a] => maxDD m a
  | .min, [a] => minDD m a
  | .sorted, [a] => match deref m a with
    | some (.lst xs) => (sortD m xs).map .lst
    | _ => none
  | .dict, [a] => match deref m a with
    | some (.lst xs) => (pairsOf xs).map fun ps => .dic false (mergeD [] [] ps).1 (mergeD [] [] ps).2
    | _ => none
  | .repr, [a] => reprD m a
  | .list, [a] => match deref m a with
    | some (.lst xs) => some (.lst xs)
    | some (.tup xs) => some (.lst xs)
    | some (.dic false ks _) => some (.lst ks)
    | _ => none
  | .tuple, [a] => match deref m a with
    | some (.lst xs) => some (.tup xs)
    | some (.tup xs) => some (.tup xs)
    | _ => none
  | .all, [a] => match deref m a with
    | some (.lst xs) => (boolsOf xs).map fun bs => .bl (bs.all id)
    | _ => none
  | .any, [a] => match deref m a with
    | some (.lst xs) => (boolsOf xs).map fun bs => .bl (bs.any id)
    | _ => none
  | .sum, [a] => match deref m a with
    | some (.lst xs) => (intsOf xs).map fun is => .int is.sum
    | _ => none
  | _, _ => none

/-! ### targets, loops -/
mutual
/-- the slots of a target -/
def Tg.slots : Tg → List Nat
  | .nm i => [i]
  | .tp ts => Tg.slotss ts
def Tg.slotss : List Tg → List Nat
  | [] => []
  | t :: ts => Tg.slots t ++ Tg.slotss ts
end
mutual
def bindTg : Tg → D → Env → Option Env
  | .nm i, d, e => some (e.set i (some d))
  | .tp ts, d, e => match d with
    | .tup xs => bindTgs ts xs e
    | _ => none
def bindTgs : List Tg → List D → Env → Option Env
  | [], [], e => some e
  | t :: ts, d :: ds, e => (bindTg t d e).bind (bindTgs ts ds)
  | _, _, _ => none
end
def wipeE (e : Env) : List Nat → Env
  | [] => e
  | i :: is => (wipeE e is).set i none
/-- a comprehension's turns -/
def lcGo (g : D → Env → Option Env) (t : M Bool) (f : M D) (own : List Nat) : List D → M (List D)
  | [], e, m => .ok [] e m
  | x :: xs, e, m => match g x e with
    | none => .stuck
    | some e1 => (t e1 m).bind fun b e2 m2 =>
      if b = true then (f e2 m2).bind fun y e3 m3 => (lcGo g t f own xs (wipeE e3 own) m3).bind fun ys e4 m4 => .ok (y :: ys) e4 m4
      else lcGo g t f own xs (wipeE e2 own) m2
/-- the turns of a comprehension's outer for: what the inner ones make, one behind the other -/
def lcGo2 (g : D → Env → Option Env) (t : M Bool) (f : M (List D)) (own : List Nat) : List D → M (List D)
  | [], e, m => .ok [] e m
  | x :: xs, e, m => match g x e with
    | none => .stuck
    | some e1 => (t e1 m).bind fun b e2 m2 =>
      if b = true then (f e2 m2).bind fun ys e3 m3 => (lcGo2 g t f own xs (wipeE e3 own) m3).bind fun zs e4 m4 => .ok (ys ++ zs) e4 m4
      else lcGo2 g t f own xs (wipeE e2 own) m2

def rngD : List D → Option (List D)
  | [.int j] => if -4611686018427387904 ≤ j ∧ j < 4611686018427387904 then some ((List.range j.toNat).map fun (i : Nat) => .int (0 + (i : Int))) else none
  | [.int i, .int j] => if -4611686018427387904 ≤ i ∧ i < 4611686018427387904 ∧ -4611686018427387904 ≤ j ∧ j < 4611686018427387904 then some ((List.range (j - i).toNat).map fun (n : Nat) => .int (i + (n : Int))) else none
  | _ => none
/-- the items that a for meets -/
def walkD (m : Mu) (d : D) : Option (List D) := match d with
  | .lst xs => some xs
  | .tup xs => some xs
  | .scr xs => some (xs.map .int)
  | .str x => some (x.cps.toList.map fun c => .str ⟨#[c]⟩)
  | _ => none
def enumD (m : Mu) (d : D) : Option (List D) := match d with
  | .lst xs => some (xs.zipIdx.map fun p => .tup [.int (p.2 : Int), p.1])
  | .tup xs => some (xs.zipIdx.map fun p => .tup [.int (p.2 : Int), p.1])
  | _ => none
def zipD (m : Mu) (a b : D) (strict : Bool) : Option (List D) := match a, b with
  | .lst xs, .lst ys => if strict = true then none else some ((xs.zip ys).map fun p => .tup [p.1, p.2])
  | .tup xs, .tup ys => if strict = true then none else some ((xs.zip ys).map fun p => .tup [p.1, p.2])
  | _, _ => none

/-- the object has the method -/
def meT (m : Mu) (me : Me) (o : D) : Bool := match me, deref m o with
  | .append, some (.lst _) => true
  | .extend, some (.lst _) => true
  | .pop1, some (.lst _) => true
  | .index, some (.lst _) => true
  | .get, some (.dic _ _ _) => true
  | .get2, some (.dic _ _ _) => true
  | .setdefault, some (.dic _ _ _) => true
  | .items, some (.dic _ _ _) => true
  | _, _ => false
/-- the place of the first item that equals x -/
def indexD (p : PyData) : List PyData → Option Nat
  | [] => none
  | q :: r => if PyData.eqv q p = true then some 0 else (indexD p r).map (· + 1)
def appendD (m : Mu) (o : D) (ds : List D) : Option (D × Mu) := match o, ds with
  | .cell k, [x] => match m[k]? with
    | some (some (.lst xs)) => if xs.length < 16777216 then some (.non, m.set k (some (.lst (xs ++ [x])))) else none
    | _ => none
  | _, _ => none
def extendD (m : Mu) (o : D) (ds : List D) : Option (D × Mu) := match o, ds with
  | .cell k, [.lst ys] => match m[k]? with
    | some (some (.lst xs)) => if xs.length + ys.length ≤ 16777216 then some (.non, m.set k (some (.lst (xs ++ ys)))) else none
    | _ => none
  | _, _ => none
def popD (m : Mu) (o : D) (ds : List D) : Option (D × Mu) := match o, ds with
  | .cell k, [.int i] => match m[k]? with
    | some (some (.lst xs)) => if 0 ≤ i ∧ i < xs.length ∧ i < 9223372036854775808 then (xs[i.toNat]?).map fun x => (x, m.set k (some (.lst (xs.eraseIdx i.toNat)))) else none
    | _ => none
  | _, _ => none
def findD (m : Mu) (o : D) (ds : List D) : Option (D × Mu) := match ds with
  | [x] => match pyOf m o, pyOf m x with
    | some (.list qs), some p => (indexD p qs).map fun j => (.int ((j : Nat) : Int), m)
    | _, _ => none
  | _ => none
def setdefD (m : Mu) (o : D) (ds : List D) : Option (D × Mu) := match o, ds with
  | .cell k, [y, x] => match m[k]? with
    | some (some (.dic false ks vs)) => if isKey false y = true ∧ ks.length < 16777216 then
        match lookD ks vs y with
        | some d => some (d, m)
        | none => some (x, m.set k (some (.dic false (ks ++ [y]) (vs ++ [x]))))
      else none
    | _ => none
  | _, _ => none
/-- a method's result and the objects behind it -/
def meD (m : Mu) (me : Me) (o : D) (ds : List D) : Option (D × Mu) := match me with
  | .append => appendD m o ds
  | .extend => extendD m o ds
  | .pop1 => popD m o ds
  | .index => findD m o ds
  | .setdefault => setdefD m o ds
  | _ => none

mutual
def ev (P : Pg) : E → M D
  | .lit c => M.of (constD c)
  | .v i => varD i
  | .frz i => frzD i
  | .glob n => M.of (P.gl n)
  | .bin op a b => (ev P a).bind fun x => (ev P b).bind fun y e m => M.of (binD m op x y) e m
  | .neg a => (ev P a).bind fun x => M.of (negD x)
  | .not a => (ev P a).bind fun x => M.of (notD x)
  | .cmp op a b => (ev P a).bind fun x => (ev P b).bind fun y e m => M.of ((cmpD m op x y).map .bl) e m
  | .chain op op' a b c => (ev P a).bind fun x => (ev P b).bind fun y => M.bind (fun e m => M.of (cmpD m op x y) e m) fun (k : Bool) =>
      if k = true then (ev P c).bind fun z e m => M.of ((cmpD m op' y z).map .bl) e m else M.ret (.bl false)
  | .and es => evAnd P es
  | .or es => evOr P es
  | .ite c a b => (evT P c).bind fun k => if k = true then ev P a else ev P b
  | .tup es => (evs P es).bind fun ds => if lim ds = true then M.ret (.tup ds) else M.of none
  | .lst es => (evs P es).bind fun ds => if lim ds = true then M.ret (.lst ds) else M.of none
  | .mk es => (evs P es).bind fun ds e m => if lim ds = true then .ok (.cell m.length) e (m ++ [some (.lst ds)]) else .stuck
  | .mkd t => fun e m => .ok (.cell m.length) e (m ++ [some (.dic t [] [])])
  | .mkl a => (ev P a).bind fun x e m => match listD m x with
    | some xs => .ok (.cell m.length) e (m ++ [some (.lst xs)])
    | none => .stuck
  | .srt a => (ev P a).bind fun x e m => M.of (srtD m x) e m
  | .dic0 => M.of (some (.dic false [] []))
  | .dic1 a b => (ev P a).bind fun x => (ev P b).bind fun y => M.of (dic1D x y)
  | .idx a i => (ev P a).bind fun x => (ev P i).bind fun y e m => M.of (idxD m x y) e m
  | .slc a lo hi => (ev P a).bind fun x => (evs P lo).bind fun l => (evs P hi).bind fun h e m => M.of (slcD m x l h) e m
  | .rev a => (ev P a).bind fun x e m => M.of (revD m x) e m
  | .bi b es => (evs P es).bind fun ds e m => M.of (biD m b ds) e m
  | .isi a t => (ev P a).bind fun x e m => M.of ((isiD m x t).map .bl) e m
  | .isx a c => (ev P a).bind fun x => (ev P c).bind fun y => M.of ((isxD x y).map .bl)
  | .attr a f => (ev P a).bind fun x => M.of (attrD x f)
  | .fn n es => (evs P es).bind fun ds e m => (P.fn n ds m).bind fun d _ m' => .ok d e m'
  | .me me o es => (ev P o).bind fun x e m => if meT m me x = true then ((evs P es).bind fun ds e m => match meD m me x ds with
      | some (d, m') => .ok d e m'
      | none => .stuck) e m else .stuck
  | .lc own tg it ifs elt => (its P it).bind fun xs e m => (lcGo (bindTg tg) (evAndT P ifs) (ev P elt) own xs (wipeE e own) m).bind fun ys e m => if lim ys = true then .ok (.lst ys) e m else .stuck
  | _ => M.of none
def evs (P : Pg) : List E → M (List D)
  | [] => M.ret []
  | .spr e :: es => (ev P e).bind fun d e m => match seqOf m d with
    | some xs => ((evs P es).bind fun ds => M.ret (xs ++ ds)) e m
    | none => .stuck
  | e :: es => (ev P e).bind fun d => (evs P es).bind fun ds => M.ret (d :: ds)
def evAnd (P : Pg) : List E → M D
  | [] => M.of none
  | e :: es => (ev P e).bind fun x => if es.isEmpty = true then M.ret x else match x with
    | .bl true => evAnd P es
    | .bl false => M.ret (.bl false)
    | _ => M.of none
def evOr (P : Pg) : List E → M D
  | [] => M.of none
  | e :: es => (ev P e).bind fun x => if es.isEmpty = true then M.ret x else match x with
    | .bl false => evOr P es
    | .bl true => M.ret (.bl true)
    | _ => M.of none
/-- as a test -/
def evT (P : Pg) : E → M Bool
  | .not a => (evT P a).bind fun k => M.ret (!k)
  | .and es => evAndT P es
  | .or es => evOrT P es
  | .cmp op a b => (ev P a).bind fun x => (ev P b).bind fun y e m => M.of (cmpD m op x y) e m
  | .chain op op' a b c => (ev P a).bind fun x => (ev P b).bind fun y => M.bind (fun e m => M.of (cmpD m op x y) e m) fun (k : Bool) =>
      if k = true then (ev P c).bind fun z e m => M.of (cmpD m op' y z) e m else M.ret false
  | .tr a => (ev P a).bind fun x e m => M.of (truD m x) e m
  | _ => M.of none
def evAndT (P : Pg) : List E → M Bool
  | [] => M.ret true
  | e :: es => (evT P e).bind fun k => if k = true then evAndT P es else M.ret false
def evOrT (P : Pg) : List E → M Bool
  | [] => M.ret false
  | e :: es => (evT P e).bind fun k => if k = true then M.ret true else evOrT P es
def its (P : Pg) : E → M (List D)
  | .rng1 a => (ev P a).bind fun x => M.of (rngD [x])
  | .rng2 a b => (ev P a).bind fun x => (ev P b).bind fun y => M.of (rngD [x, y])
  | .enum a => (ev P a).bind fun x e m => M.of (enumD m x) e m
  | .zip a b s => (ev P a).bind fun x => (ev P b).bind fun y e m => M.of (zipD m x y s) e m
  | .it a => (ev P a).bind fun x e m => M.of (walkD m x) e m
  | _ => M.of none
end

end Mn

namespace Mn
open PySem

/-! ### statements -/
inductive S where
  | set (tg : Tg) (e : E)
  | par (i j : Nat) (a b : E)
  | par3 (i j k : Nat) (a b c : E)
  /-- x, *ys = e -/
  | star (i j : Nat) (e : E)
  | sidx (o i e : E)
  | aug (i : Nat) (op : Bop) (e : E)
  | ex (e : E)
  | ret (e : E)
  | retN
  | ite (c : E) (a b : List S)
  | for_ (tg : Tg) (it : E) (b : List S)
  /-- a for that forgets some names behind each turn -/
  | forg (vs : List Nat) (tg : Tg) (it : E) (b : List S)
  | wh (n : Nat) (c : E) (b : List S)
  | brk
  | cnt
  | pas
  | never

inductive Fl where
  | nx (e : Env) (m : Mu)
  | rt (d : D) (m : Mu)
  | bk (e : Env) (m : Mu)
  | ct (e : Env) (m : Mu)
  | exc (c : Nat) (vs : List D) (m : Mu)
  | stuck
@[reducible] def R.fl {α : Type} (r : R α) (f : α → Env → Mu → Fl) : Fl :=
  match r with
  | .ok a e m => f a e m
  | .exc c vs m => .exc c vs m
  | .stuck => .stuck
structure FP where
  nx : Env → Mu → Prop
  rt : D → Mu → Prop
  bk : Env → Mu → Prop
  ct : Env → Mu → Prop
  exc : Nat → List D → Mu → Prop
def Fl.Ok (r : Fl) (P : FP) : Prop :=
  match r with
  | .nx e m => P.nx e m
  | .rt d m => P.rt d m
  | .bk e m => P.bk e m
  | .ct e m => P.ct e m
  | .exc c vs m => P.exc c vs m
  | .stuck => False
/-- the turns of a for -/
def forGo (g : D → Env → Option Env) (f : Env → Mu → Fl) : List D → Env → Mu → Fl
  | [], e, m => .nx e m
  | x :: xs, e, m => match g x e with
    | none => .stuck
    | some e1 => match f e1 m with
      | .nx e2 m2 => forGo g f xs e2 m2
      | .ct e2 m2 => forGo g f xs e2 m2
      | .bk e2 m2 => .nx e2 m2
      | r => r
def whGo (t : M Bool) (f : Env → Mu → Fl) : Nat → Env → Mu → Fl
  | 0, _, _ => .stuck
  | n + 1, e, m => (t e m).fl fun b e1 m1 => if b = true then match f e1 m1 with
      | .nx e2 m2 => whGo t f n e2 m2
      | .ct e2 m2 => whGo t f n e2 m2
      | .bk e2 m2 => .nx e2 m2
      | r => r
    else .nx e1 m1
def setAll : List Nat → List D → Env → Option Env
  | [], [], e => some e
  | i :: is, d :: ds, e => setAll is ds (e.set i (some d))
  | _, _, _ => none
/-- o[i] = x on a mutable list -/
def sidxD (m : Mu) (o i x : D) : Option Mu := match o, i with
  | .cell k, .int i => match m[k]? with
    | some (some (.lst xs)) => if 0 ≤ i ∧ i < xs.length then some (m.set k (some (.lst (xs.set i.toNat x)))) else none
    | _ => none
  | _, _ => none
def augD (op : Bop) (x y : D) : Option D := match op, x, y with
  | .add, .int a, .int b => some (.int (a + b))
  | .sub, .int a, .int b => some (.int (a - b))
  | _, _, _ => none
def starD : D → Option (D × List D)
  | .tup (x :: xs) => some (x, xs)
  | _ => none
mutual
/-- all mutable objects in d are below n -/
def below (n : Nat) : D → Bool
  | .tup xs => belows n xs
  | .lst xs => belows n xs
  | .dic _ ks vs => belows n ks && belows n vs
  | .set xs => belows n xs
  | .cell k => decide (k < n)
  | _ => true
def belows (n : Nat) : List D → Bool
  | [] => true
  | x :: xs => below n x && belows n xs
end
def slotsBelow (n : Nat) (e : Env) : Bool := e.all fun c => match c with
  | some d => below n d
  | none => true
/-- what nobody names any more behind a turn is forgotten -/
def gcM (n : Nat) (e : Env) (m : Mu) : Mu :=
  if slotsBelow n e && (m.take n).all (fun c => match c with | some d => below n d | none => true) then m.take n else m
def gcFl (vs : List Nat) (n : Nat) : Fl → Fl
  | .nx e m => .nx (wipeE e vs) (gcM n (wipeE e vs) m)
  | .ct e m => .ct (wipeE e vs) (gcM n (wipeE e vs) m)
  | r => r
mutual
def ex (P : Pg) : S → Env → Mu → Fl
  | .set tg e => fun r m => (ev P e r m).fl fun d r m => match bindTg tg d r with
    | some r => .nx r m
    | none => .stuck
  | .par3 i j k a b c => fun r m => (evs P [a, b, c] r m).fl fun ds r m => match ds with
    | [d1, d2, d3] => .nx (((r.set k (some d3)).set j (some d2)).set i (some d1)) m
    | _ => .stuck
  | .par i j a b => fun r m => (ev P a r m).fl fun d r m => (ev P b r m).fl fun d2 r m => .nx ((r.set i (some d)).set j (some d2)) m
  | .star i j e => fun r m => (ev P e r m).fl fun d r m => match starD d with
    | some (x, xs) => .nx ((r.set i (some x)).set j (some (.lst xs))) m
    | none => .stuck
  | .sidx o i e => fun r m => (ev P e r m).fl fun x r m => (ev P o r m).fl fun y r m => (ev P i r m).fl fun z r m => match sidxD m y z x with
    | some m => .nx r m
    | none => .stuck
  | .aug i op e => fun r m => (varD i r m).fl fun x r m => (ev P e r m).fl fun y r m => match augD op x y with
    | some z => .nx (r.set i (some z)) m
    | none => .stuck
  | .ex e => fun r m => (ev P e r m).fl fun _ r m => .nx r m
  | .ret e => fun r m => (ev P e r m).fl fun d _ m => .rt d m
  | .retN => fun _ m => .rt .non m
  | .ite c a b => fun r m => (evT P c r m).fl fun k r m => if k = true then exs P a r m else exs P b r m
  | .for_ tg it b => fun r m => (its P it r m).fl fun xs r m => forGo (bindTg tg) (exs P b) xs r m
  | .forg vs tg it b => fun r m => (its P it r m).fl fun xs r m => forGo (bindTg tg) (fun r m => gcFl vs m.length (exs P b r m)) xs r m
  | .wh n c b => fun r m => whGo (evT P c) (exs P b) n r m
  | .brk => fun r m => .bk r m
  | .cnt => fun r m => .ct r m
  | .pas => fun r m => .nx r m
  | .never => fun _ _ => .stuck
def exs (P : Pg) : List S → Env → Mu → Fl
  | [] => fun r m => .nx r m
  | s :: ss => fun r m => match ex P s r m with
    | .nx r m => exs P ss r m
    | f => f
end

/-- what a def has made for itself alone is forgotten -/
def trunc (n : Nat) (d : D) (m : Mu) : Mu :=
  if below n d && (m.take n).all (fun c => match c with | some d => below n d | none => true) then m.take n else m
def run (P : Pg) (np ns : Nat) (body : List S) : Fn := fun ds m =>
  if ds.length = np then match exs P body (ds.map some ++ List.replicate (ns - np) none) m with
    | .rt d m' => .ok d [] (trunc m.length d m')
    | .nx _ m' => .ok .non [] (trunc m.length .non m')
    | .exc c vs m' => .exc c vs m'
    | _ => .stuck
  else .stuck

end Mn
end
section
set_option Elab.async false
set_option linter.all false
set_option maxRecDepth 100000
/-! How trees stand in the abstract heap, and the readings of the small language. -/
namespace Mn
open PySem PySem.Spec PyProof.Rows L2

/-! ### the frozen heap -/
/-- what may be read in F may be read in F' -/
structure Le (F F' : Hp) : Prop where
  tup : ∀ a xs, Rd F a (.tup xs) → Rd F' a (.tup xs)
  lst : ∀ a xs, F a = some (.lst xs) → F' a = some (.lst xs)
  scr : ∀ a xs, Rd F a (.lst xs) → Rd F' a (.lst xs)
  dK : ∀ a kvs, F a = some (.dK kvs) → F' a = some (.dK kvs)
  dT : ∀ a kvs, F a = some (.dT kvs) → F' a = some (.dT kvs)
  ext : ∀ a (φ : Heap → Prop), F a = some (.ext φ) → F' a = some (.ext φ)
theorem Le.refl (F : Hp) : Le F F := ⟨fun _ _ h => h, fun _ _ h => h, fun _ _ h => h, fun _ _ h => h, fun _ _ h => h, fun _ _ h => h⟩
theorem Le.trans {F G H : Hp} (a : Le F G) (b : Le G H) : Le F H := ⟨fun _ _ h => b.tup _ _ (a.tup _ _ h), fun _ _ h => b.lst _ _ (a.lst _ _ h), fun _ _ h => b.scr _ _ (a.scr _ _ h), fun _ _ h => b.dK _ _ (a.dK _ _ h), fun _ _ h => b.dT _ _ (a.dT _ _ h), fun _ _ h => b.ext _ _ (a.ext _ _ h)⟩
theorem Le.of {F F' : Hp} (h : ∀ a o, F a = some o → F' a = some o) : Le F F' := by
  have g : ∀ a u, Rd F a u → Rd F' a u := fun a u r => by
    rcases r with r | ⟨o, r⟩
    · exact .inl (h _ _ r)
    · exact .inr ⟨o, h _ _ r⟩
  exact ⟨fun _ _ => g _ _, fun _ _ => h _ _, fun _ _ => g _ _, fun _ _ => h _ _, fun _ _ => h _ _, fun _ _ => h _ _⟩
theorem Le.sqT {K : PySem.W.Frag} {F F' : Hp} (l : Le F F') {a : Addr} {xs : List V} (h : SqT K F a xs) : SqT K F' a xs := h.imp (l.tup a xs) id
theorem Le.sqL {K : PySem.W.Frag} {F F' : Hp} (l : Le F F') {a : Addr} {xs : List V} (h : SqL K F a xs) : SqL K F' a xs := h.imp (l.scr a xs) id
theorem Le.new {F : Hp} {p : Addr} {o : HO} (h : F p = none) : Le F (upd F p o) := Le.of fun a u e => by
  rw [upd_ne (ne_of_none e h)]
  exact e

/-- a key as a tree -/
def kD : Key → D
  | .inl i => .int i
  | .inr x => .str x
/-! ### own exception classes: an object is the tree .set [.str x] (x the class) or .set [.str x, .str f, v] (its one field f); a class is .set [.non, .lst table] -/
def clsXB (K : PySem.W.Frag) (C : Addr) : Bool := (PySem.W.clsIn K C).isSome && (decide (PySem.W.findIn K (.ref C) "__getattribute__" = some (some (.builtin "BaseException.__getattribute__"))) && (decide (PySem.W.findIn K (.ref C) "__getattr__" = some none) &&
  (decide (PySem.W.subIn K (.ref C) (.type "BaseException") = some true) && (decide (PySem.W.findIn K (.ref C) "__class__" = some (some (.builtin "object.__class__"))) && (decide (PySem.W.specialIn K (.builtin "object.__class__") "__get__" = some (some (.builtin "getset_descriptor.__get__"))) &&
  (decide (PySem.W.takesIn K (.builtin "object.__class__") = some true) && (decide (PySem.W.mroIn K C (.type "object") = some true) && PySem.W.hasDictIn K C)))))))
/-- x is an own exception class, at C -/
structure ClsX (K : PySem.W.Frag) (x : Str) (C : Addr) : Prop where
  ns : PySem.W.nsIn K mainGlobals x = some (some (.ref C))
  ok : clsXB K C = true
/-- v is a class, with this table -/
def ClsV (K : PySem.W.Frag) (v : V) (tbl : List D) : Prop := ∃ cv : Value, (∀ u, RelV v u → u = cv) ∧ ∀ x b C, lkB tbl x = some b → PySem.W.nsIn K mainGlobals x = some (some (.ref C)) → PySem.W.kitOne K (.ref C) cv = some b
mutual
/-- the value v is the tree d: al are the addresses of the mutable objects, F the frozen ones -/
inductive Rep (K : PySem.W.Frag) (al : List Addr) (F : Hp) : V → D → Prop
  | non : Rep K al F .non .non
  | bl (b : Bool) : Rep K al F (.bl b) (.bl b)
  | int (i : Int) : Rep K al F (.int i) (.int i)
  | str (x : Str) : Rep K al F (.str x) (.str x)
  | tup {a : Addr} {xs : List V} {ds : List D} : SqT K F a xs → RepL K al F xs ds → Rep K al F (.ref a) (.tup ds)
  | lst {a : Addr} {xs : List V} {ds : List D} : F a = some (.lst xs) → RepL K al F xs ds → Rep K al F (.ref a) (.lst ds)
  | dicK {a : Addr} {kvs : List (Key × V)} {vs : List D} : F a = some (.dK kvs) → RepL K al F (kvs.map fun p => p.2) vs → Rep K al F (.ref a) (.dic false (kvs.map fun p => kD p.1) vs)
  | dicT {a : Addr} {kvs : List (List Key × V)} {vs : List D} : F a = some (.dT kvs) → RepL K al F (kvs.map fun p => p.2) vs → Rep K al F (.ref a) (.dic true (kvs.map fun p => .tup (p.1.map kD)) vs)
  | scr {a : Addr} {ns : List Int} : SqL K F a (ns.map V.int) → Rep K al F (.ref a) (.scr ns)
  | cell {k : Nat} {a : Addr} : al[k]? = some a → Rep K al F (.ref a) (.cell k)
  | exc0 {a C : Addr} {x : Str} : ClsX K x C → F a = some (ExO (.ref C) a) → Rep K al F (.ref a) (.set [.str x])
  | exc1 {a C d : Addr} {x f : Str} {v : V} {y : D} : ClsX K x C → PySem.W.findIn K (.ref C) f = some none → F a = some (exo a C (some d)) → F d = some (exd d [(f, v)]) → Rep K al F v y → Rep K al F (.ref a) (.set [.str x, .str f, y])
  | clsV {v : V} {tbl : List D} : ClsV K v tbl → Rep K al F v (.set [.non, .lst tbl])
inductive RepL (K : PySem.W.Frag) (al : List Addr) (F : Hp) : List V → List D → Prop
  | nil : RepL K al F [] []
  | cons {v : V} {vs : List V} {d : D} {ds : List D} : Rep K al F v d → RepL K al F vs ds → RepL K al F (v :: vs) (d :: ds)
end
def Pre (al al' : List Addr) : Prop := ∀ (k : Nat) (a : Addr), al[k]? = some a → al'[k]? = some a
theorem Pre.refl (al : List Addr) : Pre al al := fun _ _ h => h
theorem Pre.trans {a b c : List Addr} (h : Pre a b) (g : Pre b c) : Pre a c := fun k x e => g k x (h k x e)
theorem Pre.app (al r : List Addr) : Pre al (al ++ r) := fun k a h => by
  have hk : k < al.length := (List.getElem?_eq_some_iff.mp h).1
  rw [List.getElem?_append_left hk]
  exact h
mutual
theorem Rep.mono {K : PySem.W.Frag} {al al' : List Addr} {F F' : Hp} (hp : Pre al al') (hl : Le F F') : ∀ {d : D} {v : V}, Rep K al F v d → Rep K al' F' v d
  | .non, _, r => by cases r; exact .non
  | .bl _, _, r => by cases r; exact .bl _
  | .int _, _, r => by cases r; exact .int _
  | .str _, _, r => by cases r; exact .str _
  | .tup ds, _, r => by
    cases r with
    | tup h1 h2 => exact .tup (hl.sqT h1) (RepL.mono hp hl h2)
  | .lst ds, _, r => by
    cases r with
    | lst h1 h2 => exact .lst (hl.lst _ _ h1) (RepL.mono hp hl h2)
  | .dic _ _ vs, _, r => by
    cases r with
    | dicK h1 h2 => exact .dicK (hl.dK _ _ h1) (RepL.mono hp hl h2)
    | dicT h1 h2 => exact .dicT (hl.dT _ _ h1) (RepL.mono hp hl h2)
  | .set _, _, r => by
    cases r with
    | exc0 h1 h2 => exact .exc0 h1 (hl.ext _ _ h2)
    | exc1 h1 h2 h3 h4 h5 => exact .exc1 h1 h2 (hl.ext _ _ h3) (hl.ext _ _ h4) (Rep.mono hp hl h5)
    | clsV h => exact .clsV h
  | .scr _, _, r => by
    cases r with
    | scr h => exact .scr (hl.sqL h)
  | .cell _, _, r => by
    cases r with
    | cell h => exact .cell (hp _ _ h)
theorem RepL.mono {K : PySem.W.Frag} {al al' : List Addr} {F F' : Hp} (hp : Pre al al') (hl : Le F F') : ∀ {ds : List D} {vs : List V}, RepL K al F vs ds → RepL K al' F' vs ds
  | [], _, r => by cases r; exact .nil
  | d :: ds, _, r => by
    cases r with
    | cons h1 h2 => exact .cons (Rep.mono hp hl h1) (RepL.mono hp hl h2)
end
theorem RepL.length {K : PySem.W.Frag} {al : List Addr} {F : Hp} : ∀ {ds : List D} {vs : List V}, RepL K al F vs ds → vs.length = ds.length
  | [], _, r => by cases r; rfl
  | _ :: _, _, r => by
    cases r with
    | cons _ h => rw [List.length_cons, List.length_cons, RepL.length h]
theorem RepL.get {K : PySem.W.Frag} {al : List Addr} {F : Hp} : ∀ {ds : List D} {vs : List V} {i : Nat} {d : D}, RepL K al F vs ds → ds[i]? = some d → ∃ v, vs[i]? = some v ∧ Rep K al F v d
  | [], _, _, _, _, e => by simp at e
  | x :: _, _, 0, d, r, e => by
    cases r with
    | cons h _ =>
      have : x = d := by simpa using e
      subst this
      exact ⟨_, rfl, h⟩
  | _ :: _, _, i + 1, d, r, e => by
    cases r with
    | cons _ h =>
      obtain ⟨v, h1, h2⟩ := RepL.get (i := i) h (by simpa using e)
      exact ⟨v, by simpa using h1, h2⟩
theorem RepL.app {K : PySem.W.Frag} {al : List Addr} {F : Hp} : ∀ {ds es : List D} {vs us : List V}, RepL K al F vs ds → RepL K al F us es → RepL K al F (vs ++ us) (ds ++ es)
  | [], _, _, _, r, q => by cases r; exact q
  | _ :: _, _, _, _, r, q => by
    cases r with
    | cons h1 h2 => exact .cons h1 (RepL.app h2 q)

/-! ### the state -/
/-- what stands at a mutable object -/
inductive ObjR (K : PySem.W.Frag) (al : List Addr) (F H : Hp) (a : Addr) : D → Prop
  | lst {xs : List V} {ds : List D} : H a = some (.lst xs) → RepL K al F xs ds → ObjR K al F H a (.lst ds)
  | dicK {kvs : List (Key × V)} {vs : List D} : H a = some (.dK kvs) → RepL K al F (kvs.map fun p => p.2) vs → ObjR K al F H a (.dic false (kvs.map fun p => kD p.1) vs)
  | dicT {kvs : List (List Key × V)} {vs : List D} : H a = some (.dT kvs) → RepL K al F (kvs.map fun p => p.2) vs → ObjR K al F H a (.dic true (kvs.map fun p => .tup (p.1.map kD)) vs)
structure Core (K : PySem.W.Frag) (H : Hp) (m : Mu) (al : List Addr) (F : Hp) : Prop where
  sub : ∀ a o, F a = some o → H a = some o
  len : al.length = m.length
  nd : al.Nodup
  has : ∀ a ∈ al, ∃ o, H a = some o
  live : ∀ (k : Nat) (a : Addr) (d : D), al[k]? = some a → m[k]? = some (some d) → F a = none ∧ ObjR K al F H a d
def Slots (K : PySem.W.Frag) (σ : L2.St) (e : Env) (al : List Addr) (F : Hp) : Prop := ∀ (i : Nat) (d : D), e[i]? = some (some d) → ∃ v, σ[i]? = some (some v) ∧ Rep K al F v d
structure SR (K : PySem.W.Frag) (σ : L2.St) (H : Hp) (e : Env) (m : Mu) (al : List Addr) (F : Hp) : Prop where
  core : Core K H m al F
  slots : Slots K σ e al F
  len : σ.length = e.length
/-- how the state may grow -/
structure Ex (al : List Addr) (F H : Hp) (al' : List Addr) (F' H' : Hp) : Prop where
  pre : Pre al al'
  le : Le F F'
  keep : ∀ a o, H a = some o → a ∉ al → H' a = some o
  new : ∀ a ∈ al', a ∈ al ∨ H a = none
  nf : ∀ a o, F a = none → a ∉ al → H a = some o → F' a = none
theorem Ex.refl (al : List Addr) (F H : Hp) : Ex al F H al F H := ⟨Pre.refl _, Le.refl _, fun _ _ h _ => h, fun _ h => .inl h, fun _ _ h _ _ => h⟩
theorem Ex.trans {al al1 al2 : List Addr} {F F1 F2 H H1 H2 : Hp} (a : Ex al F H al1 F1 H1) (b : Ex al1 F1 H1 al2 F2 H2) : Ex al F H al2 F2 H2 := by
  have up : ∀ c o, H c = some o → c ∉ al → c ∉ al1 := fun c o h n z => by
    rcases a.new c z with q | q
    · exact n q
    · rw [h] at q; cases q
  refine ⟨a.pre.trans b.pre, a.le.trans b.le, fun c o h n => b.keep c o (a.keep c o h n) (up c o h n), fun c h => ?_, fun c o h n q => b.nf c o (a.nf c o h n q) (up c o q n) (a.keep c o q n)⟩
  rcases b.new c h with q | q
  · exact a.new c q
  · by_cases n : c ∈ al
    · exact .inl n
    · refine .inr ?_
      cases e : H c with
      | none => rfl
      | some o => rw [a.keep c o e n] at q; cases q
theorem Slots.mono {K : PySem.W.Frag} {σ : L2.St} {e : Env} {al al' : List Addr} {F F' : Hp} (s : Slots K σ e al F) (hp : Pre al al') (hl : Le F F') : Slots K σ e al' F' := fun i d h =>
  let ⟨v, h1, h2⟩ := s i d h
  ⟨v, h1, h2.mono hp hl⟩

/-- a name of the module, or a built-in one, as a value -/
def GlV (mg : Str → Option Value) (x : Str) (v : V) : Prop := (∃ u, mg x = some u ∧ RelV v u) ∨ (mg x = none ∧ x ≠ "__name__" ∧ ∃ u, bootBuiltins x = some u ∧ RelV v u)

/-! ### readings -/
/-- how a result stands for a value -/
abbrev RP (α β : Type) := List Addr → Hp → α → β → Prop
abbrev rpD (K : PySem.W.Frag) : RP D V := fun al F d v => Rep K al F v d
abbrev rpL (K : PySem.W.Frag) : RP (List D) (List V) := fun al F d v => RepL K al F v d
abbrev rpB : RP Bool Bool := fun _ _ b c => b = c
/-- what is wanted of a value -/
def FinG {α β : Type} (K : PySem.W.Frag) (rp : RP α β) (σ : L2.St) (al : List Addr) (F H : Hp) (Q : β → Hp → Prop) : α → Env → Mu → Prop := fun d e m =>
  ∀ v H' al' F', SR K σ H' e m al' F' → Ex al F H al' F' H' → rp al' F' d v → Q v H'
abbrev Fin (K : PySem.W.Frag) (σ : L2.St) (al : List Addr) (F H : Hp) (Q : VK) : D → Env → Mu → Prop := FinG K (rpD K) σ al F H Q
/-- no exception leaves (for the time being) -/
def NoE : Nat → List D → Mu → Prop := fun _ _ _ => False
def tG {α β : Type} (K : PySem.W.Frag) (rp : RP α β) (f : M α) : L2.St → Hp → (β → Hp → Prop) → Prop := fun σ H Q => ∃ e m al F, SR K σ H e m al F ∧ (f e m).Ok (FinG K rp σ al F H Q) NoE
abbrev tD (K : PySem.W.Frag) (f : M D) : TE := tG K (rpD K) f
abbrev tDs (K : PySem.W.Frag) (f : M (List D)) : TA := tG K (rpL K) f
abbrev tDT (K : PySem.W.Frag) (f : M Bool) : TT := tG K rpB f
theorem FinG.trans {α β : Type} {K : PySem.W.Frag} {rp : RP α β} {σ : L2.St} {al al1 : List Addr} {F F1 H H1 : Hp} {Q : β → Hp → Prop} (x : Ex al F H al1 F1 H1) {d : α} {e : Env} {m : Mu} (fin : FinG K rp σ al F H Q d e m) : FinG K rp σ al1 F1 H1 Q d e m :=
  fun v H' al' F' sr ex r => fin v H' al' F' sr (x.trans ex) r
/-- what follows a value -/
def tK {α β α' β' : Type} (K : PySem.W.Frag) (rp : RP α β) (rp' : RP α' β') (g : α → M α') (v : β) : L2.St → Hp → (β' → Hp → Prop) → Prop := fun σ H Q => ∃ d e m al F, SR K σ H e m al F ∧ rp al F d v ∧ (g d e m).Ok (FinG K rp' σ al F H Q) NoE
theorem tG_bind {α β α' β' : Type} {K : PySem.W.Frag} {rp : RP α β} {rp' : RP α' β'} {f : M α} {g : α → M α'} {σ : L2.St} {H : Hp} {Q : β' → Hp → Prop} (h : tG K rp' (f.bind g) σ H Q) : tG K rp f σ H (fun v H1 => tK K rp rp' g v σ H1 Q) := by
  obtain ⟨e, m, al, F, sr, ok⟩ := h
  refine ⟨e, m, al, F, sr, (R.Ok.bind ok).mono (fun d e1 m1 ok1 v H1 al1 F1 sr1 ex1 r1 => ?_) fun _ _ _ z => z⟩
  exact ⟨d, e1, m1, al1, F1, sr1, r1, ok1.mono (fun _ _ _ fin => fin.trans ex1) fun _ _ _ z => z⟩
theorem tG_mono {α β : Type} {K : PySem.W.Frag} {rp : RP α β} {f : M α} {σ : L2.St} {H : Hp} {Q Q' : β → Hp → Prop} (h : tG K rp f σ H Q) (hq : ∀ v H1, Q v H1 → Q' v H1) : tG K rp f σ H Q' := by
  obtain ⟨e, m, al, F, sr, ok⟩ := h
  exact ⟨e, m, al, F, sr, ok.mono (fun _ _ _ fin v H' al' F' sr' ex' r' => hq _ _ (fin v H' al' F' sr' ex' r')) fun _ _ _ z => z⟩

theorem _root_.L2.PE.imp {X : Cx} {e : Expr} {t t' : TE} (h : PE X e t) (i : ∀ σ H Q, t' σ H Q → t σ H Q) : PE X e t' := ⟨fun pins s σ H Q I w => h.run pins s σ H Q I (i σ H Q w)⟩
theorem _root_.L2.PT.imp {X : Cx} {e : Expr} {t t' : TT} (h : PT X e t) (i : ∀ σ H Q, t' σ H Q → t σ H Q) : PT X e t' := ⟨fun pins s σ H Q I w => h.run pins s σ H Q I (i σ H Q w)⟩
theorem _root_.L2.PW.imp {X : Cx} {e : Expr} {t t' : TT} (h : PW X e t) (i : ∀ σ H Q, t' σ H Q → t σ H Q) : PW X e t' := ⟨fun wh pins s σ H Q I w => h.run wh pins s σ H Q I (i σ H Q w)⟩
theorem _root_.L2.PA.imp {X : Cx} {e : List Expr} {t t' : TA} (h : PA X e t) (i : ∀ σ H Q, t' σ H Q → t σ H Q) : PA X e t' := ⟨fun pos pins s σ H Q I w => h.run pos pins s σ H Q I (i σ H Q w)⟩
theorem _root_.L2.PS.imp {X : Cx} {e : Stmt} {t t' : TS} (h : PS X e t) (i : ∀ D σ H, t' D σ H → t D σ H) : PS X e t' := ⟨fun pins s σ H D I w => h.run pins s σ H D I (i D σ H w)⟩
theorem _root_.L2.PSs.imp {X : Cx} {e : List Stmt} {t t' : TS} (h : PSs X e t) (i : ∀ D σ H, t' D σ H → t D σ H) : PSs X e t' := ⟨fun pins s σ H D I w => h.run pins s σ H D I (i D σ H w)⟩
theorem _root_.L2.PI.imp {X : Cx} {tg e : Expr} {t t' : TI} (h : PI X tg e t) (i : ∀ σ H Q, t' σ H Q → t σ H Q) : PI X tg e t' := ⟨fun pins s σ H Q I w => h.run pins s σ H Q I (i σ H Q w)⟩
theorem _root_.L2.PG.imp {X : Cx} {e : Expr} {t t' : TG} (h : PG X e t) (i : ∀ v σ H Q, t' v σ H Q → t v σ H Q) : PG X e t' := ⟨fun pins s σ H v u Q I r w => h.run pins s σ H v u Q I r (i v σ H Q w)⟩

/-- an operator's rule, by trees: what it wants of the values, and what it gives -/
def rD2 (K : PySem.W.Frag) (f : Mu → D → D → Option D) : R2 := fun x y H Q => ∃ σ e m al F a b d, SR K σ H e m al F ∧ Rep K al F x a ∧ Rep K al F y b ∧ f m a b = some d ∧ Fin K σ al F H Q d e m

theorem bin_imp {K : PySem.W.Frag} {f : Mu → D → D → Option D} {g h : M D} {r : R2} (hr : ∀ x y H Q, rD2 K f x y H Q → r x y H Q) :
    ∀ σ H Q, tD K (g.bind fun x => h.bind fun y e m => M.of (f m x y) e m) σ H Q → tOp r (tD K g) (tD K h) σ H Q := by
  rintro σ H Q ⟨e, m, al, F, sr, ok⟩
  refine ⟨e, m, al, F, sr, (R.Ok.bind ok).mono (fun d1 e1 m1 ok1 v1 H1 al1 F1 sr1 ex1 r1 => ?_) fun _ _ _ z => z⟩
  refine ⟨e1, m1, al1, F1, sr1, (R.Ok.bind ok1).mono (fun d2 e2 m2 ok2 v2 H2 al2 F2 sr2 ex2 r2 => ?_) fun _ _ _ z => z⟩
  obtain ⟨d, hd, fin⟩ := R.Ok.of ok2
  exact hr _ _ _ _ ⟨σ, e2, m2, al2, F2, d1, d2, d, sr2, r1.mono ex2.pre ex2.le, r2, hd, fun v H' al' F' sr' ex' r' => fin v H' al' F' sr' (ex1.trans (ex2.trans ex')) r'⟩
end Mn
end
section
set_option Elab.async false
set_option linter.all false
set_option maxRecDepth 100000
/-! Operators over trees. -/
namespace Mn
open PySem PySem.Spec PyProof.Rows L2
variable {K : PySem.W.Frag}

/-! ### new objects -/
section
variable {σ : L2.St} {H : Hp} {e : Env} {m : Mu} {al : List Addr} {F : Hp} {p : Addr} {Q : VK}
theorem rd_sub {F H : Hp} {a : Addr} {u : HO} (sub : ∀ a o, F a = some o → H a = some o) (r : Rd F a u) : Rd H a u := by
  rcases r with r | ⟨o, r⟩
  · exact .inl (sub _ _ r)
  · exact .inr ⟨o, sub _ _ r⟩
theorem sqT_sub {F H : Hp} {a : Addr} {xs : List V} (sub : ∀ a o, F a = some o → H a = some o) (h : SqT K F a xs) : SqT K H a xs := h.imp (rd_sub sub) id
theorem sqL_sub {F H : Hp} {a : Addr} {xs : List V} (sub : ∀ a o, F a = some o → H a = some o) (h : SqL K F a xs) : SqL K H a xs := h.imp (rd_sub sub) id
theorem Core.fresh (c : Core K H m al F) (hp : H p = none) : F p = none := by
  cases q : F p with
  | none => rfl
  | some o => rw [c.sub p o q] at hp; cases hp
mutual
theorem repL_newObj {al : List Addr} {F H : Hp} {a p : Addr} {o : HO} (hF : F p = none) (hp : H p = none) : ∀ {d : D}, ObjR K al F H a d → ObjR K al (upd F p o) (upd H p o) a d
  | _, .lst h1 h2 => .lst (by rw [upd_ne (ne_of_none h1 hp)]; exact h1) (h2.mono (Pre.refl _) (Le.new hF))
  | _, .dicK h1 h2 => .dicK (by rw [upd_ne (ne_of_none h1 hp)]; exact h1) (h2.mono (Pre.refl _) (Le.new hF))
  | _, .dicT h1 h2 => .dicT (by rw [upd_ne (ne_of_none h1 hp)]; exact h1) (h2.mono (Pre.refl _) (Le.new hF))
end
theorem Core.new (c : Core K H m al F) (hp : H p = none) (o : HO) : Core K (upd H p o) m al (upd F p o) := by
  have hF := c.fresh hp
  refine ⟨fun a u h => ?_, c.len, c.nd, fun a h => ?_, fun k a d h1 h2 => ?_⟩
  · by_cases q : a = p
    · subst q; rw [upd_same] at h ⊢; exact h
    · rw [upd_ne q] at h ⊢; exact c.sub a u h
  · obtain ⟨u, hu⟩ := c.has a h
    exact ⟨u, by rw [upd_ne (ne_of_none hu hp)]; exact hu⟩
  · obtain ⟨g1, g2⟩ := c.live k a d h1 h2
    have hne : a ≠ p := by
      cases g2 with
      | lst h _ => exact ne_of_none h hp
      | dicK h _ => exact ne_of_none h hp
      | dicT h _ => exact ne_of_none h hp
    exact ⟨by rw [upd_ne hne]; exact g1, repL_newObj hF hp g2⟩
theorem SR.new (sr : SR K σ H e m al F) (hp : H p = none) (o : HO) : SR K σ (upd H p o) e m al (upd F p o) :=
  ⟨sr.core.new hp o, sr.slots.mono (Pre.refl _) (Le.new (sr.core.fresh hp)), sr.len⟩
theorem Ex.newO (hF : F p = none) (hp : H p = none) (o : HO) : Ex al F H al (upd F p o) (upd H p o) :=
  ⟨Pre.refl _, Le.new hF, fun a u h _ => by rw [upd_ne (ne_of_none h hp)]; exact h, fun _ h => .inl h, fun a u h _ q => by rw [upd_ne (ne_of_none q hp)]; exact h⟩
theorem Fin.val {d : D} {v : V} (fin : Fin K σ al F H Q d e m) (sr : SR K σ H e m al F) (r : Rep K al F v d) : Q v H := fin v H al F sr (Ex.refl _ _ _) r
theorem Fin.newL {ds : List D} {xs : List V} (fin : Fin K σ al F H Q (.lst ds) e m) (sr : SR K σ H e m al F) (r : RepL K al F xs ds) (hp : H p = none) : Q (.ref p) (upd H p (.lst xs)) :=
  fin _ _ _ _ (sr.new hp _) (Ex.newO (sr.core.fresh hp) hp _) (.lst upd_same (r.mono (Pre.refl _) (Le.new (sr.core.fresh hp))))
theorem Fin.newT {ds : List D} {xs : List V} (fin : Fin K σ al F H Q (.tup ds) e m) (sr : SR K σ H e m al F) (r : RepL K al F xs ds) (hp : H p = none) : Q (.ref p) (upd H p (.tup xs)) :=
  fin _ _ _ _ (sr.new hp _) (Ex.newO (sr.core.fresh hp) hp _) (.tup (.inl (.inl upd_same)) (r.mono (Pre.refl _) (Le.new (sr.core.fresh hp))))
end

/-! ### what is behind a value -/
/-- a value, a mutable object seen through -/
inductive Thru (K : PySem.W.Frag) (al : List Addr) (F H : Hp) : V → D → Prop
  | rep {v : V} {d : D} : Rep K al F v d → (∀ k, d ≠ .cell k) → Thru K al F H v d
  | obj {a : Addr} {d : D} : F a = none → ObjR K al F H a d → Thru K al F H (.ref a) d
theorem Core.thru {H : Hp} {m : Mu} {al : List Addr} {F : Hp} (c : Core K H m al F) {v : V} {d d' : D} (r : Rep K al F v d) (h : deref m d = some d') : Thru K al F H v d' := by
  cases d with
  | cell k =>
    cases r with
    | cell ha =>
      have e : m[k]? = some (some d') := by
        have h : (m[k]?).join = some d' := h
        cases q : m[k]? with
        | none => rw [q] at h; cases h
        | some o =>
          rw [q] at h
          cases o with
          | none => cases h
          | some x => cases h; rfl
      obtain ⟨g1, g2⟩ := c.live k _ d' ha e
      exact .obj g1 g2
  | _ =>
    cases h
    exact .rep r (fun k z => nomatch z)
theorem Thru.lst {al : List Addr} {F H : Hp} {v : V} {ds : List D} (sub : ∀ a o, F a = some o → H a = some o) (t : Thru K al F H v (.lst ds)) : ∃ a xs, v = .ref a ∧ H a = some (.lst xs) ∧ RepL K al F xs ds := by
  cases t with
  | rep r _ =>
    cases r with
    | lst h1 h2 => exact ⟨_, _, rfl, sub _ _ h1, h2⟩
  | obj _ o =>
    cases o with
    | lst h1 h2 => exact ⟨_, _, rfl, h1, h2⟩
theorem Thru.tup {al : List Addr} {F H : Hp} {v : V} {ds : List D} (sub : ∀ a o, F a = some o → H a = some o) (t : Thru K al F H v (.tup ds)) : ∃ a xs, v = .ref a ∧ SqT K H a xs ∧ RepL K al F xs ds := by
  cases t with
  | rep r _ =>
    cases r with
    | tup h1 h2 => exact ⟨_, _, rfl, sqT_sub sub h1, h2⟩
  | obj _ o => nomatch o
theorem Thru.scr {al : List Addr} {F H : Hp} {v : V} {ns : List Int} (sub : ∀ a o, F a = some o → H a = some o) (t : Thru K al F H v (.scr ns)) : ∃ a, v = .ref a ∧ SqL K H a (ns.map V.int) := by
  cases t with
  | rep r _ =>
    cases r with
    | scr h1 => exact ⟨_, rfl, sqL_sub sub h1⟩
  | obj _ o => nomatch o
theorem repL_ints {al : List Addr} {F : Hp} : ∀ ns : List Int, RepL K al F (ns.map V.int) (ns.map D.int)
  | [] => .nil
  | _ :: r => .cons (.int _) (repL_ints r)

/-! ### data -/
mutual
theorem dp_of {K : PySem.W.Frag} {al : List Addr} {F H : Hp} (sub : ∀ a o, F a = some o → H a = some o) : ∀ {d : D} {v : V} {p : PyData}, Rep K al F v d → d.toPy = some p → Dp K H v p
  | .non, _, _, r, h => by cases r; cases h; exact .non
  | .bl _, _, _, r, h => by cases r; cases h; exact .bl _
  | .int _, _, _, r, h => by cases r; cases h; exact .int _
  | .str _, _, _, r, h => by cases r; cases h; exact .str _
  | .tup ds, _, _, r, h => by
    rw [D.toPy] at h
    cases r with
    | tup h1 h2 =>
      obtain ⟨ps, hps, rfl⟩ := Option.map_eq_some_iff.mp h
      exact .tup (sqT_sub sub h1) (dps_of sub h2 hps)
  | .lst ds, _, _, r, h => by
    rw [D.toPy] at h
    cases r with
    | lst h1 h2 =>
      obtain ⟨ps, hps, rfl⟩ := Option.map_eq_some_iff.mp h
      exact .lst (SqL.of (sub _ _ h1)) (dps_of sub h2 hps)
  | .dic _ _ _, _, _, _, h => by rw [D.toPy] at h; cases h
  | .set _, _, _, _, h => by rw [D.toPy] at h; cases h
  | .scr _, _, _, _, h => by rw [D.toPy] at h; cases h
  | .cell _, _, _, _, h => by rw [D.toPy] at h; cases h
theorem dps_of {K : PySem.W.Frag} {al : List Addr} {F H : Hp} (sub : ∀ a o, F a = some o → H a = some o) : ∀ {ds : List D} {vs : List V} {ps : List PyData}, RepL K al F vs ds → D.toPys ds = some ps → DpAll K H vs ps
  | [], _, _, r, h => by cases r; cases h; exact .nil
  | d :: ds, _, _, r, h => by
    cases r with
    | cons h1 h2 =>
      rw [D.toPys] at h
      cases q : d.toPy with
      | none => rw [q] at h; cases h
      | some p =>
        cases q' : D.toPys ds with
        | none => rw [q, q'] at h; cases h
        | some ps =>
          rw [q, q'] at h
          cases h
          exact .cons (dp_of sub h1 q) (dps_of sub h2 q')
end
theorem pyOf_spec {m : Mu} {d : D} {p : PyData} (h : pyOf m d = some p) : ∃ d', deref m d = some d' ∧ d'.toPy = some p ∧ SeqAt.shaped p = true := by
  unfold pyOf at h
  cases q : deref m d with
  | none => rw [q] at h; cases h
  | some d' =>
    rw [q] at h
    change (match d'.toPy with | some p => if SeqAt.shaped p = true then some p else none | none => none) = some p at h
    cases q' : d'.toPy with
    | none => rw [q'] at h; cases h
    | some p' =>
      rw [q'] at h
      change (if SeqAt.shaped p' = true then some p' else none) = some p at h
      by_cases z : SeqAt.shaped p' = true
      · rw [if_pos z] at h
        cases h
        exact ⟨d', rfl, q', z⟩
      · rw [if_neg z] at h; cases h
theorem Core.data {K : PySem.W.Frag} {H : Hp} {m : Mu} {al : List Addr} {F : Hp} (c : Core K H m al F) {v : V} {d : D} {p : PyData} (r : Rep K al F v d) (h : pyOf m d = some p) : Dp K H v p ∧ SeqAt.shaped p = true := by
  obtain ⟨d', h1, h2, h3⟩ := pyOf_spec h
  refine ⟨?_, h3⟩
  cases c.thru r h1 with
  | rep r' _ => exact dp_of c.sub r' h2
  | obj _ o =>
    cases o with
    | lst g1 g2 =>
      rw [D.toPy] at h2
      obtain ⟨ps, hps, rfl⟩ := Option.map_eq_some_iff.mp h2
      exact .lst (SqL.of g1) (dps_of c.sub g2 hps)
    | dicK => rw [D.toPy] at h2; cases h2
    | dicT => rw [D.toPy] at h2; cases h2

/-! ### the operators -/
section
variable {X : Cx}
theorem small64_ok {i : Int} (h : small64 i = true) : -(2 ^ 64) < i ∧ i < 2 ^ 64 := by
  unfold small64 at h
  simp only [Bool.and_eq_true, decide_eq_true_eq] at h
  omega
theorem lim_ok {xs : List D} (h : lim xs = true) : xs.length ≤ sizeLine := by
  unfold lim at h
  rw [sizeLine_eq]
  exact of_decide_eq_true h
theorem op_addD : OpR X (binaryOp .Add) (rD2 X.K fun m => binD m .add) := by
  rintro pins s σ H x y v u Q I rx ry ⟨τ, e, m, al, F, a, b, d, sr, ra, rb, hd, fin⟩
  have seqs : ∀ {xs ys : List D}, deref m a = some (.lst xs) → deref m b = some (.lst ys) → (if lim (xs ++ ys) = true then some (D.lst (xs ++ ys)) else none) = some d → wpAny (model X.prog X.w) X.A (binaryOp .Add v u) (EP X pins σ Q) X.xe s := fun {xs ys} ha hb hd => by
    obtain ⟨p, vs, rfl, h1, h2⟩ := (sr.core.thru ra ha).lst sr.core.sub
    obtain ⟨q, us, rfl, g1, g2⟩ := (sr.core.thru rb hb).lst sr.core.sub
    by_cases z : lim (xs ++ ys) = true
    · rw [if_pos z] at hd
      cases hd
      have zl := lim_ok z
      refine op_cat pins s σ H _ _ v u Q I rx ry ⟨p, q, vs, us, rfl, rfl, h1, g1, ?_, fun l hl => fin.newL sr (h2.app g2) hl⟩
      rw [h2.length, g2.length, ← List.length_append]
      exact zl
    · rw [if_neg z] at hd; cases hd
  cases ra with
  | int i =>
    cases rb with
    | int j => cases hd; exact op_add pins s σ H _ _ v u Q I rx ry ⟨i, j, rfl, rfl, fin.val sr (.int _)⟩
    | _ => simp [binD, deref] at hd
  | str i =>
    cases rb with
    | str j =>
      simp only [binD] at hd
      split at hd
      · rename_i hz
        cases hd
        exact op_add_str pins s σ H _ _ v u Q I rx ry ⟨i, j, rfl, rfl, by rw [sizeLine_eq]; exact hz, fin.val sr (.str _)⟩
      · cases hd
    | _ => simp [binD, deref] at hd
  | @tup p vs xs h1 h2 =>
    cases rb with
    | @tup q us ys g1 g2 =>
      simp only [binD] at hd
      split at hd
      · rename_i hz
        cases hd
        have zl := lim_ok hz
        rw [List.length_append] at zl
        have r := h2.app g2
        refine op_catA pins s σ H _ _ v u Q I rx ry ⟨p, q, vs, us, rfl, rfl, sqT_sub sr.core.sub h1, sqT_sub sr.core.sub g1, by rw [h2.length, g2.length]; exact zl, fun e => ?_, fun _ e => ?_, fun _ _ l hl => fin.newT sr r hl⟩
        · subst e
          exact fin.val sr (.tup g1 r)
        · subst e
          refine fin.val sr (.tup h1 ?_)
          simpa using r
      · cases hd
    | _ => simp [binD, deref] at hd
  | lst h1 h2 =>
    cases rb with
    | lst g1 g2 => exact seqs rfl rfl hd
    | @cell k q g =>
      simp only [binD] at hd
      cases z : deref m (.cell k) with
      | none => rw [z] at hd; simp [deref] at hd
      | some w =>
        rw [z] at hd
        cases w with
        | lst ys => exact seqs rfl z hd
        | _ => simp [deref] at hd
    | _ => simp [binD, deref] at hd
  | @cell k q g =>
    simp only [binD] at hd
    cases z : deref m (.cell k) with
    | none => rw [z] at hd; cases b <;> simp at hd
    | some w =>
      rw [z] at hd
      cases w with
      | lst xs =>
        cases z' : deref m b with
        | none => rw [z'] at hd; cases b <;> simp at hd
        | some w' =>
          rw [z'] at hd
          cases w' with
          | lst ys => exact seqs z z' (by cases b <;> simpa using hd)
          | _ => cases b <;> simp at hd
      | _ => cases b <;> simp at hd
  | _ => cases b <;> simp [binD, deref] at hd
theorem op_subD : OpR X (binaryOp .Sub) (rD2 X.K fun m => binD m .sub) := by
  rintro pins s σ H x y v u Q I rx ry ⟨τ, e, m, al, F, a, b, d, sr, ra, rb, hd, fin⟩
  cases ra <;> cases rb <;> first | (simp [binD] at hd; done) | skip
  cases hd
  exact op_sub pins s σ H _ _ v u Q I rx ry ⟨_, _, rfl, rfl, fin.val sr (.int _)⟩
theorem op_modD : OpR X (binaryOp .Mod) (rD2 X.K fun m => binD m .mod) := by
  rintro pins s σ H x y v u Q I rx ry ⟨τ, e, m, al, F, a, b, d, sr, ra, rb, hd, fin⟩
  cases ra <;> cases rb <;> first | (simp [binD] at hd; done) | skip
  simp only [binD] at hd
  split at hd
  · cases hd
    rename_i hz
    exact op_mod pins s σ H _ _ v u Q I rx ry ⟨_, _, rfl, rfl, hz, fin.val sr (.int _)⟩
  · cases hd
theorem op_fdivD : OpR X (binaryOp .FloorDiv) (rD2 X.K fun m => binD m .fdiv) := by
  rintro pins s σ H x y v u Q I rx ry ⟨τ, e, m, al, F, a, b, d, sr, ra, rb, hd, fin⟩
  cases ra <;> cases rb <;> first | (simp [binD] at hd; done) | skip
  simp only [binD] at hd
  split at hd
  · cases hd
    rename_i hz
    exact op_fdiv pins s σ H _ _ v u Q I rx ry ⟨_, _, rfl, rfl, hz, fin.val sr (.int _)⟩
  · cases hd
end
end Mn
end
section
set_option Elab.async false
set_option linter.all false
set_option maxRecDepth 100000
/-! More operators over trees: products, powers, comparisons. -/
namespace Mn
open PySem PySem.Spec PyProof.Rows L2
variable {K : PySem.W.Frag}
section
variable {X : Cx}
theorem op_mulD : OpR X (binaryOp .Mult) (rD2 X.K fun m => binD m .mul) := by
  rintro pins s σ H x y v u Q I rx ry ⟨τ, e, m, al, F, a, b, d, sr, ra, rb, hd, fin⟩
  have reps : ∀ {xs : List D} {k : Int}, deref m a = some (.lst xs) → b = .int k → (if -9223372036854775808 ≤ k ∧ k < 9223372036854775808 ∧ xs.length * k.toNat ≤ 16777216 then some (D.lst (List.replicate k.toNat xs).flatten) else none) = some d →
      wpAny (model X.prog X.w) X.A (binaryOp .Mult v u) (EP X pins σ Q) X.xe s := fun {xs k} ha hb hd2 => by
    subst hb
    cases rb
    obtain ⟨p, vs, rfl, h1, h2⟩ := (sr.core.thru ra ha).lst sr.core.sub
    split at hd2
    · rename_i hz
      cases hd2
      refine op_rep pins s σ H _ _ v u Q I rx ry ⟨p, k, vs, rfl, rfl, h1, by omega, by omega, by rw [sizeLine_eq, h2.length]; exact hz.2.2, fun l hl => fin.newL sr ?_ hl⟩
      have rep : ∀ n : Nat, RepL X.K al F (List.replicate n vs).flatten (List.replicate n xs).flatten := fun n => by
        induction n with
        | zero => exact .nil
        | succ n ih =>
          rw [List.replicate_succ, List.replicate_succ, List.flatten_cons, List.flatten_cons]
          exact h2.app ih
      exact rep _
    · cases hd2
  cases rb with
  | int j =>
    cases ra with
    | int i =>
      simp only [binD] at hd
      split at hd
      · rename_i hz
        cases hd
        refine op_mul pins s σ H _ _ v u Q I rx ry ⟨i, j, rfl, rfl, ?_, fin.val sr (.int _)⟩
        rcases Bool.or_eq_true_iff.mp hz with z | z
        · exact .inl (small64_ok z)
        · exact .inr (small64_ok z)
      · cases hd
    | lst h1 h2 => exact reps rfl rfl hd
    | @cell k p g =>
      simp only [binD] at hd
      cases z : deref m (.cell k) with
      | none => rw [z] at hd; cases hd
      | some w =>
        rw [z] at hd
        cases w with
        | lst xs => exact reps z rfl hd
        | _ => cases hd
    | _ => simp [binD, deref] at hd
  | _ => cases ra <;> simp [binD] at hd
theorem op_powD : OpR X (binaryOp .Pow) (rD2 X.K fun m => binD m .pow) := by
  rintro pins s σ H x y v u Q I rx ry ⟨τ, e, m, al, F, a, b, d, sr, ra, rb, hd, fin⟩
  cases ra <;> cases rb <;> first | (simp [binD] at hd; done) | skip
  simp only [binD] at hd
  split at hd
  · rename_i hz
    cases hd
    obtain ⟨t, rfl⟩ := rx
    obtain ⟨t', rfl⟩ := ry
    exact pow_int hz.1 (by have := hz.2; omega) ⟨.int _, H, I.tok _, ⟨_, rfl⟩, fin.val sr (.int _)⟩
  · cases hd
theorem op_binD : ∀ op : Bop, OpR X (binaryOp op.op) (rD2 X.K fun m => binD m op)
  | .add => op_addD
  | .sub => op_subD
  | .mul => op_mulD
  | .mod => op_modD
  | .fdiv => op_fdivD
  | .pow => op_powD

/-! ### comparisons -/
theorem op_eqDD (hu : X.A.units + 64 < cLine) : OpR X (compareOp .Eq) (rD2 X.K fun m a b => (eqD m a b).map .bl) := by
  rintro pins s σ H x y v u Q I rx ry ⟨τ, e, m, al, F, a, b, d, sr, ra, rb, hd, fin⟩
  obtain ⟨k, hk, rfl⟩ := Option.map_eq_some_iff.mp hd
  unfold eqD at hk
  cases h1 : pyOf m a with
  | none => rw [h1] at hk; cases hk
  | some p =>
    cases h2 : pyOf m b with
    | none => rw [h1, h2] at hk; cases hk
    | some q =>
      rw [h1, h2] at hk
      cases hk
      obtain ⟨d1, s1⟩ := sr.core.data ra h1
      obtain ⟨d2, s2⟩ := sr.core.data rb h2
      exact op_eqD hu pins s σ H x y v u Q I rx ry ⟨p, q, d1, d2, s1, s2, fin.val sr (.bl _)⟩
theorem op_neDD (hu : X.A.units + 64 < cLine) : OpR X (compareOp .NotEq) (rD2 X.K fun m a b => ((eqD m a b).map (!·)).map .bl) := by
  rintro pins s σ H x y v u Q I rx ry ⟨τ, e, m, al, F, a, b, d, sr, ra, rb, hd, fin⟩
  obtain ⟨k', hk', rfl⟩ := Option.map_eq_some_iff.mp hd
  obtain ⟨k, hk, rfl⟩ := Option.map_eq_some_iff.mp hk'
  unfold eqD at hk
  cases h1 : pyOf m a with
  | none => rw [h1] at hk; cases hk
  | some p =>
    cases h2 : pyOf m b with
    | none => rw [h1, h2] at hk; cases hk
    | some q =>
      rw [h1, h2] at hk
      have hk := Option.some.inj hk
      subst hk
      obtain ⟨d1, s1⟩ := sr.core.data ra h1
      obtain ⟨d2, s2⟩ := sr.core.data rb h2
      exact op_neD hu pins s σ H x y v u Q I rx ry ⟨p, q, d1, d2, s1, s2, fin.val sr (.bl _)⟩
theorem op_ltDD (hu : X.A.units + 64 < cLine) : OpR X (compareOp .Lt) (rD2 X.K fun m a b => (ltD m a b).map .bl) := by
  rintro pins s σ H x y v u Q I rx ry ⟨τ, e, m, al, F, a, b, d, sr, ra, rb, hd, fin⟩
  obtain ⟨k, hk, rfl⟩ := Option.map_eq_some_iff.mp hd
  cases ra with
  | int i =>
    cases rb with
    | int j => cases hk; exact op_lt pins s σ H _ _ v u Q I rx ry ⟨i, j, rfl, rfl, fin.val sr (.bl _)⟩
    | _ => simp [ltD] at hk
  | str i =>
    cases rb with
    | str j => cases hk; exact op_lt_str pins s σ H _ _ v u Q I rx ry ⟨i, j, rfl, rfl, fin.val sr (.bl _)⟩
    | _ => simp [ltD] at hk
  | @tup p vs xs h1 h2 =>
    cases rb with
    | @tup q us ys g1 g2 =>
      simp only [ltD] at hk
      cases z1 : pyOf m (.tup xs) with
      | none => rw [z1] at hk; cases hk
      | some p' =>
        cases z2 : pyOf m (.tup ys) with
        | none => rw [z1, z2] at hk; cases hk
        | some q' =>
          rw [z1, z2] at hk
          simp only at hk
          split at hk
          · rename_i hal
            cases hk
            obtain ⟨d1, s1⟩ := sr.core.data (Rep.tup h1 h2) z1
            obtain ⟨d2, s2⟩ := sr.core.data (Rep.tup g1 g2) z2
            obtain ⟨as, r1⟩ := Dp.reads I p' _ v d1 rx
            obtain ⟨bs, r2⟩ := Dp.reads I q' _ u d2 ry
            have hn : p' ≠ .none := by
              obtain ⟨d', e1, e2, _⟩ := pyOf_spec z1
              cases e1
              rw [D.toPy] at e2
              obtain ⟨ps, _, rfl⟩ := Option.map_eq_some_iff.mp e2
              exact fun z => nomatch z
            exact PySem.W.rcLt_alike p' q' X.A s v u as bs r1 r2 hal hn (SeqAt.room_of_shaped s1 hu) X.prog X.w X.xe _ ⟨.bl _, H, I, rfl, fin.val sr (.bl _)⟩
          · cases hk
    | _ => simp [ltD] at hk
  | _ => cases rb <;> simp [ltD] at hk
theorem op_gtDD : OpR X (compareOp .Gt) (rD2 X.K fun m a b => (cmpD m .gt a b).map .bl) := by
  rintro pins s σ H x y v u Q I rx ry ⟨τ, e, m, al, F, a, b, d, sr, ra, rb, hd, fin⟩
  obtain ⟨k, hk, rfl⟩ := Option.map_eq_some_iff.mp hd
  cases ra <;> cases rb <;> first | (simp [cmpD] at hk; done) | skip
  cases hk
  exact op_gt pins s σ H _ _ v u Q I rx ry ⟨_, _, rfl, rfl, fin.val sr (.bl _)⟩
theorem op_geDD : OpR X (compareOp .GtE) (rD2 X.K fun m a b => (cmpD m .ge a b).map .bl) := by
  rintro pins s σ H x y v u Q I rx ry ⟨τ, e, m, al, F, a, b, d, sr, ra, rb, hd, fin⟩
  obtain ⟨k, hk, rfl⟩ := Option.map_eq_some_iff.mp hd
  cases ra <;> cases rb <;> first | (simp [cmpD] at hk; done) | skip
  cases hk
  exact op_ge pins s σ H _ _ v u Q I rx ry ⟨_, _, rfl, rfl, fin.val sr (.bl _)⟩
theorem op_leDD : OpR X (compareOp .LtE) (rD2 X.K fun m a b => (cmpD m .le a b).map .bl) := by
  rintro pins s σ H x y v u Q I rx ry ⟨τ, e, m, al, F, a, b, d, sr, ra, rb, hd, fin⟩
  obtain ⟨k, hk, rfl⟩ := Option.map_eq_some_iff.mp hd
  cases ra <;> cases rb <;> first | (simp [cmpD] at hk; done) | skip
  · cases hk
    exact op_le pins s σ H _ _ v u Q I rx ry ⟨_, _, rfl, rfl, fin.val sr (.bl _)⟩
  · cases hk
    exact op_le_str pins s σ H _ _ v u Q I rx ry ⟨_, _, rfl, rfl, fin.val sr (.bl _)⟩
end
end Mn
end
section
set_option Elab.async false
set_option linter.all false
set_option maxRecDepth 100000
/-! is, in, subscripts over trees. -/
namespace Mn
open PySem PySem.Spec PyProof.Rows L2
variable {K : PySem.W.Frag}

/-! ### dicts -/
theorem keqF_kD (a b : Key) : keqF (kD a) (kD b) = decide (a = b) := by
  cases a <;> cases b <;> simp [kD, keqF]
theorem keqFs_kD : ∀ a b : List Key, keqFs (a.map kD) (b.map kD) = decide (a = b)
  | [], [] => by simp [keqFs]
  | [], _ :: _ => by simp [keqFs]
  | _ :: _, [] => by simp [keqFs]
  | x :: xs, y :: ys => by
    rw [List.map_cons, List.map_cons, keqFs, keqF_kD, keqFs_kD xs ys, ← Bool.decide_and]
    exact decide_eq_decide.mpr ⟨fun h => by rw [h.1, h.2], fun h => ⟨(List.cons.inj h).1, (List.cons.inj h).2⟩⟩
theorem keq_kD (a b : Key) : keq (kD a) (kD b) = decide (a = b) := by
  rw [← keqF_kD]
  cases a <;> cases b <;> rfl
theorem keq_kDT (a b : List Key) : keq (.tup (a.map kD)) (.tup (b.map kD)) = decide (a = b) := keqFs_kD a b
theorem flatKey_of {d : D} (h : flatKey d = true) : ∃ k, d = kD k := by
  cases d with
  | int i => exact ⟨.inl i, rfl⟩
  | str x => exact ⟨.inr x, rfl⟩
  | _ => exact absurd h (by simp [flatKey])
theorem flatKeys_of : ∀ {ds : List D}, ds.all flatKey = true → ∃ ks : List Key, ds = ks.map kD
  | [], _ => ⟨[], rfl⟩
  | d :: ds, h => by
    rw [List.all_cons, Bool.and_eq_true] at h
    obtain ⟨k, rfl⟩ := flatKey_of h.1
    obtain ⟨ks, rfl⟩ := flatKeys_of h.2
    exact ⟨k :: ks, rfl⟩
theorem rep_kD {al : List Addr} {F : Hp} {v : V} {k : Key} (r : Rep K al F v (kD k)) : v = kV k := by
  cases k with
  | inl i => cases r; rfl
  | inr x => cases r; rfl
theorem repL_kD {al : List Addr} {F : Hp} : ∀ {ks : List Key} {vs : List V}, RepL K al F vs (ks.map kD) → vs = ks.map kV
  | [], _, r => by cases r; rfl
  | k :: ks, _, r => by
    cases r with
    | cons h1 h2 => rw [rep_kD h1, repL_kD h2]; rfl
theorem kV_rep {al : List Addr} {F : Hp} (k : Key) : Rep K al F (kV k) (kD k) := by
  cases k with
  | inl i => exact .int i
  | inr x => exact .str x
theorem kVs_rep {al : List Addr} {F : Hp} : ∀ ks : List Key, RepL K al F (ks.map kV) (ks.map kD)
  | [] => .nil
  | k :: ks => .cons (kV_rep k) (kVs_rep ks)
/-- the value at a key, by trees and by values -/
theorem look_val {κ : Type} [DecidableEq κ] {al : List Addr} {F : Hp} (kd : κ → D) (hk : ∀ a b, keq (kd a) (kd b) = decide (a = b)) (k : κ) : ∀ {kvs : List (κ × V)} {vs : List D}, RepL K al F (kvs.map fun p => p.2) vs →
    match lookD (kvs.map fun p => kd p.1) vs (kd k) with
    | some d => ∃ v, valV kvs k = some v ∧ Rep K al F v d
    | none => valV kvs k = none
  | [], _, r => by cases r; exact valV_nil
  | (k', v) :: kvs, _, r => by
    cases r with
    | @cons _ _ d ds h1 h2 =>
      have ih := look_val kd hk k h2
      simp only [List.map_cons, lookD, hk]
      by_cases e : k' = k
      · subst e
        simp only [decide_true, if_true]
        exact ⟨v, valV_pos (p := (k', v)) rfl, h1⟩
      · simp only [decide_eq_false e, Bool.false_eq_true, if_false]
        rw [valV_neg (p := (k', v)) e]
        exact ih
theorem has_val {κ : Type} [DecidableEq κ] (kd : κ → D) (hk : ∀ a b, keq (kd a) (kd b) = decide (a = b)) (k : κ) : ∀ kvs : List (κ × V), hasD (kvs.map fun p => kd p.1) (kd k) = (valV kvs k).isSome
  | [] => rfl
  | (k', v) :: kvs => by
    have ih := has_val kd hk k kvs
    unfold hasD at ih ⊢
    rw [List.map_cons, List.any_cons, hk, ih]
    by_cases e : k' = k
    · rw [valV_pos (p := (k', v)) e, decide_eq_true e]; rfl
    · rw [valV_neg (p := (k', v)) e, decide_eq_false e]; rfl
/-! ### dicts that are read with any tuple as key -/
def DGetS (K : PySem.W.Frag) (H : Hp) (a : Addr) (y : V) (r : Option V) : Prop :=
  (∃ kvs k, Rd H a (.dK kvs) ∧ y = kV k ∧ r = valV kvs k) ∨ ∃ kvs k b, Rd H a (.dT kvs) ∧ y = .ref b ∧ SqT K H b (k.map kV) ∧ r = valV kvs k
section
variable {X : Cx} {pins : List (Addr × Obj)} {σ : L2.St} {H : Hp} {s : Shared} {a : Addr} {y v d : V} {u r : Value} {o : Option V} {A : Around} {E : Value → Shared → Prop}
theorem key_ofS {ks : List Key} (I : Inv X pins σ H s) (e : SqT X.K H a (ks.map kV)) : (tupleKind (mixKind X.prog X.w)).is s.heap ks a := by
  obtain ⟨its, r, ⟨o, h1, h2, n, h3⟩, _⟩ := I.tuple e
  exact ⟨o, its.toArray, n, h1, h2, h3, by simpa using items_are r⟩
theorem dS_typeIs (I : Inv X pins σ H s) (g : DGetS X.K H a y o) : s.TypeIs (.ref a) "dict" := by
  rcases g with ⟨kvs, k, e, _, _⟩ | ⟨kvs, k, b, e, _, _, _⟩
  · obtain ⟨_, _, vs, _, dd⟩ := dk_rd I.hok e
    exact dd.typeIs
  · obtain ⟨_, _, xs, _, dd⟩ := dt_rd I.hok e
    exact dd.typeIs
theorem dS_getItem {Q : Value → Shared → Prop} (hu : A.units + 1 < cLine) (I : Inv X pins σ H s) (g : DGetS X.K H a y (some v)) (ry : RelV y u) (h : ∀ w' s', Inv X pins σ H s' → RelV v w' → Q w' s') :
    wpAny (model X.prog X.w) A (getItem (.ref a) u) Q E s := by
  rcases g with ⟨kvs, k, e, ey, l⟩ | ⟨kvs, k, b, e, ey, eb, l⟩
  · exact d_getItem hu I (.inl ⟨kvs, k, e, ey, l⟩) ry h
  · subst ey
    cases (show u = Value.ref b from ry)
    obtain ⟨z, hd, xs, rel, dd⟩ := dt_rd I.hok e
    obtain ⟨w', hw, rw'⟩ := RelO.some_of (v := v) (o := (atKey xs k).map (·.2)) (by rw [l]; exact rel.val k)
    obtain ⟨p, hp, hp2⟩ := Option.map_eq_some_iff.mp hw
    refine wpAny_getItem_heap (tupleKind_room_in1 hu) (key_ofS I eb) dd hp ?_
    rw [hp2]
    exact h w' _ (I.tok _) rw'
theorem dS_in {Q : Value → Shared → Prop} (hu : A.units + 1 < cLine) (I : Inv X pins σ H s) (g : DGetS X.K H a y o) (ry : RelV y u) (h : ∀ s', Inv X pins σ H s' → Q (.bool o.isSome) s') :
    wpAny (model X.prog X.w) A (compareOp .In u (.ref a)) Q E s := by
  rcases g with ⟨kvs, k, e, ey, l⟩ | ⟨kvs, k, b, e, ey, eb, l⟩
  · exact d_in hu I (.inl ⟨kvs, k, e, ey, l⟩) ry h
  · subst ey
    cases (show u = Value.ref b from ry)
    obtain ⟨z, hd, xs, rel, dd⟩ := dt_rd I.hok e
    refine wpAny_in_heap (tupleKind_room_in1 hu) (key_ofS I eb) hd dd ?_
    have q := (rel.val k).isSome_eq
    rw [Option.isSome_map] at q
    rw [← q, ← l]
    exact h _ (I.tok _)
theorem dS_notIn {Q : Value → Shared → Prop} (hu : A.units + 1 < cLine) (I : Inv X pins σ H s) (g : DGetS X.K H a y o) (ry : RelV y u) (h : ∀ s', Inv X pins σ H s' → Q (.bool (!o.isSome)) s') :
    wpAny (model X.prog X.w) A (compareOp .NotIn u (.ref a)) Q E s := by
  rcases g with ⟨kvs, k, e, ey, l⟩ | ⟨kvs, k, b, e, ey, eb, l⟩
  · exact d_notIn hu I (.inl ⟨kvs, k, e, ey, l⟩) ry h
  · subst ey
    cases (show u = Value.ref b from ry)
    obtain ⟨z, hd, xs, rel, dd⟩ := dt_rd I.hok e
    refine wpAny_notIn_heap (tupleKind_room_in1 hu) (key_ofS I eb) hd dd ?_
    have q := (rel.val k).isSome_eq
    rw [Option.isSome_map] at q
    rw [← q, ← l]
    exact h _ (I.tok _)
end
/-- a dict that is read -/
structure DicAt (K : PySem.W.Frag) (al : List Addr) (F H : Hp) (t : Bool) (ks vs : List D) (a : Addr) : Prop where
  get : ∀ y v, Rep K al F v y → isKey t y = true → ∃ o, DGetS K H a v o ∧ hasD ks y = o.isSome ∧ ∀ d, lookD ks vs y = some d → ∃ x, o = some x ∧ Rep K al F x d
theorem dicAtK {al : List Addr} {F H : Hp} {a : Addr} {kvs : List (Key × V)} {vs : List D} (h : Rd H a (.dK kvs)) (r : RepL K al F (kvs.map fun p => p.2) vs) : DicAt K al F H false (kvs.map fun p => kD p.1) vs a := by
  refine ⟨fun y v rv hy => ?_⟩
  obtain ⟨k, rfl⟩ := flatKey_of (show flatKey y = true from hy)
  have ev := rep_kD rv
  subst ev
  refine ⟨valV kvs k, .inl ⟨kvs, k, h, rfl, rfl⟩, has_val kD keq_kD k kvs, fun d e => ?_⟩
  have q := look_val kD keq_kD k r
  rw [e] at q
  exact q
theorem dicAtT {al : List Addr} {F H : Hp} {a : Addr} {kvs : List (List Key × V)} {vs : List D} (sub : ∀ a o, F a = some o → H a = some o) (h : Rd H a (.dT kvs)) (r : RepL K al F (kvs.map fun p => p.2) vs) :
    DicAt K al F H true (kvs.map fun p => .tup (p.1.map kD)) vs a := by
  refine ⟨fun y v rv hy => ?_⟩
  cases y with
  | tup xs =>
    obtain ⟨k, rfl⟩ := flatKeys_of (show xs.all flatKey = true from hy)
    cases rv with
    | tup h1 h2 =>
      have ev := repL_kD h2
      subst ev
      refine ⟨valV kvs k, .inr ⟨kvs, k, _, h, rfl, sqT_sub sub h1, rfl⟩, has_val (fun k => .tup (k.map kD)) keq_kDT k kvs, fun d e => ?_⟩
      have q := look_val (fun k => .tup (k.map kD)) keq_kDT k r
      rw [e] at q
      exact q
  | _ => exact absurd hy (by simp [isKey])
theorem Thru.dic {al : List Addr} {F H : Hp} {v : V} {t : Bool} {ks vs : List D} (sub : ∀ a o, F a = some o → H a = some o) (h : Thru K al F H v (.dic t ks vs)) : ∃ a, v = .ref a ∧ DicAt K al F H t ks vs a := by
  cases h with
  | rep r _ =>
    cases r with
    | dicK h1 h2 => exact ⟨_, rfl, dicAtK (.inl (sub _ _ h1)) h2⟩
    | dicT h1 h2 => exact ⟨_, rfl, dicAtT sub (.inl (sub _ _ h1)) h2⟩
  | obj _ o =>
    cases o with
    | dicK h1 h2 => exact ⟨_, rfl, dicAtK (.inl h1) h2⟩
    | dicT h1 h2 => exact ⟨_, rfl, dicAtT sub (.inl h1) h2⟩

section
variable {X : Cx}
/-! ### is -/
theorem rep_non {al : List Addr} {F : Hp} {v : V} {a : D} {k : Bool} (r : Rep K al F v a) (h : isD a .non = some k) : decide (v = .non) = k := by
  cases r <;> simp_all [isD]
theorem op_isD : OpR X (compareOp .Is) (rD2 X.K fun m a b => (isD a b).map .bl) := by
  rintro pins s σ H x y v u Q I rx ry ⟨τ, e, m, al, F, a, b, d, sr, ra, rb, hd, fin⟩
  obtain ⟨k, hk, rfl⟩ := Option.map_eq_some_iff.mp hd
  cases rb with
  | non => exact op_isN pins s σ H _ _ v u Q I rx ry ⟨rfl, by rw [rep_non ra hk]; exact fin.val sr (.bl _)⟩
  | bl j =>
    cases ra with
    | bl i => cases hk; exact op_isBl pins s σ H _ _ v u Q I rx ry ⟨i, j, rfl, rfl, fin.val sr (.bl _)⟩
    | _ => simp [isD] at hk
  | _ => cases ra <;> simp [isD] at hk
theorem op_isNotD : OpR X (compareOp .IsNot) (rD2 X.K fun m a b => ((isD a b).map (!·)).map .bl) := by
  rintro pins s σ H x y v u Q I rx ry ⟨τ, e, m, al, F, a, b, d, sr, ra, rb, hd, fin⟩
  obtain ⟨k', hk', rfl⟩ := Option.map_eq_some_iff.mp hd
  obtain ⟨k, hk, rfl⟩ := Option.map_eq_some_iff.mp hk'
  cases rb with
  | non => exact op_notN pins s σ H _ _ v u Q I rx ry ⟨rfl, by rw [rep_non ra hk]; exact fin.val sr (.bl _)⟩
  | bl j =>
    cases ra with
    | bl i =>
      have hk := Option.some.inj hk
      subst hk
      exact op_notBl pins s σ H _ _ v u Q I rx ry ⟨i, j, rfl, rfl, fin.val sr (.bl _)⟩
    | _ => simp [isD] at hk
  | _ => cases ra <;> simp [isD] at hk

/-! ### in -/
/-- the rules of in and not in, by the answer -/
theorem op_memAny (hu : X.A.units + 65 < cLine) (neg : Bool) {op : CmpOp} (hop : op = if neg = true then .NotIn else .In) : OpR X (compareOp op) (rD2 X.K fun m a b => ((memD m a b).map fun k => if neg = true then !k else k).map .bl) := by
  rintro pins s σ H x y v u Q I rx ry ⟨τ, e, m, al, F, a, b, d, sr, ra, rb, hd, fin⟩
  obtain ⟨k', hk', rfl⟩ := Option.map_eq_some_iff.mp hd
  obtain ⟨k, hk, rfl⟩ := Option.map_eq_some_iff.mp hk'
  have fin' := fin.val sr (.bl _)
  -- data
  have data : ∀ {p : PyData} {qs : List PyData}, pyOf m a = some p → (∃ c, pyOf m c = some (.list qs) ∧ Dp X.K H y (.list qs)) → k = (qs.any fun z => PyData.eqv z p) → wpAny (model X.prog X.w) X.A (compareOp op v u) (EP X pins σ Q) X.xe s := fun {p qs} h1 ⟨c, h2, d2⟩ ek => by
    obtain ⟨d1, s1⟩ := sr.core.data ra h1
    obtain ⟨_, _, _, s2⟩ := pyOf_spec h2
    subst ek
    cases neg with
    | true => subst hop; exact op_notInD hu pins s σ H x y v u Q I rx ry ⟨p, qs, d1, d2, s1, s2, fin'⟩
    | false => subst hop; exact op_inD hu pins s σ H x y v u Q I rx ry ⟨p, qs, d1, d2, s1, s2, fin'⟩
  unfold memD at hk
  cases z : deref m b with
  | none => rw [z] at hk; cases a <;> simp at hk
  | some b' =>
    rw [z] at hk
    have th := sr.core.thru rb z
    cases b' with
    | str w =>
      cases a with
      | str c =>
        cases th with
        | rep r _ =>
          cases r
          cases ra
          have hk := Option.some.inj hk
          subst hk
          cases neg with
          | true => subst hop; exact op_notin_str pins s σ H _ _ v u Q I rx ry ⟨c, w, rfl, rfl, fin'⟩
          | false => subst hop; exact op_in_str pins s σ H _ _ v u Q I rx ry ⟨c, w, rfl, rfl, fin'⟩
        | obj _ o => nomatch o
      | _ => simp at hk
    | dic t ks vs =>
      have hk : (if isKey t a = true then some (hasD ks a) else none) = some k := by cases a <;> exact hk
      by_cases hkey : isKey t a = true
      · rw [if_pos hkey] at hk
        have hk := Option.some.inj hk
        obtain ⟨p, rfl, da⟩ := th.dic sr.core.sub
        obtain ⟨o, g, ho, _⟩ := da.get a x ra hkey
        have hu1 : X.A.units + 1 < cLine := by omega
        cases (show u = Value.ref p from ry)
        rw [← hk, ho] at fin'
        cases neg with
        | true => subst hop; exact dS_notIn hu1 I g rx fun s3 I3 => ⟨.bl (!o.isSome), H, I3, rfl, fin'⟩
        | false => subst hop; exact dS_in hu1 I g rx fun s3 I3 => ⟨.bl o.isSome, H, I3, rfl, fin'⟩
      · rw [if_neg hkey] at hk; cases hk
    | lst ys =>
      have hk : (match pyOf m a, pyOf m (.lst ys) with | some p, some (.list qs) => some (qs.any fun q => PyData.eqv q p) | _, _ => none) = some k := by cases a <;> exact hk
      cases z1 : pyOf m a with
      | none => rw [z1] at hk; simp at hk
      | some p =>
        cases z2 : pyOf m (.lst ys) with
        | none => rw [z1, z2] at hk; simp at hk
        | some q =>
          rw [z1, z2] at hk
          cases q with
          | list qs =>
            have hk := Option.some.inj hk
            refine data z1 ⟨.lst ys, z2, ?_⟩ hk.symm
            obtain ⟨d', e1, e2, _⟩ := pyOf_spec z2
            cases e1
            rw [D.toPy] at e2
            obtain ⟨ps, hps, e3⟩ := Option.map_eq_some_iff.mp e2
            cases e3
            obtain ⟨p', xs, rfl, g1, g2⟩ := th.lst sr.core.sub
            exact .lst (SqL.of g1) (dps_of sr.core.sub g2 hps)
          | _ => simp at hk
    | tup ys =>
      have hk : (match pyOf m a, pyOf m (.tup ys) with | some p, some (.tuple qs) => some (qs.any fun q => PyData.eqv q p) | _, _ => none) = some k := by cases a <;> exact hk
      cases z1 : pyOf m a with
      | none => rw [z1] at hk; simp at hk
      | some p =>
        cases z2 : pyOf m (.tup ys) with
        | none => rw [z1, z2] at hk; simp at hk
        | some q =>
          rw [z1, z2] at hk
          cases q with
          | tuple qs =>
            have hk := Option.some.inj hk
            obtain ⟨d1, s1⟩ := sr.core.data ra z1
            obtain ⟨d', e1, e2, s2⟩ := pyOf_spec z2
            cases e1
            rw [D.toPy] at e2
            obtain ⟨ps, hps, e3⟩ := Option.map_eq_some_iff.mp e2
            cases e3
            obtain ⟨p', xs, rfl, g1, g2⟩ := th.tup sr.core.sub
            have d2 : Dp X.K H (.ref p') (.tuple qs) := .tup g1 (dps_of sr.core.sub g2 hps)
            obtain ⟨as, r1⟩ := Dp.reads I p x v d1 rx
            obtain ⟨bs, r2⟩ := Dp.reads I (.tuple qs) _ u d2 ry
            subst hk
            cases neg with
            | true => subst hop; exact SeqAt.notIn_tuple_reads r2 r1 (SeqAt.canLay_of_shaped s2) (SeqAt.canLay_of_shaped s1) (room_in_shaped s1 hu) ⟨.bl _, H, I, rfl, fin'⟩
            | false => subst hop; exact SeqAt.in_tuple_reads r2 r1 (SeqAt.canLay_of_shaped s2) (SeqAt.canLay_of_shaped s1) (room_in_shaped s1 hu) ⟨.bl _, H, I, rfl, fin'⟩
          | _ => simp at hk
    | _ => cases a <;> simp at hk
theorem op_inDD (hu : X.A.units + 65 < cLine) : OpR X (compareOp .In) (rD2 X.K fun m a b => (memD m a b).map .bl) := by
  have h := op_memAny (X := X) hu false (op := .In) rfl
  have e : (fun (m : Mu) (a b : D) => (memD m a b).map D.bl) = fun m a b => ((memD m a b).map fun k => if false = true then !k else k).map D.bl := by
    funext m a b
    cases memD m a b <;> rfl
  rw [e]
  exact h
theorem op_notInDD (hu : X.A.units + 65 < cLine) : OpR X (compareOp .NotIn) (rD2 X.K fun m a b => ((memD m a b).map (!·)).map .bl) := by
  have h := op_memAny (X := X) hu true (op := .NotIn) rfl
  have e : (fun (m : Mu) (a b : D) => ((memD m a b).map (!·)).map D.bl) = fun m a b => ((memD m a b).map fun k => if true = true then !k else k).map D.bl := by
    funext m a b
    cases memD m a b <;> rfl
  rw [e]
  exact h
theorem op_cmpD (hu : X.A.units + 65 < cLine) : ∀ op : Cop, OpR X (compareOp op.op) (rD2 X.K fun m a b => (cmpD m op a b).map .bl)
  | .eq => op_eqDD (by omega)
  | .ne => op_neDD (by omega)
  | .lt => op_ltDD (by omega)
  | .le => op_leDD
  | .gt => op_gtDD
  | .ge => op_geDD
  | .is => op_isD
  | .isNot => op_isNotD
  | .mem => op_inDD hu
  | .notMem => op_notInDD hu

/-! ### subscripts -/
theorem RepL.map_get {al : List Addr} {F : Hp} {ds : List D} {vs : List V} {i : Int} {d : D} (r : RepL K al F vs ds) (h : atI ds i = some d) : ∃ v, atI vs i = some v ∧ Rep K al F v d := by
  unfold atI at h ⊢
  rw [r.length]
  cases q : ixN ds.length i with
  | none => rw [q] at h; cases h
  | some j =>
    rw [q] at h
    exact r.get h
theorem ix_idxD (hu : X.A.units + 1 < cLine) : IxR X (rD2 X.K fun m a i => idxD m a i) := by
  rintro value slice pins s σ H x y v u Q I rx ry ⟨τ, e, m, al, F, a, i, d, sr, ra, ri, hd, fin⟩ hs
  have hd : idxD m a i = some d := hd
  unfold idxD at hd
  cases z : deref m a with
  | none => rw [z] at hd; simp at hd
  | some a' =>
    rw [z] at hd
    have th := sr.core.thru ra z
    cases a' with
    | lst xs =>
      cases i with
      | int i =>
        cases ri
        obtain ⟨p, vs, rfl, h1, h2⟩ := th.lst sr.core.sub
        obtain ⟨w, hw, rw'⟩ := h2.map_get hd
        exact ix_list value slice pins s σ H _ _ v u Q I rx ry ⟨p, vs, i, w, rfl, rfl, SqL.of h1, hw, fin.val sr rw'⟩ hs
      | _ => simp at hd
    | tup xs =>
      cases i with
      | int i =>
        cases ri
        obtain ⟨p, vs, rfl, h1, h2⟩ := th.tup sr.core.sub
        obtain ⟨w, hw, rw'⟩ := h2.map_get hd
        exact ix_tup value slice pins s σ H _ _ v u Q I rx ry ⟨p, vs, i, w, rfl, rfl, h1, hw, fin.val sr rw'⟩ hs
      | _ => simp at hd
    | scr ns =>
      cases i with
      | int i =>
        cases ri
        obtain ⟨p, rfl, h1⟩ := th.scr sr.core.sub
        obtain ⟨w, hw, rw'⟩ := (repL_ints (al := al) (F := F) ns).map_get hd
        exact ix_list value slice pins s σ H _ _ v u Q I rx ry ⟨p, _, i, w, rfl, rfl, h1, hw, fin.val sr rw'⟩ hs
      | _ => simp at hd
    | dic t ks vs =>
      have hd : (if isKey t i = true then lookD ks vs i else none) = some d := hd
      by_cases hkey : isKey t i = true
      · rw [if_pos hkey] at hd
        obtain ⟨p, rfl, da⟩ := th.dic sr.core.sub
        obtain ⟨o, g, _, hg⟩ := da.get i y ri hkey
        obtain ⟨w, rfl, rw'⟩ := hg d hd
        cases (show v = Value.ref p from rx)
        exact tail_any (dS_typeIs I g) PySem.F.slot_dict_getitem.lookup (dS_getItem hu I g ry fun w' s3 I3 rw2 => ⟨w, H, I3, rw2, fin.val sr rw'⟩) hs
      · rw [if_neg hkey] at hd; cases hd
    | _ => simp at hd
end
end Mn
end
section
set_option Elab.async false
set_option linter.all false
set_option maxRecDepth 100000
/-! Built-in calls, slices, truth over trees. -/
namespace Mn
open PySem PySem.Spec PyProof.Rows L2
variable {K : PySem.W.Frag}

theorem RepL.unmapI {al : List Addr} {F : Hp} : ∀ {ds : List D} {vs : List V} {is : List Int}, RepL K al F vs ds → intsOf ds = some is → vs = is.map V.int
  | [], _, _, r, h => by cases r; cases h; rfl
  | d :: ds, _, _, r, h => by
    cases r with
    | cons h1 h2 =>
      cases d with
      | int i =>
        rw [intsOf] at h
        obtain ⟨js, hj, rfl⟩ := Option.map_eq_some_iff.mp h
        cases h1
        rw [RepL.unmapI h2 hj]; rfl
      | _ => simp [intsOf] at h
theorem RepL.unmapB {al : List Addr} {F : Hp} : ∀ {ds : List D} {vs : List V} {is : List Bool}, RepL K al F vs ds → boolsOf ds = some is → vs = is.map V.bl
  | [], _, _, r, h => by cases r; cases h; rfl
  | d :: ds, _, _, r, h => by
    cases r with
    | cons h1 h2 =>
      cases d with
      | bl i =>
        rw [boolsOf] at h
        obtain ⟨js, hj, rfl⟩ := Option.map_eq_some_iff.mp h
        cases h1
        rw [RepL.unmapB h2 hj]; rfl
      | _ => simp [boolsOf] at h
theorem RepL.nilv {al : List Addr} {F : Hp} {vs : List V} {ds : List D} (r : RepL K al F vs ds) : vs.isEmpty = ds.isEmpty := by
  cases r <;> rfl
theorem RepL.take {al : List Addr} {F : Hp} : ∀ {ds : List D} {vs : List V} (n : Nat), RepL K al F vs ds → RepL K al F (vs.take n) (ds.take n)
  | [], _, n, r => by cases r; simpa using RepL.nil
  | d :: ds, _, 0, r => by simpa using RepL.nil
  | d :: ds, _, n + 1, r => by
    cases r with
    | cons h1 h2 => exact .cons h1 (RepL.take n h2)
theorem RepL.drop {al : List Addr} {F : Hp} : ∀ {ds : List D} {vs : List V} (n : Nat), RepL K al F vs ds → RepL K al F (vs.drop n) (ds.drop n)
  | [], _, n, r => by cases r; simpa using RepL.nil
  | d :: ds, _, 0, r => r
  | d :: ds, _, n + 1, r => by
    cases r with
    | cons h1 h2 => exact RepL.drop n h2

/-- a mutable object's dict, or a frozen one's -/
theorem Thru.dicv {al : List Addr} {F H : Hp} {v : V} {t : Bool} {ks vs : List D} (sub : ∀ a o, F a = some o → H a = some o) (h : Thru K al F H v (.dic t ks vs)) :
    (t = false ∧ ∃ a kvs, v = .ref a ∧ H a = some (.dK kvs) ∧ ks = kvs.map (fun p => kD p.1) ∧ RepL K al F (kvs.map fun p => p.2) vs) ∨
    (t = true ∧ ∃ a kvs, v = .ref a ∧ H a = some (.dT kvs) ∧ ks = kvs.map (fun p => .tup (p.1.map kD)) ∧ RepL K al F (kvs.map fun p => p.2) vs) := by
  cases h with
  | rep r _ =>
    cases r with
    | dicK h1 h2 => exact .inl ⟨rfl, _, _, rfl, sub _ _ h1, rfl, h2⟩
    | dicT h1 h2 => exact .inr ⟨rfl, _, _, rfl, sub _ _ h1, rfl, h2⟩
  | obj _ o =>
    cases o with
    | dicK h1 h2 => exact .inl ⟨rfl, _, _, rfl, h1, rfl, h2⟩
    | dicT h1 h2 => exact .inr ⟨rfl, _, _, rfl, h1, rfl, h2⟩
theorem Thru.nonref {al : List Addr} {F H : Hp} {v : V} {d : D} (h : Thru K al F H v d) : (∃ al' F', Rep K al' F' v d) ∨ ∃ a, v = .ref a := by
  cases h with
  | rep r _ => exact .inl ⟨_, _, r⟩
  | obj _ _ => exact .inr ⟨_, rfl⟩

/-! ### truth -/
theorem tru_of {al : List Addr} {F H : Hp} {m : Mu} (c : Core K H m al F) {v : V} {d : D} {k : Bool} (r : Rep K al F v d) (h : truD m d = some k) : TruV K v H k := by
  unfold truD at h
  cases z : deref m d with
  | none => rw [z] at h; cases h
  | some d' =>
    rw [z] at h
    have th := c.thru r z
    cases d' with
    | non => cases th with
      | rep q _ => cases q; cases h; rfl
      | obj _ o => cases o
    | bl b => cases th with
      | rep q _ => cases q; cases h; rfl
      | obj _ o => cases o
    | int i => cases th with
      | rep q _ => cases q; cases h; rfl
      | obj _ o => cases o
    | str x => cases th with
      | rep q _ =>
        cases q
        simp only at h
        split at h
        · rename_i hz
          cases h
          exact ⟨by rw [sizeLine_eq]; exact hz, rfl⟩
        · cases h
      | obj _ o => cases o
    | tup xs =>
      cases h
      obtain ⟨a, vs, rfl, h1, h2⟩ := th.tup c.sub
      exact .inr (.inl ⟨vs, h1, by rw [h2.nilv]⟩)
    | lst xs =>
      cases h
      obtain ⟨a, vs, rfl, h1, h2⟩ := th.lst c.sub
      exact .inl ⟨vs, SqL.of h1, by rw [h2.nilv]⟩
    | dic t ks vs =>
      cases t with
      | true => cases h
      | false =>
        cases h
        rcases th.dicv c.sub with ⟨_, a, kvs, rfl, h1, rfl, h2⟩ | ⟨e, _⟩
        · exact .inr (.inr ⟨kvs, h1, by simp⟩)
        · cases e
    | _ => cases h

/-! ### built-in functions -/
def rBi (K : PySem.W.Frag) (f : Mu → List D → Option D) : List V → Hp → VK → Prop := fun vs H Q => ∃ σ e m al F ds d, SR K σ H e m al F ∧ RepL K al F vs ds ∧ f m ds = some d ∧ Fin K σ al F H Q d e m
theorem bi_imp {f : Mu → List D → Option D} {g : M (List D)} {r : List V → Hp → VK → Prop} (hr : ∀ vs H Q, rBi K f vs H Q → r vs H Q) :
    ∀ σ H Q, tD K (g.bind fun ds e m => M.of (f m ds) e m) σ H Q → tCB r (tDs K g) σ H Q := by
  rintro σ H Q ⟨e, m, al, F, sr, ok⟩
  refine ⟨e, m, al, F, sr, (R.Ok.bind ok).mono (fun ds e1 m1 ok1 vs H1 al1 F1 sr1 ex1 r1 => ?_) fun _ _ _ z => z⟩
  obtain ⟨d, hd, fin⟩ := R.Ok.of ok1
  exact hr _ _ _ ⟨σ, e1, m1, al1, F1, ds, d, sr1, r1, hd, fun v H' al' F' sr' ex' r' => fin v H' al' F' sr' (ex1.trans ex') r'⟩
theorem repL1 {al : List Addr} {F : Hp} {vs : List V} {d : D} (r : RepL K al F vs [d]) : ∃ v, vs = [v] ∧ Rep K al F v d := by
  cases r with
  | cons h t => cases t; exact ⟨_, rfl, h⟩
theorem repL2 {al : List Addr} {F : Hp} {vs : List V} {d d2 : D} (r : RepL K al F vs [d, d2]) : ∃ v v2, vs = [v, v2] ∧ Rep K al F v d ∧ Rep K al F v2 d2 := by
  cases r with
  | cons h t =>
    obtain ⟨v2, rfl, h2⟩ := repL1 t
    exact ⟨_, _, rfl, h, h2⟩
section
variable {X : Cx}
/-- what a built-in's call gives, by the argument's content -/
theorem bi_len : CallR X (.builtin "len") (rBi X.K fun m ds => biD m .len ds) := by
  rintro pins s σ H vs us Q I rs ⟨τ, e, m, al, F, ds, d, sr, r, hd, fin⟩
  have lenv : ∀ {n : Nat} {v : V}, vs = [v] → LenV X.K v H n → d = .int n → wpAny (model X.prog X.w) X.A (call (.builtin "len") us) (EP X pins σ Q) X.xe s := fun {n v} e1 e2 e3 => by
    subst e1 e3
    exact call_len pins s σ H _ us Q I rs ⟨v, n, rfl, e2, fin.val sr (.int _)⟩
  match ds, r, hd with
  | [a], r, hd =>
    obtain ⟨v, rfl, ra⟩ := repL1 r
    simp only [biD] at hd
    cases z : deref m a with
    | none => rw [z] at hd; cases hd
    | some a' =>
      rw [z] at hd
      have th := sr.core.thru ra z
      cases a' with
      | lst xs =>
        cases hd
        obtain ⟨p, ys, rfl, h1, h2⟩ := th.lst sr.core.sub
        exact lenv rfl (.inl ⟨ys, SqL.of h1, h2.length.symm⟩) rfl
      | tup xs =>
        cases hd
        obtain ⟨p, ys, rfl, h1, h2⟩ := th.tup sr.core.sub
        exact lenv rfl (.inr ⟨ys, h1, h2.length.symm⟩) rfl
      | scr xs =>
        cases hd
        obtain ⟨p, rfl, h1⟩ := th.scr sr.core.sub
        exact lenv rfl (.inl ⟨_, h1, (List.length_map ..).symm⟩) rfl
      | dic t ks ws =>
        cases hd
        rcases th.dicv sr.core.sub with ⟨_, p, kvs, rfl, h1, rfl, h2⟩ | ⟨_, p, kvs, rfl, h1, rfl, h2⟩
        · refine call_lenD pins s σ H _ us Q I rs ⟨p, kvs, rfl, h1, ?_⟩
          have := fin.val sr (v := .int kvs.length) (by rw [List.length_map]; exact .int _)
          exact this
        · refine call_len_dT pins s σ H _ us Q I rs ⟨p, kvs, rfl, h1, ?_⟩
          have := fin.val sr (v := .int kvs.length) (by rw [List.length_map]; exact .int _)
          exact this
      | str x =>
        simp only at hd
        split at hd
        · rename_i hz
          cases hd
          cases th with
          | rep q _ => cases q; exact lenv rfl ⟨by rw [sizeLine_eq]; exact hz, rfl⟩ rfl
          | obj _ o => cases o
        · cases hd
      | _ => cases hd
  | [], _, hd => simp [biD] at hd
  | _ :: _ :: _, _, hd => simp [biD] at hd
theorem bi_int : CallR X (.type "int") (rBi X.K fun m ds => biD m .int ds) := by
  rintro pins s σ H vs us Q I rs ⟨τ, e, m, al, F, ds, d, sr, r, hd, fin⟩
  match ds, r, hd with
  | [.int i], r, hd =>
    obtain ⟨v, rfl, ra⟩ := repL1 r
    cases ra; cases hd
    exact call_int1 pins s σ H _ us Q I rs (.inl ⟨i, rfl, fin.val sr (.int _)⟩)
  | [.bl i], r, hd =>
    obtain ⟨v, rfl, ra⟩ := repL1 r
    cases ra; cases hd
    exact call_int1 pins s σ H _ us Q I rs (.inr ⟨i, rfl, fin.val sr (.int _)⟩)
  | [], _, hd => simp [biD] at hd
  | [.non], _, hd => simp [biD] at hd
  | [.str _], _, hd => simp [biD] at hd
  | [.tup _], _, hd => simp [biD] at hd
  | [.lst _], _, hd => simp [biD] at hd
  | [.dic _ _ _], _, hd => simp [biD] at hd
  | [.set _], _, hd => simp [biD] at hd
  | [.scr _], _, hd => simp [biD] at hd
  | [.cell _], _, hd => simp [biD] at hd
  | _ :: _ :: _, _, hd => simp [biD] at hd
theorem bi_abs : CallR X (.builtin "abs") (rBi X.K fun m ds => biD m .abs ds) := by
  rintro pins s σ H vs us Q I rs ⟨τ, e, m, al, F, ds, d, sr, r, hd, fin⟩
  match ds, r, hd with
  | [.int i], r, hd =>
    obtain ⟨v, rfl, ra⟩ := repL1 r
    cases ra; cases hd
    exact call_abs pins s σ H _ us Q I rs ⟨i, rfl, fin.val sr (.int _)⟩
  | [], _, hd => simp [biD] at hd
  | [.bl _], _, hd => simp [biD] at hd
  | [.non], _, hd => simp [biD] at hd
  | [.str _], _, hd => simp [biD] at hd
  | [.tup _], _, hd => simp [biD] at hd
  | [.lst _], _, hd => simp [biD] at hd
  | [.dic _ _ _], _, hd => simp [biD] at hd
  | [.set _], _, hd => simp [biD] at hd
  | [.scr _], _, hd => simp [biD] at hd
  | [.cell _], _, hd => simp [biD] at hd
  | _ :: _ :: _, _, hd => simp [biD] at hd
end
end Mn
end
section
set_option Elab.async false
set_option linter.all false
set_option maxRecDepth 100000
/-! More built-in calls, slices over trees. -/
namespace Mn
open PySem PySem.Spec PyProof.Rows L2
variable {K : PySem.W.Frag}
section
variable {X : Cx}
theorem bi_list (hc : X.calm = true) : CallR X (.type "list") (rBi X.K fun m ds => biD m .list ds) := by
  rintro pins s σ H vs us Q I rs ⟨τ, e, m, al, F, ds, d, sr, r, hd, fin⟩
  match ds, r, hd with
  | [a], r, hd =>
    obtain ⟨v, rfl, ra⟩ := repL1 r
    simp only [biD] at hd
    cases z : deref m a with
    | none => rw [z] at hd; cases hd
    | some a' =>
      rw [z] at hd
      have th := sr.core.thru ra z
      cases a' with
      | lst xs =>
        cases hd
        obtain ⟨p, ys, rfl, h1, h2⟩ := th.lst sr.core.sub
        exact call_list_of pins s σ H _ us Q I rs ⟨p, ys, rfl, .inl (SqL.of h1), fun l hl => fin.newL sr h2 hl⟩
      | tup xs =>
        cases hd
        obtain ⟨p, ys, rfl, h1, h2⟩ := th.tup sr.core.sub
        exact call_list_of pins s σ H _ us Q I rs ⟨p, ys, rfl, .inr h1, fun l hl => fin.newL sr h2 hl⟩
      | dic t ks ws =>
        cases t with
        | true => cases hd
        | false =>
          cases hd
          rcases th.dicv sr.core.sub with ⟨_, p, kvs, rfl, h1, rfl, h2⟩ | ⟨e, _⟩
          · refine call_list_dK hc pins s σ H _ us Q I rs ⟨p, kvs, rfl, h1, fun l hl => fin.newL sr ?_ hl⟩
            have := kVs_rep (K := X.K) (al := al) (F := F) (kvs.map fun p => p.1)
            rw [List.map_map, List.map_map] at this
            exact this
          · cases e
      | _ => cases hd
  | [], _, hd => simp [biD] at hd
  | _ :: _ :: _, _, hd => simp [biD] at hd
theorem bi_tuple : CallR X (.type "tuple") (rBi X.K fun m ds => biD m .tuple ds) := by
  rintro pins s σ H vs us Q I rs ⟨τ, e, m, al, F, ds, d, sr, r, hd, fin⟩
  match ds, r, hd with
  | [a], r, hd =>
    obtain ⟨v, rfl, ra⟩ := repL1 r
    simp only [biD] at hd
    cases z : deref m a with
    | none => rw [z] at hd; cases hd
    | some a' =>
      rw [z] at hd
      have th := sr.core.thru ra z
      cases a' with
      | lst xs =>
        cases hd
        obtain ⟨p, ys, rfl, h1, h2⟩ := th.lst sr.core.sub
        exact call_tuple_of pins s σ H _ us Q I rs ⟨p, ys, rfl, .inl ⟨SqL.of h1, fun l hl => fin.newT sr h2 hl⟩⟩
      | tup xs =>
        cases hd
        cases th with
        | rep r' _ =>
          cases r' with
          | tup h1 h2 => exact call_tuple_of pins s σ H _ us Q I rs ⟨_, _, rfl, .inr ⟨sqT_sub sr.core.sub h1, fin.val sr (.tup h1 h2)⟩⟩
        | obj _ o => cases o
      | _ => cases hd
  | [], _, hd => simp [biD] at hd
  | _ :: _ :: _, _, hd => simp [biD] at hd
theorem bi_all (hc : X.calm = true) : CallR X (.builtin "all") (rBi X.K fun m ds => biD m .all ds) := by
  rintro pins s σ H vs us Q I rs ⟨τ, e, m, al, F, ds, d, sr, r, hd, fin⟩
  match ds, r, hd with
  | [a], r, hd =>
    obtain ⟨v, rfl, ra⟩ := repL1 r
    simp only [biD] at hd
    cases z : deref m a with
    | none => rw [z] at hd; cases hd
    | some a' =>
      rw [z] at hd
      have th := sr.core.thru ra z
      cases a' with
      | lst xs =>
        obtain ⟨bs, hb, rfl⟩ := Option.map_eq_some_iff.mp hd
        obtain ⟨p, ys, rfl, h1, h2⟩ := th.lst sr.core.sub
        have e := h2.unmapB hb
        subst e
        exact cr_all hc pins s σ H _ us Q I rs ⟨p, bs, rfl, SqL.of h1, fin.val sr (.bl _)⟩
      | _ => cases hd
  | [], _, hd => simp [biD] at hd
  | _ :: _ :: _, _, hd => simp [biD] at hd
theorem bi_any (hc : X.calm = true) : CallR X (.builtin "any") (rBi X.K fun m ds => biD m .any ds) := by
  rintro pins s σ H vs us Q I rs ⟨τ, e, m, al, F, ds, d, sr, r, hd, fin⟩
  match ds, r, hd with
  | [a], r, hd =>
    obtain ⟨v, rfl, ra⟩ := repL1 r
    simp only [biD] at hd
    cases z : deref m a with
    | none => rw [z] at hd; cases hd
    | some a' =>
      rw [z] at hd
      have th := sr.core.thru ra z
      cases a' with
      | lst xs =>
        obtain ⟨bs, hb, rfl⟩ := Option.map_eq_some_iff.mp hd
        obtain ⟨p, ys, rfl, h1, h2⟩ := th.lst sr.core.sub
        have e := h2.unmapB hb
        subst e
        exact cr_any hc pins s σ H _ us Q I rs ⟨p, bs, rfl, SqL.of h1, fin.val sr (.bl _)⟩
      | _ => cases hd
  | [], _, hd => simp [biD] at hd
  | _ :: _ :: _, _, hd => simp [biD] at hd
theorem bi_sum (hc : X.calm = true) : CallR X (.builtin "sum") (rBi X.K fun m ds => biD m .sum ds) := by
  rintro pins s σ H vs us Q I rs ⟨τ, e, m, al, F, ds, d, sr, r, hd, fin⟩
  match ds, r, hd with
  | [a], r, hd =>
    obtain ⟨v, rfl, ra⟩ := repL1 r
    simp only [biD] at hd
    cases z : deref m a with
    | none => rw [z] at hd; cases hd
    | some a' =>
      rw [z] at hd
      have th := sr.core.thru ra z
      cases a' with
      | lst xs =>
        obtain ⟨bs, hb, rfl⟩ := Option.map_eq_some_iff.mp hd
        obtain ⟨p, ys, rfl, h1, h2⟩ := th.lst sr.core.sub
        have e := h2.unmapI hb
        subst e
        exact cr_sum hc pins s σ H _ us Q I rs ⟨p, bs, rfl, SqL.of h1, fin.val sr (.int _)⟩
      | _ => cases hd
  | [], _, hd => simp [biD] at hd
  | _ :: _ :: _, _, hd => simp [biD] at hd

/-! ### isinstance -/
def Ty.name : Ty → String
  | .int => "int"
  | .bool => "bool"
  | .str => "str"
  | .tuple => "tuple"
  | .list => "list"
  | .dict => "dict"
theorem isi_kit (t : Ty) :
    kitB "NoneType" t.name = some false ∧ kitB "bool" t.name = some (decide (t = .bool) || decide (t = .int)) ∧ kitB "int" t.name = some (decide (t = .int)) ∧ kitB "str" t.name = some (decide (t = .str)) ∧
    kitB "tuple" t.name = some (decide (t = .tuple)) ∧ kitB "list" t.name = some (decide (t = .list)) ∧ kitB "dict" t.name = some (decide (t = .dict)) := by
  cases t <;> decide +kernel
theorem sqT_ty {H : Hp} {a : Addr} {xs : List V} (h : SqT K H a xs) : TyX K H (.ref a) (.type "tuple") := by
  rcases h with (h | ⟨o, h⟩) | ⟨o, its, n, h1, h2, _⟩
  · exact .base (.tup h)
  · exact .fTuple h
  · exact .kTuple h1 h2
theorem call_isiD (t : Ty) : CallR X (.builtin "isinstance") (fun vs H Q => ∃ σ e m al F v a k, vs = [v, .ty t.name] ∧ SR X.K σ H e m al F ∧ Rep X.K al F v a ∧ isiD m a t = some k ∧ Q (.bl k) H) := by
  rintro pins s σ H vs us Q I rs ⟨τ, e, m, al, F, v, a, k, rfl, sr, ra, hk, q⟩
  obtain ⟨k0, k1, k2, k3, k4, k5, k6⟩ := isi_kit t
  have go : ∀ {n : String} {b : Bool}, TyX X.K H v (.type n) → kitB n t.name = some b → b = k → wpAny (model X.prog X.w) X.A (call (.builtin "isinstance") us) (EP X pins σ Q) X.xe s := fun {n b} ty hb e => by
    subst e
    exact call_isi pins s σ H _ us Q I rs ⟨v, .ty t.name, .type n, .type t.name, b, rfl, .ty _, ty, kit_ty hb, q⟩
  unfold isiD at hk
  cases z : deref m a with
  | none => rw [z] at hk; cases hk
  | some a' =>
    rw [z] at hk
    have th := sr.core.thru ra z
    cases a' with
    | non => cases th with
      | rep r _ => cases r; exact go (.base .non) k0 (Option.some.inj hk)
      | obj _ o => cases o
    | bl b => cases th with
      | rep r _ => cases r; exact go (.base (.bl b)) k1 (Option.some.inj hk)
      | obj _ o => cases o
    | int b => cases th with
      | rep r _ => cases r; exact go (.base (.int b)) k2 (Option.some.inj hk)
      | obj _ o => cases o
    | str b => cases th with
      | rep r _ => cases r; exact go (.base (.str b)) k3 (Option.some.inj hk)
      | obj _ o => cases o
    | tup xs =>
      obtain ⟨p, ys, rfl, h1, h2⟩ := th.tup sr.core.sub
      exact go (sqT_ty h1) k4 (Option.some.inj hk)
    | lst xs =>
      obtain ⟨p, ys, rfl, h1, h2⟩ := th.lst sr.core.sub
      exact go (.base (.lst h1)) k5 (Option.some.inj hk)
    | dic t' ks ws =>
      rcases th.dicv sr.core.sub with ⟨_, p, kvs, rfl, h1, rfl, h2⟩ | ⟨_, p, kvs, rfl, h1, rfl, h2⟩
      · exact go (.base (.dK h1)) k6 (Option.some.inj hk)
      · exact go (.base (.dT h1)) k6 (Option.some.inj hk)
    | _ => cases hk

/-! ### slices -/
theorem RepL.cut {al : List Addr} {F : Hp} {ds : List D} {vs : List V} (lo hi : Option Int) (r : RepL K al F vs ds) : RepL K al F (cutV vs lo hi) (sliceD ds lo hi) := by
  unfold cutV sliceD
  rw [r.length]
  exact (r.drop _).take _
def rSlD (K : PySem.W.Frag) : V → Option Int → Option Int → Hp → VK → Prop := fun x lo hi H Q => ∃ σ e m al F a d, SR K σ H e m al F ∧ Rep K al F x a ∧ slcI m a lo hi = some d ∧ Fin K σ al F H Q d e m
theorem sl_D : SlR X (rSlD X.K) := by
  rintro pins s σ H x v vl vu lo hi sl Q I rx hs pl pu ⟨τ, e, m, al, F, a, d, sr, ra, hd, fin⟩
  unfold slcI at hd
  cases z : deref m a with
  | none => rw [z] at hd; cases hd
  | some a' =>
    rw [z] at hd
    have th := sr.core.thru ra z
    cases a' with
    | lst xs =>
      cases hd
      obtain ⟨p, ys, rfl, h1, h2⟩ := th.lst sr.core.sub
      exact sl_list pins s σ H _ v vl vu lo hi sl Q I rx hs pl pu ⟨p, ys, rfl, SqL.of h1, fun l hl => fin.newL sr (h2.cut lo hi) hl⟩
    | tup xs =>
      cases hd
      cases th with
      | rep r' _ =>
        cases r' with
        | @tup p ys _ h1 h2 =>
          refine sl_tupA pins s σ H _ v vl vu lo hi sl Q I rx hs pl pu ⟨p, ys, rfl, sqT_sub sr.core.sub h1, fun hw => ?_, fun _ l hl => fin.newT sr (h2.cut lo hi) hl⟩
          have e : cutV ys lo hi = ys := by
            unfold cutV
            rw [hw.1, hw.2]
            simp
          refine fin.val sr (.tup (xs := ys) h1 ?_)
          have := h2.cut lo hi
          rw [e] at this
          exact this
      | obj _ o => cases o
    | scr xs =>
      cases hd
      obtain ⟨p, rfl, h1⟩ := th.scr sr.core.sub
      exact sl_list pins s σ H _ v vl vu lo hi sl Q I rx hs pl pu ⟨p, _, rfl, h1, fun l hl => fin.newL sr ((repL_ints _).cut lo hi) hl⟩
    | _ => cases hd
end
end Mn
end
section
set_option Elab.async false
set_option linter.all false
set_option maxRecDepth 100000
/-! max, min, sorted, repr, methods over trees. -/
namespace Mn
open PySem PySem.Spec PyProof.Rows L2
variable {K : PySem.W.Frag}
/-! ### trees and data -/
mutual
theorem toPy_inj : ∀ {a b : D} {p : PyData}, a.toPy = some p → b.toPy = some p → a = b
  | .non, b, p, h, g => by cases h; cases b <;> simp [D.toPy] at g <;> rfl
  | .bl x, b, p, h, g => by cases h; cases b <;> simp [D.toPy] at g; subst g; rfl
  | .int x, b, p, h, g => by cases h; cases b <;> simp [D.toPy] at g; subst g; rfl
  | .str x, b, p, h, g => by cases h; cases b <;> simp [D.toPy] at g; subst g; rfl
  | .tup xs, b, p, h, g => by
    rw [D.toPy] at h
    obtain ⟨ps, hps, rfl⟩ := Option.map_eq_some_iff.mp h
    cases b <;> simp [D.toPy] at g
    rw [toPys_inj hps g]
  | .lst xs, b, p, h, g => by
    rw [D.toPy] at h
    obtain ⟨ps, hps, rfl⟩ := Option.map_eq_some_iff.mp h
    cases b <;> simp [D.toPy] at g
    rw [toPys_inj hps g]
  | .dic _ _ _, _, _, h, _ => by rw [D.toPy] at h; cases h
  | .set _, _, _, h, _ => by rw [D.toPy] at h; cases h
  | .scr _, _, _, h, _ => by rw [D.toPy] at h; cases h
  | .cell _, _, _, h, _ => by rw [D.toPy] at h; cases h
theorem toPys_inj : ∀ {as bs : List D} {ps : List PyData}, D.toPys as = some ps → D.toPys bs = some ps → as = bs
  | [], bs, ps, h, g => by
    cases h
    cases bs with
    | nil => rfl
    | cons b bs =>
      rw [D.toPys] at g
      split at g <;> cases g
  | a :: as, bs, ps, h, g => by
    rw [D.toPys] at h
    cases q : a.toPy with
    | none => rw [q] at h; cases h
    | some p =>
      cases q' : D.toPys as with
      | none => rw [q, q'] at h; cases h
      | some ps' =>
        rw [q, q'] at h
        cases h
        cases bs with
        | nil => cases g
        | cons b bs =>
          rw [D.toPys] at g
          split at g
          · rename_i h1 h2
            cases g
            rw [toPy_inj q h1, toPys_inj q' h2]
          · cases g
end
theorem pysOf_get {m : Mu} : ∀ {xs : List D} {ps : List PyData} {i : Nat} {d : D}, pysOf m xs = some ps → xs[i]? = some d → ∃ p, ps[i]? = some p ∧ pyOf m d = some p
  | [], _, _, _, _, h => by simp at h
  | x :: xs, ps, i, d, h, hi => by
    rw [pysOf] at h
    cases q : pyOf m x with
    | none => rw [q] at h; cases h
    | some p =>
      cases q' : pysOf m xs with
      | none => rw [q, q'] at h; cases h
      | some ps' =>
        rw [q, q'] at h
        cases h
        cases i with
        | zero =>
          simp at hi
          subst hi
          exact ⟨p, by simp, q⟩
        | succ i => simpa using pysOf_get (i := i) q' (by simpa using hi)
theorem pysOf_map {m : Mu} : ∀ {xs : List D} {ps : List PyData}, pysOf m xs = some ps → ps = xs.map (pyKey m)
  | [], _, h => by cases h; rfl
  | x :: xs, ps, h => by
    rw [pysOf] at h
    cases q : pyOf m x with
    | none => rw [q] at h; cases h
    | some p =>
      cases q' : pysOf m xs with
      | none => rw [q, q'] at h; cases h
      | some ps' =>
        rw [q, q'] at h
        cases h
        rw [pysOf_map q']
        simp [pyKey, q]
theorem pysOf_mem {m : Mu} {xs : List D} {ps : List PyData} (h : pysOf m xs = some ps) {d : D} (hd : d ∈ xs) : pyOf m d = some (pyKey m d) := by
  obtain ⟨i, hi⟩ := List.mem_iff_getElem?.mp hd
  obtain ⟨p, _, e⟩ := pysOf_get h hi
  unfold pyKey
  rw [e]; rfl
theorem allAlike_ok {ps : List PyData} (h : allAlike ps = true) : PySem.W.AlikeAll ps := by
  unfold allAlike at h
  simp only [List.all_eq_true, Bool.and_eq_true] at h
  refine ⟨fun x hx y hy => (h x hx).2 y hy, fun x hx e => ?_⟩
  have := (h x hx).1
  subst e
  cases this
theorem Core.datas {K : PySem.W.Frag} {H : Hp} {m : Mu} {al : List Addr} {F : Hp} (c : Core K H m al F) : ∀ {ds : List D} {vs : List V} {ps : List PyData}, RepL K al F vs ds → pysOf m ds = some ps → DpAll K H vs ps
  | [], _, _, r, h => by cases r; cases h; exact .nil
  | d :: ds, _, _, r, h => by
    cases r with
    | cons h1 h2 =>
      rw [pysOf] at h
      cases q : pyOf m d with
      | none => rw [q] at h; cases h
      | some p =>
        cases q' : pysOf m ds with
        | none => rw [q, q'] at h; cases h
        | some ps' =>
          rw [q, q'] at h
          cases h
          exact .cons (c.data h1 q).1 (c.datas h2 q')
theorem foldl_pick {α β : Type} (f : α → β) (lt : β → β → Bool) : ∀ (xs : List α) (x : α), (xs.map f).foldl (fun a y => if lt y a = true then y else a) (f x) = f (xs.foldl (fun a y => if lt (f y) (f a) = true then y else a) x)
  | [], _ => rfl
  | y :: ys, x => by
    rw [List.map_cons, List.foldl_cons, List.foldl_cons, ← foldl_pick f lt ys]
    congr 1
    split <;> rfl
theorem foldl_mem {α : Type} (c : α → α → Bool) : ∀ (xs : List α) (x : α), xs.foldl (fun a y => if c a y = true then y else a) x ∈ x :: xs
  | [], _ => by simp
  | y :: ys, x => by
    rw [List.foldl_cons]
    have := foldl_mem c ys (if c x y = true then y else x)
    rcases List.mem_cons.mp this with h | h
    · rw [h]
      split
      · simp
      · simp
    · simp [h]
theorem depth_list {ps : List PyData} (h : SeqAt.shaped (.list ps) = true) : PyData.depthAll ps ≤ 63 := by
  have := SeqAt.depth_of_shaped h
  rw [PyData.depth] at this
  omega
section
variable {X : Cx}
theorem best_rep {m : Mu} {al : List Addr} {F H : Hp} {s : Shared} {pins : List (Addr × Obj)} {σ : L2.St} (I : Inv X pins σ H s) (c : Core X.K H m al F) {ds : List D} {vs : List V} {us : List Value} {ps : List PyData} (r : RepL X.K al F vs ds) (rv : Vals vs us)
    (hp : pysOf m ds = some ps) {d : D} (hd : d ∈ ds) (hnc : ∀ y ∈ ds, noCell y = true) {i : Nat} {u : Value} (hu : us[i]? = some u) {h' : Heap} {bs : List Addr} (rd : Reads h' u (pyKey m d) bs) (hk : ∀ b o, s.heap.get? b = some o → h'.get? b = some o) :
    ∃ v, RelV v u ∧ Rep X.K al F v d := by
  have hlen := rv.length
  obtain ⟨v, hv⟩ : ∃ v, vs[i]? = some v := by
    have hi : i < us.length := (List.getElem?_eq_some_iff.mp hu).1
    exact ⟨vs[i], by rw [List.getElem?_eq_getElem]⟩
  obtain ⟨u', hu', rv'⟩ := rv.get hv
  rw [hu] at hu'
  cases hu'
  obtain ⟨d', hd'⟩ : ∃ d', ds[i]? = some d' := by
    have hi : i < vs.length := (List.getElem?_eq_some_iff.mp hv).1
    rw [r.length] at hi
    exact ⟨ds[i], by rw [List.getElem?_eq_getElem]⟩
  obtain ⟨v2, hv2, rr⟩ := r.get hd'
  rw [hv] at hv2
  cases hv2
  obtain ⟨p, _, hp'⟩ := pysOf_get hp hd'
  obtain ⟨dp, sh⟩ := c.data rr hp'
  obtain ⟨as, r1⟩ := Dp.reads I p v u dp rv'
  have r2 : Reads h' u p as := PyProof.Rows.Reads.keeps hk r1
  have e := (Reads.unique r2 _ _ rd).1
  have e2 : pyOf m d' = pyOf m d := by rw [hp', pysOf_mem hp hd, e]
  have nc : ∀ {x : D}, x ∈ ds → pyOf m x = (x.toPy).bind fun p => if SeqAt.shaped p = true then some p else none := fun {x} hx => by
    have hx := hnc x hx
    unfold pyOf
    cases x with
    | cell k => cases hx
    | _ =>
      simp only [deref, Option.bind_some]
      split
      · rename_i q
        rw [q]; rfl
      · rename_i q
        rw [q]; rfl
  have n1 := nc (List.mem_of_getElem? hd')
  have n2 := nc hd
  rw [hp'] at n1
  rw [← e2, hp'] at n2
  have t : ∀ {x : D}, some p = ((x.toPy).bind fun p => if SeqAt.shaped p = true then some p else none) → x.toPy = some p := fun {x} h => by
    cases q : x.toPy with
    | none => rw [q] at h; cases h
    | some p' =>
      rw [q] at h
      simp only [Option.bind_some] at h
      split at h <;> cases h
      rfl
  rw [toPy_inj (t n2) (t n1)]
  exact ⟨v, rv', rr⟩
theorem bi_max (hc : X.calm = true) (hu : X.A.units + 64 < cLine) : CallR X (.builtin "max") (rBi X.K fun m ds => biD m .max ds) := by
  rintro pins s σ H vs us Q I rs ⟨τ, e, m, al, F, ds, d, sr, r, hd, fin⟩
  have gen : ∀ {a : D}, ds = [a] → maxDD m a = some d → wpAny (model X.prog X.w) X.A (call (.builtin "max") us) (EP X pins σ Q) X.xe s := fun {a} ea hdd => by
    subst ea
    unfold maxDD at hdd
    obtain ⟨v, rfl, ra⟩ := repL1 r
    cases z : deref m a with
    | none => simp only [seqOf, z] at hdd; cases hdd
    | some a' =>
      have th := sr.core.thru ra z
      have key : ∀ {xs : List D} {ys : List V} {us' : List Value}, seqOf m a = some xs → RepL X.K al F ys xs → Vals ys us' → ∃ p ps as, ReadsAll s.heap us' (p :: ps) as ∧ PySem.W.AlikeAll (p :: ps) ∧ PyData.depthAll (p :: ps) ≤ 63 ∧
          ∀ (i : Nat) (u : Value) (h' : Heap) (bs : List Addr), us'[i]? = some u → Reads h' u (PySem.W.maxD p ps) bs → (∀ b o, s.heap.get? b = some o → h'.get? b = some o) → ∃ v, RelV v u ∧ Rep X.K al F v d := fun {xs ys us'} hx hr hv => by
        rw [hx] at hdd
        cases xs with
        | nil => cases hdd
        | cons x xs =>
          simp only at hdd
          cases hp : pysOf m (x :: xs) with
          | none => rw [hp] at hdd; cases hdd
          | some ps =>
            rw [hp] at hdd
            simp only at hdd
            split at hdd
            · rename_i hz
              have hd2 := Option.some.inj hdd
              subst hd2
              obtain ⟨z1, z2, z3⟩ := hz
              have em := pysOf_map hp
              have mem := foldl_mem (fun a y => PySem.W.dataLt (pyKey m a) (pyKey m y)) xs x
              have pick := foldl_pick (pyKey m) (fun y a => PySem.W.dataLt a y) xs x
              cases ps with
              | nil => cases em
              | cons p ps =>
                injection em with e1 e2
                subst e1 e2
                obtain ⟨as, rd⟩ := Dp.readsAll I _ _ _ (sr.core.datas hr hp) hv
                refine ⟨_, _, as, rd, allAlike_ok z1, depth_list z2, fun i u h' bs hi hb hk => ?_⟩
                refine best_rep I sr.core hr hv hp mem (fun y hy => List.all_eq_true.mp z3 y hy) hi (bs := bs) ?_ hk
                rw [← pick]
                exact hb
            · cases hdd
      cases a' with
      | lst xs =>
        obtain ⟨p, ys, rfl, h1, h2⟩ := th.lst sr.core.sub
        obtain ⟨its, rv, hl, _⟩ := I.list (SqL.of h1)
        obtain ⟨p', ps, as, rd, hal, hdp, k⟩ := key (by simp only [seqOf, z]) h2 rv
        rw [Vals.ref1 rs]
        refine PySem.W.max_list_data (I.ok.hd hc) hl.isList rd hal (by omega) fun i u h' tk bs hi hb hk => ?_
        obtain ⟨v', rv', rr⟩ := k i u h' bs (by simpa using hi) hb hk
        exact ⟨v', H, I.kept (t' := tk) hk, rv', fin.val sr rr⟩
      | tup xs =>
        obtain ⟨p, ys, rfl, h1, h2⟩ := th.tup sr.core.sub
        obtain ⟨its, rv, hl, _⟩ := I.tuple h1
        obtain ⟨p', ps, as, rd, hal, hdp, k⟩ := key (by simp only [seqOf, z]) h2 rv
        rw [Vals.ref1 rs]
        refine PySem.W.max_tuple_data (I.ok.hd hc) (show s.heap.IsTuple p its.toArray from hl) rd hal (by omega) fun i u h' tk bs hi hb hk => ?_
        obtain ⟨v', rv', rr⟩ := k i u h' bs (by simpa using hi) hb hk
        exact ⟨v', H, I.kept (t' := tk) hk, rv', fin.val sr rr⟩
      | _ => simp only [seqOf, z] at hdd; cases hdd
  match ds, r, hd with
  | [], _, hd => simp [biD] at hd
  | [a], r, hd => exact gen rfl (by simpa [biD] using hd)
  | [a, b], r, hd =>
    obtain ⟨v, v2, rfl, ra, rb⟩ := repL2 r
    cases ra <;> first | (simp [biD] at hd; done) | (cases rb <;> first | (simp [biD] at hd; done) | skip)
    cases hd
    exact call_max2 hc pins s σ H _ us Q I rs ⟨_, _, rfl, fin.val sr (.int _)⟩
  | a :: b :: c :: t, r, hd => simp [biD] at hd
theorem bi_min (hc : X.calm = true) (hu : X.A.units + 64 < cLine) : CallR X (.builtin "min") (rBi X.K fun m ds => biD m .min ds) := by
  rintro pins s σ H vs us Q I rs ⟨τ, e, m, al, F, ds, d, sr, r, hd, fin⟩
  have gen : ∀ {a : D}, ds = [a] → minDD m a = some d → wpAny (model X.prog X.w) X.A (call (.builtin "min") us) (EP X pins σ Q) X.xe s := fun {a} ea hdd => by
    subst ea
    unfold minDD at hdd
    obtain ⟨v, rfl, ra⟩ := repL1 r
    cases z : deref m a with
    | none => simp only [seqOf, z] at hdd; cases hdd
    | some a' =>
      have th := sr.core.thru ra z
      have key : ∀ {xs : List D} {ys : List V} {us' : List Value}, seqOf m a = some xs → RepL X.K al F ys xs → Vals ys us' → ∃ p ps as, ReadsAll s.heap us' (p :: ps) as ∧ PySem.W.AlikeAll (p :: ps) ∧ PyData.depthAll (p :: ps) ≤ 63 ∧
          ∀ (i : Nat) (u : Value) (h' : Heap) (bs : List Addr), us'[i]? = some u → Reads h' u (PySem.W.minD p ps) bs → (∀ b o, s.heap.get? b = some o → h'.get? b = some o) → ∃ v, RelV v u ∧ Rep X.K al F v d := fun {xs ys us'} hx hr hv => by
        rw [hx] at hdd
        cases xs with
        | nil => cases hdd
        | cons x xs =>
          simp only at hdd
          cases hp : pysOf m (x :: xs) with
          | none => rw [hp] at hdd; cases hdd
          | some ps =>
            rw [hp] at hdd
            simp only at hdd
            split at hdd
            · rename_i hz
              have hd2 := Option.some.inj hdd
              subst hd2
              obtain ⟨z1, z2, z3⟩ := hz
              have em := pysOf_map hp
              have mem := foldl_mem (fun a y => PySem.W.dataLt (pyKey m y) (pyKey m a)) xs x
              have pick := foldl_pick (pyKey m) (fun y a => PySem.W.dataLt y a) xs x
              cases ps with
              | nil => cases em
              | cons p ps =>
                injection em with e1 e2
                subst e1 e2
                obtain ⟨as, rd⟩ := Dp.readsAll I _ _ _ (sr.core.datas hr hp) hv
                refine ⟨_, _, as, rd, allAlike_ok z1, depth_list z2, fun i u h' bs hi hb hk => ?_⟩
                refine best_rep I sr.core hr hv hp mem (fun y hy => List.all_eq_true.mp z3 y hy) hi (bs := bs) ?_ hk
                rw [← pick]
                exact hb
            · cases hdd
      cases a' with
      | lst xs =>
        obtain ⟨p, ys, rfl, h1, h2⟩ := th.lst sr.core.sub
        obtain ⟨its, rv, hl, _⟩ := I.list (SqL.of h1)
        obtain ⟨p', ps, as, rd, hal, hdp, k⟩ := key (by simp only [seqOf, z]) h2 rv
        rw [Vals.ref1 rs]
        refine PySem.W.min_list_data (I.ok.hd hc) hl.isList rd hal (by omega) fun i u h' tk bs hi hb hk => ?_
        obtain ⟨v', rv', rr⟩ := k i u h' bs (by simpa using hi) hb hk
        exact ⟨v', H, I.kept (t' := tk) hk, rv', fin.val sr rr⟩
      | tup xs =>
        obtain ⟨p, ys, rfl, h1, h2⟩ := th.tup sr.core.sub
        obtain ⟨its, rv, hl, _⟩ := I.tuple h1
        obtain ⟨p', ps, as, rd, hal, hdp, k⟩ := key (by simp only [seqOf, z]) h2 rv
        rw [Vals.ref1 rs]
        refine PySem.W.min_tuple_data (I.ok.hd hc) (show s.heap.IsTuple p its.toArray from hl) rd hal (by omega) fun i u h' tk bs hi hb hk => ?_
        obtain ⟨v', rv', rr⟩ := k i u h' bs (by simpa using hi) hb hk
        exact ⟨v', H, I.kept (t' := tk) hk, rv', fin.val sr rr⟩
      | _ => simp only [seqOf, z] at hdd; cases hdd
  match ds, r, hd with
  | [], _, hd => simp [biD] at hd
  | [a], r, hd => exact gen rfl (by simpa [biD] using hd)
  | [a, b], r, hd =>
    obtain ⟨v, v2, rfl, ra, rb⟩ := repL2 r
    cases ra <;> first | (simp [biD] at hd; done) | (cases rb <;> first | (simp [biD] at hd; done) | skip)
    cases hd
    exact call_min2 hc pins s σ H _ us Q I rs ⟨_, _, rfl, fin.val sr (.int _)⟩
  | a :: b :: c :: t, r, hd => simp [biD] at hd
end
end Mn
end
section
set_option Elab.async false
set_option linter.all false
set_option maxRecDepth 100000
/-! repr of data with dicts in it, where only the dicts must stand apart from sys.modules. -/
namespace PySem
section
variable {prog : Program} {w : World} {h₀ : Heap}
/-- at sys.modules' place no dict can be read -/
def NoSys (h₀ : Heap) : Prop := ∀ o, h₀.get? sysModules = some o → o.cls ≠ .type "dict"
theorem NoSys.ne (N : NoSys h₀) {a : Addr} {o : Obj} (h : h₀.get? a = some o) (hc : o.cls = .type "dict") : (a == sysModules) = false :=
  beq_eq_false_iff_ne.mpr fun e => N o (by rw [← e]; exact h) hc
mutual
theorem rk_one (N : NoSys h₀) : ∀ {v : Value} {d : PyData} {as : List Addr}, Reads h₀ v d as → d.showable = true → d.shown.length ≤ sizeLine → ∃ bs, ReadAtMost h₀ d.depth bs ∧ ReprK prog w bs h₀ d.depth v d.shown
  | _, _, _, .none, _, _ => ⟨[], (fun _ h => nomatch h), by simp only [PyData.shown]; exact .of_is ReprIs.none _ _ _⟩
  | _, _, _, .bool b, _, _ => ⟨[], (fun _ h => nomatch h), by simp only [PyData.shown]; exact .of_is (ReprIs.bool b) _ _ _⟩
  | _, _, _, .int i t, hs, _ => ⟨[], (fun _ h => nomatch h), by simp only [PyData.shown]; exact .of_is (ReprIs.int t (by simpa [PyData.showable] using hs)) _ _ _⟩
  | _, _, _, .str x t, _, hz => ⟨[], (fun _ h => nomatch h), by simp only [PyData.shown]; exact .of_is (ReprIs.str x t (by simpa only [PyData.shown] using hz)) _ _ _⟩
  | _, _, _, .list (a := a) (vs := vs) (xs := xs) h1 h2 h3 h4, hs, hz => by
    have z1 : (listText (PyData.shownAll xs)).length ≤ sizeLine := by simpa only [PyData.shown] using hz
    obtain ⟨bs, hb, hk⟩ := rk_all N h4 (by simpa [PyData.showable] using hs) (fun t ht => Nat.le_trans (listText_mem_le ht) z1)
    have rr : Reads h₀ (.ref a) (.list xs) _ := .list h1 h2 h3 h4
    have na : a ∉ bs := not_mem_of_deeper rr (by simp only [PyData.depth]; omega) hb
    refine ⟨a :: bs, ReadAtMost.cons rr (by simp only [PyData.depth]; omega) hb, ?_⟩
    simp only [PyData.depth, PyData.shown]
    obtain ⟨l⟩ := vs
    cases l with
    | nil =>
      cases (show ReadsAll h₀ [] xs _ from h4)
      simp only [PyData.shownAll, listText_nil]
      exact ReprK.listEmpty h1 h2 h3
    | cons x l => exact ReprK.list h1 h2 h3 na (by simpa using hk.length_eq) (fun i y e => hk.item i y (by simpa using e))
  | _, _, _, .tuple (a := a) (xs := xs) h1 h2 h3 h4, hs, hz => by
    have z1 : (tupleText (PyData.shownAll xs)).length ≤ sizeLine := by simpa only [PyData.shown] using hz
    obtain ⟨bs, hb, hk⟩ := rk_all N h4 (by simpa [PyData.showable] using hs) (fun t ht => Nat.le_trans (tupleText_mem_le ht) z1)
    have rr : Reads h₀ (.ref a) (.tuple xs) _ := .tuple h1 h2 h3 h4
    have na : a ∉ bs := not_mem_of_deeper rr (by simp only [PyData.depth]; omega) hb
    refine ⟨a :: bs, ReadAtMost.cons rr (by simp only [PyData.depth]; omega) hb, ?_⟩
    simp only [PyData.depth, PyData.shown]
    exact ReprK.tuple h1 h2 h3 na hk
  | _, _, _, .dict (a := a) (es := es) (kvs := kvs) h1 h2 h3 h4 h5, hs, hz => by
    have z1 : (dictText (PyData.shownKv kvs)).length ≤ sizeLine := by simpa only [PyData.shown] using hz
    obtain ⟨s1, s2⟩ := PyData.showableKv_split kvs (by simpa [PyData.showable] using hs)
    obtain ⟨b1, hb1, k1⟩ := rk_all N h4 s1 (fun t ht => let ⟨p, hp, hl⟩ := PyData.shownKv_key_le kvs t ht; Nat.le_trans hl (Nat.le_trans (dictText_mem_le hp) z1))
    obtain ⟨b2, hb2, k2⟩ := rk_all N h5 s2 (fun t ht => let ⟨p, hp, hl⟩ := PyData.shownKv_val_le kvs t ht; Nat.le_trans hl (Nat.le_trans (dictText_mem_le hp) z1))
    have rr : Reads h₀ (.ref a) (.dict kvs) _ := .dict h1 h2 h3 h4 h5
    have hb : ReadAtMost h₀ (PyData.depthKv kvs) (b1 ++ b2) := (hb1.mono (PyData.depthAll_keys_le kvs)).append (hb2.mono (PyData.depthAll_vals_le kvs))
    have na : a ∉ b1 ++ b2 := not_mem_of_deeper rr (by simp only [PyData.depth]; omega) hb
    refine ⟨a :: (b1 ++ b2), ReadAtMost.cons rr (by simp only [PyData.depth]; omega) hb, ?_⟩
    simp only [PyData.depth, PyData.shown, PyData.shownKv_eq]
    exact ReprK.dict h1 h2 h3 (N.ne h1 h2) na (ReprEntriesK.of_two es.toList _ _ (k1.more_le (fun b hb => List.mem_append_left _ hb) (PyData.depthAll_keys_le kvs)) (k2.more_le (fun b hb => List.mem_append_right _ hb) (PyData.depthAll_vals_le kvs)))
theorem rk_all (N : NoSys h₀) : ∀ {vs : List Value} {ds : List PyData} {as : List Addr}, ReadsAll h₀ vs ds as → PyData.showableAll ds = true → (∀ t ∈ PyData.shownAll ds, t.length ≤ sizeLine) → ∃ bs, ReadAtMost h₀ (PyData.depthAll ds) bs ∧ ReprAllK prog w bs h₀ (PyData.depthAll ds) vs (PyData.shownAll ds)
  | _, _, _, .nil, _, _ => ⟨[], (fun _ h => nomatch h), by simp only [PyData.shownAll]; exact .nil⟩
  | _, _, _, .cons (d := d) (ds := ds) r rs, hs, hz => by
    have s1 : d.showable = true ∧ PyData.showableAll ds = true := by simpa [PyData.showableAll] using hs
    obtain ⟨b1, hb1, k1⟩ := rk_one N r s1.1 (hz _ (by simp only [PyData.shownAll]; exact List.mem_cons_self ..))
    obtain ⟨b2, hb2, k2⟩ := rk_all N rs s1.2 (fun t ht => hz t (by simp only [PyData.shownAll]; exact List.mem_cons_of_mem _ ht))
    refine ⟨b1 ++ b2, fun b hm => ?_, ?_⟩
    · simp only [PyData.depthAll]
      rcases List.mem_append.mp hm with hm | hm
      · obtain ⟨d', as', r', hd'⟩ := hb1 b hm
        exact ⟨d', as', r', Nat.le_trans hd' (Nat.le_max_left _ _)⟩
      · obtain ⟨d', as', r', hd'⟩ := hb2 b hm
        exact ⟨d', as', r', Nat.le_trans hd' (Nat.le_max_right _ _)⟩
    · simp only [PyData.depthAll, PyData.shownAll]
      exact .cons ((k1.more fun b hb => List.mem_append_left _ hb).level_le (Nat.le_max_left _ _)) (k2.more_le (fun b hb => List.mem_append_right _ hb) (Nat.le_max_right _ _))
end
theorem call_list_reprX {A : Around} {E : Value → Shared → Prop} {s : Shared} {Q : Value → Shared → Prop} (N : NoSys h₀) {a : Addr} {xs : List PyData} {as : List Addr} (r : Reads h₀ (.ref a) (.list xs) as) (hs : (PyData.list xs).showable = true) (hz : (PyData.list xs).shown.length ≤ sizeLine) (hg : A.guards = some [])
    (hu : A.units + ((PyData.list xs).depth + 1) < cLine) (hk0 : ∀ b o, h₀.get? b = some o → s.heap.get? b = some o) (hQ : ∀ h' u tk, (∀ b o, s.heap.get? b = some o → h'.get? b = some o) → Q (.str (PyData.list xs).shown u) { s with heap := h', toks := tk }) :
    wpAny (model prog w) A (call (.builtin "repr") [.ref a]) Q E s := by
  cases r with
  | @list _ o vs n _ bs₀ h1 h2 h3 h4 =>
    have z1 : (listText (PyData.shownAll xs)).length ≤ sizeLine := by simpa only [PyData.shown] using hz
    obtain ⟨bs, hb, hk⟩ := rk_all (prog := prog) (w := w) N h4 (by simpa [PyData.showable] using hs) (fun t ht => Nat.le_trans (listText_mem_le ht) z1)
    have na : a ∉ bs := not_mem_of_deeper (.list h1 h2 h3 h4) (by simp only [PyData.depth]; omega) hb
    simp only [PyData.depth] at hu
    simp only [PyData.shown] at hQ
    refine call_repr_slot (by omega) ⟨o, hk0 _ _ h1, h2⟩ F.slot_list_repr.toG ?_
    obtain ⟨l⟩ := vs
    cases l with
    | nil =>
      cases (show ReadsAll h₀ [] xs _ from h4)
      simp only [PyData.shownAll, listText_nil] at hQ
      exact call_list_repr_empty ⟨o, hk0 _ _ h1, h2⟩ (hk0 _ _ h1) h3 ⟨_, _, rfl, hQ s.heap _ _ fun _ _ e => e⟩
    | cons x l =>
      exact call_list_reprK h1 h2 h3 na (by simpa using hk.length_eq) (fun i y e => hk.item i y (by simpa using e)) hg (fun b _ => Clear.nil b) (by show A.units + 1 + _ < cLine; omega) hk0 (fun h' u tk kk => ⟨_, _, rfl, hQ h' u tk kk⟩) z1
end
end PySem
end
section
set_option Elab.async false
set_option linter.all false
set_option maxRecDepth 100000
/-! sorted, repr, dict, methods over trees. -/
namespace Mn
open PySem PySem.Spec PyProof.Rows L2
variable {K : PySem.W.Frag}
section
variable {X : Cx}
theorem repr_call {pins : List (Addr × Obj)} {s : Shared} {σ : L2.St} {H : Hp} {Q : VK} {m : Mu} {al : List Addr} {F : Hp} {a : D} {p : Addr} {py : PyData} (hg : X.A.guards = some []) (hu : X.A.units + 66 < cLine) (I : Inv X pins σ H s) (c : Core X.K H m al F) (ra : Rep X.K al F (.ref p) a) (hp : pyOf m a = some py) (h1 : py.showable = true) (h2 : py.hasDict = false) (h3 : py.shown.length ≤ 16777216)
    (fin : Q (.str py.shown) H) : wpAny (model X.prog X.w) X.A (call (.builtin "repr") [.ref p]) (EP X pins σ Q) X.xe s := by
  have hps : pysOf m [a] = some [py] := by simp [pysOf, hp]
  obtain ⟨as, rd⟩ := Dp.readsAll I _ _ [.ref p] (c.datas (RepL.cons ra RepL.nil) hps) (.cons rfl .nil)
  obtain ⟨_, _, _, sh⟩ := pyOf_spec hp
  have dp := SeqAt.depth_of_shaped sh
  cases rd with
  | cons r1 r2 =>
    refine PySem.repr_of_reads' r1 h1 (fun z => by rw [h2] at z; cases z) hg (by omega) (fun _ _ q => q) (fun h' u tk hk => ?_) h3
    exact ⟨.str py.shown, H, I.turnedL (t' := tk) (ch := []) (fun b o _ q => hk b o q) (fun _ z => (nomatch z)), ⟨u, rfl⟩, fin⟩
theorem kv_reads {P : Program} {w : World} {h₀ : Heap} : ∀ {es : List DictEntry} {kvs : List (Key × V)} {vs : List (Key × Value)}, KV kvs vs → Pairs (mixKind P w) es vs → ∀ {ps : List PyData}, D.toPysR (kvs.map fun p => kD p.1) = some ps → ReadsAll h₀ (es.map (·.key)) ps [] ∧ Vals (kvs.map fun p => p.2) (es.map (·.val)) ∧ ps.length = kvs.length
  | _, _, _, .nil, .nil, ps, h => by
    cases h
    exact ⟨.nil, .nil, rfl⟩
  | _, _, _, .cons (a := a) (b := b) (l₁ := l1) h1 h2, .cons (e := e) g1 g2 g3, ps, h => by
    rw [List.map_cons, D.toPysR] at h
    cases z1 : D.toPyR (kD a.1) with
    | none => rw [z1] at h; cases h
    | some p0 =>
      cases z2 : D.toPysR (l1.map fun p => kD p.1) with
      | none => rw [z1, z2] at h; cases h
      | some ps0 =>
        rw [z1, z2] at h
        cases h
        obtain ⟨q1, q2, q3⟩ := kv_reads h2 g3 z2
        refine ⟨?_, .cons (by show RelV a.2 e.val; rw [g2]; exact h1.2) q2, by rw [List.length_cons, List.length_cons, q3]⟩
        have k0 : Reads h₀ e.key p0 [] := by
          have gi : keyIs b.1 e.key = true := g1
          rw [← h1.1] at gi
          rcases keyIs_shape gi with ⟨i, t, e1, e2⟩ | ⟨x, t, e1, e2⟩
          · rw [e1] at z1
            rw [e2]
            cases z1
            exact .int i t
          · rw [e1] at z1
            rw [e2]
            cases z1
            exact .str x t
        exact ReadsAll.cons (as := []) (bs := []) k0 q1
theorem toPysR_len : ∀ {ds : List D} {ps : List PyData}, D.toPysR ds = some ps → ps.length = ds.length
  | [], _, h => by cases h; rfl
  | d :: ds, _, h => by
    rw [D.toPysR] at h
    cases z1 : D.toPyR d with
    | none => rw [z1] at h; cases h
    | some p =>
      cases z2 : D.toPysR ds with
      | none => rw [z1, z2] at h; cases h
      | some ps =>
        rw [z1, z2] at h
        cases h
        rw [List.length_cons, List.length_cons, toPysR_len z2]
mutual
theorem reads_R {pins : List (Addr × Obj)} {s : Shared} {σ : L2.St} {H F : Hp} {al : List Addr} {h₀ : Heap} (I : Inv X pins σ H s) (sub : ∀ a o, F a = some o → H a = some o) (kp : ∀ a o, s.heap.get? a = some o → (a = sysModules → o.cls ≠ .type "dict") → h₀.get? a = some o) :
    ∀ {d : D} {v : V} {u : Value} {p : PyData}, Rep X.K al F v d → RelV v u → d.toPyR = some p → ∃ as, Reads h₀ u p as
  | .non, _, _, _, r, t, h => by cases r; cases (show _ = Value.none from t); cases h; exact ⟨_, .none⟩
  | .bl b, _, _, _, r, t, h => by cases r; cases (show _ = Value.bool _ from t); cases h; exact ⟨_, .bool b⟩
  | .int i, _, _, _, r, t, h => by cases r; obtain ⟨k, e⟩ := t; subst e; cases h; exact ⟨_, .int i k⟩
  | .str x, _, _, _, r, t, h => by cases r; obtain ⟨k, e⟩ := t; subst e; cases h; exact ⟨_, .str x k⟩
  | .lst ds, _, _, _, r, t, h => by
    cases r with
    | lst h1 h2 =>
      cases t
      rw [D.toPyR] at h
      obtain ⟨ps, hp, rfl⟩ := Option.map_eq_some_iff.mp h
      obtain ⟨its, rv, ⟨o, n, ho, hc, _, hd⟩, _⟩ := I.list (SqL.of (sub _ _ h1))
      obtain ⟨as, hr⟩ := reads_Rs I sub kp h2 rv hp
      exact ⟨_, .list (kp _ _ ho fun _ z => by rw [hc] at z; exact absurd z (by decide)) hc hd hr⟩
  | .tup ds, _, _, _, r, t, h => by
    cases r with
    | tup h1 h2 =>
      cases t
      rw [D.toPyR] at h
      obtain ⟨ps, hp, rfl⟩ := Option.map_eq_some_iff.mp h
      obtain ⟨its, rv, ⟨o, ho, hc, n, hd⟩, _⟩ := I.tuple (sqT_sub sub h1)
      obtain ⟨as, hr⟩ := reads_Rs I sub kp h2 rv hp
      exact ⟨_, .tuple (kp _ _ ho fun _ z => by rw [hc] at z; exact absurd z (by decide)) hc hd hr⟩
  | .dic tt ks vs, _, _, _, r, t, h => by
    cases r with
    | @dicK a kvs _ h1 h2 =>
      cases t
      rw [D.toPyR] at h
      cases z1 : D.toPysR (kvs.map fun p => kD p.1) with
      | none => rw [z1] at h; cases h
      | some ps =>
        cases z2 : D.toPysR vs with
        | none => rw [z1, z2] at h; cases h
        | some qs =>
          rw [z1, z2] at h
          cases h
          have ok : ObjOk X.prog X.w H s.heap a (.dK kvs) := I.hok a _ (sub _ _ h1)
          obtain ⟨_, hne, vv, kv, o, es, ep, ho, hex, hd, _, hpr, _⟩ := ok
          obtain ⟨q1, q2, q3⟩ := kv_reads (h₀ := h₀) kv hpr z1
          obtain ⟨as, hr⟩ := reads_Rs I sub kp h2 q2 z2
          have l1 := h2.length
          have l2 := toPysR_len z2
          rw [List.length_map] at l1
          have e1 : (ps.zip qs).map (·.1) = ps := List.map_fst_zip (by omega)
          have e2 : (ps.zip qs).map (·.2) = qs := List.map_snd_zip (by omega)
          exact ⟨_, .dict (kp _ _ ho fun e _ => by rw [e] at hne; exact absurd hne (by decide)) hex.1 hd (by rw [e1]; exact q1) (by rw [e2]; exact hr)⟩
    | dicT h1 h2 => simp [D.toPyR] at h
  | .set _, _, _, _, _, _, h => by simp [D.toPyR] at h
  | .scr _, _, _, _, _, _, h => by simp [D.toPyR] at h
  | .cell _, _, _, _, _, _, h => by simp [D.toPyR] at h
theorem reads_Rs {pins : List (Addr × Obj)} {s : Shared} {σ : L2.St} {H F : Hp} {al : List Addr} {h₀ : Heap} (I : Inv X pins σ H s) (sub : ∀ a o, F a = some o → H a = some o) (kp : ∀ a o, s.heap.get? a = some o → (a = sysModules → o.cls ≠ .type "dict") → h₀.get? a = some o) :
    ∀ {ds : List D} {vs : List V} {us : List Value} {ps : List PyData}, RepL X.K al F vs ds → Vals vs us → D.toPysR ds = some ps → ∃ as, ReadsAll h₀ us ps as
  | [], _, _, _, r, t, h => by cases r; cases t; cases h; exact ⟨_, .nil⟩
  | d :: ds, _, _, _, r, t, h => by
    cases r with
    | cons r1 r2 =>
      cases t with
      | cons t1 t2 =>
        rw [D.toPysR] at h
        cases z1 : D.toPyR d with
        | none => rw [z1] at h; cases h
        | some p =>
          cases z2 : D.toPysR ds with
          | none => rw [z1, z2] at h; cases h
          | some ps =>
            rw [z1, z2] at h
            cases h
            obtain ⟨as, q1⟩ := reads_R I sub kp r1 t1 z1
            obtain ⟨bs, q2⟩ := reads_Rs I sub kp r2 t2 z2
            exact ⟨_, .cons q1 q2⟩
end
theorem repr_callX {pins : List (Addr × Obj)} {s : Shared} {σ : L2.St} {H : Hp} {Q : VK} {m : Mu} {al : List Addr} {F : Hp} {a : D} {p : Addr} {d : D} (hg : X.A.guards = some []) (hu : X.A.units + 66 < cLine) (I : Inv X pins σ H s) (c : Core X.K H m al F) (ra : Rep X.K al F (.ref p) a)
    (hx : reprX a = some d) (fin : ∀ x, d = .str x → Q (.str x) H) : wpAny (model X.prog X.w) X.A (call (.builtin "repr") [.ref p]) (EP X pins σ Q) X.xe s := by
  unfold reprX at hx
  split at hx
  · rename_i xs
    cases z : D.toPysR xs with
    | none => rw [z] at hx; cases hx
    | some ps =>
      rw [z] at hx
      simp only at hx
      split at hx
      · rename_i hh
        cases hx
        obtain ⟨h₀, g1, g2⟩ := restrict s.heap fun b => decide (¬ (b = sysModules ∧ ∃ o, s.heap.get? b = some o ∧ o.cls = .type "dict"))
        have N : NoSys h₀ := fun o ho hc => by
          by_cases q : sysModules = sysModules ∧ ∃ o, s.heap.get? sysModules = some o ∧ o.cls = .type "dict"
          · rw [g2 sysModules (by simpa using q)] at ho
            cases ho
          · rw [g1 sysModules (by simpa using q)] at ho
            exact q ⟨rfl, o, ho, hc⟩
        have kp : ∀ a o, s.heap.get? a = some o → (a = sysModules → o.cls ≠ .type "dict") → h₀.get? a = some o := fun a o ho hn => by
          rw [g1 a (decide_eq_true fun ⟨e, o', ho', hc'⟩ => by rw [ho] at ho'; cases ho'; exact hn e hc')]
          exact ho
        have kk : ∀ b o, h₀.get? b = some o → s.heap.get? b = some o := fun b o ho => by
          by_cases q : ¬ (b = sysModules ∧ ∃ o, s.heap.get? b = some o ∧ o.cls = .type "dict")
          · rw [← g1 b (decide_eq_true q)]
            exact ho
          · rw [g2 b (decide_eq_false q)] at ho
            cases ho
        obtain ⟨as, rd⟩ := reads_R I c.sub kp ra (u := .ref p) rfl (p := .list ps) (by rw [D.toPyR, z]; rfl)
        refine PySem.call_list_reprX N rd hh.1 hh.2.2 hg (by have := hh.2.1; omega) kk fun h' u tk hk => ?_
        exact ⟨.str (PyData.list ps).shown, H, I.turnedL (t' := tk) (ch := []) (fun b o _ q => hk b o q) (fun _ z => (nomatch z)), ⟨u, rfl⟩, fin _ rfl⟩
      · cases hx
  · cases hx
theorem bi_repr (hg : X.A.guards = some []) (hu : X.A.units + 66 < cLine) : CallR X (.builtin "repr") (rBi X.K fun m ds => biD m .repr ds) := by
  rintro pins s σ H vs us Q I rs ⟨τ, e, m, al, F, ds, d, sr, r, hd, fin⟩
  match ds, r, hd with
  | [a], r, hd =>
    obtain ⟨v, rfl, ra⟩ := repL1 r
    simp only [biD] at hd
    have ls : ∀ {p : Addr}, v = .ref p → (match pyOf m a with
        | some p => if p.showable = true ∧ p.hasDict = false ∧ p.shown.length ≤ 16777216 then some (D.str p.shown) else none
        | none => reprX a) = some d → wpAny (model X.prog X.w) X.A (call (.builtin "repr") us) (EP X pins σ Q) X.xe s := by
      intro p hv hd
      subst hv
      rw [Vals.ref1 rs]
      cases hp : pyOf m a with
      | none =>
        rw [hp] at hd
        exact repr_callX hg hu I sr.core ra hd fun x ex => by
          subst ex
          exact fin.val sr (.str _)
      | some py =>
        rw [hp] at hd
        simp only at hd
        split at hd
        · rename_i hh
          cases hd
          exact repr_call hg hu I sr.core ra hp hh.1 hh.2.1 hh.2.2 (fin.val sr (.str _))
        · cases hd
    cases a with
    | bl b =>
      cases ra
      obtain ⟨u, rfl, ru⟩ := vals1 rs
      cases (show u = Value.bool _ from ru)
      refine PySem.P.repr_of_bool ?_
      cases hd
      exact ⟨.str _, H, I.tok _, ⟨_, rfl⟩, fin.val sr (.str _)⟩
    | lst xs =>
      cases v <;> first | (cases ra; done) | skip
      exact ls rfl hd
    | tup xs =>
      cases v <;> first | (cases ra; done) | skip
      exact ls rfl hd
    | cell k =>
      cases v <;> first | (cases ra; done) | skip
      exact ls rfl hd
    | _ => cases hd
  | [], _, hd => simp [biD] at hd
  | _ :: _ :: _, _, hd => simp [biD] at hd

theorem each_of {al : List Addr} {F : Hp} : ∀ {ds : List D} {vs : List V} {us : List Value}, RepL K al F vs ds → Vals vs us → PySem.W.EachIs (fun u d => ∃ v, RelV v u ∧ Rep K al F v d) us ds
  | [], _, _, r, t => by cases r; cases t; exact .nil
  | _ :: _, _, _, r, t => by
    cases r with
    | cons h1 h2 =>
      cases t with
      | cons t1 t2 => exact .cons ⟨_, t1, h1⟩ (each_of h2 t2)
theorem of_each {al : List Addr} {F : Hp} : ∀ {ds : List D} {us : List Value}, PySem.W.EachIs (fun u d => ∃ v, RelV v u ∧ Rep K al F v d) us ds → ∃ vs, Vals vs us ∧ RepL K al F vs ds
  | _, _, .nil => ⟨[], .nil, .nil⟩
  | _, _, .cons ⟨v, h1, h2⟩ t =>
    let ⟨vs, g1, g2⟩ := of_each t
    ⟨v :: vs, .cons h1 g1, .cons h2 g2⟩
theorem each_reads {s : Shared} {m : Mu} : ∀ {ds : List D} {us : List Value} {ps : List PyData} {as : List Addr}, pysOf m ds = some ps → ReadsAll s.heap us ps as → PySem.W.EachIs (fun u d => ∃ as, Reads s.heap u (pyKey m d) as) us ds
  | [], us, ps, as, h, r => by cases h; cases r; exact .nil
  | d :: ds, us, ps, as, h, r => by
    rw [pysOf] at h
    cases q : pyOf m d with
    | none => rw [q] at h; cases h
    | some p =>
      cases q' : pysOf m ds with
      | none => rw [q, q'] at h; cases h
      | some ps' =>
        rw [q, q'] at h
        cases h
        cases r with
        | cons r1 r2 => exact .cons ⟨_, by unfold pyKey; rw [q]; exact r1⟩ (each_reads q' r2)
theorem sortable_ok {ps : List PyData} (h : sortable ps = true) : PySem.W.Sortable ps := by
  unfold sortable at h
  rcases Bool.or_eq_true_iff.mp h with h | h
  · refine .inl fun d hd => ?_
    have := List.all_eq_true.mp h d hd
    cases d with
    | tuple xs =>
      cases xs with
      | nil => cases this
      | cons x r => exact ⟨x, r, rfl⟩
    | _ => cases this
  · refine .inr fun d hd => ?_
    have := List.all_eq_true.mp h d hd
    refine ⟨fun e => ?_, fun xs e => ?_⟩
    · subst e; cases this
    · subst e; cases this
/-- sorted(xs) of a list -/
theorem sorted_call {pins : List (Addr × Obj)} {s : Shared} {σ : L2.St} {H : Hp} {Q : VK} {p : Addr} {m : Mu} {al : List Addr} {F : Hp} {vs : List V} {xs zs : List D} (hu : X.A.units + 66 < cLine) (I : Inv X pins σ H s) (c : Core X.K H m al F) (h1 : SqL X.K H p vs) (h2 : RepL X.K al F vs xs)
    (hs : sortD m xs = some zs) (fin : ∀ (q : Addr) (ws : List V), H q = none → RepL X.K al F ws zs → Q (.ref q) (upd H q (.lst ws))) : wpAny (model X.prog X.w) X.A (call (.builtin "sorted") [.ref p]) (EP X pins σ Q) X.xe s := by
  unfold sortD at hs
  cases hp : pysOf m xs with
  | none => rw [hp] at hs; cases hs
  | some ps =>
    rw [hp] at hs
    simp only at hs
    split at hs
    · rename_i hz
      have hs := Option.some.inj hs
      subst hs
      rw [Bool.and_eq_true] at hz
      have em := pysOf_map hp
      obtain ⟨its, rv, hl, hlen⟩ := I.list h1
      obtain ⟨as, rd⟩ := Dp.readsAll I _ _ _ (c.datas h2 hp) rv
      have er := each_reads hp rd
      have ea := each_of h2 rv
      have hn : xs.length ≤ sizeLine := by rw [← h2.length]; exact hlen
      refine PySem.W.sorted_data (enc := pyKey m) hl.isList ea er (em ▸ (allAlike_ok hz.1).1) (em ▸ sortable_ok hz.2) hn (fun b hb => ?_) fun out ho eo => ?_
      · have sh := (pyOf_spec (pysOf_mem hp hb))
        obtain ⟨_, _, _, sh⟩ := sh
        have := SeqAt.depth_of_shaped sh
        omega
      · obtain ⟨ws, rw1, rw2⟩ := of_each eo
        obtain ⟨ep, he'⟩ := PyProof.Rows.sortedAll_at s.heap its out.toArray
        have hl2 : ws.length ≤ sizeLine := by
          rw [rw1.length, ho]
          exact hn
        refine ⟨.ref _, upd H (s.heap.objs.size + 1) (.lst ws), I.laid (t' := s.toks) (fun _ _ => PyProof.Rows.sortedAll_old) (Nat.le_succ _) ⟨hl2, out, ep, rw1, he'⟩, rfl, ?_⟩
        exact fin _ ws (I.hok.fresh (Nat.le_succ _)) rw2
    · cases hs
theorem bi_sorted (hu : X.A.units + 66 < cLine) : CallR X (.builtin "sorted") (rBi X.K fun m ds => biD m .sorted ds) := by
  rintro pins s σ H vs us Q I rs ⟨τ, e, m, al, F, ds, d, sr, r, hd, fin⟩
  match ds, r, hd with
  | [a], r, hd =>
    obtain ⟨v, rfl, ra⟩ := repL1 r
    simp only [biD] at hd
    cases z : deref m a with
    | none => rw [z] at hd; cases hd
    | some a' =>
      rw [z] at hd
      have th := sr.core.thru ra z
      cases a' with
      | lst xs =>
        obtain ⟨zs, hz, rfl⟩ := Option.map_eq_some_iff.mp hd
        obtain ⟨p, ys, rfl, h1, h2⟩ := th.lst sr.core.sub
        rw [Vals.ref1 rs]
        exact sorted_call hu I sr.core (SqL.of h1) h2 hz fun q ws hq rr => fin.newL sr rr hq
      | _ => cases hd
  | [], _, hd => simp [biD] at hd
  | _ :: _ :: _, _, hd => simp [biD] at hd

/-! ### methods -/
theorem Core.put {H : Hp} {m : Mu} {al : List Addr} {F : Hp} {k : Nat} {a : Addr} {d d' : D} {o : HO} (c : Core K H m al F) (ha : al[k]? = some a) (hm : m[k]? = some (some d)) (ob : ObjR K al F (upd H a o) a d') : Core K (upd H a o) (m.set k (some d')) al F := by
  obtain ⟨fa, _⟩ := c.live k a d ha hm
  have hk : k < m.length := (List.getElem?_eq_some_iff.mp hm).1
  refine ⟨fun b u h => ?_, by rw [List.length_set]; exact c.len, c.nd, fun b h => ?_, fun j b d2 h1 h2 => ?_⟩
  · rw [upd_ne (fun e => by subst e; rw [fa] at h; cases h)]
    exact c.sub b u h
  · by_cases q : b = a
    · subst q
      exact ⟨_, upd_same⟩
    · rw [upd_ne q]
      exact c.has b h
  · by_cases e : j = k
    · subst e
      rw [ha] at h1
      cases h1
      rw [List.getElem?_set_self hk] at h2
      cases h2
      exact ⟨fa, ob⟩
    · rw [List.getElem?_set_ne (Ne.symm e)] at h2
      obtain ⟨g1, g2⟩ := c.live j b d2 h1 h2
      have ne : b ≠ a := fun q => by
        subst q
        have h3 := (List.getElem?_eq_some_iff.mp h1)
        have h4 := (List.getElem?_eq_some_iff.mp ha)
        exact e ((List.getElem_inj (h₀ := h3.1) (h₁ := h4.1) c.nd).mp (h3.2.trans h4.2.symm))
      refine ⟨g1, ?_⟩
      cases g2 with
      | lst q1 q2 => exact .lst (by rw [upd_ne ne]; exact q1) q2
      | dicK q1 q2 => exact .dicK (by rw [upd_ne ne]; exact q1) q2
      | dicT q1 q2 => exact .dicT (by rw [upd_ne ne]; exact q1) q2
theorem Ex.put {H : Hp} {al : List Addr} {F : Hp} {k : Nat} {a : Addr} {o : HO} (ha : al[k]? = some a) : Ex al F H al F (upd H a o) :=
  ⟨Pre.refl _, Le.refl _, fun b u h n => by
    by_cases q : b = a
    · subst q; exact absurd (List.mem_of_getElem? ha) n
    · rw [upd_ne q]; exact h, fun _ h => .inl h, fun _ _ h _ _ => h⟩
theorem Fin.put {σ : L2.St} {H : Hp} {e : Env} {m : Mu} {al : List Addr} {F : Hp} {Q : VK} {k : Nat} {a : Addr} {d d' r : D} {o : HO} {v : V} (fin : Fin K σ al F H Q r e (m.set k (some d'))) (sr : SR K σ H e m al F) (ha : al[k]? = some a) (hm : m[k]? = some (some d)) (ob : ObjR K al F (upd H a o) a d') (rr : Rep K al F v r) : Q v (upd H a o) :=
  fin v _ al F ⟨sr.core.put ha hm ob, sr.slots, sr.len⟩ (Ex.put ha) rr
def rMe (K : PySem.W.Frag) (f : Mu → D → List D → Option (D × Mu)) : V → List V → Hp → VK → Prop := fun x vs H Q => ∃ σ e m al F a ds d m', SR K σ H e m al F ∧ Rep K al F x a ∧ RepL K al F vs ds ∧ f m a ds = some (d, m') ∧ Fin K σ al F H Q d e m'
theorem RepL.eraseIdx {al : List Addr} {F : Hp} : ∀ {ds : List D} {vs : List V} (n : Nat), RepL K al F vs ds → RepL K al F (vs.eraseIdx n) (ds.eraseIdx n)
  | [], _, n, r => by cases r; simpa using RepL.nil
  | d :: ds, _, 0, r => by
    cases r with
    | cons h1 h2 => simpa using h2
  | d :: ds, _, n + 1, r => by
    cases r with
    | cons h1 h2 => exact .cons h1 (RepL.eraseIdx n h2)
theorem cell_get {H : Hp} {m : Mu} {al : List Addr} {F : Hp} {k : Nat} {x : V} {d : D} (c : Core K H m al F) (r : Rep K al F x (.cell k)) (hm : m[k]? = some (some d)) : ∃ a, x = .ref a ∧ al[k]? = some a ∧ F a = none ∧ ObjR K al F H a d := by
  cases r with
  | cell ha =>
    obtain ⟨g1, g2⟩ := c.live _ _ _ ha hm
    exact ⟨_, rfl, ha, g1, g2⟩
theorem me_append : MtR X "list.append" (rMe X.K appendD) := by
  rintro pins s σ H x vs v us Q I rx rv ⟨τ, e, m, al, F, a, ds, d, m', sr, ra, r, hd, fin⟩
  unfold appendD at hd
  split at hd
  · rename_i k y
    obtain ⟨w, rfl, rw'⟩ := repL1 r
    split at hd
    · rename_i xs hm
      split at hd
      · rename_i hz
        cases hd
        obtain ⟨p, rfl, hp, fp, ob⟩ := cell_get sr.core ra hm
        cases ob with
        | @lst ys _ h1 h2 =>
          refine mt_append pins s σ H _ _ v us Q I rx rv ⟨p, ys, w, rfl, rfl, h1, by rw [sizeLine_eq, h2.length]; exact hz, ?_⟩
          exact fin.put sr hp hm (.lst upd_same (h2.app (.cons rw' .nil))) .non
      · cases hd
    · cases hd
  · cases hd
theorem me_extend : MtR X "list.extend" (rMe X.K extendD) := by
  rintro pins s σ H x vs v us Q I rx rv ⟨τ, e, m, al, F, a, ds, d, m', sr, ra, r, hd, fin⟩
  unfold extendD at hd
  split at hd
  · rename_i k zs
    obtain ⟨w, rfl, rw'⟩ := repL1 r
    split at hd
    · rename_i xs hm
      split at hd
      · rename_i hz
        cases hd
        obtain ⟨p, rfl, hp, fp, ob⟩ := cell_get sr.core ra hm
        cases rw' with
        | @lst q ws _ g1 g2 =>
          cases ob with
          | @lst ys _ h1 h2 =>
            refine mt_extend pins s σ H _ _ v us Q I rx rv ⟨p, q, ys, ws, rfl, rfl, h1, sr.core.sub _ _ g1, by rw [sizeLine_eq, h2.length, g2.length]; exact hz, ?_⟩
            exact fin.put sr hp hm (.lst upd_same (h2.app g2)) .non
      · cases hd
    · cases hd
  · cases hd
theorem me_pop : MtR X "list.pop" (rMe X.K popD) := by
  rintro pins s σ H x vs v us Q I rx rv ⟨τ, e, m, al, F, a, ds, d, m', sr, ra, r, hd, fin⟩
  unfold popD at hd
  split at hd
  · rename_i k i
    obtain ⟨w, rfl, rw'⟩ := repL1 r
    cases rw'
    split at hd
    · rename_i xs hm
      split at hd
      · rename_i hz
        obtain ⟨z, hz', hd⟩ := Option.map_eq_some_iff.mp hd
        cases hd
        obtain ⟨p, rfl, hp, fp, ob⟩ := cell_get sr.core ra hm
        cases ob with
        | @lst ys _ h1 h2 =>
          obtain ⟨w, hw, rw2⟩ := h2.get hz'
          refine mt_popAt pins s σ H _ _ v us Q I rx rv ⟨p, ys, i, i.toNat, w, rfl, rfl, h1, by omega, by omega, ?_, hw, ?_⟩
          · unfold seqIndex?
            rw [h2.length]
            have e1 : ¬ i < 0 := by omega
            simp only [e1, if_false]
            have e2 : ¬ (i < 0 ∨ i ≥ (xs.length : Int)) := by omega
            simp [hz.1, hz.2.1]
          · exact fin.put sr hp hm (.lst upd_same (h2.eraseIdx _)) rw2
      · cases hd
    · cases hd
  · cases hd
end
end Mn
end
section
set_option Elab.async false
set_option linter.all false
set_option maxRecDepth 100000
/-! index, setdefault over trees. -/
namespace Mn
open PySem PySem.Spec PyProof.Rows L2
variable {K : PySem.W.Frag}
section
variable {X : Cx}
theorem indexD_spec {p : PyData} : ∀ {qs : List PyData} {j : Nat}, indexD p qs = some j → ∃ z, qs[j]? = some z ∧ PyData.eqv z p = true ∧ ∀ (m : Nat) (z' : PyData), m < j → qs[m]? = some z' → PyData.eqv z' p = false
  | [], _, h => by cases h
  | q :: qs, j, h => by
    rw [indexD] at h
    split at h
    · rename_i hq
      cases h
      exact ⟨q, rfl, hq, fun m z' hm => absurd hm (Nat.not_lt_zero _)⟩
    · rename_i hq
      obtain ⟨i, hi, rfl⟩ := Option.map_eq_some_iff.mp h
      obtain ⟨z, h1, h2, h3⟩ := indexD_spec hi
      refine ⟨z, by simpa using h1, h2, fun m z' hm hz => ?_⟩
      cases m with
      | zero =>
        simp at hz
        subst hz
        simpa using hq
      | succ m => exact h3 m z' (by omega) (by simpa using hz)
theorem me_index (hu : X.A.units + 65 < cLine) : MtR X "list.index" (rMe X.K findD) := by
  rintro pins s σ H x vs v us Q I rx rv ⟨τ, e, m, al, F, a, ds, d, m', sr, ra, r, hd, fin⟩
  unfold findD at hd
  split at hd
  · rename_i y
    obtain ⟨w, rfl, rw'⟩ := repL1 r
    split at hd
    · rename_i qs p hq hp
      obtain ⟨j, hj, hd⟩ := Option.map_eq_some_iff.mp hd
      cases hd
      obtain ⟨d1, s1⟩ := sr.core.data ra hq
      obtain ⟨d2, s2⟩ := sr.core.data rw' hp
      obtain ⟨z, h1, h2, h3⟩ := indexD_spec hj
      cases id d1 with
      | lst _ _ => exact mt_indexD hu pins s σ H _ _ v us Q I rx rv ⟨_, w, p, qs, j, z, rfl, rfl, d1, d2, s1, s2, h1, h2, h3, fin.val sr (.int _)⟩
    · cases hd
  · cases hd
theorem put_snoc {κ : Type} [DecidableEq κ] (kd : κ → D) (kvs : List (κ × V)) (k : κ) (v : V) (h : valV kvs k = none) : (putK kvs k v).map (fun p => kd p.1) = kvs.map (fun p => kd p.1) ++ [kd k] ∧ (putK kvs k v).map (fun p => p.2) = kvs.map (fun p => p.2) ++ [v] := by
  rw [putK_new _ h]
  simp
theorem me_setdefault : MtR X "dict.setdefault" (rMe X.K setdefD) := by
  rintro pins s σ H x vs v us Q I rx rv ⟨τ, e, m, al, F, a, ds, d, m', sr, ra, r, hd, fin⟩
  unfold setdefD at hd
  split at hd
  · rename_i k y z
    obtain ⟨w, w2, rfl, ry, rz⟩ := repL2 r
    split at hd
    · rename_i ks ws hm
      split at hd
      · rename_i hz
        obtain ⟨p, rfl, hp, fp, ob⟩ := cell_get sr.core ra hm
        generalize et : false = t at ob
        cases ob with
        | @dicK kvs _ h1 h2 =>
          obtain ⟨q, rfl⟩ := flatKey_of (show flatKey y = true from hz.1)
          have ew := rep_kD ry
          subst ew
          obtain ⟨u1, u2, rfl, r1, r2⟩ := vals2 rv
          cases (show v = Value.ref p from rx)
          have lk := look_val kD keq_kD q h2
          have hl : kvs.length < sizeLine := by
            have := hz.2
            rw [List.length_map] at this
            rw [sizeLine_eq]; exact this
          refine d_setd I h1 r1 r2 hl (fun w0 e0 w' s' I' r' => ?_) (fun e0 w' s' I' r' => ?_)
          · cases e1 : lookD (kvs.map fun p => kD p.1) ws (kD q) with
            | none => rw [e1] at lk; rw [e0] at lk; cases lk
            | some d0 =>
              rw [e1] at lk hd
              cases hd
              obtain ⟨w1, h3, h4⟩ := lk
              rw [e0] at h3
              cases h3
              exact ⟨_, H, I', r', fin.val sr h4⟩
          · cases e1 : lookD (kvs.map fun p => kD p.1) ws (kD q) with
            | some d0 =>
              rw [e1] at lk
              obtain ⟨w1, h3, _⟩ := lk
              rw [e0] at h3
              cases h3
            | none =>
              rw [e1] at hd
              cases hd
              obtain ⟨g1, g2⟩ := put_snoc kD kvs q w2 e0
              refine ⟨_, _, I', r', fin.put sr hp hm ?_ rz⟩
              rw [← g1]
              refine .dicK upd_same ?_
              rw [g2]
              exact h2.app (.cons rz .nil)
        | dicT _ _ => cases et
      · cases hd
    · cases hd
  · cases hd

/-! ### dict(pairs) -/
end
theorem put_rep {κ : Type} [DecidableEq κ] {al : List Addr} {F : Hp} (kd : κ → D) (hk : ∀ a b, keq (kd a) (kd b) = decide (a = b)) (k : κ) {v : V} {d : D} (rv : Rep K al F v d) {kvs : List (κ × V)} {vs : List D} (r : RepL K al F (kvs.map fun p => p.2) vs) :
    (putK kvs k v).map (fun p => kd p.1) = (putD (kvs.map fun p => kd p.1) vs (kd k) d).1 ∧ RepL K al F ((putK kvs k v).map fun p => p.2) (putD (kvs.map fun p => kd p.1) vs (kd k) d).2 := by
  unfold putD putK
  rw [has_val kd hk, valV_any]
  by_cases e : (valV kvs k).isSome = true
  · rw [if_pos e, if_pos e]
    constructor
    · rw [List.map_map]
      apply List.map_congr_left
      intro p hp
      simp only [Function.comp]
      split <;> rfl
    · have go : ∀ {kvs : List (κ × V)} {vs : List D}, RepL K al F (kvs.map fun p => p.2) vs → RepL K al F ((kvs.map fun kv => if kv.1 = k then (kv.1, v) else kv).map fun p => p.2) (replD (kvs.map fun p => kd p.1) vs (kd k) d) := by
        intro kvs
        induction kvs with
        | nil =>
          intro vs r
          cases r
          exact .nil
        | cons p kvs ih =>
          intro vs r
          cases r with
          | cons h1 h2 =>
            simp only [List.map_cons, replD, hk]
            refine .cons ?_ (ih h2)
            by_cases q : p.1 = k
            · simp only [q, decide_true, if_true]
              exact rv
            · simp only [q, decide_false, if_false, Bool.false_eq_true]
              exact h1
      exact go r
  · rw [if_neg e, if_neg e]
    simp only [List.map_append, List.map_cons, List.map_nil]
    exact ⟨trivial, r.app (.cons rv .nil)⟩
theorem merge_rep {al : List Addr} {F : Hp} : ∀ {more : List (Key × V)} {es : List D} {kvs : List (Key × V)} {vs : List D}, RepL K al F (more.map fun p => p.2) es → RepL K al F (kvs.map fun p => p.2) vs →
    (mergeK kvs more).map (fun p => kD p.1) = (mergeD (kvs.map fun p => kD p.1) vs ((more.map fun p => kD p.1).zip es)).1 ∧ RepL K al F ((mergeK kvs more).map fun p => p.2) (mergeD (kvs.map fun p => kD p.1) vs ((more.map fun p => kD p.1).zip es)).2
  | [], _, kvs, vs, h, r => by cases h; exact ⟨rfl, r⟩
  | (k, v) :: more, _, kvs, vs, h, r => by
    cases h with
    | @cons _ _ d es h1 h2 =>
      obtain ⟨g1, g2⟩ := put_rep kD keq_kD k h1 r
      have ih := merge_rep (kvs := putK kvs k v) h2 g2
      rw [g1] at ih
      exact ih
theorem pairs_rep {al : List Addr} {F H : Hp} (sub : ∀ a o, F a = some o → H a = some o) : ∀ {xs : List D} {vs : List V} {ps : List (D × D)}, RepL K al F vs xs → pairsOf xs = some ps →
    ∃ (as : List Addr) (kvs : List (Key × V)) (es : List D), vs = as.map V.ref ∧ Paired (fun p kv => SqT K H p [kV kv.1, kv.2]) as kvs ∧ ps = (kvs.map fun p => kD p.1).zip es ∧ RepL K al F (kvs.map fun p => p.2) es
  | [], _, _, r, h => by
    cases r
    cases h
    exact ⟨[], [], [], rfl, .nil, rfl, .nil⟩
  | x :: xs, _, ps, r, h => by
    cases r with
    | cons h1 h2 =>
      unfold pairsOf at h
      split at h
      · rename_i e
        cases e
      · rename_i k v xs' e
        cases e
        split at h
        · rename_i hk
          obtain ⟨ps', hp, rfl⟩ := Option.map_eq_some_iff.mp h
          obtain ⟨as, kvs, es, e1, e2, e3, e4⟩ := pairs_rep sub h2 hp
          subst e1 e3
          obtain ⟨q, rfl⟩ := flatKey_of hk
          cases h1 with
          | @tup a _ _ g1 g2 =>
            obtain ⟨w, w2, rfl, rk, rv⟩ := repL2 g2
            have ew := rep_kD rk
            subst ew
            exact ⟨a :: as, (q, w2) :: kvs, v :: es, rfl, .cons (sqT_sub sub g1) e2, rfl, .cons rv e4⟩
        · cases h
      · cases h
section
variable {X : Cx}
theorem bi_dict (hc : X.calm = true) : CallR X (.type "dict") (rBi X.K fun m ds => biD m .dict ds) := by
  rintro pins s σ H vs us Q I rs ⟨τ, e, m, al, F, ds, d, sr, r, hd, fin⟩
  match ds, r, hd with
  | [a], r, hd =>
    obtain ⟨v, rfl, ra⟩ := repL1 r
    simp only [biD] at hd
    cases z : deref m a with
    | none => rw [z] at hd; cases hd
    | some a' =>
      rw [z] at hd
      have th := sr.core.thru ra z
      cases a' with
      | lst xs =>
        obtain ⟨ps, hp, rfl⟩ := Option.map_eq_some_iff.mp hd
        obtain ⟨p, ys, rfl, h1, h2⟩ := th.lst sr.core.sub
        obtain ⟨as, kvs, es, rfl, e2, rfl, e4⟩ := pairs_rep sr.core.sub h2 hp
        refine call_dictP hc pins s σ H _ us Q I rs ⟨p, as, kvs, rfl, SqL.of h1, e2, fun l hl => ?_⟩
        obtain ⟨g1, g2⟩ := merge_rep (kvs := []) (vs := []) e4 .nil
        have hF := sr.core.fresh hl
        refine fin _ _ _ _ (sr.new hl _) (Ex.newO hF hl _) ?_
        have := Rep.dicK (K := X.K) (al := al) (F := upd F l (.dK (mergeK [] kvs))) upd_same (g2.mono (Pre.refl _) (Le.new hF))
        rw [g1] at this
        exact this
      | _ => cases hd
  | [], _, hd => simp [biD] at hd
  | _ :: _ :: _, _, hd => simp [biD] at hd
end
end Mn
end
section
set_option Elab.async false
set_option linter.all false
set_option maxRecDepth 100000
/-! The rules of the expressions over trees. -/
namespace Mn
open PySem PySem.Spec PyProof.Rows L2

/-! ### plain shapes -/
/-- neither starred nor a slice nor a set's display -/
def nice : Expr → Bool
  | .Starred _ _ => false
  | .Slice _ _ _ _ => false
  | .Set _ _ _ => false
  | _ => true
/-- the test is the value's truth -/
def tst : Expr → Bool
  | .UnaryOp .Not _ _ => false
  | .BoolOp _ _ _ => false
  | .IfExp _ _ _ _ => false
  | .Compare _ _ _ _ => false
  | _ => true
def noCall : Expr → Bool
  | .Call _ _ _ _ => false
  | _ => true
def noComp : Expr → Bool
  | .ListComp _ _ _ _ => false
  | .SetComp _ _ _ _ => false
  | .DictComp _ _ _ _ _ => false
  | _ => true
theorem star_nice {e : Expr} (h : nice e = true) (es : List Expr) (env : PySem.Env) : starEach (e :: es) env = (false, eval e env) :: starEach es env := by
  cases e <;> first | rfl | (simp [nice] at h)
theorem sl_nice {e : Expr} (h : nice e = true) : ∀ o i, subscripted e false o i = operate [o, i] (getItem o i) := by
  intro o i
  cases e <;> first | rfl | (simp [nice] at h)
theorem marks_nice {e : Expr} (h : nice e = true) (op : CmpOp) : behindInMarks op e = false := by
  cases e <;> first | rfl | (simp [nice] at h)
theorem folded_nice {e : Expr} (h : nice e = true) (env : PySem.Env) : ∀ x, foldedSetIterable e env x = pure x := by
  intro x
  cases e <;> first | rfl | (simp [nice] at h)
theorem true_tst {e : Expr} (h : tst e = true) (env : PySem.Env) : ∀ whole, isTrue e env whole = (do let v ← whole; standAt e.pos; holding [v] (truthy v)) := by
  intro whole
  cases e <;> first | rfl | (simp [tst] at h; done) | skip
  rename_i op _ _
  cases op <;> first | rfl | (simp [tst] at h)
theorem base_call {e : Expr} (h : noCall e = true) (m : Str) (env : PySem.Env) : attributeBase e m env (eval e env) = eval e env := by
  cases e <;> first | rfl | (simp [noCall] at h)
theorem swap_comp {e : Expr} (h : noComp e = true) (t : Option Expr) (l : Nat) (env : PySem.Env) : swapsWith e t l env = pure false := by
  cases e <;> first | rfl | (simp [noComp] at h)
theorem stars_nice : ∀ {es : List Expr}, es.all nice = true → ∀ env, starEach es env = es.map fun e => (false, eval e env)
  | [], _, _ => rfl
  | e :: es, h, env => by
    rw [List.all_cons, Bool.and_eq_true] at h
    rw [star_nice h.1, stars_nice h.2 env]; rfl
theorem back_nice {es : List Expr} (h : es.all nice = true) (pos : Pos) (env : PySem.Env) : (backTo pos (starEach es env)).any (·.1) = false := by
  rw [stars_nice h env]
  unfold backTo
  rw [List.any_eq_false]
  intro x hx
  simp only [List.mem_map] at hx
  obtain ⟨y, ⟨z, _, rfl⟩, rfl⟩ := hx
  simp
theorem few_nice {es : List Expr} (h : es.all nice = true) (hl : es.length < 30) (pos : Pos) (env : PySem.Env) : ((backTo pos (starEach es env)).all (fun x => !x.1) && (backToKw pos (keywordEach [] env)).all (fun x => x.1.isSome)
      && decide (es.length + ([] : List Keyword).length + (if ([] : List Keyword).isEmpty then 0 else 1) < 30)) = true := by
  rw [stars_nice h env]
  have e1 : (backTo pos (es.map fun e => (false, eval e env))).all (fun x => !x.1) = true := by
    unfold backTo
    rw [List.all_eq_true]
    intro x hx
    simp only [List.mem_map] at hx
    obtain ⟨y, ⟨z, _, rfl⟩, rfl⟩ := hx
    simp
  rw [e1]
  have e2 : decide (es.length + ([] : List Keyword).length + (if ([] : List Keyword).isEmpty then 0 else 1) < 30) = true := by
    simpa using hl
  rw [e2]
  rfl

section
variable {X : Cx} {pos : Pos} {a b c : Expr}
/-! ### atoms -/
theorem pe_litD (k : Const) {n : Nat} : PE X (.Constant k n pos) (tD X.K (M.of (constD k))) := by
  refine ⟨fun pins s σ H Q I h => ?_⟩
  obtain ⟨e, m, al, F, sr, ok⟩ := h
  cases k with
  | none => exact pe_non.run pins s σ H Q I (Fin.val ok sr .non)
  | bool b => exact pe_bl.run pins s σ H Q I (Fin.val ok sr (.bl b))
  | int i => exact pe_int.run pins s σ H Q I (Fin.val ok sr (.int i))
  | str x => exact pe_str.run pins s σ H Q I (Fin.val ok sr (.str x))
  | _ => exact ok.elim
theorem pe_varD {i : Nat} {x : Str} (hN : X.N[i]? = some x) (hv : Vis X.env.scope x) (hd : (x == ("__debug__" : Str)) = false) (hcd : (x == ("__classdict__" : Str)) = false) : PE X (.Name x pos) (tD X.K (varD i)) := by
  refine (pe_var hN hv hd hcd).imp fun σ H Q h => ?_
  obtain ⟨e, m, al, F, sr, ok⟩ := h
  unfold varD at ok
  split at ok
  · rename_i d hd
    obtain ⟨v, h1, h2⟩ := sr.slots i d hd
    exact ⟨v, h1, Fin.val ok sr h2⟩
  · exact ok.elim
theorem ObjR.toRep {K : PySem.W.Frag} {al : List Addr} {F H : Hp} {a : Addr} {d : D} (hF : F a = none) (o : ObjR K al F H a d) : ∃ u, H a = some u ∧ Rep K al (upd F a u) (.ref a) d := by
  cases o with
  | lst h1 h2 => exact ⟨_, h1, .lst upd_same (h2.mono (Pre.refl _) (Le.new hF))⟩
  | dicK h1 h2 => exact ⟨_, h1, .dicK upd_same (h2.mono (Pre.refl _) (Le.new hF))⟩
  | dicT h1 h2 => exact ⟨_, h1, .dicT upd_same (h2.mono (Pre.refl _) (Le.new hF))⟩
theorem SR.frz {K : PySem.W.Frag} {σ : L2.St} {H : Hp} {e : Env} {m : Mu} {al : List Addr} {F : Hp} {i k : Nat} {d : D} {a : Addr} {u : HO} (sr : SR K σ H e m al F) (hi : e[i]? = some (some (.cell k))) (hm : m[k]? = some (some d)) (hk : al[k]? = some a) (hs : σ[i]? = some (some (.ref a)))
    (hu : H a = some u) (hF : F a = none) (r : Rep K al (upd F a u) (.ref a) d) : SR K σ H (e.set i (some d)) (m.set k none) al (upd F a u) := by
  have le : Le F (upd F a u) := Le.new hF
  refine ⟨⟨fun b o h => ?_, by rw [List.length_set]; exact sr.core.len, sr.core.nd, sr.core.has, fun j b d2 h1 h2 => ?_⟩, fun j d2 h => ?_, by rw [List.length_set]; exact sr.len⟩
  · by_cases q : b = a
    · subst q
      rw [upd_same] at h
      rw [hu]; exact h
    · rw [upd_ne q] at h
      exact sr.core.sub b o h
  · by_cases q : j = k
    · subst q
      rw [List.getElem?_set_self (List.getElem?_eq_some_iff.mp hm).1] at h2
      cases h2
    · rw [List.getElem?_set_ne (Ne.symm q)] at h2
      obtain ⟨g1, g2⟩ := sr.core.live j b d2 h1 h2
      have ne : b ≠ a := fun z => by
        subst z
        have h3 := (List.getElem?_eq_some_iff.mp h1)
        have h4 := (List.getElem?_eq_some_iff.mp hk)
        exact q ((List.getElem_inj (h₀ := h3.1) (h₁ := h4.1) sr.core.nd).mp (h3.2.trans h4.2.symm))
      refine ⟨by rw [upd_ne ne]; exact g1, ?_⟩
      cases g2 with
      | lst q1 q2 => exact .lst q1 (q2.mono (Pre.refl _) le)
      | dicK q1 q2 => exact .dicK q1 (q2.mono (Pre.refl _) le)
      | dicT q1 q2 => exact .dicT q1 (q2.mono (Pre.refl _) le)
  · by_cases q : j = i
    · subst q
      rw [List.getElem?_set_self (List.getElem?_eq_some_iff.mp hi).1] at h
      cases h
      exact ⟨_, hs, r⟩
    · rw [List.getElem?_set_ne (Ne.symm q)] at h
      obtain ⟨v, h1, h2⟩ := sr.slots j d2 h
      exact ⟨v, h1, h2.mono (Pre.refl _) le⟩
theorem pe_frzD {i : Nat} {x : Str} (hN : X.N[i]? = some x) (hv : Vis X.env.scope x) (hd : (x == ("__debug__" : Str)) = false) (hcd : (x == ("__classdict__" : Str)) = false) : PE X (.Name x pos) (tD X.K (frzD i)) := by
  refine (pe_var hN hv hd hcd).imp fun σ H Q h => ?_
  obtain ⟨e, m, al, F, sr, ok⟩ := h
  unfold frzD at ok
  split at ok
  · rename_i k hi
    split at ok
    · rename_i d hm
      obtain ⟨v, h1, h2⟩ := sr.slots i _ hi
      cases h2 with
      | @cell _ a hk =>
        obtain ⟨fa, ob⟩ := sr.core.live k a d hk hm
        obtain ⟨u, hu, r⟩ := ob.toRep fa
        refine ⟨_, h1, ok _ H al (upd F a u) (sr.frz hi hm hk h1 hu fa r) ?_ r⟩
        exact ⟨Pre.refl _, Le.new fa, fun _ _ h _ => h, fun _ h => .inl h, fun b o h n _ => by rw [upd_ne (fun z => n (by rw [z]; exact List.mem_of_getElem? hk))]; exact h⟩
    · exact ok.elim
  · rename_i d _ hd
    obtain ⟨v, h1, h2⟩ := sr.slots i d hd
    exact ⟨v, h1, Fin.val ok sr h2⟩
  · exact ok.elim

/-! ### operators -/
theorem pe_binD (op : Bop) {f g : M D} (ha : PE X a (tD X.K f)) (hb : PE X b (tD X.K g)) : PE X (.BinOp a op.op b pos) (tD X.K (f.bind fun x => g.bind fun y e m => M.of (binD m op x y) e m)) :=
  (pe_op (op_binD op) ha hb).imp (bin_imp fun _ _ _ _ h => h)
theorem pe_cmpDD (hu : X.A.units + 65 < cLine) (op : Cop) {f g : M D} (ha : PE X a (tD X.K f)) (hb : PE X b (tD X.K g)) (hn : nice b = true) :
    PE X (.Compare a [op.op] [b] pos) (tD X.K (f.bind fun x => g.bind fun y e m => M.of ((cmpD m op x y).map .bl) e m)) :=
  (pe_cmpR (op_cmpD hu op) ha hb (marks_nice hn _)).imp (bin_imp fun _ _ _ _ h => h)
theorem fin_bool {σ : L2.St} {al : List Addr} {F H : Hp} {Q : Bool → Hp → Prop} {k : Bool} {e : Env} {m : Mu} {K : PySem.W.Frag} (fin : FinG K rpB σ al F H Q k e m) {v : V} {H' : Hp} {al' : List Addr} {F' : Hp} (sr : SR K σ H' e m al' F') (ex : Ex al F H al' F' H') (r : Rep K al' F' v (.bl k)) : ∃ j, v = .bl j ∧ Q j H' := by
  cases r
  exact ⟨k, rfl, fin k H' al' F' sr ex rfl⟩
theorem pt_cmpDD (hu : X.A.units + 65 < cLine) (op : Cop) {f g : M D} (ha : PE X a (tD X.K f)) (hb : PE X b (tD X.K g)) (hn : nice b = true) :
    PT X (.Compare a [op.op] [b] pos) (tDT X.K (f.bind fun x => g.bind fun y e m => M.of (cmpD m op x y) e m)) := by
  refine (pt_cmpR (op_cmpD hu op) ha hb (marks_nice hn _)).imp fun σ H Q h => ?_
  refine tG_mono (tG_bind h) fun v H1 h1 => ?_
  obtain ⟨d, e, m, al, F, sr, r, ok⟩ := h1
  refine ⟨e, m, al, F, sr, (R.Ok.bind ok).mono (fun d2 e2 m2 ok2 v2 H2 al2 F2 sr2 ex2 r2 => ?_) fun _ _ _ z => z⟩
  obtain ⟨k, hk, fin⟩ := R.Ok.of ok2
  refine ⟨σ, e2, m2, al2, F2, d, d2, .bl k, sr2, r.mono ex2.pre ex2.le, r2, by simp only [hk, Option.map_some], fun v' H' al' F' sr' ex' r' => ?_⟩
  exact fin_bool fin sr' (ex2.trans ex') r'
theorem marks2 {op op' : CmpOp} (hb : nice b = true) (hc : nice c = true) : lastMarks [op, op'] [b, c] = false := by
  show behindInMarks op' c = false
  exact marks_nice hc _
theorem chain_imp {K : PySem.W.Frag} {α β : Type} {rp : RP α β} {f g : M D} {h : Bool → D → M α} {op : Cop} {σ : L2.St} {H : Hp} {Q : β → Hp → Prop}
    (w : tG K rp (f.bind fun x => g.bind fun y => M.bind (fun e m => M.of (cmpD m op x y) e m) fun k => h k y) σ H Q) :
    tD K f σ H fun x H1 => tD K g σ H1 fun y H2 => rD2 K (fun m a b => (cmpD m op a b).map .bl) x y H2 fun z H3 => ∃ k, z = .bl k ∧ tK K (rpD K) rp (fun d => h k d) y σ H3 Q := by
  refine tG_mono (tG_bind w) fun v H1 h1 => ?_
  obtain ⟨d, e, m, al, F, sr, r, ok⟩ := h1
  refine ⟨e, m, al, F, sr, (R.Ok.bind ok).mono (fun d2 e2 m2 ok2 v2 H2 al2 F2 sr2 ex2 r2 => ?_) fun _ _ _ z => z⟩
  obtain ⟨k, hk, ok3⟩ := R.Ok.of (R.Ok.bind ok2)
  refine ⟨σ, e2, m2, al2, F2, d, d2, .bl k, sr2, r.mono ex2.pre ex2.le, r2, by simp only [hk, Option.map_some], fun v' H' al' F' sr' ex' r' => ?_⟩
  cases r'
  exact ⟨k, rfl, d2, e2, m2, al', F', sr', r2.mono ex'.pre ex'.le, ok3.mono (fun _ _ _ fin => fin.trans (ex2.trans ex')) fun _ _ _ z => z⟩
theorem pe_chainD (hu : X.A.units + 65 < cLine) (op op' : Cop) {f g h : M D} (ha : PE X a (tD X.K f)) (hb : PE X b (tD X.K g)) (hc : PE X c (tD X.K h)) (nb : nice b = true) (nc : nice c = true) :
    PE X (.Compare a [op.op, op'.op] [b, c] pos) (tD X.K (f.bind fun x => g.bind fun y => M.bind (fun e m => M.of (cmpD m op x y) e m) fun k =>
      if k = true then h.bind fun z e m => M.of ((cmpD m op' y z).map .bl) e m else M.ret (.bl false))) := by
  refine (pe_chain (op_cmpD hu op) (op_cmpD hu op') ha hb hc (marks2 nb nc)).imp fun σ H Q w => ?_
  refine tG_mono (chain_imp (h := fun (k : Bool) (y : D) => if k = true then h.bind fun z e m => M.of ((cmpD m op' y z).map D.bl) e m else M.ret (D.bl false)) w) fun x H1 h1 => tG_mono h1 fun y H2 h2 => ?_
  obtain ⟨τ, e, m, al, F, p, q, d, sr, rx, ry, hd, fin⟩ := h2
  refine ⟨τ, e, m, al, F, p, q, d, sr, rx, ry, hd, fun v' H' al' F' sr' ex' r' => ?_⟩
  obtain ⟨k, e1, d3, e3, m3, al3, F3, sr3, r3, ok3⟩ := fin v' H' al' F' sr' ex' r'
  refine ⟨k, e1, ?_⟩
  cases k with
  | true =>
    rw [if_pos rfl]
    simp only [if_true] at ok3
    refine ⟨e3, m3, al3, F3, sr3, (R.Ok.bind ok3).mono (fun d4 e4 m4 ok4 v4 H4 al4 F4 sr4 ex4 r4 => ?_) fun _ _ _ z => z⟩
    obtain ⟨d5, hd5, fin5⟩ := R.Ok.of ok4
    exact ⟨σ, e4, m4, al4, F4, d3, d4, d5, sr4, r3.mono ex4.pre ex4.le, r4, hd5, fin5.trans ex4⟩
  | false =>
    rw [if_neg (by decide)]
    simp only [Bool.false_eq_true, if_false] at ok3
    exact Fin.val ok3 sr3 (.bl false)
theorem pt_chainD (hu : X.A.units + 65 < cLine) (op op' : Cop) {f g h : M D} (ha : PE X a (tD X.K f)) (hb : PE X b (tD X.K g)) (hc : PE X c (tD X.K h)) (nb : nice b = true) (nc : nice c = true) :
    PT X (.Compare a [op.op, op'.op] [b, c] pos) (tDT X.K (f.bind fun x => g.bind fun y => M.bind (fun e m => M.of (cmpD m op x y) e m) fun k =>
      if k = true then h.bind fun z e m => M.of (cmpD m op' y z) e m else M.ret false)) := by
  refine (pt_chain (op_cmpD hu op) (op_cmpD hu op') ha hb hc (marks2 nb nc)).imp fun σ H Q w => ?_
  refine tG_mono (chain_imp (h := fun (k : Bool) (y : D) => if k = true then h.bind fun z e m => M.of (cmpD m op' y z) e m else M.ret false) w) fun x H1 h1 => tG_mono h1 fun y H2 h2 => ?_
  obtain ⟨τ, e, m, al, F, p, q, d, sr, rx, ry, hd, fin⟩ := h2
  refine ⟨τ, e, m, al, F, p, q, d, sr, rx, ry, hd, fun v' H' al' F' sr' ex' r' => ?_⟩
  obtain ⟨k, e1, d3, e3, m3, al3, F3, sr3, r3, ok3⟩ := fin v' H' al' F' sr' ex' r'
  refine ⟨k, e1, ?_⟩
  cases k with
  | true =>
    rw [if_pos rfl]
    simp only [if_true] at ok3
    refine ⟨e3, m3, al3, F3, sr3, (R.Ok.bind ok3).mono (fun d4 e4 m4 ok4 v4 H4 al4 F4 sr4 ex4 r4 => ?_) fun _ _ _ z => z⟩
    obtain ⟨k5, hk5, fin5⟩ := R.Ok.of ok4
    refine ⟨σ, e4, m4, al4, F4, d3, d4, .bl k5, sr4, r3.mono ex4.pre ex4.le, r4, by simp only [hk5, Option.map_some], fun v' H' al' F' sr' ex' r' => ?_⟩
    exact fin_bool fin5 sr' (ex4.trans ex') r'
  | false =>
    rw [if_neg (by decide)]
    simp only [Bool.false_eq_true, if_false] at ok3
    exact ⟨false, rfl, ok3 false _ _ _ sr3 (Ex.refl _ _ _) rfl⟩
theorem pe_negD {f : M D} (ha : PE X a (tD X.K f)) : PE X (.UnaryOp .USub a pos) (tD X.K (f.bind fun x => M.of (negD x))) := by
  refine (pe_un un_neg ha).imp fun σ H Q w => tG_mono (tG_bind w) fun v H1 h1 => ?_
  obtain ⟨d, e, m, al, F, sr, r, ok⟩ := h1
  cases r <;> first | (exact ok.elim) | skip
  exact ⟨_, rfl, Fin.val ok sr (.int _)⟩
theorem pe_notD {f : M D} (ha : PE X a (tD X.K f)) : PE X (.UnaryOp .Not a pos) (tD X.K (f.bind fun x => M.of (notD x))) := by
  refine (pe_not ha).imp fun σ H Q w => tG_mono (tG_bind w) fun v H1 h1 => ?_
  obtain ⟨d, e, m, al, F, sr, r, ok⟩ := h1
  cases r <;> first | (exact ok.elim) | skip
  exact ⟨_, rfl, Fin.val ok sr (.bl _)⟩
theorem pt_notD {f : M Bool} (ha : PT X a (tDT X.K f)) : PT X (.UnaryOp .Not a pos) (tDT X.K (f.bind fun k => M.ret (!k))) := by
  refine (pt_not ha).imp fun σ H Q w => tG_mono (tG_bind w) fun v H1 h1 => ?_
  obtain ⟨d, e, m, al, F, sr, r, ok⟩ := h1
  cases r
  exact ok _ _ _ _ sr (Ex.refl _ _ _) rfl
theorem pt_trD {f : M D} (ha : PE X a (tD X.K f)) (ht : tst a = true) : PT X a (tDT X.K (f.bind fun x e m => M.of (truD m x) e m)) := by
  refine (pt_truth ha (true_tst ht _)).imp fun σ H Q w => tG_mono (tG_bind w) fun v H1 h1 => ?_
  obtain ⟨d, e, m, al, F, sr, r, ok⟩ := h1
  obtain ⟨k, hk, fin⟩ := R.Ok.of ok
  exact ⟨k, tru_of sr.core r hk, fin k _ _ _ sr (Ex.refl _ _ _) rfl⟩
theorem pe_iteD {t : M Bool} {f g : M D} (hc : PT X c (tDT X.K t)) (ha : PE X a (tD X.K f)) (hb : PE X b (tD X.K g)) : PE X (.IfExp c a b pos) (tD X.K (t.bind fun k => if k = true then f else g)) := by
  refine (pe_ifExp hc ha hb).imp fun σ H Q w => tG_mono (tG_bind w) fun v H1 h1 => ?_
  obtain ⟨d, e, m, al, F, sr, r, ok⟩ := h1
  cases r
  cases v with
  | true =>
    rw [if_pos rfl]
    exact ⟨e, m, al, F, sr, by simpa using ok⟩
  | false =>
    rw [if_neg (by decide)]
    exact ⟨e, m, al, F, sr, by simpa using ok⟩
end
end Mn
end
section
set_option Elab.async false
set_option linter.all false
set_option maxRecDepth 100000
/-! More rules of the expressions over trees: and, or, lists, calls. -/
namespace Mn
open PySem PySem.Spec PyProof.Rows L2
section
variable {X : Cx} {pos : Pos} {a b c : Expr} {rest : List Expr}
/-! ### and, or -/
theorem pe_one1 {op : PySem.BoolOp} {f : M D} {g : D → M D} (ha : PE X a (tD X.K f)) : PE X (.BoolOp op [a] pos) (tD X.K (f.bind fun x => if true = true then M.ret x else g x)) := by
  refine (pe_one ha).imp fun σ H Q w => tG_mono (tG_bind w) fun v H1 h1 => ?_
  obtain ⟨d, e, m, al, F, sr, r, ok⟩ := h1
  simp only [if_true] at ok
  exact Fin.val ok sr r
theorem pe_andD {f g : M D} (ha : PE X a (tD X.K f)) (hb : PE X (.BoolOp .And (b :: rest) pos) (tD X.K g)) : PE X (.BoolOp .And (a :: b :: rest) pos) (tD X.K (f.bind fun x => if false = true then M.ret x else match x with
    | .bl true => g
    | .bl false => M.ret (.bl false)
    | _ => M.of none)) := by
  refine (pe_and ha hb).imp fun σ H Q w => tG_mono (tG_bind w) fun v H1 h1 => ?_
  obtain ⟨d, e, m, al, F, sr, r, ok⟩ := h1
  cases r <;> first | (exact ok.elim) | skip
  rename_i k
  refine ⟨k, rfl, ?_⟩
  cases k with
  | true => exact ⟨e, m, al, F, sr, ok⟩
  | false => exact Fin.val ok sr (.bl _)
theorem pe_orD {f g : M D} (ha : PE X a (tD X.K f)) (hb : PE X (.BoolOp .Or (b :: rest) pos) (tD X.K g)) : PE X (.BoolOp .Or (a :: b :: rest) pos) (tD X.K (f.bind fun x => if false = true then M.ret x else match x with
    | .bl false => g
    | .bl true => M.ret (.bl true)
    | _ => M.of none)) := by
  refine (pe_or ha hb).imp fun σ H Q w => tG_mono (tG_bind w) fun v H1 h1 => ?_
  obtain ⟨d, e, m, al, F, sr, r, ok⟩ := h1
  cases r <;> first | (exact ok.elim) | skip
  rename_i k
  refine ⟨k, rfl, ?_⟩
  cases k with
  | false => exact ⟨e, m, al, F, sr, ok⟩
  | true => exact Fin.val ok sr (.bl _)
theorem pw_and1D {f : M Bool} (ha : PT X a (tDT X.K f)) : PW X (.BoolOp .And [a] pos) (tDT X.K (f.bind fun k => if k = true then M.ret true else M.ret false)) := by
  refine (pw_and1 ha).imp fun σ H Q w => tG_mono (tG_bind w) fun v H1 h1 => ?_
  obtain ⟨d, e, m, al, F, sr, r, ok⟩ := h1
  cases r
  cases v with
  | true => exact ok _ _ _ _ sr (Ex.refl _ _ _) rfl
  | false => exact ok _ _ _ _ sr (Ex.refl _ _ _) rfl
theorem pw_or1D {f : M Bool} (ha : PT X a (tDT X.K f)) : PW X (.BoolOp .Or [a] pos) (tDT X.K (f.bind fun k => if k = true then M.ret true else M.ret false)) := by
  refine (pw_or1 ha).imp fun σ H Q w => tG_mono (tG_bind w) fun v H1 h1 => ?_
  obtain ⟨d, e, m, al, F, sr, r, ok⟩ := h1
  cases r
  cases v with
  | true => exact ok _ _ _ _ sr (Ex.refl _ _ _) rfl
  | false => exact ok _ _ _ _ sr (Ex.refl _ _ _) rfl
theorem pw_andD {f g : M Bool} (ha : PT X a (tDT X.K f)) (hb : PW X (.BoolOp .And (b :: rest) pos) (tDT X.K g)) : PW X (.BoolOp .And (a :: b :: rest) pos) (tDT X.K (f.bind fun k => if k = true then g else M.ret false)) := by
  refine (pw_and ha hb).imp fun σ H Q w => tG_mono (tG_bind w) fun v H1 h1 => ?_
  obtain ⟨d, e, m, al, F, sr, r, ok⟩ := h1
  cases r
  cases v with
  | true =>
    rw [if_pos rfl]
    exact ⟨e, m, al, F, sr, by simpa using ok⟩
  | false =>
    rw [if_neg (by decide)]
    exact ok _ _ _ _ sr (Ex.refl _ _ _) rfl
theorem pw_orD {f g : M Bool} (ha : PT X a (tDT X.K f)) (hb : PW X (.BoolOp .Or (b :: rest) pos) (tDT X.K g)) : PW X (.BoolOp .Or (a :: b :: rest) pos) (tDT X.K (f.bind fun k => if k = true then M.ret true else g)) := by
  refine (pw_or ha hb).imp fun σ H Q w => tG_mono (tG_bind w) fun v H1 h1 => ?_
  obtain ⟨d, e, m, al, F, sr, r, ok⟩ := h1
  cases r
  cases v with
  | false =>
    rw [if_neg (by decide)]
    exact ⟨e, m, al, F, sr, by simpa using ok⟩
  | true =>
    rw [if_pos rfl]
    exact ok _ _ _ _ sr (Ex.refl _ _ _) rfl

/-! ### lists of expressions -/
variable {es : List Expr}
theorem pa_nilD : PA X [] (tDs X.K (M.ret [])) := by
  refine pa_nil.imp fun σ H Q w => ?_
  obtain ⟨e, m, al, F, sr, ok⟩ := w
  exact ok [] H al F sr (Ex.refl _ _ _) .nil
theorem pa_consD {f : M D} {g : M (List D)} (ha : PE X a (tD X.K f)) (hb : PA X es (tDs X.K g)) (hn : nice a = true) : PA X (a :: es) (tDs X.K (f.bind fun d => g.bind fun ds => M.ret (d :: ds))) := by
  refine (pa_cons ha hb (star_nice hn _ _)).imp fun σ H Q w => tG_mono (tG_bind w) fun v H1 h1 => ?_
  obtain ⟨d, e, m, al, F, sr, r, ok⟩ := h1
  refine ⟨e, m, al, F, sr, (R.Ok.bind ok).mono (fun ds e1 m1 ok1 vs H2 al2 F2 sr2 ex2 r2 => ?_) fun _ _ _ z => z⟩
  exact ok1 _ _ _ _ sr2 ex2 (.cons (r.mono ex2.pre ex2.le) r2)
theorem seq_of {K : PySem.W.Frag} {H : Hp} {m : Mu} {al : List Addr} {F : Hp} (c : Core K H m al F) {v : V} {d : D} {xs : List D} (r : Rep K al F v d) (h : seqOf m d = some xs) : ∃ p vs, v = .ref p ∧ (SqT K H p vs ∨ SqL K H p vs) ∧ RepL K al F vs xs := by
  unfold seqOf at h
  cases z : deref m d with
  | none => rw [z] at h; cases h
  | some d' =>
    rw [z] at h
    have th := c.thru r z
    cases d' with
    | lst ys =>
      cases h
      obtain ⟨p, vs, rfl, h1, h2⟩ := th.lst c.sub
      exact ⟨p, vs, rfl, .inr (SqL.of h1), h2⟩
    | tup ys =>
      cases h
      obtain ⟨p, vs, rfl, h1, h2⟩ := th.tup c.sub
      exact ⟨p, vs, rfl, .inl h1, h2⟩
    | _ => cases h
theorem pa_sprD {f : M D} {g : M (List D)} {p : Pos} (ha : PE X a (tD X.K f)) (hb : PA X es (tDs X.K g)) : PA X (.Starred a p :: es) (tDs X.K (f.bind fun d e m => match seqOf m d with
    | some xs => (g.bind fun ds => M.ret (xs ++ ds)) e m
    | none => .stuck)) := by
  refine (StX.pa_star ha hb rfl).imp fun σ H Q w => tG_mono (tG_bind w) fun v H1 h1 => ?_
  obtain ⟨d, e, m, al, F, sr, r, ok⟩ := h1
  simp only at ok
  split at ok
  · rename_i xs hx
    obtain ⟨p, vs, rfl, h1, h2⟩ := seq_of sr.core r hx
    refine ⟨p, vs, rfl, h1, e, m, al, F, sr, (R.Ok.bind ok).mono (fun ds e1 m1 ok1 vs2 H2 al2 F2 sr2 ex2 r2 => ?_) fun _ _ _ z => z⟩
    exact ok1 _ _ _ _ sr2 ex2 ((h2.mono ex2.pre ex2.le).app r2)
  · exact ok.elim
theorem pe_tupD {g : M (List D)} {k : Nat} (h : PA X es (tDs X.K g)) : PE X (.Tuple es k pos) (tD X.K (g.bind fun ds => if lim ds = true then M.ret (.tup ds) else M.of none)) := by
  refine (pe_tup h).imp fun σ H Q w => tG_mono (tG_bind w) fun v H1 h1 => ?_
  obtain ⟨ds, e, m, al, F, sr, r, ok⟩ := h1
  by_cases hl : lim ds = true
  · simp only [hl, if_true] at ok
    refine ⟨by rw [r.length]; exact lim_ok hl, fun p hp => ?_⟩
    exact Fin.newT ok sr r hp
  · rw [Bool.not_eq_true] at hl
    simp only [hl, Bool.false_eq_true, if_false] at ok
    exact ok.elim
theorem pe_lstD {g : M (List D)} (h : PA X es (tDs X.K g)) : PE X (.List es pos) (tD X.K (g.bind fun ds => if lim ds = true then M.ret (.lst ds) else M.of none)) := by
  refine (pe_lst h).imp fun σ H Q w => tG_mono (tG_bind w) fun v H1 h1 => ?_
  obtain ⟨ds, e, m, al, F, sr, r, ok⟩ := h1
  by_cases hl : lim ds = true
  · simp only [hl, if_true] at ok
    refine ⟨by rw [r.length]; exact lim_ok hl, fun p hp => ?_⟩
    exact Fin.newL ok sr r hp
  · rw [Bool.not_eq_true] at hl
    simp only [hl, Bool.false_eq_true, if_false] at ok
    exact ok.elim
theorem Core.cell {K : PySem.W.Frag} {H : Hp} {m : Mu} {al : List Addr} {F : Hp} (c : Core K H m al F) {p : Addr} {o : HO} {d : D} (hp : H p = none) (ob : ObjR K (al ++ [p]) F (upd H p o) p d) : Core K (upd H p o) (m ++ [some d]) (al ++ [p]) F := by
  have hF := c.fresh hp
  refine ⟨fun a u h => ?_, by simp [c.len], ?_, fun a h => ?_, fun k a d2 h1 h2 => ?_⟩
  · rw [upd_ne (fun e => by subst e; rw [hF] at h; cases h)]
    exact c.sub a u h
  · rw [List.nodup_append]
    refine ⟨c.nd, by simp, fun a ha b hb e => ?_⟩
    simp at hb
    subst hb e
    obtain ⟨u, hu⟩ := c.has _ ha
    rw [hp] at hu; cases hu
  · rcases List.mem_append.mp h with h | h
    · obtain ⟨u, hu⟩ := c.has a h
      exact ⟨u, by rw [upd_ne (ne_of_none hu hp)]; exact hu⟩
    · simp at h
      subst h
      exact ⟨o, upd_same⟩
  · by_cases hk : k < al.length
    · rw [List.getElem?_append_left hk] at h1
      rw [List.getElem?_append_left (by rw [← c.len]; exact hk)] at h2
      obtain ⟨g1, g2⟩ := c.live k a d2 h1 h2
      have ne : a ≠ p := by
        obtain ⟨u, hu⟩ := c.has a (List.mem_of_getElem? h1)
        exact ne_of_none hu hp
      refine ⟨g1, ?_⟩
      cases g2 with
      | lst q1 q2 => exact .lst (by rw [upd_ne ne]; exact q1) (q2.mono (Pre.app _ _) (Le.refl _))
      | dicK q1 q2 => exact .dicK (by rw [upd_ne ne]; exact q1) (q2.mono (Pre.app _ _) (Le.refl _))
      | dicT q1 q2 => exact .dicT (by rw [upd_ne ne]; exact q1) (q2.mono (Pre.app _ _) (Le.refl _))
    · rw [List.getElem?_append_right (by omega)] at h1
      rw [List.getElem?_append_right (by rw [← c.len]; omega)] at h2
      have e1 : k - al.length = 0 := by
        have := (List.getElem?_eq_some_iff.mp h1).1
        simp at this
        omega
      have e2 : k - m.length = 0 := by rw [← c.len]; exact e1
      rw [e1] at h1
      rw [e2] at h2
      simp at h1 h2
      subst h1 h2
      exact ⟨hF, ob⟩
theorem SR.mk' {K : PySem.W.Frag} {σ : L2.St} {H : Hp} {e : Env} {m : Mu} {al : List Addr} {F : Hp} (sr : SR K σ H e m al F) {p : Addr} {o : HO} {d : D} (hp : H p = none) (ob : ObjR K (al ++ [p]) F (upd H p o) p d) : SR K σ (upd H p o) e (m ++ [some d]) (al ++ [p]) F :=
  ⟨sr.core.cell hp ob, sr.slots.mono (Pre.app _ _) (Le.refl _), sr.len⟩
theorem Ex.mk' {al : List Addr} {F H : Hp} {p : Addr} {o : HO} (hp : H p = none) : Ex al F H (al ++ [p]) F (upd H p o) :=
  ⟨Pre.app _ _, Le.refl _, fun a u h _ => by rw [upd_ne (ne_of_none h hp)]; exact h, fun a h => by
    rcases List.mem_append.mp h with h | h
    · exact .inl h
    · simp at h
      subst h
      exact .inr hp, fun _ _ h _ _ => h⟩
theorem cell_new {K : PySem.W.Frag} {m : Mu} {al : List Addr} {F : Hp} {p : Addr} (hl : al.length = m.length) : Rep K (al ++ [p]) F (.ref p) (.cell m.length) := by
  refine .cell ?_
  rw [← hl, List.getElem?_append_right (Nat.le_refl _)]
  simp
theorem pe_mkD {g : M (List D)} (h : PA X es (tDs X.K g)) : PE X (.List es pos) (tD X.K (g.bind fun ds e m => if lim ds = true then .ok (.cell m.length) e (m ++ [some (.lst ds)]) else .stuck)) := by
  refine (pe_lst h).imp fun σ H Q w => tG_mono (tG_bind w) fun v H1 h1 => ?_
  obtain ⟨ds, e, m, al, F, sr, r, ok⟩ := h1
  by_cases hl : lim ds = true
  · simp only [hl, if_true] at ok
    refine ⟨by rw [r.length]; exact lim_ok hl, fun p hp => ?_⟩
    exact ok _ _ _ _ (sr.mk' hp (.lst upd_same (r.mono (Pre.app _ _) (Le.refl _)))) (Ex.mk' hp) (cell_new sr.core.len)
  · rw [Bool.not_eq_true] at hl
    simp only [hl, Bool.false_eq_true, if_false] at ok
    exact ok.elim
theorem pe_idxD {f g : M D} (hu : X.A.units + 1 < cLine) (ha : PE X a (tD X.K f)) (hb : PE X b (tD X.K g)) (hn : nice b = true) : PE X (.Subscript a b pos) (tD X.K (f.bind fun x => g.bind fun y e m => M.of (idxD m x y) e m)) :=
  (pe_ix (ix_idxD hu) ha hb (sl_nice hn)).imp (bin_imp fun _ _ _ _ h => h)

/-! ### slices -/
/-- a slice's part -/
inductive POD (X : Cx) : Option Expr → M (List D) → Prop
  | none : POD X none (M.ret [])
  | some {e : Expr} {f : M D} (h : PE X e (tD X.K f)) : POD X (some e) (f.bind fun d => M.ret [d])
theorem po_D {o : Option Expr} {g : M (List D)} (h : POD X o g) : PO X o (fun σ H Q => ∃ e m al F, SR X.K σ H e m al F ∧ (g e m).Ok (fun ds e m => ∃ i, optInt ds = some i ∧ ∀ H' al' F', SR X.K σ H' e m al' F' → Ex al F H al' F' H' → Q i H') NoE) := by
  cases h with
  | none =>
    refine ⟨fun pins s σ H Q I w => ?_⟩
    obtain ⟨e, m, al, F, sr, i, hi, ok⟩ := w
    cases hi
    exact po_none.run pins s σ H Q I (ok H al F sr (Ex.refl _ _ _))
  | some h =>
    refine ⟨fun pins s σ H Q I w => ?_⟩
    obtain ⟨e, m, al, F, sr, ok⟩ := w
    refine (po_some h).run pins s σ H Q I ⟨e, m, al, F, sr, (R.Ok.bind ok).mono (fun d e1 m1 ok1 v H1 al1 F1 sr1 ex1 r1 => ?_) fun _ _ _ z => z⟩
    obtain ⟨i, hi, fin⟩ := ok1
    cases r1 <;> first | (cases hi; done) | skip
    cases hi
    exact ⟨_, rfl, fin _ _ _ sr1 ex1⟩
theorem pe_slcD {f : M D} {g h : M (List D)} {lo hi : Option Expr} {p2 : Pos} (ha : PE X a (tD X.K f)) (hl : POD X lo g) (hh : POD X hi h) :
    PE X (.Subscript a (.Slice lo hi none p2) pos) (tD X.K (f.bind fun x => g.bind fun l => h.bind fun h e m => M.of (slcD m x l h) e m)) := by
  refine (pe_slice sl_D ha (po_D hl) (po_D hh)).imp fun σ H Q w => tG_mono (tG_bind w) fun v H1 h1 => ?_
  obtain ⟨d, e, m, al, F, sr, r, ok⟩ := h1
  refine ⟨e, m, al, F, sr, (R.Ok.bind ok).mono (fun l e1 m1 ok1 => ?_) fun _ _ _ z => z⟩
  cases hi1 : optInt l with
  | none =>
    exfalso
    have z := (R.Ok.bind ok1).mono (P' := fun _ _ _ => False) (E' := NoE) (fun u e3 m3 ok3 => by
      obtain ⟨z, hz, _⟩ := R.Ok.of ok3
      unfold slcD at hz
      rw [hi1] at hz
      cases hz) fun _ _ _ z => z
    cases q : h e1 m1 <;> rw [q] at z <;> exact z
  | some i =>
    refine ⟨i, rfl, fun H2 al2 F2 sr2 ex2 => ⟨e1, m1, al2, F2, sr2, (R.Ok.bind ok1).mono (fun u e3 m3 ok3 => ?_) fun _ _ _ z => z⟩⟩
    obtain ⟨z, hz, fin⟩ := R.Ok.of ok3
    unfold slcD at hz
    rw [hi1] at hz
    cases hj : optInt u with
    | none => rw [hj] at hz; cases hz
    | some j =>
      rw [hj] at hz
      refine ⟨j, rfl, fun H3 al3 F3 sr3 ex3 => ⟨σ, e3, m3, al3, F3, d, z, sr3, (r.mono ex2.pre ex2.le).mono ex3.pre ex3.le, hz, fin.trans (ex2.trans ex3)⟩⟩
end
end Mn
end
section
set_option Elab.async false
set_option linter.all false
set_option maxRecDepth 100000
/-! Calls over trees: built-in functions, isinstance, the module's functions, methods. -/
namespace Mn
open PySem PySem.Spec PyProof.Rows L2
def Bi.nm : Bi → Str
  | .len => "len"
  | .int => "int"
  | .abs => "abs"
  | .max => "max"
  | .min => "min"
  | .list => "list"
  | .tuple => "tuple"
  | .set => "set"
  | .sorted => "sorted"
  | .all => "all"
  | .any => "any"
  | .sum => "sum"
  | .repr => "repr"
  | .dict => "dict"
  | .bool => "bool"
def Ty.nm : Ty → Str
  | .int => "int"
  | .bool => "bool"
  | .str => "str"
  | .tuple => "tuple"
  | .list => "list"
  | .dict => "dict"
section
variable {X : Cx} {pos p : Pos} {a : Expr} {es : List Expr}
theorem pe_biD (hc : X.calm = true) (hu : X.A.units + 66 < cLine) (hgd : X.A.guards = some []) (b : Bi) {g : M (List D)} (hg : Gl X b.nm) (hm : X.mg b.nm = none) (ha : PA X (a :: es) (tDs X.K g)) (hn : (a :: es).all nice = true) :
    PE X (.Call (.Name b.nm p) (a :: es) [] pos) (tD X.K (g.bind fun ds e m => M.of (biD m b ds) e m)) := by
  have hn' := hn
  rw [List.all_cons, Bool.and_eq_true] at hn'
  have s1 := star_nice hn'.1 es X.env
  have s2 := back_nice hn'.2 pos X.env
  have no : ∀ {b : Bi}, (∀ m ds, biD m b ds = none) → ∀ {t : TE}, PE X (.Call (.Name b.nm p) (a :: es) [] pos) t → PE X (.Call (.Name b.nm p) (a :: es) [] pos) (tD X.K (g.bind fun ds e m => M.of (biD m b ds) e m)) := fun {b} hb {t} ht => by
    refine ht.imp fun σ H Q w => ?_
    obtain ⟨e, m, al, F, sr, ok⟩ := w
    exfalso
    have z := (R.Ok.bind ok).mono (P' := fun _ _ _ => False) (E' := NoE) (fun u e3 m3 ok3 => by
      obtain ⟨z, hz, _⟩ := R.Ok.of ok3
      rw [hb] at hz
      cases hz) fun _ _ _ z => z
    cases q : g e m <;> rw [q] at z <;> exact z
  cases b with
  | len => exact (pe_callB bi_len hg hm boot_len ha (by decide) (by decide) s1 s2).imp (bi_imp fun _ _ _ h => h)
  | int => exact (pe_callTy bi_int hg hm (by decide +kernel) ha (by decide) (by decide) s1 s2).imp (bi_imp fun _ _ _ h => h)
  | abs => exact (pe_callB bi_abs hg hm (by decide +kernel) ha (by decide) (by decide) s1 s2).imp (bi_imp fun _ _ _ h => h)
  | max => exact (pe_callB (bi_max hc (by omega)) hg hm (by decide +kernel) ha (by decide) (by decide) s1 s2).imp (bi_imp fun _ _ _ h => h)
  | min => exact (pe_callB (bi_min hc (by omega)) hg hm (by decide +kernel) ha (by decide) (by decide) s1 s2).imp (bi_imp fun _ _ _ h => h)
  | list => exact (pe_callTy (bi_list hc) hg hm (by decide +kernel) ha (by decide) (by decide) s1 s2).imp (bi_imp fun _ _ _ h => h)
  | tuple => exact (pe_callTy bi_tuple hg hm (by decide +kernel) ha (by decide) (by decide) s1 s2).imp (bi_imp fun _ _ _ h => h)
  | set => exact (pe_callTy (T := "set") (r := rBi X.K fun _ _ => none) (fun pins s σ H xs us Q I r h => by obtain ⟨_, _, _, _, _, _, _, _, _, h, _⟩ := h; cases h) hg hm (by decide +kernel) ha (by decide) (by decide) s1 s2).imp (bi_imp fun _ _ _ h => by
      obtain ⟨σ, e, m, al, F, ds, d, sr, r, hd, fin⟩ := h
      cases ds with
      | nil => cases hd
      | cons d ds => cases ds <;> cases hd)
  | sorted => exact (pe_callB (bi_sorted hu) hg hm (by decide +kernel) ha (by decide) (by decide) s1 s2).imp (bi_imp fun _ _ _ h => h)
  | all => exact (pe_callB (bi_all hc) hg hm (by decide +kernel) ha (by decide) (by decide) s1 s2).imp (bi_imp fun _ _ _ h => h)
  | any => exact (pe_callB (bi_any hc) hg hm (by decide +kernel) ha (by decide) (by decide) s1 s2).imp (bi_imp fun _ _ _ h => h)
  | sum => exact (pe_callB (bi_sum hc) hg hm (by decide +kernel) ha (by decide) (by decide) s1 s2).imp (bi_imp fun _ _ _ h => h)
  | repr => exact (pe_callB (bi_repr hgd hu) hg hm (by decide +kernel) ha (by decide) (by decide) s1 s2).imp (bi_imp fun _ _ _ h => h)
  | dict => exact (pe_callTy (bi_dict hc) hg hm (by decide +kernel) ha (by decide) (by decide) s1 s2).imp (bi_imp fun _ _ _ h => h)
  | bool => exact (pe_callTy (T := "bool") (r := rBi X.K fun _ _ => none) (fun pins s σ H xs us Q I r h => by obtain ⟨_, _, _, _, _, _, _, _, _, h, _⟩ := h; cases h) hg hm (by decide +kernel) ha (by decide) (by decide) s1 s2).imp (bi_imp fun _ _ _ h => by
      obtain ⟨σ, e, m, al, F, ds, d, sr, r, hd, fin⟩ := h
      cases ds with
      | nil => cases hd
      | cons d ds => cases ds <;> cases hd)

theorem pe_isiD {p2 : Pos} (t : Ty) {f : M D} (hg : Gl X "isinstance") (hm : X.mg "isinstance" = none) (hg2 : Gl X t.nm) (hm2 : X.mg t.nm = none) (ha : PE X a (tD X.K f)) (hn : nice a = true) :
    PE X (.Call (.Name "isinstance" p) [a, .Name t.nm p2] [] pos) (tD X.K (f.bind fun x e m => M.of ((isiD m x t).map .bl) e m)) := by
  have ht : PE X (.Name t.nm p2) (tC (.ty t.name)) := by
    cases t <;> exact pe_bltn hg2 hm2 (by decide +kernel) rfl (by decide) (by decide)
  refine (pe_callB (call_isiD t) hg hm (by decide +kernel) (pa_cons ha (pa_cons ht pa_nil) (star_nice hn _ _)) (by decide) (by decide) (star_nice hn _ _)).imp fun σ H Q w => tG_mono (tG_bind w) fun v H1 h1 => ?_
  obtain ⟨d, e, m, al, F, sr, r, ok⟩ := h1
  obtain ⟨z, hz, fin⟩ := R.Ok.of ok
  obtain ⟨k, hk, rfl⟩ := Option.map_eq_some_iff.mp hz
  exact ⟨σ, e, m, al, F, v, d, k, rfl, sr, r, hk, Fin.val fin sr (.bl k)⟩

/-! ### the module's functions -/
/-- what a def promises: it does what g says -/
def spD (K : PySem.W.Frag) (g : Fn) (np : Nat) : Sp := fun vs H Q _ => vs.length = np ∧ ∃ al F m ds, Core K H m al F ∧ RepL K al F vs ds ∧
  (g ds m).Ok (fun d _ m' => ∀ v H' al' F', Core K H' m' al' F' → Ex al F H al' F' H' → Rep K al' F' v d → Q v H') NoE
/-- the name x is a def that keeps this promise -/
structure FnC (X : Cx) (g : Fn) (np : Nat) (x : Str) : Prop where
  len : ∀ ds m P E, (g ds m).Ok P E → ds.length = np
  gd : X.A.guards = some []
  ex : ∃ f k, CalG X.prog X.w X.K X.mg X.base k f (spD X.K g np) ∧ Room k X.A ∧ X.mg x = some (.ref f) ∧ PySem.W.keepIn X.K (.ref f) = true
theorem call_imp {h : Fn} {np : Nat} (hlen : ∀ ds m P E, (h ds m).Ok P E → ds.length = np) {g : M (List D)} (σ : L2.St) (H : Hp) (Q : VK) (w : tD X.K (g.bind fun ds e m => (h ds m).bind fun d _ m' => .ok d e m') σ H Q) : tCall (spD X.K h np) [] E0 (tDs X.K g) σ H Q := by
  refine tG_mono (tG_bind w) fun vs H1 h1 => ?_
  obtain ⟨ds, e, m, al, F, sr, r, ok⟩ := h1
  rw [List.append_nil]
  have ok2 := R.Ok.bind ok
  refine ⟨by rw [r.length]; exact hlen _ _ _ _ ok2, al, F, m, ds, sr.core, r, ok2.mono (fun d _ m' fin v H' al' F' c' ex' r' => ?_) fun _ _ _ z => z⟩
  exact fin v H' al' F' ⟨c', sr.slots.mono ex'.pre ex'.le, sr.len⟩ ex' r'
theorem pe_fnD {g : M (List D)} {h : Fn} {np : Nat} {x : Str} (F : FnC X h np x) (hg : Gl X x) (hd : (x == ("__debug__" : Str)) = false) (ha : PA X (a :: es) (tDs X.K g)) (hn : (a :: es).all nice = true) :
    PE X (.Call (.Name x p) (a :: es) [] pos) (tD X.K (g.bind fun ds e m => (h ds m).bind fun d _ m' => .ok d e m')) := by
  obtain ⟨f, k, ok, room, hm, hk⟩ := F.ex
  rw [List.all_cons, Bool.and_eq_true] at hn
  exact (pe_callC ok F.gd room hg hm hk ha hd (star_nice hn.1 es X.env) (back_nice hn.2 pos X.env)).imp (call_imp F.len)
theorem pe_fn0D {h : Fn} {np : Nat} {x : Str} (F : FnC X h np x) (hg : Gl X x) (hd : (x == ("__debug__" : Str)) = false) :
    PE X (.Call (.Name x p) [] [] pos) (tD X.K ((M.ret []).bind fun ds e m => (h ds m).bind fun d _ m' => .ok d e m')) := by
  obtain ⟨f, k, ok, room, hm, hk⟩ := F.ex
  refine (pe_callC0 ok F.gd room hg hm hk hd).imp fun σ H Q w => ?_
  obtain ⟨e, m, al, F', sr, ok⟩ := call_imp F.len σ H Q w
  exact ok [] H al F' sr (Ex.refl _ _ _) .nil

/-! ### methods -/
def Me.nm : Me → Str
  | .index => "index"
  | .get => "get"
  | .get2 => "get"
  | .append => "append"
  | .extend => "extend"
  | .pop1 => "pop"
  | .setdefault => "setdefault"
  | .items => "items"
theorem tyv_list {K : PySem.W.Frag} {H : Hp} {m : Mu} {al : List Addr} {F : Hp} (c : Core K H m al F) {v : V} {d : D} {xs : List D} (r : Rep K al F v d) (h : deref m d = some (.lst xs)) : tyV K "list" v H := by
  obtain ⟨p, vs, rfl, h1, _⟩ := (c.thru r h).lst c.sub
  exact .inl ⟨rfl, vs, SqL.of h1⟩
theorem tyv_dict {K : PySem.W.Frag} {H : Hp} {m : Mu} {al : List Addr} {F : Hp} (c : Core K H m al F) {v : V} {d : D} {t : Bool} {ks vs : List D} (r : Rep K al F v d) (h : deref m d = some (.dic t ks vs)) : tyV K "dict" v H := by
  rcases (c.thru r h).dicv c.sub with ⟨_, p, kvs, rfl, h1, _, _⟩ | ⟨_, p, kvs, rfl, h1, _, _⟩
  · exact .inr (.inr (.inl ⟨rfl, .inl ⟨kvs, h1⟩⟩))
  · exact .inr (.inr (.inl ⟨rfl, .inr ⟨kvs, h1⟩⟩))
theorem me_imp {T : String} {r : V → List V → Hp → VK → Prop} {mt : Mu → D → Bool} {md : Mu → D → List D → Option (D × Mu)} (ht : ∀ {H : Hp} {m : Mu} {al : List Addr} {F : Hp} {v : V} {d : D}, Core X.K H m al F → Rep X.K al F v d → mt m d = true → tyV X.K T v H)
    (hr : ∀ x vs H Q, rMe X.K md x vs H Q → r x vs H Q) {f : M D} {g : M (List D)} (σ : L2.St) (H : Hp) (Q : VK)
    (w : tD X.K (f.bind fun x e m => if mt m x = true then (g.bind fun ds e m => match md m x ds with
      | some (d, m') => .ok d e m'
      | none => .stuck) e m else .stuck) σ H Q) : tBM X.K T r (tD X.K f) (tDs X.K g) σ H Q := by
  refine tG_mono (tG_bind w) fun v H1 h1 => ?_
  obtain ⟨d, e, m, al, F, sr, rd, ok⟩ := h1
  by_cases hb : mt m d = true
  · simp only [hb, if_true] at ok
    refine ⟨ht sr.core rd hb, e, m, al, F, sr, (R.Ok.bind ok).mono (fun ds e1 m1 ok1 vs H2 al2 F2 sr2 ex2 r2 => ?_) fun _ _ _ z => z⟩
    refine hr _ _ _ _ ?_
    split at ok1
    · rename_i d2 m2 hd
      exact ⟨σ, e1, m1, al2, F2, d, ds, d2, m2, sr2, rd.mono ex2.pre ex2.le, r2, hd, FinG.trans ex2 ok1⟩
    · exact ok1.elim
  · rw [Bool.not_eq_true] at hb
    simp only [hb, Bool.false_eq_true, if_false] at ok
    exact ok.elim
theorem mt_lst {m : Mu} {d : D} {me : Me} (hm : me = .append ∨ me = .extend ∨ me = .pop1 ∨ me = .index) (h : meT m me d = true) : ∃ xs, deref m d = some (.lst xs) := by
  rcases hm with rfl | rfl | rfl | rfl <;> (unfold meT at h; split at h <;> first | exact ⟨_, by assumption⟩ | contradiction | cases h)
theorem mt_dct {m : Mu} {d : D} {me : Me} (hm : me = .setdefault ∨ me = .get ∨ me = .get2 ∨ me = .items) (h : meT m me d = true) : ∃ t ks vs, deref m d = some (.dic t ks vs) := by
  rcases hm with rfl | rfl | rfl | rfl <;> (unfold meT at h; split at h <;> first | exact ⟨_, _, _, by assumption⟩ | contradiction | cases h)
variable {o : Expr} {apos : Pos}
theorem pe_meD (hu : X.A.units + 66 < cLine) (me : Me) {f : M D} {g : M (List D)} (ho : PE X o (tD X.K f)) (ha : PA X (a :: es) (tDs X.K g)) (hn : (a :: es).all nice = true) (hl : (a :: es).length < 30) (hc : noCall o = true) (hp : (apos.endLine == pos.line) = true) :
    PE X (.Call (.Attribute o me.nm apos) (a :: es) [] pos) (tD X.K (f.bind fun x e m => if meT m me x = true then (g.bind fun ds e m => match meD m me x ds with
      | some (d, m') => .ok d e m'
      | none => .stuck) e m else .stuck)) := by
  have hn' := hn
  rw [List.all_cons, Bool.and_eq_true] at hn'
  have s1 := star_nice hn'.1 es X.env
  have s2 := back_nice hn'.2 pos X.env
  have s3 := few_nice hn hl pos X.env
  have s4 := base_call hc me.nm X.env
  have lst : ∀ {me' : Me}, (me' = .append ∨ me' = .extend ∨ me' = .pop1 ∨ me' = .index) → ∀ {H : Hp} {m : Mu} {al : List Addr} {F : Hp} {v : V} {d : D}, Core X.K H m al F → Rep X.K al F v d → meT m me' d = true → tyV X.K "list" v H := fun {me'} hm {H m al F v d} c r h => by
    obtain ⟨xs, hx⟩ := mt_lst hm h
    exact tyv_list c r hx
  have dct : ∀ {me' : Me}, (me' = .setdefault ∨ me' = .get ∨ me' = .get2 ∨ me' = .items) → ∀ {H : Hp} {m : Mu} {al : List Addr} {F : Hp} {v : V} {d : D}, Core X.K H m al F → Rep X.K al F v d → meT m me' d = true → tyV X.K "dict" v H := fun {me'} hm {H m al F v d} c r h => by
    obtain ⟨t, ks, vs, hx⟩ := mt_dct hm h
    exact tyv_dict c r hx
  have nor : ∀ {id : String}, MtR X id (rMe X.K fun _ _ _ => none) := fun {id} => by
    rintro pins s σ H x vs v us Q I rx rv ⟨τ, e, m, al, F, a, ds, d, m', sr, ra, r, hd, fin⟩
    cases hd
  cases me with
  | append => exact (pe_bm F.plainAttrs_list F.slot_list_append F.type_list_append me_append ho ha s4 s3 hp s1 s2).imp (me_imp (lst (.inl rfl)) fun _ _ _ _ h => h)
  | extend => exact (pe_bm F.plainAttrs_list F.slot_list_extend F.type_list_extend me_extend ho ha s4 s3 hp s1 s2).imp (me_imp (lst (.inr (.inl rfl))) fun _ _ _ _ h => h)
  | pop1 => exact (pe_bm F.plainAttrs_list F.slot_list_pop F.type_list_pop me_pop ho ha s4 s3 hp s1 s2).imp (me_imp (lst (.inr (.inr (.inl rfl)))) fun _ _ _ _ h => h)
  | index => exact (pe_bm F.plainAttrs_list F.slot_list_index F.type_list_index (me_index (by omega)) ho ha s4 s3 hp s1 s2).imp (me_imp (lst (.inr (.inr (.inr rfl)))) fun _ _ _ _ h => h)
  | setdefault => exact (pe_bm F.plainAttrs_dict F.slot_dict_setdefault F.type_dict_setdefault me_setdefault ho ha s4 s3 hp s1 s2).imp (me_imp (dct (.inl rfl)) fun _ _ _ _ h => h)
  | get => exact (pe_bm F.plainAttrs_dict F.slot_dict_get F.type_dict_get nor ho ha s4 s3 hp s1 s2).imp (me_imp (md := fun m => meD m .get) (dct (.inr (.inl rfl))) fun _ _ _ _ h => h)
  | get2 => exact (pe_bm F.plainAttrs_dict F.slot_dict_get F.type_dict_get nor ho ha s4 s3 hp s1 s2).imp (me_imp (md := fun m => meD m .get2) (dct (.inr (.inr (.inl rfl)))) fun _ _ _ _ h => h)
  | items => exact (pe_bm F.plainAttrs_dict F.slot_dict_items F.type_dict_items nor ho ha s4 s3 hp s1 s2).imp (me_imp (md := fun m => meD m .items) (dct (.inr (.inr (.inr rfl)))) fun _ _ _ _ h => h)
end
end Mn
end
section
set_option Elab.async false
set_option linter.all false
set_option maxRecDepth 100000
/-! What a for walks; comprehensions over trees. -/
namespace Mn
open PySem PySem.Spec PyProof.Rows L2
/-- the iterator J gives the items ds -/
structure Walk (K : PySem.W.Frag) (J : It) (al : List Addr) (F : Hp) (ds : List D) : Prop where
  go : ∀ {al' : List Addr} {F' H' : Hp} {m' : Mu}, Core K H' m' al' F' → Pre al al' → Le F F' → ∀ (i : Nat) (d : D), ds[i]? = some d → J.go i H' ∧ ∀ x H2, J.yld i H' x H2 → ∃ F2, Core K H2 m' al' F2 ∧ Ex al' F' H' al' F2 H2 ∧ Rep K al' F2 x d
  stop : ∀ {al' : List Addr} {F' H' : Hp} {m' : Mu}, Core K H' m' al' F' → Pre al al' → Le F F' → ∀ i : Nat, ds.length ≤ i → J.stop i H'
theorem Walk.mono {K : PySem.W.Frag} {J : It} {al al1 : List Addr} {F F1 : Hp} {ds : List D} (w : Walk K J al F ds) (p : Pre al al1) (l : Le F F1) : Walk K J al1 F1 ds :=
  ⟨fun c q r => w.go c (p.trans q) (l.trans r), fun c q r => w.stop c (p.trans q) (l.trans r)⟩
abbrev rpI (K : PySem.W.Frag) : RP (List D) It := fun al F ds J => Walk K J al F ds
abbrev tIt (K : PySem.W.Frag) (f : M (List D)) : TI := tG K (rpI K) f
theorem get_map {K : PySem.W.Frag} {al : List Addr} {F : Hp} {ds : List D} {vs : List V} (r : RepL K al F vs ds) {i : Nat} {d : D} (h : ds[i]? = some d) : ∃ v, vs[i]? = some v ∧ Rep K al F v d := r.get h
theorem walk_lst {K : PySem.W.Frag} {al : List Addr} {F : Hp} {a : Addr} {xs : List V} {ds : List D} (h : SqL K F a xs) (inj : ∀ {H : Hp} {ys : List V}, SqL K H a xs → SqL K H a ys → ys = xs) (r : RepL K al F xs ds) : Walk K (Itl K a) al F ds where
  go := fun {al' F' H' m'} c p l i d hi => by
    obtain ⟨v, h1, h2⟩ := r.get hi
    have q := sqL_sub c.sub (l.sqL h)
    refine ⟨⟨xs, v, q, h1⟩, fun x H2 y => ?_⟩
    obtain ⟨e, y⟩ := y
    subst e
    have e2 := y xs q
    rw [h1] at e2
    cases e2
    exact ⟨F', c, Ex.refl _ _ _, h2.mono p l⟩
  stop := fun {al' F' H' m'} c p l i hi => ⟨xs, sqL_sub c.sub (l.sqL h), by rw [r.length]; exact hi⟩
theorem walk_tup {K : PySem.W.Frag} {al : List Addr} {F : Hp} {a : Addr} {xs : List V} {ds : List D} (h : SqT K F a xs) (r : RepL K al F xs ds) : Walk K (Itt K a) al F ds where
  go := fun {al' F' H' m'} c p l i d hi => by
    obtain ⟨v, h1, h2⟩ := r.get hi
    have q := sqT_sub c.sub (l.sqT h)
    refine ⟨⟨xs, v, q, h1⟩, fun x H2 y => ?_⟩
    obtain ⟨e, y⟩ := y
    subst e
    have e2 := y xs q
    rw [h1] at e2
    cases e2
    exact ⟨F', c, Ex.refl _ _ _, h2.mono p l⟩
  stop := fun {al' F' H' m'} c p l i hi => ⟨xs, sqT_sub c.sub (l.sqT h), by rw [r.length]; exact hi⟩
theorem walk_str {K : PySem.W.Frag} {al : List Addr} {F : Hp} {x : Str} : Walk K (Its x) al F (x.cps.toList.map fun c => .str ⟨#[c]⟩) where
  go := fun {al' F' H' m'} c p l i d hi => by
    rw [List.getElem?_map] at hi
    obtain ⟨k, hk, rfl⟩ := Option.map_eq_some_iff.mp hi
    rw [Array.getElem?_toList] at hk
    refine ⟨(Array.getElem?_eq_some_iff.mp hk).1, fun v H2 y => ?_⟩
    obtain ⟨e, k', hk', e2⟩ := y
    rw [hk] at hk'
    cases hk'
    subst e e2
    exact ⟨F', c, Ex.refl _ _ _, .str _⟩
  stop := fun {al' F' H' m'} c p l i hi => by
    show x.cps.size ≤ i
    simpa using hi
theorem walk_rng {K : PySem.W.Frag} {al : List Addr} {F : Hp} {lo : Int} {n : Nat} : Walk K (Itr lo n) al F ((List.range n).map fun (i : Nat) => .int (lo + (i : Int))) where
  go := fun {al' F' H' m'} c p l i d hi => by
    rw [List.getElem?_map] at hi
    obtain ⟨k, hk, rfl⟩ := Option.map_eq_some_iff.mp hi
    have h1 := List.getElem?_eq_some_iff.mp hk
    obtain ⟨h1, h2⟩ := h1
    simp at h1 h2
    subst h2
    refine ⟨h1, fun v H2 y => ?_⟩
    obtain ⟨e, e2⟩ := y
    subst e e2
    exact ⟨F', c, Ex.refl _ _ _, .int _⟩
  stop := fun {al' F' H' m'} c p l i hi => by
    show n ≤ i
    simpa using hi
section
variable {X : Cx} {pos p : Pos} {a b tg : Expr} {es : List Expr}
theorem pi_itD {f : M D} (ha : PE X a (tD X.K f)) : PI X tg a (tIt X.K (f.bind fun x e m => M.of (walkD m x) e m)) := by
  refine ⟨fun pins s σ H Rq I h => ?_⟩
  refine thn (ha.run pins s σ H _ I (tG_bind h)) fun v s1 ⟨x, H1, I1, r1, q1⟩ => ?_
  obtain ⟨d, e, m, al, F, sr, rd, ok⟩ := q1
  obtain ⟨ds, hd, fin⟩ := R.Ok.of ok
  have listy : ∀ {q : Addr} {xs : List V}, x = .ref q → SqL X.K F q xs → RepL X.K al F xs ds → wpAny (model X.prog X.w) X.A (pyIter v) (PIE X pins σ tg Rq) X.xe s1 := fun {q xs} ex hq hr => by
    subst ex
    cases r1
    have hq1 := sqL_sub sr.core.sub hq
    obtain ⟨us, rv, pl, hz⟩ := I1.list hq1
    have W : Walk X.K (Itl X.K q) al F ds := ⟨fun {al' F' H' m'} c p l i d hi => by
      obtain ⟨v, h1, h2⟩ := hr.get hi
      have q2 := sqL_sub c.sub (l.sqL hq)
      refine ⟨⟨xs, v, q2, h1⟩, fun x H2 y => ?_⟩
      obtain ⟨e, y⟩ := y
      subst e
      have e2 := y xs q2
      rw [h1] at e2
      cases e2
      exact ⟨F', c, Ex.refl _ _ _, h2.mono p l⟩, fun {al' F' H' m'} c p l i hi => ⟨xs, sqL_sub c.sub (l.sqL hq), by rw [hr.length]; exact hi⟩⟩
    exact wpAny_pyIter_list pl.isList (pi_one (tk := s1.toks) I1 _ (turn_list q _) ⟨_, Heap.get?_push_size _ rfl, rfl, rfl⟩ (fin _ _ _ _ sr (Ex.refl _ _ _) W))
  cases d with
  | lst xs =>
    cases hd
    cases rd with
    | lst h1 h2 => exact listy rfl (SqL.of h1) h2
  | tup xs =>
    cases hd
    cases rd with
    | tup h1 h2 =>
      cases r1
      obtain ⟨us, rv, pl, hz⟩ := I1.tuple (sqT_sub sr.core.sub h1)
      exact wpAny_pyIter_tuple pl (pi_one (tk := s1.toks) I1 _ (turn_tuple _ _) ⟨_, Heap.get?_push_size _ rfl, rfl, rfl⟩ (fin _ _ _ _ sr (Ex.refl _ _ _) (walk_tup h1 h2)))
  | scr ns =>
    cases hd
    cases rd with
    | scr h1 => exact listy rfl h1 (repL_ints ns)
  | str x =>
    cases hd
    cases rd
    obtain ⟨t, rfl⟩ := r1
    have w := fin _ _ _ _ sr (Ex.refl _ _ _) walk_str
    cases hx : x.cps.all (· < 128)
    · exact wpAny_pyIter_wide hx (pi_one (tk := s1.toks) I1 _ (turn_str _ x t "str_iterator" (.inr rfl)) ⟨_, Heap.get?_push_size _ rfl, rfl, rfl⟩ w)
    · exact wpAny_pyIter_ascii hx (pi_one (tk := s1.toks) I1 _ (turn_str _ x t "str_ascii_iterator" (.inl rfl)) ⟨_, Heap.get?_push_size _ rfl, rfl, rfl⟩ w)
  | _ => cases hd
theorem pi_rng1D {f : M D} (hg : Gl X "range") (hm : X.mg "range" = none) (ha : PE X a (tD X.K f)) (hn : nice a = true) : PI X tg (.Call (.Name "range" p) [a] [] pos) (tIt X.K (f.bind fun x => M.of (rngD [x]))) := by
  refine (pi_range1 hg hm (pa_cons ha pa_nil (star_nice hn _ _)) (star_nice hn _ _)).imp fun σ H Q w => tG_mono (tG_bind w) fun v H1 h1 => ?_
  obtain ⟨d, e, m, al, F, sr, r, ok⟩ := h1
  obtain ⟨xs, hx, fin⟩ := R.Ok.of ok
  cases r <;> first | (cases hx; done) | skip
  simp only [rngD] at hx
  split at hx
  · rename_i hz
    cases hx
    exact ⟨_, rfl, by omega, by omega, fin _ _ _ _ sr (Ex.refl _ _ _) walk_rng⟩
  · cases hx
theorem pi_rng2D {f g : M D} (hg : Gl X "range") (hm : X.mg "range" = none) (ha : PE X a (tD X.K f)) (hb : PE X b (tD X.K g)) (hn : nice a = true) (hn2 : nice b = true) : PI X tg (.Call (.Name "range" p) [a, b] [] pos) (tIt X.K (f.bind fun x => g.bind fun y => M.of (rngD [x, y]))) := by
  refine (pi_range2 hg hm (pa_cons ha (pa_cons hb pa_nil (star_nice hn2 _ _)) (star_nice hn _ _)) (by rw [star_nice hn, star_nice hn2]; rfl) (star_nice hn2 _ _)).imp fun σ H Q w => tG_mono (tG_bind w) fun v H1 h1 => ?_
  obtain ⟨d, e, m, al, F, sr, r, ok⟩ := h1
  refine ⟨e, m, al, F, sr, (R.Ok.bind ok).mono (fun d2 e1 m1 ok1 v2 H2 al2 F2 sr2 ex2 r2 => ?_) fun _ _ _ z => z⟩
  obtain ⟨xs, hx, fin⟩ := R.Ok.of ok1
  cases r <;> first | (cases hx; done) | skip
  cases r2 <;> first | (cases hx; done) | skip
  simp only [rngD] at hx
  split at hx
  · rename_i hz
    cases hx
    exact ⟨_, _, rfl, by omega, fin _ _ _ _ sr2 ex2 walk_rng⟩
  · cases hx
end

end Mn
end
section
set_option Elab.async false
set_option linter.all false
set_option maxRecDepth 100000
/-! Targets and comprehensions over trees. -/
namespace Mn
open PySem PySem.Spec PyProof.Rows L2
variable {K : PySem.W.Frag}
/-! ### states -/
theorem wipe_set (σ : L2.St) (i : Nat) (x : Option V) : ∀ vs : List Nat, i ∈ vs → wipe (σ.set i x) vs = wipe σ vs
  | [], h => by simp at h
  | v :: vs, h => by
    unfold wipe
    by_cases e : i ∈ vs
    · rw [wipe_set σ i x vs e]
    · have e2 : i = v := by
        rcases List.mem_cons.mp h with h | h
        · exact h
        · exact absurd h e
      subst e2
      have go : ∀ ws : List Nat, i ∉ ws → (wipe (σ.set i x) ws) = (wipe σ ws).set i x := fun ws => by
        induction ws with
        | nil => intro _; rfl
        | cons w ws ih =>
          intro hw
          simp only [List.mem_cons, not_or] at hw
          unfold wipe
          rw [ih hw.2, List.set_comm _ _ hw.1]
      rw [go vs e, List.set_set]
theorem wipe_get {σ : L2.St} {i : Nat} : ∀ {vs : List Nat}, i ∉ vs → (wipe σ vs)[i]? = σ[i]?
  | [], _ => rfl
  | v :: vs, h => by
    simp only [List.mem_cons, not_or] at h
    unfold wipe
    rw [List.getElem?_set_ne (Ne.symm h.1), wipe_get h.2]
theorem wipeE_length (e : Env) : ∀ vs : List Nat, (wipeE e vs).length = e.length
  | [] => rfl
  | v :: vs => by unfold wipeE; rw [List.length_set, wipeE_length e vs]
theorem wipeE_some {e : Env} {i : Nat} {d : D} : ∀ {vs : List Nat}, (wipeE e vs)[i]? = some (some d) → e[i]? = some (some d) ∧ i ∉ vs
  | [], h => ⟨h, by simp⟩
  | v :: vs, h => by
    unfold wipeE at h
    by_cases q : v = i
    · subst q
      by_cases hv : v < (wipeE e vs).length
      · rw [List.getElem?_set_self hv] at h; cases h
      · rw [List.getElem?_eq_none (by simpa using hv)] at h; cases h
    · rw [List.getElem?_set_ne q] at h
      obtain ⟨h1, h2⟩ := wipeE_some h
      exact ⟨h1, by simp only [List.mem_cons, not_or]; exact ⟨fun z => q z.symm, h2⟩⟩
theorem SR.wipe {σ : L2.St} {H : Hp} {e : Env} {m : Mu} {al : List Addr} {F : Hp} (sr : SR K σ H e m al F) (vs : List Nat) : SR K (L2.wipe σ vs) H (wipeE e vs) m al F := by
  refine ⟨sr.core, fun i d h => ?_, by rw [wipe_length, wipeE_length]; exact sr.len⟩
  obtain ⟨h1, h2⟩ := wipeE_some h
  obtain ⟨v, g1, g2⟩ := sr.slots i d h1
  exact ⟨v, by rw [wipe_get h2]; exact g1, g2⟩
theorem SR.unwipe {σ : L2.St} {H : Hp} {e : Env} {m : Mu} {al : List Addr} {F : Hp} {vs : List Nat} (sr : SR K (L2.wipe σ vs) H e m al F) : SR K σ H e m al F := by
  refine ⟨sr.core, fun i d h => ?_, by rw [← sr.len, wipe_length]⟩
  obtain ⟨v, g1, g2⟩ := sr.slots i d h
  exact ⟨v, (wipe_some g1).1, g2⟩
theorem SR.set {σ : L2.St} {H : Hp} {e : Env} {m : Mu} {al : List Addr} {F : Hp} (sr : SR K σ H e m al F) {i : Nat} {v : V} {d : D} (r : Rep K al F v d) : SR K (σ.set i (some v)) H (e.set i (some d)) m al F := by
  refine ⟨sr.core, fun j d2 h => ?_, by rw [List.length_set, List.length_set]; exact sr.len⟩
  by_cases q : i = j
  · subst q
    have hi : i < e.length := by
      have := (List.getElem?_eq_some_iff.mp h).1
      simpa using this
    rw [List.getElem?_set_self hi] at h
    cases h
    exact ⟨v, by rw [List.getElem?_set_self (by rw [sr.len]; exact hi)], r⟩
  · rw [List.getElem?_set_ne q] at h
    obtain ⟨v2, g1, g2⟩ := sr.slots j d2 h
    exact ⟨v2, by rw [List.getElem?_set_ne q]; exact g1, g2⟩

/-! ### targets -/
def gD (K : PySem.W.Frag) (T : Tg) : TG := fun v σ H Q => ∃ d e e' m al F, SR K σ H e m al F ∧ Rep K al F v d ∧ bindTg T d e = some e' ∧
  ∀ σ', SR K σ' H e' m al F → (∀ own : List Nat, (∀ i ∈ Tg.slots T, i ∈ own) → wipe σ' own = wipe σ own) → Q σ' H
def gDs (K : PySem.W.Frag) (Ts : List Tg) : TGs := fun vs σ H Q => ∃ ds e e' m al F, SR K σ H e m al F ∧ RepL K al F vs ds ∧ bindTgs Ts ds e = some e' ∧
  ∀ σ', SR K σ' H e' m al F → (∀ own : List Nat, (∀ i ∈ Tg.slotss Ts, i ∈ own) → wipe σ' own = wipe σ own) → Q σ' H
theorem _root_.L2.PGs.imp {X : Cx} {es : List Expr} {t t' : TGs} (h : PGs X es t) (i : ∀ v σ H Q, t' v σ H Q → t v σ H Q) : PGs X es t' := ⟨fun pins s σ H v u Q I r w => h.run pins s σ H v u Q I r (i v σ H Q w)⟩
section
variable {X : Cx} {pos : Pos} {es : List Expr} {a : Expr}
theorem pg_nmD {i : Nat} {x : Str} (hN : X.N.Nodup) (hi : X.N[i]? = some x) (hx : Loc X.env.scope x) (hf : X.fn x = true ∨ X.env.scope.names.lookup x = some .local) : PG X (.Name x pos) (gD X.K (.nm i)) := by
  refine (pg_name hN hi hx hf).imp fun v σ H Q w => ?_
  obtain ⟨d, e, e', m, al, F, sr, r, hb, k⟩ := w
  cases hb
  exact k _ (sr.set r) fun own ho => wipe_set _ _ _ _ (ho i (by simp [Tg.slots]))
theorem pgs_nilD : PGs X [] (gDs X.K []) := by
  refine pgs_nil.imp fun v σ H Q w => ?_
  obtain ⟨ds, e, e', m, al, F, sr, r, hb, k⟩ := w
  cases ds with
  | nil =>
    cases r
    cases hb
    exact ⟨rfl, k _ sr fun _ _ => rfl⟩
  | cons d ds => cases hb
theorem tgt_nice (h : nice a = true) (env : PySem.Env) : (assignEach (a :: es) env).map (·.2) = assign a env :: (assignEach es env).map (·.2) := by
  cases a <;> first | rfl | (simp [nice] at h)
theorem tgts_nice : ∀ {es : List Expr}, es.all nice = true → ∀ env, (assignEach es env).length = es.length ∧ (assignEach es env).findIdx? (·.1) = none
  | [], _, _ => ⟨rfl, rfl⟩
  | e :: es, h, env => by
    rw [List.all_cons, Bool.and_eq_true] at h
    obtain ⟨h1, h2⟩ := tgts_nice h.2 env
    have e1 : assignEach (e :: es) env = (false, assign e env) :: assignEach es env := by
      have hn := h.1
      cases e <;> first | rfl | (simp [nice] at hn)
    rw [e1]
    refine ⟨by simp [h1], ?_⟩
    rw [List.findIdx?_cons]
    simp [h2]
theorem pgs_consD {T : Tg} {Ts : List Tg} (h1 : PG X a (gD X.K T)) (h2 : PGs X es (gDs X.K Ts)) (hn : nice a = true) : PGs X (a :: es) (gDs X.K (T :: Ts)) := by
  refine (pgs_cons h1 h2 (tgt_nice hn _)).imp fun v σ H Q w => ?_
  obtain ⟨ds, e, e', m, al, F, sr, r, hb, k⟩ := w
  cases ds with
  | nil => cases hb
  | cons d ds =>
    cases r with
    | cons r1 r2 =>
      obtain ⟨e1, hb1, hb2⟩ := Option.bind_eq_some_iff.mp hb
      refine ⟨_, _, rfl, d, e, e1, m, al, F, sr, r1, hb1, fun σ1 sr1 w1 => ?_⟩
      refine ⟨ds, e1, e', m, al, F, sr1, r2, hb2, fun σ2 sr2 w2 => ?_⟩
      exact k σ2 sr2 fun own ho => (w2 own fun i hi => ho i (List.mem_append_right _ hi)).trans (w1 own fun i hi => ho i (List.mem_append_left _ hi))
theorem bindTgs_len : ∀ {Ts : List Tg} {ds : List D} {e e' : Env}, bindTgs Ts ds e = some e' → ds.length = Ts.length
  | [], [], _, _, _ => rfl
  | T :: Ts, d :: ds, e, e', h => by
    obtain ⟨e1, _, h2⟩ := Option.bind_eq_some_iff.mp h
    simp [bindTgs_len h2]
  | [], _ :: _, _, _, h => by cases h
  | _ :: _, [], _, _, h => by cases h
theorem pg_tpD {Ts : List Tg} {k : Nat} (hc : X.calm = true) (h : PGs X es (gDs X.K Ts)) (hn : es.all nice = true) (hl : es.length = Ts.length) : PG X (.Tuple es k pos) (gD X.K (.tp Ts)) := by
  obtain ⟨h1, h2⟩ := tgts_nice hn X.env
  refine (pg_tup hc h (h1.trans hl) h2).imp fun v σ H Q w => ?_
  obtain ⟨d, e, e', m, al, F, sr, r, hb, k⟩ := w
  cases r <;> first | (cases hb; done) | skip
  rename_i a xs ds q1 q2
  have hb : bindTgs Ts ds e = some e' := hb
  refine ⟨a, xs, rfl, sqT_sub sr.core.sub q1, by rw [q2.length]; exact bindTgs_len hb, ds, e, e', m, al, F, sr, q2, hb, fun σ' sr' w' => ?_⟩
  exact k σ' sr' w'
end

/-! ### comprehensions -/
theorem R.Ok.isok {α : Type} {r : R α} {P : α → Env → Mu → Prop} (h : r.Ok P NoE) : ∃ a e m, r = .ok a e m ∧ P a e m := by
  cases r with
  | ok a e m => exact ⟨a, e, m, rfl, h⟩
  | exc c vs m => exact h.elim
  | stuck => exact h.elim
theorem Core.write {H : Hp} {m : Mu} {al : List Addr} {F : Hp} (c : Core K H m al F) {a : Addr} (hF : F a = none) (ha : a ∉ al) (o : HO) : Core K (upd H a o) m al F := by
  have ne : ∀ {b : Addr}, b ∈ al → b ≠ a := fun hb e => ha (e ▸ hb)
  refine ⟨fun b u h => ?_, c.len, c.nd, fun b h => ?_, fun k b d h1 h2 => ?_⟩
  · rw [upd_ne (fun e => by subst e; rw [hF] at h; cases h)]
    exact c.sub b u h
  · rw [upd_ne (ne h)]; exact c.has b h
  · have nb := ne (List.mem_of_getElem? h1)
    obtain ⟨g1, g2⟩ := c.live k b d h1 h2
    refine ⟨g1, ?_⟩
    cases g2 with
    | lst q1 q2 => exact .lst (by rw [upd_ne nb]; exact q1) q2
    | dicK q1 q2 => exact .dicK (by rw [upd_ne nb]; exact q1) q2
    | dicT q1 q2 => exact .dicT (by rw [upd_ne nb]; exact q1) q2
/-- an own object that nobody else knows is frozen -/
theorem Core.shut {H : Hp} {m : Mu} {al : List Addr} {F : Hp} (c : Core K H m al F) {a : Addr} (hF : F a = none) (ha : a ∉ al) {o : HO} (ho : H a = some o) : Core K H m al (upd F a o) := by
  have ne : ∀ {b : Addr}, b ∈ al → b ≠ a := fun hb e => ha (e ▸ hb)
  refine ⟨fun b u h => ?_, c.len, c.nd, c.has, fun k b d h1 h2 => ?_⟩
  · by_cases q : b = a
    · subst q; rw [upd_same] at h; rw [ho]; exact h
    · rw [upd_ne q] at h; exact c.sub b u h
  · have nb := ne (List.mem_of_getElem? h1)
    obtain ⟨g1, g2⟩ := c.live k b d h1 h2
    refine ⟨by rw [upd_ne nb]; exact g1, ?_⟩
    cases g2 with
    | lst q1 q2 => exact .lst q1 (q2.mono (Pre.refl _) (Le.new hF))
    | dicK q1 q2 => exact .dicK q1 (q2.mono (Pre.refl _) (Le.new hF))
    | dicT q1 q2 => exact .dicT q1 (q2.mono (Pre.refl _) (Le.new hF))
/-- the state of a comprehension: the new list at D -/
structure LcAt (K : PySem.W.Frag) (al0 : List Addr) (F0 H0 : Hp) (L : Addr) (σ : L2.St) (H : Hp) (e : Env) (m : Mu) (al : List Addr) (F : Hp) (ys : List D) (acc : List V) : Prop where
  sr : SR K σ H e m al F
  ex : Ex al0 F0 H0 al F H
  at_ : H L = some (.lst acc)
  nF : F L = none
  na : L ∉ al
  rep : RepL K al F acc ys
theorem LcAt.grow {al0 : List Addr} {F0 H0 : Hp} {L : Addr} {σ σ' : L2.St} {H H' : Hp} {e e' : Env} {m m' : Mu} {al al' : List Addr} {F F' : Hp} {ys : List D} {acc : List V} (x : LcAt K al0 F0 H0 L σ H e m al F ys acc) (sr : SR K σ' H' e' m' al' F') (ex : Ex al F H al' F' H') : LcAt K al0 F0 H0 L σ' H' e' m' al' F' ys acc :=
  ⟨sr, x.ex.trans ex, ex.keep _ _ x.at_ x.na, ex.nf _ _ x.nF x.na x.at_, fun z => (ex.new _ z).elim x.na fun q => (nomatch x.at_.symm.trans q), x.rep.mono ex.pre ex.le⟩
theorem LcAt.wipe {al0 : List Addr} {F0 H0 : Hp} {L : Addr} {σ : L2.St} {H : Hp} {e : Env} {m : Mu} {al : List Addr} {F : Hp} {ys : List D} {acc : List V} (x : LcAt K al0 F0 H0 L σ H e m al F ys acc) (vs : List Nat) : LcAt K al0 F0 H0 L (L2.wipe σ vs) H (wipeE e vs) m al F ys acc :=
  ⟨x.sr.wipe vs, x.ex, x.at_, x.nF, x.na, x.rep⟩
theorem LcAt.push {al0 : List Addr} {F0 H0 : Hp} {L : Addr} {σ : L2.St} {H : Hp} {e : Env} {m : Mu} {al : List Addr} {F : Hp} {ys : List D} {acc : List V} (x : LcAt K al0 F0 H0 L σ H e m al F ys acc) (hL : H0 L = none) {v : V} {d : D} (r : Rep K al F v d) : LcAt K al0 F0 H0 L σ (upd H L (.lst (acc ++ [v]))) e m al F (ys ++ [d]) (acc ++ [v]) :=
  ⟨⟨x.sr.core.write x.nF x.na _, x.sr.slots, x.sr.len⟩, ⟨x.ex.pre, x.ex.le, fun a o h n => by rw [upd_ne (ne_of_none h hL)]; exact x.ex.keep a o h n, x.ex.new, x.ex.nf⟩, upd_same, x.nF, x.na, x.rep.app (.cons r .nil)⟩
theorem LcAt.done {al0 : List Addr} {F0 H0 : Hp} {L : Addr} {σ : L2.St} {H : Hp} {e : Env} {m : Mu} {al : List Addr} {F : Hp} {ys : List D} {acc : List V} (x : LcAt K al0 F0 H0 L σ H e m al F ys acc) (hL : H0 L = none) :
    SR K σ H e m al (upd F L (.lst acc)) ∧ Ex al0 F0 H0 al (upd F L (.lst acc)) H ∧ Rep K al (upd F L (.lst acc)) (.ref L) (.lst ys) :=
  ⟨⟨x.sr.core.shut x.nF x.na x.at_, x.sr.slots.mono (Pre.refl _) (Le.new x.nF), x.sr.len⟩, ⟨x.ex.pre, x.ex.le.trans (Le.new x.nF), x.ex.keep, x.ex.new, fun a o h n q => by rw [upd_ne (ne_of_none q hL)]; exact x.ex.nf a o h n q⟩, .lst upd_same (x.rep.mono (Pre.refl _) (Le.new x.nF))⟩
theorem lcD_imp {T : Tg} {fi : M (List D)} {ft : M Bool} {fe : M D} {own : List Nat} (ho : ∀ i ∈ Tg.slots T, i ∈ own) (σ : L2.St) (H : Hp) (Q : VK)
    (w : tD K (fi.bind fun xs e m => (lcGo (bindTg T) ft fe own xs (wipeE e own) m).bind fun ys e m => if lim ys = true then .ok (.lst ys) e m else .stuck) σ H Q) :
    tLc (tIt K fi) (gD K T) (tDT K ft) (tD K fe) own σ H Q := by
  refine tG_mono (tG_bind w) fun J H1 h1 => ?_
  obtain ⟨ds, e, m, al, F, sr, wk, ok⟩ := h1
  intro L hL
  refine ⟨fun i n H2 => n = ds.length - i ∧ i ≤ ds.length ∧ ∃ e2 m2 al2 F2 ys acc, LcAt K al F H1 L (L2.wipe σ own) H2 e2 m2 al2 F2 ys acc ∧
    (lcGo (bindTg T) ft fe own (ds.drop i) e2 m2).Ok (fun zs e3 m3 => lim (ys ++ zs) = true ∧ FinG K (rpD K) σ al F H1 Q (.lst (ys ++ zs)) e3 m3) NoE, ⟨ds.length, by simp, Nat.zero_le _, ?_⟩, ?_⟩
  · refine ⟨wipeE e own, m, al, F, [], [], ⟨(SR.mk (sr.core.write (sr.core.fresh hL) (fun z => ?_) _) sr.slots sr.len).wipe own, ⟨Pre.refl _, Le.refl _, fun a o h _ => by rw [upd_ne (ne_of_none h hL)]; exact h, fun _ h => .inl h, fun _ _ h _ _ => h⟩, upd_same, sr.core.fresh hL, fun z => ?_, .nil⟩, ?_⟩
    · obtain ⟨u, hu⟩ := sr.core.has L z
      rw [hL] at hu; cases hu
    · obtain ⟨u, hu⟩ := sr.core.has L z
      rw [hL] at hu; cases hu
    · rw [List.drop_zero]
      refine (R.Ok.bind ok).mono (fun ys e3 m3 k => ?_) fun _ _ _ z => z
      by_cases hl : lim ys = true
      · simp only [hl, if_true] at k
        exact ⟨hl, k⟩
      · rw [Bool.not_eq_true] at hl
        simp only [hl, Bool.false_eq_true, if_false] at k
        exact k.elim
  · rintro i n H2 ⟨rfl, hi, e2, m2, al2, F2, ys, acc, at_, k⟩
    by_cases hlt : i < ds.length
    · obtain ⟨go, yl⟩ := wk.go at_.sr.core at_.ex.pre at_.ex.le i ds[i] (by simp [hlt])
      have ed : ds.drop i = ds[i] :: ds.drop (i + 1) := List.drop_eq_getElem_cons hlt
      rw [ed] at k
      refine .inr ⟨go, fun H3 => ∃ e3 m3 al3 F3 ys acc, LcAt K al F H1 L (L2.wipe σ own) H3 e3 m3 al3 F3 ys acc ∧
        (lcGo (bindTg T) ft fe own (ds.drop (i + 1)) e3 m3).Ok (fun zs e3 m3 => lim (ys ++ zs) = true ∧ FinG K (rpD K) σ al F H1 Q (.lst (ys ++ zs)) e3 m3) NoE, fun H3 h3 => ⟨ds.length - (i + 1), by omega, rfl, hlt, h3⟩, fun x H3 y => ?_⟩
      obtain ⟨F3, c3, ex3, r3⟩ := yl x H3 y
      have at3 := at_.grow (σ' := L2.wipe σ own) (e' := e2) ⟨c3, at_.sr.slots.mono ex3.pre ex3.le, at_.sr.len⟩ ex3
      rw [lcGo] at k
      cases hb : bindTg T ds[i] e2 with
      | none => rw [hb] at k; exact k.elim
      | some e3 =>
        rw [hb] at k
        refine ⟨ds[i], e2, e3, m2, al2, F3, at3.sr, r3, hb, fun σ2 sr2 w2 => ?_⟩
        have wi : L2.wipe σ2 own = L2.wipe σ own := by
          rw [w2 own ho]
          have idem : ∀ vs : List Nat, (∀ i ∈ vs, i ∈ own) → L2.wipe (L2.wipe σ own) vs = L2.wipe σ own := fun vs => by
            induction vs with
            | nil => intro _; rfl
            | cons v vs ih =>
              intro hv
              show (L2.wipe (L2.wipe σ own) vs).set v none = L2.wipe σ own
              rw [ih fun i hi => hv i (List.mem_cons_of_mem _ hi)]
              have gone : ∀ ws : List Nat, v ∈ ws → (L2.wipe σ ws).set v none = L2.wipe σ ws := fun ws => by
                induction ws with
                | nil => intro h; simp at h
                | cons w ws ih2 =>
                  intro h
                  show ((L2.wipe σ ws).set w none).set v none = (L2.wipe σ ws).set w none
                  by_cases q : v = w
                  · subst q; rw [List.set_set]
                  · rw [List.set_comm _ _ (Ne.symm q), ih2 (by
                      rcases List.mem_cons.mp h with h | h
                      · exact absurd h q
                      · exact h)]
              exact gone own (hv v List.mem_cons_self)
          exact idem own fun _ h => h
        refine ⟨wi, e3, m2, al2, F3, sr2, (R.Ok.bind k).mono (fun b e4 m4 k4 b' H4 al4 F4 sr4 ex4 eb => ?_) fun _ _ _ z => z⟩
        subst eb
        have at4 := at3.grow sr4 ex4
        cases b with
        | false =>
          rw [if_neg (by decide)]
          simp only [Bool.false_eq_true, if_false] at k4
          have := at4.wipe own
          rw [wi] at this
          exact ⟨_, _, _, _, _, _, this, k4⟩
        | true =>
          rw [if_pos rfl]
          simp only [if_true] at k4
          refine ⟨e4, m4, al4, F4, sr4, (R.Ok.bind k4).mono (fun d5 e5 m5 k5 v5 H5 al5 F5 sr5 ex5 r5 => ?_) fun _ _ _ z => z⟩
          have at5 := at4.grow sr5 ex5
          have k6 := R.Ok.bind k5
          obtain ⟨zs, e6, m6, er, hl, fin⟩ := k6.isok
          refine ⟨acc, at5.at_, ?_, ?_⟩
          · have h1 := lim_ok hl
            rw [List.length_append, List.length_cons] at h1
            rw [at5.rep.length]
            omega
          · have := (at5.push hL r5).wipe own
            rw [wi] at this
            refine ⟨_, _, _, _, _, _, this, k6.mono (fun zs e6 m6 k7 => ?_) fun _ _ _ z => z⟩
            rw [List.append_assoc]
            exact k7
    · have en : i = ds.length := by omega
      subst en
      rw [List.drop_length] at k
      obtain ⟨hl, fin⟩ := k
      rw [List.append_nil] at fin
      obtain ⟨g1, g2, g3⟩ := at_.done hL
      exact .inl ⟨wk.stop at_.sr.core at_.ex.pre at_.ex.le _ (Nat.le_refl _), fin _ _ _ _ g1.unwipe g2 g3⟩
end Mn
end
section
set_option Elab.async false
set_option linter.all false
set_option maxRecDepth 100000
/-! Statements over trees. -/
namespace Mn
open PySem PySem.Spec PyProof.Rows L2
variable {K : PySem.W.Frag}
theorem Fl.Ok.mono {r : Fl} {P P' : FP} (h : r.Ok P) (h1 : ∀ e m, P.nx e m → P'.nx e m) (h2 : ∀ d m, P.rt d m → P'.rt d m) (h3 : ∀ e m, P.bk e m → P'.bk e m) (h4 : ∀ e m, P.ct e m → P'.ct e m) (h5 : ∀ c vs m, P.exc c vs m → P'.exc c vs m) : r.Ok P' := by
  cases r with
  | nx e m => exact h1 _ _ h
  | rt d m => exact h2 _ _ h
  | bk e m => exact h3 _ _ h
  | ct e m => exact h4 _ _ h
  | exc c vs m => exact h5 _ _ _ h
  | stuck => exact h
theorem fl_ok {α : Type} {r : R α} {f : α → Env → Mu → Fl} {P : FP} (h : (r.fl f).Ok P) (he : ∀ c vs m, P.exc c vs m → False) : r.Ok (fun a e m => (f a e m).Ok P) NoE := by
  cases r with
  | ok a e m => exact h
  | exc c vs m => exact he _ _ _ h
  | stuck => exact h
/-- what is wanted behind a statement, over trees -/
def fpD (K : PySem.W.Frag) (al : List Addr) (F H : Hp) (E : Ends) : FP where
  nx e m := ∀ σ' H' al' F', SR K σ' H' e m al' F' → Ex al F H al' F' H' → E.nx σ' H'
  rt d m := ∀ v H' al' F', Core K H' m al' F' → Ex al F H al' F' H' → Rep K al' F' v d → E.rt v H'
  bk e m := ∀ σ' H' al' F', SR K σ' H' e m al' F' → Ex al F H al' F' H' → E.bk σ' H'
  ct e m := ∀ σ' H' al' F', SR K σ' H' e m al' F' → Ex al F H al' F' H' → E.ct σ' H'
  exc _ _ _ := False
def tF (K : PySem.W.Frag) (f : Env → Mu → Fl) : TS := fun E σ H => ∃ e m al F, SR K σ H e m al F ∧ (f e m).Ok (fpD K al F H E)
theorem fpD_trans {al al1 : List Addr} {F F1 H H1 : Hp} {E : Ends} (x : Ex al F H al1 F1 H1) {r : Fl} (h : r.Ok (fpD K al F H E)) : r.Ok (fpD K al1 F1 H1 E) :=
  h.mono (fun _ _ q σ' H' al' F' sr ex => q σ' H' al' F' sr (x.trans ex)) (fun _ _ q v H' al' F' c ex r => q v H' al' F' c (x.trans ex) r)
    (fun _ _ q σ' H' al' F' sr ex => q σ' H' al' F' sr (x.trans ex)) (fun _ _ q σ' H' al' F' sr ex => q σ' H' al' F' sr (x.trans ex)) fun _ _ _ z => z
/-- what a statement does with a value -/
def tKs {α β : Type} (K : PySem.W.Frag) (rp : RP α β) (f : α → Env → Mu → Fl) (v : β) : L2.St → Hp → Ends → Prop := fun σ H E => ∃ d e m al F, SR K σ H e m al F ∧ rp al F d v ∧ (f d e m).Ok (fpD K al F H E)
theorem tF_bind {α β : Type} {rp : RP α β} {f : M α} {g : α → Env → Mu → Fl} {E : Ends} {σ : L2.St} {H : Hp} (h : tF K (fun r m => (f r m).fl g) E σ H) : tG K rp f σ H fun v H1 => tKs K rp g v σ H1 E := by
  obtain ⟨e, m, al, F, sr, ok⟩ := h
  refine ⟨e, m, al, F, sr, (fl_ok ok fun _ _ _ z => z).mono (fun d e1 m1 ok1 v H1 al1 F1 sr1 ex1 r1 => ?_) fun _ _ _ z => z⟩
  exact ⟨d, e1, m1, al1, F1, sr1, r1, fpD_trans ex1 ok1⟩
theorem tG_fl {α β : Type} {rp : RP α β} {f : M α} {g : α → Env → Mu → Fl} {E : Ends} {σ : L2.St} {H : Hp} {e : Env} {m : Mu} {al : List Addr} {F : Hp} (sr : SR K σ H e m al F) (ok : ((f e m).fl g).Ok (fpD K al F H E)) : tG K rp f σ H fun v H1 => tKs K rp g v σ H1 E := tF_bind ⟨e, m, al, F, sr, ok⟩
section
variable {X : Cx} {pos : Pos} {a b c tg : Expr} {sa sb : List Stmt}
theorem ps_setD {T : Tg} {f : M D} (ha : PE X a (tD X.K f)) (hg : PG X tg (gD X.K T)) (hn : noComp a = true) (hw : swappedStores [tg] a X.env = pure none) (h1 : (assignEach [tg] X.env).map (·.2) = [assign tg X.env]) :
    PS X (.Assign [tg] a pos) (tF X.K fun r m => (f r m).fl fun d r m => match bindTg T d r with
      | some r => .nx r m
      | none => .stuck) := by
  refine (ps_asg ha hg (swap_comp hn _ _ _) hw h1).imp fun E σ H w => tG_mono (tF_bind w) fun v H1 k => ?_
  obtain ⟨d, e, m, al, F, sr, r, ok⟩ := k
  cases hb : bindTg T d e with
  | none => simp only [hb] at ok; exact ok.elim
  | some e' =>
    simp only [hb] at ok
    exact ⟨d, e, e', m, al, F, sr, r, hb, fun σ' sr' _ => ok σ' _ _ _ sr' (Ex.refl _ _ _)⟩
theorem ps_exprD {f : M D} (ha : PE X a (tD X.K f)) (hn : noComp a = true) : PS X (.Expr a pos) (tF X.K fun r m => (f r m).fl fun _ r m => .nx r m) := by
  refine (ps_expr ha (swap_comp hn _ _ _)).imp fun E σ H w => tG_mono (tF_bind w) fun v H1 k => ?_
  obtain ⟨d, e, m, al, F, sr, r, ok⟩ := k
  exact ok _ _ _ _ sr (Ex.refl _ _ _)
theorem ps_retD {f : M D} (ha : PE X a (tD X.K f)) : PS X (.Return (some a) pos) (tF X.K fun r m => (f r m).fl fun d _ m => .rt d m) := by
  refine (ps_ret ha).imp fun E σ H w => tG_mono (tF_bind w) fun v H1 k => ?_
  obtain ⟨d, e, m, al, F, sr, r, ok⟩ := k
  exact ok _ _ _ _ sr.core (Ex.refl _ _ _) r
theorem ps_retND : PS X (.Return none pos) (tF X.K fun _ m => .rt .non m) := by
  refine ps_retN.imp fun E σ H w => ?_
  obtain ⟨e, m, al, F, sr, ok⟩ := w
  exact ok _ _ _ _ sr.core (Ex.refl _ _ _) .non
theorem ps_passD : PS X (.Pass pos) (tF X.K fun r m => .nx r m) := by
  refine ps_pass.imp fun E σ H w => ?_
  obtain ⟨e, m, al, F, sr, ok⟩ := w
  exact ok _ _ _ _ sr (Ex.refl _ _ _)
theorem ps_brkD : PS X (.Break pos) (tF X.K fun r m => .bk r m) := by
  refine ps_break.imp fun E σ H w => ?_
  obtain ⟨e, m, al, F, sr, ok⟩ := w
  exact ok _ _ _ _ sr (Ex.refl _ _ _)
theorem ps_cntD : PS X (.Continue pos) (tF X.K fun r m => .ct r m) := by
  refine ps_continue.imp fun E σ H w => ?_
  obtain ⟨e, m, al, F, sr, ok⟩ := w
  exact ok _ _ _ _ sr (Ex.refl _ _ _)
theorem ps_neverD {st : Stmt} : PS X st (tF X.K fun _ _ => .stuck) := by
  refine ps_never.imp fun E σ H w => ?_
  obtain ⟨e, m, al, F, sr, ok⟩ := w
  exact ok.elim
theorem pss_nilD : PSs X [] (tF X.K fun r m => .nx r m) := by
  refine pss_nil.imp fun E σ H w => ?_
  obtain ⟨e, m, al, F, sr, ok⟩ := w
  exact ok _ _ _ _ sr (Ex.refl _ _ _)
theorem pss_consD {st : Stmt} {f g : Env → Mu → Fl} (h1 : PS X st (tF X.K f)) (h2 : PSs X sa (tF X.K g)) : PSs X (st :: sa) (tF X.K fun r m => match f r m with
    | .nx r m => g r m
    | k => k) := by
  refine (pss_cons h1 h2).imp fun E σ H w => ?_
  obtain ⟨e, m, al, F, sr, ok⟩ := w
  refine ⟨e, m, al, F, sr, ?_⟩
  simp only at ok
  cases hf : f e m with
  | nx e1 m1 =>
    rw [hf] at ok
    exact fun σ1 H1 al1 F1 sr1 ex1 => ⟨e1, m1, al1, F1, sr1, fpD_trans ex1 ok⟩
  | rt d m1 => rw [hf] at ok; exact ok
  | bk e1 m1 => rw [hf] at ok; exact ok
  | ct e1 m1 => rw [hf] at ok; exact ok
  | exc c vs m1 => rw [hf] at ok; exact ok
  | stuck => rw [hf] at ok; exact ok
theorem ps_ifD {t : M Bool} {f g : Env → Mu → Fl} (hc : PT X c (tDT X.K t)) (h1 : PSs X sa (tF X.K f)) (h2 : PSs X sb (tF X.K g)) : PS X (.If c sa sb pos) (tF X.K fun r m => (t r m).fl fun k r m => if k = true then f r m else g r m) := by
  refine (ps_if hc h1 h2).imp fun E σ H w => tG_mono (tF_bind w) fun v H1 k => ?_
  obtain ⟨d, e, m, al, F, sr, r, ok⟩ := k
  cases r
  cases v with
  | true =>
    rw [if_pos rfl]
    exact ⟨e, m, al, F, sr, by simpa using ok⟩
  | false =>
    rw [if_neg (by decide)]
    exact ⟨e, m, al, F, sr, by simpa using ok⟩
/-! ### for -/
theorem ps_forD {T : Tg} {fi : M (List D)} {f : Env → Mu → Fl} (hp : PassesOwn (model X.prog X.w) X.A X.env X.xe) (hc : X.calm = true) (hi : PI X tg a (tIt X.K fi)) (hg : PG X tg (gD X.K T)) (hb : PSs X sa (tF X.K f)) (hn : nice a = true) :
    PS X (.For tg a sa [] pos) (tF X.K fun r m => (fi r m).fl fun xs r m => forGo (bindTg T) f xs r m) := by
  refine (ps_for hp hc hi hg hb (folded_nice hn _)).imp fun E σ H w => tG_mono (tF_bind w) fun J H1 k => ?_
  obtain ⟨ds, e, m, al, F, sr, wk, ok⟩ := k
  refine ⟨fun i n σ H2 => n = ds.length - i ∧ i ≤ ds.length ∧ ∃ e2 m2 al2 F2, SR X.K σ H2 e2 m2 al2 F2 ∧ Ex al F H1 al2 F2 H2 ∧ (forGo (bindTg T) f (ds.drop i) e2 m2).Ok (fpD X.K al F H1 E),
    ⟨ds.length, by simp, Nat.zero_le _, e, m, al, F, sr, Ex.refl _ _ _, by rw [List.drop_zero]; exact ok⟩, ?_⟩
  rintro i n σ2 H2 ⟨rfl, hi, e2, m2, al2, F2, sr2, ex2, k⟩
  by_cases hlt : i < ds.length
  · obtain ⟨go, yl⟩ := wk.go sr2.core ex2.pre ex2.le i ds[i] (by simp [hlt])
    have ed : ds.drop i = ds[i] :: ds.drop (i + 1) := List.drop_eq_getElem_cons hlt
    rw [ed] at k
    refine .inr ⟨go, fun σ3 H3 => ∃ e3 m3 al3 F3, SR X.K σ3 H3 e3 m3 al3 F3 ∧ Ex al F H1 al3 F3 H3 ∧ (forGo (bindTg T) f (ds.drop (i + 1)) e3 m3).Ok (fpD X.K al F H1 E), fun σ3 H3 h3 => ⟨ds.length - (i + 1), by omega, rfl, hlt, h3⟩, fun x H3 y => ?_⟩
    obtain ⟨F3, c3, ex3, r3⟩ := yl x H3 y
    rw [forGo] at k
    cases hbi : bindTg T ds[i] e2 with
    | none => rw [hbi] at k; exact k.elim
    | some e3 =>
      rw [hbi] at k
      refine ⟨ds[i], e2, e3, m2, al2, F3, ⟨c3, sr2.slots.mono ex3.pre ex3.le, sr2.len⟩, r3, hbi, fun σ4 sr4 _ => ?_⟩
      refine ⟨e3, m2, al2, F3, sr4, ?_⟩
      have ex4 := ex2.trans ex3
      cases hf : f e3 m2 with
      | nx e5 m5 =>
        simp only [hf] at k
        exact fun σ5 H5 al5 F5 sr5 ex5 => ⟨e5, m5, al5, F5, sr5, ex4.trans ex5, k⟩
      | ct e5 m5 =>
        simp only [hf] at k
        exact fun σ5 H5 al5 F5 sr5 ex5 => ⟨e5, m5, al5, F5, sr5, ex4.trans ex5, k⟩
      | bk e5 m5 =>
        simp only [hf] at k
        exact fun σ5 H5 al5 F5 sr5 ex5 => k σ5 H5 al5 F5 sr5 (ex4.trans ex5)
      | rt d m5 =>
        simp only [hf] at k
        exact fun v H5 al5 F5 c5 ex5 r5 => k v H5 al5 F5 c5 (ex4.trans ex5) r5
      | exc c vs m5 =>
        simp only [hf] at k
        exact k
      | stuck =>
        simp only [hf] at k
        exact k
  · have en : i = ds.length := by omega
    subst en
    rw [List.drop_length] at k
    exact .inl ⟨wk.stop sr2.core ex2.pre ex2.le _ (Nat.le_refl _), k _ _ _ _ sr2 ex2⟩
/-! ### while -/
theorem ps_whD {t : M Bool} {f : Env → Mu → Fl} (n : Nat) (hp : PassesOwn (model X.prog X.w) X.A X.env X.xe) (hc : PT X c (tDT X.K t)) (hb : PSs X sa (tF X.K f)) : PS X (.While c sa [] pos) (tF X.K fun r m => whGo t f n r m) := by
  refine (ps_while hp hc hb).imp fun E σ H w => ?_
  obtain ⟨e, m, al, F, sr, ok⟩ := w
  refine ⟨fun n σ H2 => ∃ e2 m2 al2 F2, SR X.K σ H2 e2 m2 al2 F2 ∧ Ex al F H al2 F2 H2 ∧ (whGo t f n e2 m2).Ok (fpD X.K al F H E), ⟨n, e, m, al, F, sr, Ex.refl _ _ _, ok⟩, ?_⟩
  rintro n σ2 H2 ⟨e2, m2, al2, F2, sr2, ex2, k⟩
  cases n with
  | zero => exact k.elim
  | succ n =>
    rw [whGo] at k
    refine ⟨e2, m2, al2, F2, sr2, (fl_ok k fun _ _ _ z => z).mono (fun b e3 m3 k3 b' H3 al3 F3 sr3 ex3 eb => ?_) fun _ _ _ z => z⟩
    subst eb
    have ex4 := ex2.trans ex3
    cases b with
    | true =>
      rw [if_pos rfl]
      simp only [if_true] at k3
      refine ⟨fun σ5 H5 => ∃ e5 m5 al5 F5, SR X.K σ5 H5 e5 m5 al5 F5 ∧ Ex al F H al5 F5 H5 ∧ (whGo t f n e5 m5).Ok (fpD X.K al F H E), fun σ5 H5 h5 => ⟨n, Nat.lt_succ_self _, h5⟩, e3, m3, al3, F3, sr3, ?_⟩
      cases hf : f e3 m3 with
      | nx e5 m5 =>
        simp only [hf] at k3
        exact fun σ5 H5 al5 F5 sr5 ex5 => ⟨e5, m5, al5, F5, sr5, ex4.trans ex5, k3⟩
      | ct e5 m5 =>
        simp only [hf] at k3
        exact fun σ5 H5 al5 F5 sr5 ex5 => ⟨e5, m5, al5, F5, sr5, ex4.trans ex5, k3⟩
      | bk e5 m5 =>
        simp only [hf] at k3
        exact fun σ5 H5 al5 F5 sr5 ex5 => k3 σ5 H5 al5 F5 sr5 (ex4.trans ex5)
      | rt d m5 =>
        simp only [hf] at k3
        exact fun v H5 al5 F5 c5 ex5 r5 => k3 v H5 al5 F5 c5 (ex4.trans ex5) r5
      | exc c vs m5 =>
        simp only [hf] at k3
        exact k3
      | stuck =>
        simp only [hf] at k3
        exact k3
    | false =>
      rw [if_neg (by decide)]
      simp only [Bool.false_eq_true, if_false] at k3
      exact k3 _ _ _ _ sr3 ex4
end
end Mn
end
section
set_option Elab.async false
set_option linter.all false
set_option maxRecDepth 100000
/-! More statements over trees: items set, names counted up, pairs, comprehensions. -/
namespace Mn
open PySem PySem.Spec PyProof.Rows L2
variable {K : PySem.W.Frag}
theorem sub_nice {a b : Expr} {pos : Pos} (h : nice b = true) (env : PySem.Env) : ∀ v, assign (.Subscript a b pos) env v = (do
      let ov ← holding [v] (eval a env)
      let iv ← holding [v, ov] (eval b env)
      standAt pos
      holding [v, ov, iv] (setItem ov iv v)
      release [v, ov, iv] []) := by
  intro v
  cases b <;> first | rfl | (simp [nice] at h)
theorem RepL.set {al : List Addr} {F : Hp} {v : V} {d : D} (r : Rep K al F v d) : ∀ {ds : List D} {vs : List V} (n : Nat), RepL K al F vs ds → RepL K al F (vs.set n v) (ds.set n d)
  | [], _, n, q => by cases q; simpa using RepL.nil
  | _ :: _, _, 0, q => by
    cases q with
    | cons h1 h2 => exact .cons r h2
  | _ :: _, _, n + 1, q => by
    cases q with
    | cons h1 h2 => exact .cons h1 (RepL.set r n h2)
section
variable {X : Cx} {pos p2 : Pos} {a b c o i elt tg iter : Expr} {ifs : List Expr}
theorem ps_sidxD {f g h : M D} (hv : PE X a (tD X.K f)) (ho : PE X o (tD X.K g)) (hi : PE X i (tD X.K h)) (hn : noComp a = true) (hni : nice i = true) :
    PS X (.Assign [.Subscript o i p2] a pos) (tF X.K fun r m => (f r m).fl fun x r m => (g r m).fl fun y r m => (h r m).fl fun z r m => match sidxD m y z x with
      | some m => .nx r m
      | none => .stuck) := by
  have e1 : swappedStores [.Subscript o i p2] a X.env = pure none := by cases a <;> rfl
  refine (ps_asg hv (pg_sub ho hi set_list (sub_nice hni _)) (swap_comp hn (some (.Subscript o i p2)) pos.line X.env) e1 rfl).imp fun E σ H w => tG_mono (tF_bind w) fun x H1 k => ?_
  obtain ⟨d1, e, m, al, F, sr, rx, ok⟩ := k
  refine ⟨e, m, al, F, sr, (fl_ok ok fun _ _ _ z => z).mono (fun d2 e2 m2 ok2 y H2 al2 F2 sr2 ex2 ry => ?_) fun _ _ _ z => z⟩
  refine ⟨e2, m2, al2, F2, sr2, (fl_ok ok2 fun _ _ _ z => z).mono (fun d3 e3 m3 ok3 z H3 al3 F3 sr3 ex3 rz => ?_) fun _ _ _ z => z⟩
  have rx3 := (rx.mono ex2.pre ex2.le).mono ex3.pre ex3.le
  have ry3 := ry.mono ex3.pre ex3.le
  cases hs : sidxD m3 d2 d3 d1 with
  | none => simp only [hs] at ok3; exact ok3.elim
  | some m4 =>
    simp only [hs] at ok3
    unfold sidxD at hs
    split at hs
    · rename_i k j
      split at hs
      · rename_i xs hm
        split at hs
        · rename_i hz
          cases hs
          obtain ⟨q, rfl, hq, fq, ob⟩ := cell_get sr3.core ry3 hm
          cases rz
          cases ob with
          | @lst ys _ h1 h2 =>
            refine ⟨q, ys, j, j.toNat, rfl, rfl, h1, ?_, ?_⟩
            · unfold ixN
              rw [h2.length]
              have e1 : ¬ j < 0 := by omega
              simp [hz.1, hz.2, e1]
            · exact ok3 _ _ al3 F3 ⟨sr3.core.put hq hm (.lst upd_same (h2.set rx3 _)), sr3.slots, sr3.len⟩ ((ex2.trans ex3).trans (Ex.put hq))
        · cases hs
      · cases hs
    · cases hs
/-! ### name += e -/
theorem ps_augD {n : Nat} {x : Str} {f : M D} {op : Bop} (hop : op = .add ∨ op = .sub) (hN : X.N.Nodup) (hi : X.N[n]? = some x) (hx : Loc X.env.scope x) (hf : X.fn x = true ∨ X.env.scope.names.lookup x = some .local) (ha : PE X a (tD X.K f)) :
    PS X (.AugAssign (.Name x p2) op.op a pos) (tF X.K fun r m => (varD n r m).fl fun x r m => (f r m).fl fun y r m => match augD op x y with
      | some z => .nx (r.set n (some z)) m
      | none => .stuck) := by
  have key : ∀ (E : Ends) (σ : L2.St) (H : Hp), tF X.K (fun r m => (varD n r m).fl fun x r m => (f r m).fl fun y r m => match augD op x y with
      | some z => .nx (r.set n (some z)) m
      | none => .stuck) E σ H → tAug n (tD X.K f) (fun x y H Q => ∃ i j z, x = .int i ∧ y = .int j ∧ augD op (.int i) (.int j) = some (.int z) ∧ Q (.int z) H) E σ H := fun E σ H w => by
    obtain ⟨e, m, al, F, sr, ok⟩ := w
    unfold varD at ok
    simp only at ok
    split at ok
    · rename_i d hd
      obtain ⟨v, h1, h2⟩ := sr.slots n d hd
      change ((f e m).fl _).Ok _ at ok
      refine ⟨v, h1, e, m, al, F, sr, (fl_ok ok fun _ _ _ z => z).mono (fun d2 e2 m2 ok2 y H2 al2 F2 sr2 ex2 ry => ?_) fun _ _ _ z => z⟩
      cases hz : augD op d d2 with
      | none => simp only [hz] at ok2; exact ok2.elim
      | some z =>
        simp only [hz] at ok2
        unfold augD at hz
        split at hz
        · cases h2
          cases ry
          cases hz
          exact ⟨_, _, _, rfl, rfl, rfl, ok2 _ _ _ _ (sr2.set (.int _)) ex2⟩
        · cases h2
          cases ry
          cases hz
          exact ⟨_, _, _, rfl, rfl, rfl, ok2 _ _ _ _ (sr2.set (.int _)) ex2⟩
        · cases hz
    · exact ok.elim
  rcases hop with rfl | rfl
  · refine (ps_aug hN hi hx ha ip_add hf).imp fun E σ H w => ?_
    obtain ⟨v, h1, k⟩ := key E σ H w
    refine ⟨v, h1, tG_mono k fun y H1 ⟨i, j, z, e1, e2, e3, q⟩ => ⟨i, j, e1, e2, ?_⟩⟩
    cases e3
    exact q
  · refine (ps_aug hN hi hx ha ip_sub hf).imp fun E σ H w => ?_
    obtain ⟨v, h1, k⟩ := key E σ H w
    refine ⟨v, h1, tG_mono k fun y H1 ⟨i, j, z, e1, e2, e3, q⟩ => ⟨i, j, e1, e2, ?_⟩⟩
    cases e3
    exact q
/-! ### a, b = x, y -/
def notStar : Expr → Bool
  | .Starred _ _ => false
  | _ => true
theorem swap2 {x y : Str} {px py pt pt2 : Pos} {kt k2 : Nat} {env : PySem.Env} (hk : env.scope.kind = .function) (hx : env.kindOf x = some .local) (hy : env.kindOf y = some .local) (hxy : x ≠ y) (hl : (py.line == px.line) = true) (n1 : notStar a = true) (n2 : notStar b = true)
    (h1 : [a, b].all (foldedForSure 8) = false) (h2 : [a, b].all (constantsAlone 8) = false) : swappedStores [.Tuple [.Name x px, .Name y py] kt pt] (.Tuple [a, b] k2 pt2) env = pure (some [x, y]) := by
  have hb : env.blockKind = .function := by unfold Env.blockKind; rw [hk]; rfl
  have hs : ([a, b].any fun | .Starred .. => true | _ => false) = false := by
    cases a <;> cases b <;> first | rfl | (simp [notStar] at n1 n2)
  unfold swappedStores
  have e1 : ([x, y].eraseDups.length != [x, y].length) = false := by
    have : (x == y) = false := by simpa using hxy
    simp [List.eraseDups_cons, this, Ne.symm hxy]
  simp only [List.length_cons, List.length_nil, hb, hs, List.head?_cons, Option.map_some, Option.getD_some, List.filterMap_cons, List.filterMap_nil, hx, hy, Expr.pos, hl, h1, h2]
  simp
  have e2 : [x, y].eraseDups.length = 2 := by simpa using e1
  rw [if_neg ?_, if_pos e2]
  rintro (h | h)
  · cases a <;> first | (cases h; done) | (simp [notStar] at n1)
  · cases b <;> first | (cases h; done) | (simp [notStar] at n2)
theorem ps_parD {n k : Nat} {x y : Str} {px py pt pt2 : Pos} {kt k2 : Nat} {f g : M D} (hc : X.calm = true) (hN : X.N.Nodup) (hn : X.N[n]? = some x) (hk : X.N[k]? = some y) (hnk : n ≠ k)
    (hx : X.env.scope.names.lookup x = some .local) (hy : X.env.scope.names.lookup y = some .local) (ha : PE X a (tD X.K f)) (hb : PE X b (tD X.K g)) (na : nice a = true) (nb : nice b = true)
    (hw : swappedStores [.Tuple [.Name x px, .Name y py] kt pt] (.Tuple [a, b] k2 pt2) X.env = pure (some [x, y])) :
    PS X (.Assign [.Tuple [.Name x px, .Name y py] kt pt] (.Tuple [a, b] k2 pt2) pos) (tF X.K fun r m => (f r m).fl fun d r m => (g r m).fl fun d2 r m => .nx ((r.set n (some d)).set k (some d2)) m) := by
  refine (ps_par hc hN hn hk hnk hx hy (pa_cons ha (pa_cons hb pa_nil (star_nice nb _ _)) (star_nice na _ _)) hw rfl).imp fun E σ H w => tG_mono (tF_bind w) fun x H1 k => ?_
  obtain ⟨d1, e, m, al, F, sr, rx, ok⟩ := k
  refine ⟨e, m, al, F, sr, (fl_ok ok fun _ _ _ z => z).mono (fun d2 e2 m2 ok2 y H2 al2 F2 sr2 ex2 ry => ?_) fun _ _ _ z => z⟩
  refine ⟨x, y, rfl, ok2 _ _ _ _ ((sr2.set (rx.mono ex2.pre ex2.le)).set ry) ex2⟩
/-! ### comprehensions -/
theorem pts_nilD {X : Cx} : PTs X [] (tDT X.K (M.ret true)) := ⟨fun pins s σ H Q I w => by
  obtain ⟨e, m, al, F, sr, ok⟩ := w
  exact pts_nil.run pins s σ H Q I (ok _ _ _ _ sr (Ex.refl _ _ _) rfl)⟩
theorem pts_oneD {X : Cx} {f : M Bool} (h : PT X a (tDT X.K f)) : PTs X [a] (tDT X.K (f.bind fun k => if k = true then M.ret true else M.ret false)) := ⟨fun pins s σ H Q I w => by
  refine (pts_one h).run pins s σ H Q I (tG_mono (tG_bind w) fun v H1 h1 => ?_)
  obtain ⟨d, e, m, al, F, sr, r, ok⟩ := h1
  cases r
  cases v with
  | true => exact ok _ _ _ _ sr (Ex.refl _ _ _) rfl
  | false => exact ok _ _ _ _ sr (Ex.refl _ _ _) rfl⟩
theorem pe_lcD {T : Tg} {fi : M (List D)} {ft : M Bool} {fe : M D} {own : List (Str × Nat)} {scope : Scope} (hc : X.calm = true) (hN : X.N.Nodup) (hi : PI X tg iter (tIt X.K fi)) (ok : BlkOk X.N X.env.scope scope own)
    (hg : ∀ (s : Shared) (H : Hp) (C : Addr) (cl : List (Str × Addr)) (fp : List Addr), PG (X.blk s H scope (compEnvC scope cl C X.env) fp) tg (gD X.K T))
    (ht : ∀ (s : Shared) (H : Hp) (C : Addr) (cl : List (Str × Addr)) (fp : List Addr), PTs (X.blk s H scope (compEnvC scope cl C X.env) fp) ifs (tDT X.K ft))
    (he : ∀ (s : Shared) (H : Hp) (C : Addr) (cl : List (Str × Addr)) (fp : List Addr), PE (X.blk s H scope (compEnvC scope cl C X.env) fp) elt (tD X.K fe)) (hn : nice iter = true) (ho : ∀ i ∈ Tg.slots T, i ∈ own.map (·.2)) :
    PE X (.ListComp elt [⟨tg, iter, ifs, 0⟩] scope pos) (tD X.K (fi.bind fun xs e m => (lcGo (bindTg T) ft fe (own.map (·.2)) xs (wipeE e (own.map (·.2))) m).bind fun ys e m => if lim ys = true then .ok (.lst ys) e m else .stuck)) :=
  (pe_lc hc hN hi ok hg ht he (folded_nice hn _)).imp (lcD_imp ho)
theorem ps_setLcD {T : Tg} {fi : M (List D)} {ft : M Bool} {fe : M D} {own : List (Str × Nat)} {scope : Scope} {n : Nat} {y : Str} {py : Pos} (hc : X.calm = true) (hN : X.N.Nodup) (hy : X.N[n]? = some y) (hyl : X.env.scope.names.lookup y = some .local)
    (hsw : swapsWith (.ListComp elt [⟨tg, iter, ifs, 0⟩] scope p2) (some (.Name y py)) pos.line X.env = pure true) (hi : PI X tg iter (tIt X.K fi)) (ok : BlkOk X.N X.env.scope scope own)
    (hg : ∀ (s : Shared) (H : Hp) (C : Addr) (cl : List (Str × Addr)) (fp : List Addr), PG (X.blk s H scope (compEnvC scope cl C X.env) fp) tg (gD X.K T))
    (ht : ∀ (s : Shared) (H : Hp) (C : Addr) (cl : List (Str × Addr)) (fp : List Addr), PTs (X.blk s H scope (compEnvC scope cl C X.env) fp) ifs (tDT X.K ft))
    (he : ∀ (s : Shared) (H : Hp) (C : Addr) (cl : List (Str × Addr)) (fp : List Addr), PE (X.blk s H scope (compEnvC scope cl C X.env) fp) elt (tD X.K fe)) (hn : nice iter = true) (ho : ∀ i ∈ Tg.slots T, i ∈ own.map (·.2)) :
    PS X (.Assign [.Name y py] (.ListComp elt [⟨tg, iter, ifs, 0⟩] scope p2) pos) (tF X.K fun r m => (((fi.bind fun xs e m => (lcGo (bindTg T) ft fe (own.map (·.2)) xs (wipeE e (own.map (·.2))) m).bind fun ys e m => if lim ys = true then .ok (.lst ys) e m else .stuck) : M D) r m).fl fun d r m => match bindTg (.nm n) d r with
      | some r => .nx r m
      | none => .stuck) := by
  refine (ps_setLc hc hN hy hyl hsw hi ok hg ht he (folded_nice hn _)).imp fun E σ H w => lcD_imp ho σ H _ (tG_mono (tF_bind w) fun x H1 k => ?_)
  obtain ⟨d1, e, m, al, F, sr, rx, ok⟩ := k
  exact ok _ _ _ _ (sr.set rx) (Ex.refl _ _ _)
end
end Mn
end
section
set_option Elab.async false
set_option linter.all false
set_option maxRecDepth 100000
/-! x, *ys = a tuple. -/
namespace Mn
open PySem PySem.Spec PyProof.Rows L2
theorem obj_live {P : Program} {w : World} {H : Hp} {h : Heap} {a : Addr} {o : HO} (x : ObjOk P w H h a o) : h.get? a ≠ none := by
  cases o with
  | lst xs => obtain ⟨_, _, _, _, e⟩ := x; rw [e]; exact fun z => nomatch z
  | tup xs => obtain ⟨_, _, _, _, e, _⟩ := x; rw [e]; exact fun z => nomatch z
  | dK kvs => obtain ⟨_, _, _, _, o, _, _, e, _⟩ := x; rw [e]; exact fun z => nomatch z
  | dT kvs => obtain ⟨_, _, _, _, o, _, _, e, _⟩ := x; rw [e]; exact fun z => nomatch z
  | set S n => obtain ⟨o, _, _, _, e, _⟩ := x; rw [e]; exact fun z => nomatch z
  | ins C dx fs => obtain ⟨_, _, _, e, _⟩ := x; rw [e]; exact fun z => nomatch z
  | own y => obtain ⟨_, e⟩ := x; rw [e]; exact fun z => nomatch z
  | xd fs => obtain ⟨_, ⟨_, _, _, e, _⟩, _⟩ := x; rw [e]; exact fun z => nomatch z
  | rng lo hi => obtain ⟨_, _, _, e⟩ := x; rw [e]; exact fun z => nomatch z
  | frz ob u => obtain ⟨e, _⟩ := x; rw [e]; exact fun z => nomatch z
  | tbl ps => rw [show h.get? a = some _ from x]; exact fun z => nomatch z
  | met f y => rw [show h.get? a = some _ from x]; exact fun z => nomatch z
  | ext φ => obtain ⟨_, ⟨_, e⟩, _⟩ := x; rw [e]; exact fun z => nomatch z
/-- a walk from its second item on -/
theorem walk_tail {prog : Program} {w : World} {A : Around} {I : Addr} {fp wr : List Addr} {n : Nat} {P : Nat → Value → Prop} {St : Nat → Heap → Prop} (W : Walks prog w A I fp wr (n + 1) P St) :
    Walks prog w A I fp wr n (fun i v => P (i + 1) v) (fun i h => St (i + 1) h) where
  sub := W.sub
  frame := fun i h h' st hk => W.frame (i + 1) h h' st hk
  item := fun i s Q E hi st hQ => W.item (i + 1) s Q E (by omega) st hQ
  done := fun s Q E st hQ => W.done s Q E st hQ
  self := fun i s Q E st hQ => W.self (i + 1) s Q E st hQ
section
variable {prog : Program} {w : World} {A : Around} {E : Value → Shared → Prop} {s : Shared}
theorem unpack_star {t : Addr} {x : Value} {us : List Value} {Q : List Value → Shared → Prop} (hh : A.handled = none) (ht : IsTup s.heap t (x :: us).toArray) (hz : us.length ≤ sizeLine)
    (hQ : ∀ (s' : Shared) (p : Addr) (c : Nat), (∀ b o, s.heap.get? b = some o → s'.heap.get? b = some o) → s'.gens = s.gens → s'.os = s.os → s.heap.get? p = none → s'.heap.get? p = some { cls := .type "list", data := .seq us.toArray c } → Q [x, .ref p] s') :
    wpAny (model prog w) A (unpackItems (.ref t) 2 (some 1)) Q E s := by
  have hlt : t ≠ s.heap.objs.size := by
    obtain ⟨o, ho, _⟩ := ht
    exact Nat.ne_of_lt (Heap.lt_size ho)
  unfold unpackItems notIterableAtAll
  refine wpAny_bind (wpAny_bind (wpAny_specialOf ht.typeIs slot_tuple_iter.lookup (wpAny_pure ?_)))
  rw [if_neg (by decide)]
  refine wpAny_bind (wpAny_holding (iter_tuple ht ?_))
  refine wpAny_bind (wpAny_holding (draw_tuple hlt 1 0 _ _ ⟨_, Heap.get?_push_size _ rfl, rfl, rfl⟩ (ht.push _) (by simp) fun h₁ hit₁ hs₁ => ?_))
  have e1 : List.take 1 (List.drop 0 (x :: us).toArray.toList) = [x] := rfl
  rw [e1]
  have ht1 : IsTup h₁ t (x :: us).toArray := (ht.push _).extBut hs₁.extBut hlt
  have hsz : h₁.objs.size = s.heap.objs.size + 1 := by rw [hs₁.1, Heap.size_push]
  have W := walk_tail (n := us.length) (Walks.tuple (prog := prog) (w := w) (A := A.in1) (by simpa using hh) s.heap.objs.size t hlt (x :: us).toArray)
  refine wpAny_bind (wpAny_holding (wpAny_collect_iter (T := "tuple_iterator") (.inr (.inr (.inr rfl))) W.toS (fun i s st => st.1.typeIs) ⟨hit₁, ht1⟩ (fun b hb => ?_) (by simp) (fun s' acc mv hacc => ?_) hz))
  · show b < h₁.objs.size
    rw [hsz]
    have hb : b = s.heap.objs.size ∨ b = t := by simpa using hb
    rcases hb with q | q
    · rw [q]; exact Nat.lt_succ_self _
    · subst q
      obtain ⟨o, ho, _⟩ := ht
      exact Nat.lt_succ_of_lt (Heap.lt_size ho)
  · have eacc : acc.toList = us := by
      apply List.ext_getElem?
      intro j
      by_cases hj : j < acc.size
      · have h1 : acc[j]? = some acc[j] := by simp [hj]
        have h2 := hacc.2 j _ h1
        have h2 : (x :: us).toArray[j + 1]? = some acc[j] := h2
        rw [List.getElem?_toArray, List.getElem?_cons_succ] at h2
        rw [Array.getElem?_toList, h1, h2]
      · have h1 : acc.size = us.length := hacc.1
        rw [Array.getElem?_toList, Array.getElem?_eq_none (by omega), List.getElem?_eq_none (by omega)]
    rw [eacc]
    show wpAny (model prog w) A (newList (List.take (us.length - 0) us) >>= fun a => pure ([x] ++ [a] ++ List.drop (us.length - 0) us)) Q E s'
    have e4 : us.take (us.length - 0) = us := by simp
    have e5 : us.drop (us.length - 0) = [] := by simp
    rw [e4, e5]
    refine wpAny_bind (wpAny_newObj_type ?_ hz)
    refine wpAny_pure ?_
    have hk : ∀ b o, s.heap.get? b = some o → s'.heap.get? b = some o := fun b o e => by
      have hb : b < s.heap.objs.size := Heap.lt_size e
      have nb : b ≠ s.heap.objs.size := Nat.ne_of_lt hb
      refine mv.heap b o (by simpa using nb) ?_
      exact (hs₁.2 b nb).trans (Heap.get?_push_of_some _ e)
    have hge : s.heap.get? s'.heap.objs.size = none := by
      cases q : s.heap.get? s'.heap.objs.size with
      | none => rfl
      | some o => exact absurd (Heap.lt_size (hk _ _ q)) (Nat.lt_irrefl _)
    exact hQ _ s'.heap.objs.size 0 (fun b o e => Heap.get?_push_of_some _ (hk b o e)) mv.gens mv.os hge (Heap.get?_push_size _ rfl)
end
section
variable {X : Cx} {pos p1 p2 p3 p4 : Pos} {a : Expr}
theorem ps_starD {i j kt : Nat} {x y : Str} {f : M D} (ha : PE X a (tD X.K f)) (hN : X.N.Nodup) (hi : X.N[i]? = some x) (hj : X.N[j]? = some y) (hx : Loc X.env.scope x) (hy : Loc X.env.scope y) (fx : X.fn x = true ∨ X.env.scope.names.lookup x = some .local) (fy : X.fn y = true ∨ X.env.scope.names.lookup y = some .local)
    (hc : X.calm = true) (hs : swapsWithSole [.Tuple [.Name x p1, .Starred (.Name y p2) p3] kt p4] a pos.line X.env = pure false) (hw : swappedStores [.Tuple [.Name x p1, .Starred (.Name y p2) p3] kt p4] a X.env = pure none) :
    PS X (.Assign [.Tuple [.Name x p1, .Starred (.Name y p2) p3] kt p4] a pos) (tF X.K fun r m => (f r m).fl fun d r m => match starD d with
      | some (x, xs) => .nx ((r.set i (some x)).set j (some (.lst xs))) m
      | none => .stuck) := by
  have hg : PG X (.Tuple [.Name x p1, .Starred (.Name y p2) p3] kt p4) (fun v σ H Q => ∃ t u vs, v = .ref t ∧ SqT X.K H t (u :: vs) ∧ ∀ p, H p = none → Q ((σ.set i (some u)).set j (some (.ref p))) (upd H p (.lst vs))) := by
    refine ⟨fun pins s σ H v u Q I r w => ?_⟩
    obtain ⟨t, z, vs, rfl, hq, k⟩ := w
    cases r
    obtain ⟨its, rv, ht, hz⟩ := I.tuple hq
    cases rv with
    | @cons _ zu _ us r1 r2 =>
      have hz2 : us.length ≤ sizeLine := by
        have := r2.length
        rw [List.length_cons] at hz
        omega
      rw [assign_Tuple]
      refine wpAny_bind (wpAny_standAt ?_)
      show wpAny _ _ (do assignInOrder [assign (.Name x p1) X.env, assign (.Name y p2) X.env] (← holding [.ref t] (unpackItems (.ref t) 2 (some 1)))) _ _ s
      refine wpAny_bind (wpAny_holding (unpack_star (I.ok.hd hc) ht hz2 fun s' p c hk hgn hos hp hat => ?_))
      have hn : H p = none := by
        cases q : H p with
        | none => rfl
        | some o =>
          exact absurd hp (obj_live (I.hok p o q))
      have J : Inv X pins σ (upd H p (.lst vs)) { s with heap := s'.heap, gens := s'.gens, drawn := s'.drawn, toks := s'.toks } :=
        I.call (ch := []) (Un.laidN hk hp hn) (I.hok.laidN hk hn ⟨by rw [r2.length]; exact hz2, us, c, r2, hat⟩) (by rw [hgn]; exact I.bare) (fun _ z => nomatch z)
      have es : s' = { s with heap := s'.heap, gens := s'.gens, drawn := s'.drawn, toks := s'.toks } := by
        cases s'
        cases s
        cases hos
        rfl
      rw [es]
      refine assignInOrder_cons (wpAny_assign_Name (store_ok J hN hi hx r1 (fun s2 I2 => ?_) fx))
      refine assignInOrder_cons (wpAny_assign_Name (store_ok (v := V.ref p) I2 hN hj hy rfl (fun s3 I3 => ?_) fy))
      exact assignInOrder_nil ⟨_, _, I3, k p hn⟩
  refine (ps_asg ha hg hs hw rfl).imp fun E σ H w => tG_mono (tF_bind w) fun v H1 k => ?_
  obtain ⟨d, e, m, al, F, sr, r, ok⟩ := k
  cases hb : starD d with
  | none => simp only [hb] at ok; exact ok.elim
  | some q =>
    obtain ⟨d1, ds⟩ := q
    simp only [hb] at ok
    unfold starD at hb
    split at hb
    · cases hb
      cases r with
      | @tup t xs _ h1 h2 =>
        cases h2 with
        | @cons u vs _ _ r1 r2 =>
          refine ⟨t, u, vs, rfl, sqT_sub sr.core.sub h1, fun p hp => ?_⟩
          have sr2 := sr.new hp (.lst vs)
          have hF := sr.core.fresh hp
          exact ok _ _ _ _ ((sr2.set (r1.mono (Pre.refl _) (Le.new hF))).set (.lst upd_same (r2.mono (Pre.refl _) (Le.new hF)))) (Ex.newO hF hp _)
    · cases hb
end
end Mn
end
section
set_option Elab.async false
set_option linter.all false
set_option maxRecDepth 100000
/-! enumerate over trees. -/
namespace Mn
open PySem PySem.Spec PyProof.Rows L2
set_option maxHeartbeats 1000000 in
/-- enumerate(v) of anything whose iterator is a new object -/
theorem enum_new1 {v : Value} {o : Obj} {H : Heap → Prop} (B : PySem.Begins v o H) :
    Meets (Builtin.«enumerate.__new__» ⟨[.type "enumerate", v], []⟩) (fun _ R s => H s.heap ∧
      R (.ok (.ret (.ref (s.heap.push o).objs.size))) { s with heap := (s.heap.push o).push { cls := .type "enumerate", data := .fields #[.none, .bool false, .ref s.heap.objs.size, rawInt 0, .none, .none] } }) :=
  .of_wp fun prog w A R s h => by
    obtain ⟨hp, g, dr, tk, os⟩ := s
    obtain ⟨h1, h2⟩ := h
    have sub1 := sub_enumerate
    have iter1 : ∀ {A' : Around} {E : Value → Shared → Prop} {Q : Value → Shared → Prop}, Q (.ref hp.objs.size) ⟨hp.push o, g, dr, tk, os⟩ → wpAny (model prog w) A' (pyIter v) Q E ⟨hp, g, dr, tk, os⟩ := fun q => B.iter prog w _ _ ⟨hp, g, dr, tk, os⟩ _ h1 q
    wp_walk using iter1
    refine wpAny_stack_any fun st => wpAny_pure ?_
    split
    · rename_i cl _ _ _ _ _
      cases (cl == Value.type "enumerate") <;> (wp_walk using iter1; exact ⟨_, rfl, h2⟩)
    · wp_walk using iter1
      exact ⟨_, rfl, h2⟩
theorem enum_call {prog : Program} {w : World} {A : Around} {E : Value → Shared → Prop} {s : Shared} {v : Value} {o : Obj} {H : Heap → Prop} {Q : Value → Shared → Prop} (B : PySem.Begins v o H) (h1 : H s.heap)
    (h : ∀ h', IsEnum h' (s.heap.objs.size + 1) s.heap.objs.size 0 .none → h'.get? s.heap.objs.size = some o → (∀ b o, s.heap.get? b = some o → h'.get? b = some o) → Q (.ref (s.heap.objs.size + 1)) { s with heap := h' }) :
    wpAny (model prog w) A (call (.type "enumerate") [v]) Q E s := by
  refine callType_new F.called_enumerate (by decide) (F.typeCall_enumerate_1 _) (F.newCall_enumerate_1 _) (fun obj => F.args_object_init_2 obj _) F.entry_enumerate_new (enum_new1 B) ⟨h1, ?_⟩
  have sz : (s.heap.push o).objs.size = s.heap.objs.size + 1 := Heap.size_push ..
  have he := Heap.get?_push_size (s.heap.push o) (o := { cls := .type "enumerate", data := .fields #[.none, .bool false, .ref s.heap.objs.size, rawInt 0, .none, .none] }) rfl
  rw [sz] at he
  show _ ∧ _
  rw [sz]
  exact ⟨⟨_, he, rfl⟩, h _ he (Heap.get?_push_of_some _ (Heap.get?_push_size _ B.free)) fun b u x => Heap.get?_push_of_some _ (Heap.get?_push_of_some _ x)⟩
theorem tuple_end {prog : Program} {w : World} {A : Around} (hh : A.handled = none) (it t : Addr) (items : Array Value) (i : Nat) (hi : items[i]? = none) :
    Draws prog w A it [it, t] i (fun _ _ => False) (fun j h => j = i ∧ h.IsTupleIter it t i ∧ h.IsTuple t items) where
  live := fun _ _ st => let ⟨o, ho, _⟩ := st.2.1; ⟨o, ho⟩
  frame := fun _ _ _ st hk => ⟨st.1, st.2.1.at fun o e => hk it (by simp) o e, st.2.2.at fun o e => hk t (by simp) o e⟩
  item := fun j s Q E hj st _ => absurd st.1 (Nat.ne_of_lt hj)
  done := fun s Q E st hE => wpAny_nextOf_tuple_end hh st.2.1 st.2.2 hi hE
/-- the tuple at a, each item in a new pair -/
def IteT (K : PySem.W.Frag) (a : Addr) : It where
  go i H := ∃ (xs : List V) (x : V), SqT K H a xs ∧ xs[i]? = some x
  yld i H v H' := ∃ T x, v = .ref T ∧ H T = none ∧ H' = upd H T (.tup [.int (i : Nat), x]) ∧ ∀ xs, SqT K H a xs → xs[i]? = some x
  stop i H := ∃ xs : List V, SqT K H a xs ∧ xs.length ≤ i
theorem turn_enumT {P : Program} {w : World} {K : PySem.W.Frag} {elts : List Expr} {kk : Nat} {tpos : Pos} (a e it : Addr) (hea : e ≠ a) (hia : a ≠ it) :
    Turn P w K (.Tuple elts kk tpos) (IteT K a) [e, it] e (fun i h => (∃ old, IsEnum h e it ((i : Nat) : Int) old) ∧ h.IsTupleIter it a i ∧ e ≠ it) where
  mem := by simp
  obj := fun i h st b hb => by
    obtain ⟨⟨old, he⟩, ⟨o, ho, hc, hd⟩, _⟩ := st
    rcases (show b = e ∨ b = it by simpa using hb) with z | z
    · subst z; exact ⟨_, he, fun v q => nomatch q⟩
    · subst z; exact ⟨o, ho, fun v q => by rw [hd] at q; cases q⟩
  keep := fun i h h' st k => by
    obtain ⟨⟨old, he⟩, hi, hne⟩ := st
    exact ⟨⟨old, k e (by simp) _ he⟩, hi.at fun o q => k it (by simp) o q, hne⟩
  item := by
    intro X hP hw hK hc i pins s σ H E I hf st hg
    subst hP hw hK
    obtain ⟨⟨old, he⟩, hit, hne⟩ := st
    obtain ⟨xs, x, hq, hx⟩ := hg
    obtain ⟨its, rv, pt, hz⟩ := I.tuple hq
    obtain ⟨u, hu, ru⟩ := rv.get hx
    have hel : e < s.heap.objs.size := Heap.lt_size he
    have hil : it < s.heap.objs.size := by obtain ⟨_, q, _⟩ := hit; exact Heap.lt_size q
    have hi : i < its.toArray.size := by
      have := (List.getElem?_eq_some_iff.mp hu).1
      simpa using this
    have Dr := Draws.tuple (prog := X.prog) (w := X.w) (A := X.A.in1) (by simpa using I.ok.hd hc) it a hia its.toArray
    refine wpAny_pyNext_enum_itemD Dr he ⟨hit, pt⟩ hi hne (by simp; exact ⟨hne, hea⟩) fun y h1 tk hy ho hst1 hT hsz hk => ?_
    have ey : y = u := by
      have : its.toArray[i]? = some u := by simpa using hu
      exact Option.some.inj (hy.symm.trans this)
    subst ey
    refine ⟨_, rfl, wpAny_letOwnedTupleGo_enum (s := { s with heap := h1, toks := tk + 1 }) ho fun h2 he2 sb => ?_⟩
    have hT2 : h2.get? s.heap.objs.size = some { cls := .type "tuple", data := .seq #[.int i tk, y] } := (sb.2 _ (Nat.ne_of_gt hel)).trans hT
    have new : ObjOk X.prog X.w (upd H s.heap.objs.size (.tup [.int (i : Nat), x])) h2 s.heap.objs.size (.tup [.int (i : Nat), x]) := ⟨by show 2 ≤ sizeLine; decide, [.int i tk, y], .cons ⟨_, rfl⟩ (.cons ru .nil), ⟨_, hT2, rfl, _, rfl⟩⟩
    have I1 : Inv X pins σ (upd H s.heap.objs.size (.tup [.int (i : Nat), x])) { s with heap := h2, toks := tk + 1 } :=
      I.turnedNew (ch := [e, it]) (fun b ob hb q => (sb.2 b (fun z => hb (by simp [z]))).trans (hk b ob (fun z => hb (by simp [z])) (fun z => hb (by simp [z])) q)) hf (Nat.le_refl _) new
    refine ⟨.ref s.heap.objs.size, _, I1, rfl, ⟨_, x, rfl, I.hok.fresh (Nat.le_refl _), rfl, fun ys hy => by rw [I.tuple_inj hy hq]; exact hx⟩, ⟨⟨y, ?_⟩, hst1.1.at fun o q => (sb.2 it (Ne.symm hne)).trans q, hne⟩, fun b hb => ?_⟩
    · have e1 : ((i + 1 : Nat) : Int) = (i : Int) + 1 := by omega
      rw [e1]; exact he2
    · have lt : b < s.heap.objs.size := by
        rcases (show b = e ∨ b = it by simpa using hb) with z | z
        · exact z ▸ hel
        · exact z ▸ hil
      rw [upd_ne (Nat.ne_of_lt lt)]
      exact (hf b hb).1
  done := by
    intro X hP hw hK hc i pins s σ H E I hf st hg
    subst hP hw hK
    obtain ⟨⟨old, he⟩, hit, hne⟩ := st
    obtain ⟨xs, hq, hx⟩ := hg
    obtain ⟨its, rv, pt, hz⟩ := I.tuple hq
    obtain ⟨f0, f1, f2, f3, f4, f5⟩ := hf it (by simp)
    have hl := rv.length
    refine wpAny_pyNext_enum_endD (tuple_end (by simpa using I.ok.hd hc) it a its.toArray i (by simp; omega)) he ⟨rfl, hit, pt⟩ fun h1 eb => ⟨rfl, I.turned (t' := s.toks) (fun b o hb q => eb b o hb q) f0 f1 f3 f4 f5⟩
  self := fun A i s Q E st h => by
    obtain ⟨⟨_, he⟩, _⟩ := st
    exact wpAny_pyIter_enum he h
theorem enum_get {ds : List D} {i : Nat} {d : D} (h : (ds.zipIdx.map fun p => D.tup [.int ((p.2 : Nat) : Int), p.1])[i]? = some d) : ∃ x, ds[i]? = some x ∧ d = .tup [.int (i : Int), x] := by
  rw [List.getElem?_map] at h
  obtain ⟨p, hp, rfl⟩ := Option.map_eq_some_iff.mp h
  rw [List.getElem?_zipIdx] at hp
  obtain ⟨x, hx, rfl⟩ := Option.map_eq_some_iff.mp hp
  exact ⟨x, hx, by simp⟩
theorem pair_new {K : PySem.W.Frag} {al' : List Addr} {F' H' : Hp} {m' : Mu} {T : Addr} {x y : V} {d d2 : D} (c : Core K H' m' al' F') (hT : H' T = none) (r : Rep K al' F' x d) (r2 : Rep K al' F' y d2) :
    ∃ F2, Core K (upd H' T (.tup [x, y])) m' al' F2 ∧ Ex al' F' H' al' F2 (upd H' T (.tup [x, y])) ∧ Rep K al' F2 (.ref T) (.tup [d, d2]) := by
  have hF := c.fresh hT
  exact ⟨_, c.new hT _, Ex.newO hF hT _, .tup (.inl (.inl upd_same)) (.cons (r.mono (Pre.refl _) (Le.new hF)) (.cons (r2.mono (Pre.refl _) (Le.new hF)) .nil))⟩
theorem walk_enumT {K : PySem.W.Frag} {al : List Addr} {F : Hp} {a : Addr} {xs : List V} {ds : List D} (h : SqT K F a xs) (r : RepL K al F xs ds) : Walk K (IteT K a) al F (ds.zipIdx.map fun p => .tup [.int ((p.2 : Nat) : Int), p.1]) where
  go := fun {al' F' H' m'} c p l i d hi => by
    obtain ⟨z, hz, rfl⟩ := enum_get hi
    obtain ⟨v, h1, h2⟩ := r.get hz
    have q := sqT_sub c.sub (l.sqT h)
    refine ⟨⟨xs, v, q, h1⟩, fun x H2 y => ?_⟩
    obtain ⟨T, w, rfl, hT, rfl, hw⟩ := y
    have e2 := hw xs q
    rw [h1] at e2
    cases e2
    exact pair_new c hT (.int _) (h2.mono p l)
  stop := fun {al' F' H' m'} c p l i hi => ⟨xs, sqT_sub c.sub (l.sqT h), by rw [r.length]; simpa using hi⟩
theorem walk_enumL {K : PySem.W.Frag} {al : List Addr} {F : Hp} {a : Addr} {xs : List V} {ds : List D} (h : SqL K F a xs) (r : RepL K al F xs ds) : Walk K (Ite K a) al F (ds.zipIdx.map fun p => .tup [.int ((p.2 : Nat) : Int), p.1]) where
  go := fun {al' F' H' m'} c p l i d hi => by
    obtain ⟨z, hz, rfl⟩ := enum_get hi
    obtain ⟨v, h1, h2⟩ := r.get hz
    have q := sqL_sub c.sub (l.sqL h)
    refine ⟨⟨xs, v, q, h1⟩, fun x H2 y => ?_⟩
    obtain ⟨T, w, rfl, hT, rfl, hw⟩ := y
    have e2 := hw xs q
    rw [h1] at e2
    cases e2
    exact pair_new c hT (.int _) (h2.mono p l)
  stop := fun {al' F' H' m'} c p l i hi => ⟨xs, sqL_sub c.sub (l.sqL h), by rw [r.length]; simpa using hi⟩
section
variable {X : Cx} {pos p tpos : Pos} {a : Expr} {elts : List Expr} {kk : Nat}
theorem pi_enumD {f : M D} (hg : Gl X "enumerate") (hm : X.mg "enumerate" = none) (ha : PE X a (tD X.K f)) (hn : nice a = true) : PI X (.Tuple elts kk tpos) (.Call (.Name "enumerate" p) [a] [] pos) (tIt X.K (f.bind fun x e m => M.of (enumD m x) e m)) := by
  refine ⟨fun pins s σ H Rq I h => ?_⟩
  have hA : PA X [a] (tCons (tD X.K f) tNil) := pa_cons ha pa_nil (star_nice hn _ _)
  have hq : tCons (tD X.K f) tNil σ H (fun vs H2 => ∃ v, vs = [v] ∧ tK X.K (rpD X.K) (rpI X.K) (fun x e m => M.of (enumD m x) e m) v σ H2 Rq) := tG_mono (tG_bind h) fun v H1 q => ⟨v, rfl, q⟩
  refine Call_ (ld_blt I hg hm boot_enumerate (PyProof.Rows.callWith_type1 (thn (hA.run pos pins s σ H _ I hq) fun us s1 ⟨vs, H1, I1, r1, q1⟩ => ?_) (star_nice hn _ _) rfl))
  · obtain ⟨v, rfl, d, e, m, al, F, sr, rd, ok⟩ := q1
    obtain ⟨u, rfl, ru⟩ := vals1 r1
    obtain ⟨ds, hd, fin⟩ := R.Ok.of ok
    have two : ∀ {h1 : Heap}, ∀ c, c ∈ [s1.heap.objs.size + 1, s1.heap.objs.size] → FpOk X pins H1 c := fun {h1} c hc => by
      have hle : s1.heap.objs.size ≤ c := by
        rcases (show c = s1.heap.objs.size + 1 ∨ c = s1.heap.objs.size by simpa using hc) with z | z
        · rw [z]; exact Nat.le_succ _
        · rw [z]; exact Nat.le_refl _
      exact I1.fpOk hle (I1.hok.fresh hle)
    cases d with
    | lst xs =>
      cases hd
      cases rd with
      | @lst q ys _ h1 h2 =>
        cases ru
        obtain ⟨its, rv, pl, hz⟩ := I1.list (SqL.of (sr.core.sub _ _ h1))
        refine enum_call (PySem.begins_list q its.toArray) pl.isList fun h' he ho hk => wpAny_pyIter_enum he ?_
        refine ⟨s1.heap.objs.size + 1, _, _, _, H1, rfl, I1.kept (t' := s1.toks) hk, turn_enum q (s1.heap.objs.size + 1) s1.heap.objs.size, ⟨⟨.none, he⟩, ⟨_, ho, rfl, rfl⟩, Nat.succ_ne_self _⟩, two (h1 := h'), ?_⟩
        exact fin _ _ _ _ sr (Ex.refl _ _ _) (walk_enumL (SqL.of h1) h2)
    | tup xs =>
      cases hd
      cases rd with
      | @tup q ys _ h1 h2 =>
        cases ru
        obtain ⟨its, rv, pl, hz⟩ := I1.tuple (sqT_sub sr.core.sub h1)
        have hlt : q < s1.heap.objs.size := by
          obtain ⟨o, ho, _⟩ := pl
          exact Heap.lt_size ho
        refine enum_call (PySem.begins_tuple q its.toArray) pl fun h' he ho hk => wpAny_pyIter_enum he ?_
        refine ⟨s1.heap.objs.size + 1, _, _, _, H1, rfl, I1.kept (t' := s1.toks) hk, turn_enumT q (s1.heap.objs.size + 1) s1.heap.objs.size (Ne.symm (Nat.ne_of_lt (Nat.lt_succ_of_lt hlt))) (Nat.ne_of_lt hlt), ⟨⟨.none, he⟩, ⟨_, ho, rfl, rfl⟩, Nat.succ_ne_self _⟩, two (h1 := h'), ?_⟩
        exact fin _ _ _ _ sr (Ex.refl _ _ _) (walk_enumT h1 h2)
    | _ => cases hd
end
end Mn
end
section
set_option Elab.async false
set_option linter.all false
set_option maxRecDepth 100000
/-! zip, new objects, displays over trees. -/
namespace Mn
open PySem PySem.Spec PyProof.Rows L2 RZ
theorem zip_get {xs ys : List D} {i : Nat} {d : D} (h : ((xs.zip ys).map fun p => D.tup [p.1, p.2])[i]? = some d) : ∃ x y, xs[i]? = some x ∧ ys[i]? = some y ∧ d = .tup [x, y] := by
  rw [List.getElem?_map] at h
  obtain ⟨p, hp, rfl⟩ := Option.map_eq_some_iff.mp h
  rw [List.getElem?_zip_eq_some] at hp
  exact ⟨p.1, p.2, hp.1, hp.2, rfl⟩
theorem walk_zipL {K : PySem.W.Frag} {al : List Addr} {F : Hp} {a b : Addr} {xs ys : List V} {ds es : List D} (h : SqL K F a xs) (r : RepL K al F xs ds) (h2 : SqL K F b ys) (r2 : RepL K al F ys es) : Walk K (Itz K a b) al F ((ds.zip es).map fun p => .tup [p.1, p.2]) where
  go := fun {al' F' H' m'} c p l i d hi => by
    obtain ⟨z, z2, hz, hz2, rfl⟩ := zip_get hi
    obtain ⟨v, g1, g2⟩ := r.get hz
    obtain ⟨v2, k1, k2⟩ := r2.get hz2
    have q := sqL_sub c.sub (l.sqL h)
    have q2 := sqL_sub c.sub (l.sqL h2)
    refine ⟨⟨xs, ys, v, v2, q, q2, g1, k1⟩, fun x H2 y => ?_⟩
    obtain ⟨T, w, w2, rfl, hT, rfl, hw, hw2⟩ := y
    have e2 := hw xs q
    rw [g1] at e2
    cases e2
    have e3 := hw2 ys q2
    rw [k1] at e3
    cases e3
    exact pair_new c hT (g2.mono p l) (k2.mono p l)
  stop := fun {al' F' H' m'} c p l i hi => ⟨xs, ys, sqL_sub c.sub (l.sqL h), sqL_sub c.sub (l.sqL h2), by
    rw [r.length, r2.length]
    rw [List.length_map, List.length_zip] at hi
    omega⟩
theorem walk_zipT {K : PySem.W.Frag} {al : List Addr} {F : Hp} {a b : Addr} {xs ys : List V} {ds es : List D} (h : SqT K F a xs) (r : RepL K al F xs ds) (h2 : SqT K F b ys) (r2 : RepL K al F ys es) : Walk K (ItzT K a b) al F ((ds.zip es).map fun p => .tup [p.1, p.2]) where
  go := fun {al' F' H' m'} c p l i d hi => by
    obtain ⟨z, z2, hz, hz2, rfl⟩ := zip_get hi
    obtain ⟨v, g1, g2⟩ := r.get hz
    obtain ⟨v2, k1, k2⟩ := r2.get hz2
    have q := sqT_sub c.sub (l.sqT h)
    have q2 := sqT_sub c.sub (l.sqT h2)
    refine ⟨⟨xs, ys, v, v2, q, q2, g1, k1⟩, fun x H2 y => ?_⟩
    obtain ⟨T, w, w2, rfl, hT, rfl, hw, hw2⟩ := y
    have e2 := hw xs q
    rw [g1] at e2
    cases e2
    have e3 := hw2 ys q2
    rw [k1] at e3
    cases e3
    exact pair_new c hT (g2.mono p l) (k2.mono p l)
  stop := fun {al' F' H' m'} c p l i hi => ⟨xs, ys, sqT_sub c.sub (l.sqT h), sqT_sub c.sub (l.sqT h2), by
    rw [r.length, r2.length]
    rw [List.length_map, List.length_zip] at hi
    omega⟩
section
variable {X : Cx} {pos p tpos : Pos} {a b : Expr} {elts : List Expr} {kk : Nat}
theorem pi_zipD {f g : M D} (st : Bool) (hg : Gl X "zip") (hm : X.mg "zip" = none) (ha : PE X a (tD X.K f)) (hb : PE X b (tD X.K g)) (hn : nice a = true) (hn2 : nice b = true) :
    PI X (.Tuple elts kk tpos) (.Call (.Name "zip" p) [a, b] [] pos) (tIt X.K (f.bind fun x => g.bind fun y e m => M.of (zipD m x y st) e m)) := by
  have hpl : (backTo pos (starEach [b] X.env)).any (·.1) = false := back_nice (by simp [hn2]) pos X.env
  refine (pi_zipA hg hm (pa_cons ha (pa_cons hb pa_nil (star_nice hn2 _ _)) (star_nice hn _ _)) (star_nice hn _ _) hpl).imp fun σ H Q w => tG_mono (tG_bind w) fun v H1 h1 => ?_
  obtain ⟨d, e, m, al, F, sr, r, ok⟩ := h1
  refine ⟨e, m, al, F, sr, (R.Ok.bind ok).mono (fun d2 e1 m1 ok1 v2 H2 al2 F2 sr2 ex2 r2 => ?_) fun _ _ _ z => z⟩
  obtain ⟨xs, hx, fin⟩ := R.Ok.of ok1
  have r := r.mono ex2.pre ex2.le
  unfold zipD at hx
  split at hx
  · split at hx
    · cases hx
    · cases hx
      cases r with
      | lst h1 h2 =>
        cases r2 with
        | lst k1 k2 => exact ⟨_, _, _, _, rfl, .inl ⟨SqL.of (sr2.core.sub _ _ h1), SqL.of (sr2.core.sub _ _ k1), fin _ _ _ _ sr2 ex2 (walk_zipL (SqL.of h1) h2 (SqL.of k1) k2)⟩⟩
  · split at hx
    · cases hx
    · cases hx
      cases r with
      | tup h1 h2 =>
        cases r2 with
        | tup k1 k2 => exact ⟨_, _, _, _, rfl, .inr ⟨sqT_sub sr2.core.sub h1, sqT_sub sr2.core.sub k1, fin _ _ _ _ sr2 ex2 (walk_zipT h1 h2 k1 k2)⟩⟩
  · cases hx
/-! ### new mutable objects -/
theorem pe_mkdD (t : Bool) : PE X (.Dict [] [] pos) (tD X.K fun e m => .ok (.cell m.length) e (m ++ [some (.dic t [] [])])) := by
  cases t with
  | false =>
    refine pe_dnewK.imp fun σ H Q w => ?_
    obtain ⟨e, m, al, F, sr, ok⟩ := w
    intro q hq
    exact ok _ _ _ _ (sr.mk' hq (.dicK (kvs := []) upd_same .nil)) (Ex.mk' hq) (cell_new sr.core.len)
  | true =>
    refine pe_dnewT.imp fun σ H Q w => ?_
    obtain ⟨e, m, al, F, sr, ok⟩ := w
    intro q hq
    exact ok _ _ _ _ (sr.mk' hq (.dicT (kvs := []) upd_same .nil)) (Ex.mk' hq) (cell_new sr.core.len)
theorem pe_dic0D : PE X (.Dict [] [] pos) (tD X.K (M.of (some (.dic false [] [])))) := by
  refine pe_dnewK.imp fun σ H Q w => ?_
  obtain ⟨e, m, al, F, sr, ok⟩ := w
  intro q hq
  exact ok _ _ _ _ (sr.new hq _) (Ex.newO (sr.core.fresh hq) hq _) (.dicK (kvs := []) upd_same .nil)
theorem pe_mklD {f : M D} (hc : X.calm = true) (hg : Gl X "list") (hm : X.mg "list" = none) (ha : PE X a (tD X.K f)) (hn : nice a = true) :
    PE X (.Call (.Name "list" p) [a] [] pos) (tD X.K (f.bind fun x e m => match listD m x with
      | some xs => .ok (.cell m.length) e (m ++ [some (.lst xs)])
      | none => .stuck)) := by
  have rule : CallR X (.type "list") (fun vs H Q => ∃ v d xs m al F, vs = [v] ∧ Core X.K H m al F ∧ Rep X.K al F v d ∧ listD m d = some xs ∧ ∀ q ws, H q = none → RepL X.K al F ws xs → Q (.ref q) (upd H q (.lst ws))) := by
    rintro pins s σ H vs us Q I rs ⟨v, d, xs, m, al, F, rfl, c, r, hd, k⟩
    unfold listD at hd
    cases z : deref m d with
    | none => rw [z] at hd; cases hd
    | some d' =>
      rw [z] at hd
      have th := c.thru r z
      cases d' with
      | lst ys =>
        cases hd
        obtain ⟨q, ws, rfl, h1, h2⟩ := th.lst c.sub
        exact call_list_of pins s σ H _ us Q I rs ⟨q, ws, rfl, .inl (SqL.of h1), fun l hl => k l ws hl h2⟩
      | tup ys =>
        cases hd
        obtain ⟨q, ws, rfl, h1, h2⟩ := th.tup c.sub
        exact call_list_of pins s σ H _ us Q I rs ⟨q, ws, rfl, .inr h1, fun l hl => k l ws hl h2⟩
      | dic t ks ws =>
        cases t with
        | true => cases hd
        | false =>
          cases hd
          rcases th.dicv c.sub with ⟨_, q, kvs, rfl, h1, rfl, h2⟩ | ⟨e, _⟩
          · refine call_list_dK hc pins s σ H _ us Q I rs ⟨q, kvs, rfl, h1, fun l hl => k l _ hl ?_⟩
            have := kVs_rep (K := X.K) (al := al) (F := F) (kvs.map fun p => p.1)
            rw [List.map_map, List.map_map] at this
            exact this
          · cases e
      | _ => cases hd
  refine (pe_callTy rule hg hm (by decide +kernel) (pa_cons ha pa_nil (star_nice hn _ _)) (by decide) (by decide) (star_nice hn _ _)).imp fun σ H Q w => tG_mono (tG_bind w) fun v H1 h1 => ?_
  obtain ⟨d, e, m, al, F, sr, r, ok⟩ := h1
  cases hx : listD m d with
  | none => simp only [hx] at ok; exact ok.elim
  | some xs =>
    simp only [hx] at ok
    refine ⟨v, d, xs, m, al, F, rfl, sr.core, r, hx, fun q ws hq rw' => ?_⟩
    exact ok _ _ _ _ (sr.mk' hq (.lst upd_same (rw'.mono (Pre.app _ _) (Le.refl _)))) (Ex.mk' hq) (cell_new sr.core.len)
end
end Mn
end
section
set_option Elab.async false
set_option linter.all false
set_option maxRecDepth 100000
/-! sorted(set(xs)), xs a list of ints. -/
namespace Mn
open PySem PySem.Spec PyProof.Rows L2
abbrev set0 (w : World) : Obj := { cls := .type "set", dict := none, data := .set #[] 0 (.fresh 0 0 (!w.params.followText "set-order")) }
section
variable {P : Program} {w : World} {A : Around} {E : Value → Shared → Prop} {s : Shared}
set_option maxHeartbeats 3200000 in
theorem set_of_list {l : Addr} {items : Array Value} (ns : List Int) {Q : Value → Shared → Prop} (hh : A.handled = none) (hl : s.heap.IsList l items) (hit : IntsAre items.toList ns) (hb : ns.length + 1 < scanBound)
    (h : ∀ (h' : Heap) (tk c : Nat), SetR w h' s.heap.objs.size (fun j => decide (j ∈ ns)) c → c ≤ ns.length → (∀ b o, s.heap.get? b = some o → h'.get? b = some o) → Q (.ref s.heap.objs.size) { s with heap := h', toks := tk }) :
    wpAny (model P w) A (call (.type "set") [.ref l]) Q E s := by
  have size1 : items.size = ns.length := by have q := IntsAre.length hit; simpa using q
  obtain ⟨c0, t0, mro1⟩ := F.called_set.mro
  have made1 := F.called_set.made; have sub1 := F.called_set.sub
  refine wpAny_call (codeAny_of_tree ?_)
  show wpAny _ _ (callAny (.type "set") _) _ _ _
  refine wpAny_pure ⟨Code.quiet_builtin _ (by decide +kernel), codeAny_builtin F.entry_type_call ?_⟩
  rw [Around.under_plain (weight_type_call_type "set" [.ref l] []) rfl]
  have nt1 := F.called_set.notType; have cc1 := F.called_set.canCreate; have tc1 := F.typeCall_set_1 (.ref l)
  repeat (any_goals (first | assumption | wp_step))
  refine codeAny_mono (code_set_led1 (.ref l) (E := E) (Q₁ := fun obj s₁ => obj = .ref s.heap.objs.size ∧ s₁ = { s with heap := s.heap.push (set0 w) }) ⟨rfl, rfl⟩) fun r s₁ hr => ?_
  match r, hr with
  | .error e, hr => exact hr
  | .ok .next, hr => exact hr.elim
  | .ok .brk, hr => exact hr.elim
  | .ok .cont, hr => exact hr.elim
  | .ok (.ret obj), hr =>
    obtain ⟨rfl, rfl⟩ := hr
    have hS : (s.heap.push (set0 w)).get? s.heap.objs.size = some (set0 w) := Heap.get?_push_size _ rfl
    have hT : Shared.TypeIs { s with heap := s.heap.push (set0 w) } (.ref s.heap.objs.size) "set" := ⟨_, hS, rfl⟩
    have li1 := F.called_set.init.lookup; have bi1 := F.called_set.init.bind (.ref s.heap.objs.size)
    repeat (any_goals (first | assumption | wp_step))
    refine codeAny_mono (codeAny_call_builtin (R := wants (fun r s₂ => r = .none ∧ ∃ h' tk c, s₂ = { s with heap := h', toks := tk } ∧ SetR w h' s.heap.objs.size (fun j => decide (j ∈ ns)) c ∧ c ≤ ns.length ∧ (∀ b o, s.heap.get? b = some o → h'.get? b = some o)) E) F.called_set.init.plain F.entry_set_init (check_set_init_1 hT ?_)) fun r₂ s₂ hr₂ => ?_
    · obtain ⟨⟨cl1, dc1, da1, sl1⟩, g1, e1, n1, d1⟩ := hl
      simp only at e1 d1; subst e1; subst d1
      have g2 : (s.heap.push (set0 w)).get? l = some { cls := .type "list", dict := dc1, data := .seq items n1, slots := sl1 } := Heap.get?_push_of_some _ g1
      have l2 : (s.heap.push (set0 w)).IsList l items := ⟨_, g2, rfl, n1, rfl⟩
      have sb1 := F.sub_list_set; have sb2 := F.sub_list_frozenset
      have nd1 : (Value.type "list" == Value.type "dict") = false := by decide
      unfold Builtin.«set.__init__» noKeywords Builtin.Frozenset.updateFrom
      generalize hPI : pyIter = PI
      wp_walk
      subst hPI
      refine wpAny_pyIter_list l2 (wpAny_bind (wpAny_runValue ?_))
      have lt1 : l < s.heap.objs.size := Heap.lt_size g1
      have sz1 : (s.heap.push (set0 w)).objs.size = s.heap.objs.size + 1 := Heap.size_push ..
      have ne1 : l ≠ (s.heap.push (set0 w)).objs.size := by rw [sz1]; exact Nat.ne_of_lt (Nat.lt_succ_of_lt lt1)
      have nf1 : s.heap.objs.size ∉ [(s.heap.push (set0 w)).objs.size, l] := by
        rw [sz1]
        simp only [List.mem_cons, List.not_mem_nil, or_false, not_or]
        exact ⟨Nat.ne_of_lt (Nat.lt_succ_self _), Nat.ne_of_gt lt1⟩
      have val1 : ∀ (i : Nat) (v : Value), items[i]? = some v → ∃ k t, ns[i]? = some k ∧ v = .int k t := fun i v hv => by
        have hi : i < ns.length := by rw [← size1]; exact (Array.getElem?_eq_some_iff.mp hv).1
        obtain ⟨t, e⟩ := PyProof.Rows.IntsAre.int_at hit i v (by rw [Array.getElem?_toList]; exact hv)
        exact ⟨ns[i], t, by simp, by rw [e]; simp [hi]⟩
      refine set_update_ints ((Walks.list (by simp [hh]) _ l ne1 items).toS) s.heap.objs.size nf1 ns size1 hb val1 (items.size - 0) 0 _ (by omega) (Nat.zero_le _) ⟨⟨_, Heap.get?_push_size _ rfl, rfl, rfl⟩, l2.push _⟩ ⟨0, Nat.le_refl 0, setR_new_at (Heap.get?_push_of_some _ hS)⟩ ?_
      rintro ⟨h', g', d', tk', os'⟩ c' hm hc' hS'
      obtain rfl : g' = s.gens := hm.gens
      obtain rfl : d' = s.drawn := hm.drawn
      obtain rfl : os' = s.os := hm.os
      show wpAny _ _ _ _ _ _
      refine wpAny_pure ?_
      show wpAny _ _ (ret Value.none) _ _ _
      rw [size1] at hc'
      refine wpAny_pure ⟨rfl, h', tk', c', rfl, hS', hc', fun b o e => hm.heap b o ?_ (Heap.get?_push_of_some _ (Heap.get?_push_of_some _ e))⟩
      have lb := Heap.lt_size e
      simp only [List.mem_cons, List.not_mem_nil, or_false, not_or]
      exact ⟨Nat.ne_of_lt lb, by rw [sz1]; exact Nat.ne_of_lt (Nat.lt_succ_of_lt lb)⟩
    · match r₂, hr₂ with
      | .error e, hr₂ => exact hr₂
      | .ok .next, hr₂ => exact hr₂.elim
      | .ok .brk, hr₂ => exact hr₂.elim
      | .ok .cont, hr₂ => exact hr₂.elim
      | .ok (.ret r), hr₂ =>
        obtain ⟨rfl, h', tk, c', rfl, a1, a2, a3⟩ := hr₂
        repeat (any_goals (first | assumption | wp_step))
        exact h _ _ _ a1 a2 a3
end
/-! ### the sorted list -/
theorem mem_insI {i k : Int} : ∀ {l : List Int}, k ∈ insI i l ↔ k = i ∨ k ∈ l
  | [] => by simp [insI]
  | j :: r => by
    unfold insI
    split
    · simp
    · split
      · rename_i h; subst h; simp
      · rw [List.mem_cons, mem_insI, List.mem_cons]
        constructor
        · rintro (h | h | h)
          · exact .inr (.inl h)
          · exact .inl h
          · exact .inr (.inr h)
        · rintro (h | h | h)
          · exact .inr (.inl h)
          · exact .inl h
          · exact .inr (.inr h)
theorem pw_insI {i : Int} : ∀ {l : List Int}, l.Pairwise (· < ·) → (insI i l).Pairwise (· < ·)
  | [], _ => by simp [insI]
  | j :: r, h => by
    unfold insI
    have h1 := List.pairwise_cons.mp h
    split
    · rename_i hij
      refine List.pairwise_cons.mpr ⟨fun k hk => ?_, h⟩
      rcases List.mem_cons.mp hk with e | e
      · subst e; exact hij
      · have := h1.1 k e; omega
    · split
      · exact h
      · refine List.pairwise_cons.mpr ⟨fun k hk => ?_, pw_insI h1.2⟩
        rcases mem_insI.mp hk with e | e
        · subst e; omega
        · exact h1.1 k e
theorem mem_srtI {k : Int} : ∀ {l : List Int}, k ∈ srtI l ↔ k ∈ l
  | [] => by simp [srtI]
  | j :: r => by
    show k ∈ insI j (srtI r) ↔ _
    rw [mem_insI, mem_srtI, List.mem_cons]
theorem pw_srtI : ∀ l : List Int, (srtI l).Pairwise (· < ·)
  | [] => List.Pairwise.nil
  | j :: r => pw_insI (pw_srtI r)
theorem rising_unique : ∀ {l m : List Int}, l.Pairwise (· < ·) → m.Pairwise (· < ·) → (∀ k, k ∈ l ↔ k ∈ m) → l = m
  | [], [], _, _, _ => rfl
  | [], b :: m, _, _, h => by have := (h b).mpr (by simp); simp at this
  | a :: l, [], _, _, h => by have := (h a).mp (by simp); simp at this
  | a :: l, b :: m, h1, h2, h => by
    have p1 := List.pairwise_cons.mp h1
    have p2 := List.pairwise_cons.mp h2
    have e : a = b := by
      rcases List.mem_cons.mp ((h a).mp (by simp)) with q | q
      · exact q
      · rcases List.mem_cons.mp ((h b).mpr (by simp)) with q2 | q2
        · exact q2.symm
        · have := p2.1 a q; have := p1.1 b q2; omega
    subst e
    rw [rising_unique p1.2 p2.2 fun k => ⟨fun hk => ?_, fun hk => ?_⟩]
    · rcases List.mem_cons.mp ((h k).mp (List.mem_cons_of_mem _ hk)) with q | q
      · subst q; exact absurd (p1.1 k hk) (by omega)
      · exact q
    · rcases List.mem_cons.mp ((h k).mpr (List.mem_cons_of_mem _ hk)) with q | q
      · subst q; exact absurd (p2.1 k hk) (by omega)
      · exact q
/-- set(xs) of a list of ints -/
def rSetL (K : PySem.W.Frag) (w : World) : List V → Hp → VK → Prop := fun xs H Q => ∃ (a : Addr) (ns : List Int), xs = [.ref a] ∧ SqL K H a (ns.map V.int) ∧ ns.length + 1 < scanBound ∧
  ∀ (p : Addr) (n : Nat), H p = none → n ≤ ns.length → Q (.ref p) (upd H p (SetO w p (fun j => decide (j ∈ ns)) n))
section
variable {X : Cx} {pos p p2 p3 : Pos} {a : Expr}
theorem cr_setL (hc : X.calm = true) : CallR X (.type "set") (rSetL X.K X.w) := by
  rintro pins s σ H xs us Q I r ⟨q, ns, rfl, hq, hb, k⟩
  obtain ⟨its, rv, pl, hz⟩ := I.list hq
  rw [Vals.ref1 r]
  refine set_of_list ns (I.ok.hd hc) pl.isList (by simpa using rv.ints) hb fun h' tk c R hc' hk => ?_
  have hn : H s.heap.objs.size = none := I.hok.fresh (Nat.le_refl _)
  exact ⟨.ref _, upd H s.heap.objs.size (SetO X.w s.heap.objs.size (fun j => decide (j ∈ ns)) c), I.laid (t' := tk) hk (Nat.le_refl _) (setO_new R), rfl, k _ c hn hc'⟩
theorem pe_srtD0 {f : M D} (hc : X.calm = true) (hg : Gl X "sorted") (hm : X.mg "sorted" = none) (hg2 : Gl X "set") (hm2 : X.mg "set" = none) (ha : PE X a (tD X.K f)) (hn : nice a = true) :
    PE X (.Call (.Name "sorted" p) [.Call (.Name "set" p2) [a] [] p3] [] pos) (tD X.K (f.bind fun x e m => M.of (srtD0 m x) e m)) := by
  have inner : PE X (.Call (.Name "set" p2) [a] [] p3) (tCB (rSetL X.K X.w) (tCons (tD X.K f) tNil)) := pe_callTy (cr_setL hc) hg2 hm2 (by decide +kernel) (pa_cons ha pa_nil (star_nice hn _ _)) (by decide) (by decide) (star_nice hn _ _)
  refine (pe_callB (cr_sortedSet hc) hg hm (by decide +kernel) (pa_cons inner pa_nil) (by decide) (by decide)).imp fun σ H Q w => ?_
  show tG X.K (rpD X.K) f σ H _
  refine tG_mono (tG_bind w) fun v H1 h1 => ?_
  obtain ⟨d, e, m, al, F, sr, r, ok⟩ := h1
  obtain ⟨z, hz, fin⟩ := R.Ok.of ok
  unfold srtD0 at hz
  cases hd : deref m d with
  | none => rw [hd] at hz; cases hz
  | some d' =>
    rw [hd] at hz
    have th := sr.core.thru r hd
    cases d' with
    | lst xs =>
      simp only at hz
      split at hz
      · rename_i is hi
        split at hz
        · rename_i hl
          cases hz
          obtain ⟨q, ys, rfl, g1, g2⟩ := th.lst sr.core.sub
          have ei := g2.unmapI hi
          subst ei
          refine ⟨q, is, rfl, SqL.of g1, by rw [show scanBound = 4096 from rfl]; omega, fun t n ht hn' => ?_⟩
          refine ⟨t, _, n, rfl, upd_same, by omega, fun ns u hp hmem hlen hu => ?_⟩
          have en : ns = srtI is := rising_unique hp (pw_srtI is) fun k => by
            rw [hmem k, mem_srtI]
            simp
          subst en
          have htal : t ∉ al := fun z => by
            obtain ⟨o, ho⟩ := sr.core.has t z
            rw [ht] at ho; cases ho
          have c1 : SR X.K σ (upd H1 t (SetO X.w t (fun j => decide (j ∈ is)) n)) e m al F := ⟨sr.core.write (sr.core.fresh ht) htal _, sr.slots, sr.len⟩
          have x1 : Ex al F H1 al F (upd H1 t (SetO X.w t (fun j => decide (j ∈ is)) n)) := ⟨Pre.refl _, Le.refl _, fun b o h _ => by rw [upd_ne (ne_of_none h ht)]; exact h, fun _ h => .inl h, fun _ _ h _ _ => h⟩
          exact Fin.newL (fin.trans x1) c1 (repL_ints _) hu
        · cases hz
      · cases hz
    | _ => cases hz
end
end Mn
end
section
set_option Elab.async false
set_option linter.all false
set_option maxRecDepth 100000
/-! {k: v} over trees. -/
namespace Mn
open PySem PySem.Spec PyProof.Rows L2
section
variable {X : Cx} {pos : Pos} {a b : Expr} {ta tb : TE}
/-- the dict is there before its pair is computed -/
def tDic1 (ta tb : TE) : TE := fun σ H Q => ∀ t, H t = none → ta σ (upd H t (.dK [])) fun y H1 => tb σ H1 fun z H2 => ∃ k, y = kV k ∧ H2 t = some (.dK []) ∧ Q (.ref t) (upd H2 t (.dK (putK [] k z)))
theorem pe_dic1 (ha : PE X a ta) (hb : PE X b tb) : PE X (.Dict [some a] [b] pos) (tDic1 ta tb) := by
  refine ⟨fun pins s σ H Q I h => ?_⟩
  refine wpAny_Dict_any rfl rfl (by simp) (by simp) ?_
  have hn : H s.heap.objs.size = none := I.hok.fresh (Nat.le_refl _)
  have I0 : Inv X pins σ (upd H s.heap.objs.size (.dK [])) { s with heap := s.heap.push { cls := .type "dict", data := .dict #[] } } := I.laid (a := s.heap.objs.size) (o := .dK []) (t' := s.toks) (fun _ _ q => Heap.get?_push_of_some _ q) (Nat.le_refl _) (dk_empty s.heap I.big)
  have k0 := h _ hn
  generalize s.heap.objs.size = t at hn I0 k0 ⊢
  show wpAny _ _ (eval a X.env >>= fun kv => holding [kv] (do let x ← eval b X.env; standAt pos; pure x) >>= fun vv => holding [kv, vv] (pure []) >>= fun r => pure ((kv, vv) :: r)) _ _ _
  refine wpAny_bind (thn (ha.run pins _ σ _ _ I0 k0) fun u1 s1 ⟨y, H1, I1, r1, q1⟩ => ?_)
  refine wpAny_bind (wpAny_holding (wpAny_bind (thn (hb.run pins s1 σ H1 _ I1 q1) fun u2 s2 ⟨z, H2, I2, r2, k, e1, e2, q2⟩ => ?_)))
  subst e1
  refine wpAny_bind (wpAny_standAt (wpAny_pure (wpAny_bind (wpAny_holding (wpAny_pure (wpAny_pure ?_))))))
  obtain ⟨z0, hd, vs, rel, dd⟩ := dk_of I2.hok e2
  have ev : vs = [] := by cases rel; rfl
  subst ev
  refine wpAny_storeAll (knd := mixKind X.prog X.w) [(u1, u2)] [(k, u2)] [] s2 _ ⟨kV_is r1, rfl, trivial⟩ dd (by rw [sizeLine_eq]; simp) fun h' dd' hs => ?_
  have he : ∃ q, h'.get? t = some q := let ⟨q, _, _, hq, _⟩ := dd'; ⟨q, hq⟩
  have rel2 : KV (putK [] k z) (merged [] [(k, u2)]) := rel.put k r2
  exact ⟨.ref t, _, d_write (t' := s2.toks + 1) I2 (by rw [e2]; exact True.intro) hs he (dk_new (by rw [sizeLine_eq]; have := length_putK ([] : List (Key × V)) k z; simp at this; omega) hd rel2 dd'), rfl, q2⟩
theorem pe_dic1D {f g : M D} (ha : PE X a (tD X.K f)) (hb : PE X b (tD X.K g)) : PE X (.Dict [some a] [b] pos) (tD X.K (f.bind fun x => g.bind fun y => M.of (dic1D x y))) := by
  refine (pe_dic1 ha hb).imp fun σ H Q w t ht => ?_
  obtain ⟨e0, m0, al0, F0, sr0, ok0⟩ := w
  have hF := sr0.core.fresh ht
  have htal : t ∉ al0 := fun z => by
    obtain ⟨o, ho⟩ := sr0.core.has t z
    rw [ht] at ho; cases ho
  have s1 : SR X.K σ (upd H t (.dK [])) e0 m0 al0 F0 := ⟨sr0.core.write hF htal _, sr0.slots, sr0.len⟩
  have x1 : Ex al0 F0 H al0 F0 (upd H t (.dK [])) := ⟨Pre.refl _, Le.refl _, fun b o h _ => by rw [upd_ne (ne_of_none h ht)]; exact h, fun _ h => .inl h, fun _ _ h _ _ => h⟩
  refine ⟨e0, m0, al0, F0, s1, (R.Ok.bind ok0).mono (fun d1 e1 m1 ok1 v1 H1 al1 F1 sr1 ex1 r1 => ?_) fun _ _ _ z => z⟩
  refine ⟨e1, m1, al1, F1, sr1, (R.Ok.bind ok1).mono (fun d2 e2 m2 ok2 v2 H2 al2 F2 sr2 ex2 r2 => ?_) fun _ _ _ z => z⟩
  obtain ⟨d, hd, fin⟩ := R.Ok.of ok2
  unfold dic1D at hd
  split at hd
  · rename_i hk
    cases hd
    obtain ⟨k, rfl⟩ := flatKey_of hk
    have r1' := r1.mono ex2.pre ex2.le
    have ex := ex1.trans ex2
    have at_ := ex.keep t _ (upd_same (H := H) (a := t) (o := .dK [])) htal
    have nF := ex.nf t _ hF htal (upd_same (H := H) (a := t) (o := .dK []))
    have na : t ∉ al2 := fun z => (ex.new t z).elim htal fun q => nomatch (upd_same (H := H) (a := t) (o := .dK [])).symm.trans q
    refine ⟨k, rep_kD r1', at_, ?_⟩
    have c3 := sr2.core.write nF na (.dK (putK [] k v2))
    have c4 := c3.shut nF na upd_same
    refine fin _ _ al2 (upd F2 t (.dK (putK [] k v2))) ⟨c4, sr2.slots.mono (Pre.refl _) (Le.new nF), sr2.len⟩ ⟨(x1.trans ex).pre, (x1.trans ex).le.trans (Le.new nF), fun b o h n => ?_, (x1.trans ex).new, fun b o h n q => ?_⟩ ?_
    · rw [upd_ne (ne_of_none h ht)]
      exact (x1.trans ex).keep b o h n
    · rw [upd_ne (ne_of_none q ht)]
      exact (x1.trans ex).nf b o h n q
    · obtain ⟨p1, p2⟩ := put_rep kD keq_kD k r2 (kvs := []) (vs := []) .nil
      have := Rep.dicK (K := X.K) (al := al2) (F := upd F2 t (.dK (putK [] k v2))) upd_same (p2.mono (Pre.refl _) (Le.new nF))
      rw [p1] at this
      exact this
  · cases hd
end
end Mn
end
section
set_option Elab.async false
set_option linter.all false
set_option maxRecDepth 100000
/-! Sets of hashable objects, of any kind of keys. -/
namespace Gs
open PySem L2
variable {P : Program} {w : World} {K : Type} [DecidableEq K]
/-- what a kind of keys must keep for a set -/
structure Sty (knd : HeapKind P w K) : Prop where
  here : ∀ {h h' : Heap} {k : K} {a d : Addr} {o : Obj} {es : Array (Int × Value)} {ep : Nat} {t : SetTable}, knd.is h k a → h.get? d = some o → o.data = .set es ep t → Heap.SameBut d h h' → knd.is h' k a
  more : ∀ {h h' : Heap} {k : K} {a : Addr}, knd.is h k a → (∀ c o, h.get? c = some o → h'.get? c = some o) → knd.is h' k a
  seen : ∀ {A : Around} {E : Value → Shared → Prop} {s : Shared} {k : K} {b : Addr} {Q : Bool → Shared → Prop}, knd.is s.heap k b → ∀ {ys : List Value}, (∀ y ∈ ys, ∃ k' c, y = .ref c ∧ knd.is s.heap k' c) → Q false s → wpAny (model P w) A (searchCouldBeSeen (.ref b) ys) Q E s
  hashBy : ∀ {A : Around} {E : Value → Shared → Prop} {s : Shared} {k : K} {b : Addr} {Q : Bool → Shared → Prop}, knd.is s.heap k b → (∀ r, Q r s) → wpAny (model P w) A (hashByValue 8 (.ref b)) Q E s
def rws (knd : HeapKind P w K) (L : List (Addr × K)) : List (Int × Value) := L.map fun p => (knd.hash p.2, .ref p.1)
structure SG (knd : HeapKind P w K) (h : Heap) (a : Addr) (L : List (Addr × K)) (es : Array (Int × Value)) (ep : Nat) (t : SetTable) : Prop where
  ob : ∃ o, h.get? a = some o ∧ o.ExactSet ∧ o.data = .set es ep t
  rows : es.toList = rws knd L
  tab : TabOk t (L.map fun p => knd.hash p.2)
  nd : (L.map (·.2)).Nodup
  tup : ∀ p ∈ L, knd.is h p.2 p.1
  led : w.params.followText "set-order" = true ∨ t.led = true
  room : L.length * 5 < t.mask * 3
  few : L.length < 64
variable {knd : HeapKind P w K}
theorem SG.size {h : Heap} {a : Addr} {L : List (Addr × K)} {es : Array (Int × Value)} {ep : Nat} {t : SetTable} (g : SG knd h a L es ep t) : es.size = L.length := by
  have := congrArg List.length g.rows
  simpa [rws] using this
theorem SG.fits {h : Heap} {a : Addr} {L : List (Addr × K)} {es : Array (Int × Value)} {ep : Nat} {t : SetTable} (g : SG knd h a L es ep t) : t.fits es.size = true := by
  have h1 := g.tab.sz
  have h2 := g.room
  rw [SetTable.fits.eq_1, SetTable.fill.eq_1, g.tab.dm, g.size, h1]
  simp
  omega
theorem SG.entry {h : Heap} {a : Addr} {L : List (Addr × K)} {es : Array (Int × Value)} {ep : Nat} {t : SetTable} (g : SG knd h a L es ep t) {i : Nat} {p : Addr × K} (e : L[i]? = some p) : es[i]? = some (knd.hash p.2, .ref p.1) := by
  rw [← Array.getElem?_toList, g.rows, rws, List.getElem?_map, e]
  rfl
theorem SG.gw {h : Heap} {a : Addr} {L : List (Addr × K)} {es : Array (Int × Value)} {ep : Nat} {t : SetTable} (g : SG knd h a L es ep t) : ¬ t.gaveWay = true := by
  have := mask_odd g.tab.mok
  unfold SetTable.gaveWay
  simp [this]
theorem nth_dummy {m : Nat} {p : SetTable.Probe} (h : p.dummy = none) : ∀ k, (nth m p k).dummy = none
  | 0 => h
  | k + 1 => by
    rw [nth_succ]
    unfold adv
    split
    · exact nth_dummy h k
    · exact nth_dummy h k
theorem searchFrom {A : Around} {E : Value → Shared → Prop} {s : Shared} {a : Addr} {L : List (Addr × K)} {es : Array (Int × Value)} {ep : Nat} {t : SetTable} (Y : Sty knd) (g : SG knd s.heap a L es ep t) {x : Addr} {k : K} (hx : knd.is s.heap k x) (hr : knd.room A) {Q : SetFound → Shared → Prop}
    {n : Nat} (h1 : k ∈ L.map (·.2) → Q (.there none) s) (hn1 : ¬ way t.mask (knd.hash k) n ∈ t.place.toList) (hn2 : ∀ c, c < n → way t.mask (knd.hash k) c ∈ t.place.toList) (hnT : n < 10 * SetTable.turns t.mask)
    (h2 : ¬ k ∈ L.map (·.2) → Q (.free (way t.mask (knd.hash k) n) false) s) :
    ∀ (j c fuel : Nat) (stand : Option SetTable.Probe), n - c = j → c ≤ n → j < fuel → stand.getD (t.probeStart (knd.hash k)) = nth t.mask (runAt t.mask (SetTable.bits (knd.hash k) % (t.mask + 1)) (SetTable.bits (knd.hash k))) c →
      (∀ c', c' < c → ∀ (i : Nat) (p : Addr × K), t.place.toList[i]? = some (way t.mask (knd.hash k) c') → L[i]? = some p → p.2 ≠ k) →
      wpAny (model P w) A (setSearchFrom a (.ref x) (knd.hash k) true fuel stand) Q E s := by
  intro j
  induction j using Nat.strongRecOn with
  | ind j ih =>
    intro c fuel stand hj hc hf hs hp
    obtain ⟨fuel, rfl⟩ : ∃ f, fuel = f + 1 := ⟨fuel - 1, by omega⟩
    obtain ⟨o, o1, o2, o3⟩ := g.ob
    rw [setSearchFrom_succ]
    refine wpAny_bind (wpAny_setState_of o1 o3 g.fits ?_)
    show wpAny _ _ _ _ _ _
    simp only [if_neg g.gw]
    rw [hs]
    unfold SetTable.probe
    have hw : ∀ q, nth t.mask (nth t.mask (runAt t.mask (SetTable.bits (knd.hash k) % (t.mask + 1)) (SetTable.bits (knd.hash k))) c) q = nth t.mask (runAt t.mask (SetTable.bits (knd.hash k) % (t.mask + 1)) (SetTable.bits (knd.hash k))) (c + q) := fun q => (nth_add _ _ _ _).symm
    have hd : (nth t.mask (runAt t.mask (SetTable.bits (knd.hash k) % (t.mask + 1)) (SetTable.bits (knd.hash k))) c).dummy = none := nth_dummy rfl c
    have spec := go_spec t g.tab.ris g.tab.dm (fun i => (Option.map (fun x => x.fst) es[i]?).getD 0) (knd.hash k) (10 * SetTable.turns t.mask) (n - c) _ hd (by omega)
      (fun q hq => by rw [hw]; exact hn2 _ (by omega)) (by rw [hw, show c + (n - c) = n by omega]; exact hn1)
    have hash_at : ∀ (i : Nat) (p : Addr × K), L[i]? = some p → (Option.map (fun x : Int × Value => x.fst) es[i]?).getD 0 = knd.hash p.2 := fun i p e => by rw [g.entry e]; rfl
    have lt_of : ∀ (i q : Nat), t.place.toList[i]? = some q → ∃ p, L[i]? = some p := fun i q e => by
      have h1 := (List.getElem?_eq_some_iff.mp e).1
      have h2 := g.tab.sz
      rw [List.length_map] at h2
      rw [Array.length_toList, h2] at h1
      exact ⟨L[i], by simp [h1]⟩
    rcases spec with ⟨q, i, hq, hi, hh, hbefore, hgo⟩ | ⟨hnone, hgo⟩
    · rw [hgo]
      obtain ⟨p, hpi⟩ := lt_of i _ hi
      have hent := g.entry hpi
      rw [hw] at hi
      simp only
      have rest : wpAny (model P w) A (searchRest a (.ref x) (knd.hash k) true fuel es t (way t.mask (knd.hash k) (c + q)) i (nth t.mask (runAt t.mask (SetTable.bits (knd.hash k) % (t.mask + 1)) (SetTable.bits (knd.hash k))) (c + (q + 1)))) Q E s := by
        unfold searchRest
        rw [hent]
        simp only
        refine wpAny_bind (wpAny_holding (knd.eqBool hr (g.tup p (List.mem_of_getElem? hpi)) hx (wpAny_bind (wpAny_setState_of o1 o3 g.fits ?_))))
        simp only
        by_cases hpk : p.2 = k
        · rw [decide_eq_true hpk]
          simp only [Bool.and_self, if_true]
          exact wpAny_pure (h1 (List.mem_map.mpr ⟨p, List.mem_of_getElem? hpi, hpk⟩))
        · rw [decide_eq_false hpk]
          simp only [Bool.and_false, sameMem, if_true, Bool.false_eq_true, if_false]
          have sl : t.slot (way t.mask (knd.hash k) (c + q)) = .live i := slot_live g.tab.ris hi
          rw [sl]
          simp only
          rw [hent]
          simp only
          refine wpAny_bind ?_
          have same : isSame (Value.ref p.1) (Value.ref p.1) = pure true := by
            unfold isSame
            simp
          rw [same]
          refine wpAny_pure ?_
          simp only [if_true]
          refine wpAny_bind (wpAny_pure ?_)
          simp only
          refine ih (n - (c + (q + 1))) (by omega) (c + (q + 1)) fuel _ rfl (by omega) (by omega) rfl ?_
          intro c' hc' i2 p2 hi2 hp2
          by_cases h3 : c' < c
          · exact hp c' h3 i2 p2 hi2 hp2
          · by_cases h4 : c' < c + q
            · intro e
              refine hbefore (c' - c) i2 (by omega) ?_ ?_
              · rw [hw, show c + (c' - c) = c' by omega]; exact hi2
              · show (Option.map (fun x : Int × Value => x.fst) es[i2]?).getD 0 = _
                rw [hash_at i2 p2 hp2, e]
            · obtain rfl : c' = c + q := by omega
              have : i2 = i := by
                have z := slot_live g.tab.ris hi2
                rw [sl] at z
                cases z; rfl
              subst this
              rw [hpi] at hp2
              cases hp2
              exact hpk
      rw [hw, hw]
      by_cases hled : t.led = true
      · rw [hled]
        exact rest
      · have hled : t.led = false := by simpa using hled
        rw [hled]
        simp only [Bool.not_false, if_true]
        refine wpAny_bind (Y.seen hx ?_ ?_)
        · intro y hy
          obtain ⟨e, he, rfl⟩ := List.mem_map.mp hy
          have he : e ∈ es.toList := by
            have := Array.mem_toList_iff.mp he
            exact Array.mem_toList_iff.mpr (Array.mem_filter.mp this).1
          rw [g.rows] at he
          obtain ⟨z, hz, rfl⟩ := List.mem_map.mp he
          exact ⟨z.2, z.1, rfl, g.tup z hz⟩
        · simp only [Bool.false_eq_true, if_false]
          exact rest
    · rw [hgo]
      rw [hw, show c + (n - c) = n by omega]
      simp only
      refine wpAny_pure (h2 fun hin => ?_)
      obtain ⟨p, hpL, hpk⟩ := List.mem_map.mp hin
      obtain ⟨i, hi⟩ := List.mem_iff_getElem?.mp hpL
      have hlen : i < t.place.toList.length := by
        rw [Array.length_toList, g.tab.sz, List.length_map]
        exact (List.getElem?_eq_some_iff.mp hi).1
      obtain ⟨c', hc', hway⟩ := g.tab.before hn1 (i := i) (j := t.place.toList[i]) (by rw [List.getElem?_map, hi, ← hpk]; rfl) (by simp [hlen])
      have hpl : t.place.toList[i]? = some (way t.mask (knd.hash k) c') := by rw [hway]; simp [hlen]
      by_cases hcc : c' < c
      · exact hp c' hcc i p hpl hi hpk
      · refine hnone (c' - c) i (by omega) ?_ ?_
        · rw [hw, show c + (c' - c) = c' by omega]; exact hpl
        · show (Option.map (fun x : Int × Value => x.fst) es[i]?).getD 0 = _
          rw [hash_at i p hi, ← hpk]
end Gs
end
section
set_option Elab.async false
set_option linter.all false
set_option maxRecDepth 100000
namespace Gs
open PySem L2
variable {P : Program} {w : World} {K : Type} [DecidableEq K] {knd : HeapKind P w K}
theorem store_g {A : Around} {E : Value → Shared → Prop} {s : Shared} {a : Addr} {o : Obj} {es : Array (Int × Value)} {ep : Nat} {t : SetTable} (h1 : s.heap.get? a = some o) (h2 : o.ExactSet) (h3 : o.data = .set es ep t) {es' : Array (Int × Value)} {t' : SetTable} (hz : es'.size ≤ 64) {Q : Unit → Shared → Prop}
    (h : ∀ h' : Heap, Heap.SameBut a s.heap h' → (∃ o', h'.get? a = some o' ∧ o'.ExactSet ∧ o'.data = .set es' (ep + 1) t') → Q () { s with heap := h' }) : wpAny (model P w) A (storeSet a es' t') Q E s := by
  unfold storeSet
  refine wpAny_bind (wpAny_load h1 ?_)
  rw [h3]
  simp only
  have hl : ¬ es'.size > sizeLine := by
    rw [show sizeLine = 16777216 from rfl]; omega
  rw [if_neg hl]
  refine wpAny_update h1 (h _ (Heap.SameBut.update _ _ _) ⟨_, Heap.get?_update_self _ h1 ?_, ?_, ?_⟩)
  · rw [putSet_of _ _ h3]; rfl
  · rw [putSet_of _ _ h3]; exact h2
  · rw [putSet_of _ _ h3]
theorem order_g (L : List (Addr × K)) (es : Array (Int × Value)) (order : Array Nat) (he : es.toList = rws knd L) (hp : order.toList.Perm (List.range L.length)) :
    ∃ L2 : List (Addr × K), (Array.filterMap (fun x => es[x]?) order).toList = rws knd L2 ∧ L2.Perm L ∧ L2.map (fun p => knd.hash p.2) = order.toList.map fun i => (Array.map (fun x => x.1) es).getD i 0 := by
  refine ⟨order.toList.filterMap fun i => L[i]?, ?_, ?_, ?_⟩
  · rw [Array.toList_filterMap, rws, List.map_filterMap]
    have hf : (fun (x : Nat) => es[x]?) = fun (x : Nat) => Option.map (fun p : Addr × K => (knd.hash p.2, Value.ref p.1)) L[x]? := by
      funext i
      rw [← Array.getElem?_toList, he, rws, List.getElem?_map]
    rw [hf]
  · exact (hp.filterMap _).trans (by rw [PySem.List.filterMap_getElem?_range_length])
  · rw [List.map_filterMap]
    have hall : ∀ i ∈ order.toList, i < L.length := fun i hi => List.mem_range.mp (hp.mem_iff.mp hi)
    generalize order.toList = l at hall
    induction l with
    | nil => rfl
    | cons i l ih =>
      have hi := hall i (by simp)
      have e : Option.map (fun p : Addr × K => knd.hash p.2) L[i]? = some (knd.hash L[i].2) := by simp [hi]
      rw [List.filterMap_cons_some (f := fun x => Option.map (fun p : Addr × K => knd.hash p.2) L[x]?) e, List.map_cons, ih fun j hj => hall j (by simp [hj])]
      congr 1
      have h1 : es[i]? = some (knd.hash L[i].2, .ref L[i].1) := by
        rw [← Array.getElem?_toList, he, rws, List.getElem?_map]
        simp [hi]
      rw [Array.getD_eq_getD_getElem?, Array.getElem?_map, h1]
      rfl
theorem relay_g {A : Around} {E : Value → Shared → Prop} {s : Shared} {a : Addr} {L : List (Addr × K)} {es : Array (Int × Value)} {ep : Nat} {t : SetTable} {o : Obj} (Y : Sty knd) (h1 : s.heap.get? a = some o) (h2 : o.ExactSet) (h3 : o.data = .set es ep t) (hr : es.toList = rws knd L) (hpl : t.place.size = es.size) (hdm : t.dummies = #[]) (hmk : es.size ≤ t.mask)
    (hnd : (L.map (·.2)).Nodup) (htup : ∀ p ∈ L, knd.is s.heap p.2 p.1) (hled : w.params.followText "set-order" = true ∨ t.led = true) (hfew : L.length < 64) {wanted M : Nat} (hM : SetTable.sizeAbove wanted - 1 = M) (hMo : MaskOk M) (hsz : SetTable.sizeAbove wanted ≤ 128) (hroom : L.length * 5 < M * 3) {Q : Unit → Shared → Prop}
    (h : ∀ (h' : Heap) (L' : List (Addr × K)) (es' : Array (Int × Value)) (ep' : Nat) (t' : SetTable), Heap.SameBut a s.heap h' → SG knd h' a L' es' ep' t' → L'.Perm L → Q () { s with heap := h' }) : wpAny (model P w) A (setRelay a wanted) Q E s := by
  have size : es.size = L.length := by
    have := congrArg List.length hr
    simpa [rws] using this
  have fits : t.fits es.size = true := by
    rw [SetTable.fits.eq_1, SetTable.fill.eq_1, hdm, hpl]
    simp
    omega
  rw [setRelay_eq]
  refine wpAny_bind (wpAny_setState_of h1 h3 fits ?_)
  simp only
  have hl : ¬ SetTable.sizeAbove wanted > sizeLine := by
    rw [show sizeLine = 16777216 from rfl]; omega
  rw [if_neg hl]
  have hsM : (Array.map (fun x : Int × Value => x.1) es).size ≤ M := by
    rw [Array.size_map, size]
    rcases hMo with rfl | rfl | rfl <;> omega
  obtain ⟨t', order, e1, e2, e3, e4, e5, e6, e7⟩ := relaid_ok t hM hMo hsM
  rw [e1]
  rw [Array.size_map, size] at e2
  obtain ⟨L', f1, f2, f3⟩ := order_g L es order hr e2
  simp only
  have hsz2 : (Array.filterMap (fun x => es[x]?) order).size = es.size := by
    have h4 := congrArg List.length f1
    rw [Array.length_toList] at h4
    rw [h4, size, rws, List.length_map, f2.length_eq]
  rw [hsz2]
  simp only [bne_self_eq_false, Bool.false_eq_true, if_false]
  refine wpAny_bind (wpAny_pure ?_)
  simp only
  refine store_g h1 h2 h3 (by rw [hsz2, size]; omega) fun h' sb ob => h h' L' _ _ t' sb ⟨ob, f1, by rw [f3]; exact e3, ((f2.map (·.2)).nodup_iff).mpr hnd, fun p hp => Y.here (htup p (f2.mem_iff.mp hp)) h1 h3 sb, ?_, ?_, ?_⟩ f2
  · rw [e5]; exact hled
  · rw [f2.length_eq, e4]; exact hroom
  · rw [f2.length_eq]; exact hfew
end Gs
end
section
set_option Elab.async false
set_option linter.all false
set_option maxRecDepth 100000
namespace Gs
open PySem L2
variable {P : Program} {w : World} {K : Type} [DecidableEq K] {knd : HeapKind P w K}
theorem turns_ok {m : Nat} (h : MaskOk m) : 10 * SetTable.turns m < 100000 := by
  rcases h with rfl | rfl | rfl <;> decide
theorem TabOk.like {t t' : SetTable} {hs : List Int} (T : TabOk t hs) (h1 : t'.mask = t.mask) (h2 : t'.place = t.place) (h3 : t'.dummies = t.dummies) : TabOk t' hs := by
  refine ⟨?_, ?_, ?_, ?_, ?_, ?_⟩
  · rw [h2]; exact T.ris
  · rw [h3]; exact T.dm
  · rw [h2]; exact T.sz
  · rw [h1]; exact T.mok
  · rw [h1, h2]; exact T.bd
  · rw [h1, h2]; exact T.reach
theorem add_g {A : Around} {E : Value → Shared → Prop} {s : Shared} {a : Addr} {L : List (Addr × K)} {es : Array (Int × Value)} {ep : Nat} {t : SetTable} (Y : Sty knd) (g : SG knd s.heap a L es ep t) {x : Addr} {k : K} (hx : knd.is s.heap k x) (hr : knd.room A) (hfew : L.length + 1 < 64) {Q : Bool → Shared → Prop}
    (h : ∀ (b : Bool) (h' : Heap) (L' : List (Addr × K)) (es' : Array (Int × Value)) (ep' : Nat) (t' : SetTable), Heap.SameBut a s.heap h' → SG knd h' a L' es' ep' t' → (k ∈ L.map (·.2) → L' = L) → (¬ k ∈ L.map (·.2) → L'.Perm ((x, k) :: L)) → Q b { s with heap := h' }) :
    wpAny (model P w) A (setAddHashed a (.ref x) (knd.hash k)) Q E s := by
  obtain ⟨o, o1, o2, o3⟩ := g.ob
  have hmask := g.room
  obtain ⟨n, hn, hn1, hn2⟩ := g.tab.first (by rw [List.length_map]; omega) (knd.hash k)
  unfold setAddHashed
  refine wpAny_holding ?_
  rw [show (100000 : Nat) = 99999 + 1 from rfl, setAddHashedIn_succ]
  refine wpAny_bind (wpAny_setState_of o1 o3 g.fits ?_)
  simp only
  have hby : byScan (Value.ref x) es = false := by rw [byScan.eq_1]; rfl
  rw [hby]
  simp only [Bool.false_eq_true, if_false]
  refine wpAny_bind ?_
  unfold setSearch
  refine searchFrom Y g hx hr (n := n) (fun hin => ?_) hn1 hn2 hn (fun hout => ?_) n 0 100000 none rfl (Nat.zero_le _) (Nat.lt_trans hn (turns_ok g.tab.mok)) (by rw [Option.getD_none, start_run]; rfl) (fun c hc => absurd hc (Nat.not_lt_zero _))
  · exact wpAny_pure (h false s.heap L es ep t (Heap.SameBut.refl _ _) g (fun _ => rfl) fun z => absurd hin z)
  · simp only
    refine wpAny_bind (wpAny_setState_of o1 o3 g.fits ?_)
    simp only
    obtain ⟨p1, p2, p3, p4, p5, p6, p7, p8, p9⟩ := g.tab.put hn1 hn2
    generalize hq : t.put (way t.mask (knd.hash k) n) = q at p1 p3 p4 p5 p6 p7 p8 p9 ⊢
    obtain ⟨t1, p⟩ := q
    simp only at p1 p3 p4 p5 p6 p7 p8 p9 ⊢
    rw [← p1] at p3 p2
    rw [List.length_map] at p2 p9
    have cont : ∀ t' : SetTable, t'.mask = t1.mask → t'.place = t1.place → t'.dummies = t1.dummies → t'.led = t1.led → wpAny (model P w) A (do
        storeSet a (SetTable.insertAt es p (knd.hash k, Value.ref x)) t'
        if (!false && t'.tooFull) = true then do
          setRelay a (SetTable.grown (es.size + 1))
          pure true
        else pure true) Q E s := by
      intro t' m1 m2 m3 m4
      have T := TabOk.like p3 m1 m2 m3
      have lrows : (SetTable.insertAt es p (knd.hash k, Value.ref x)).toList = rws knd (L.take p ++ (x, k) :: L.drop p) := by
        rw [SetTable.toList_insertAt, g.rows, rws, rws, List.map_append, List.map_cons, List.map_take, List.map_drop]
      have hperm : (L.take p ++ (x, k) :: L.drop p).Perm ((x, k) :: L) := put_perm L p (x, k)
      have hlen : (L.take p ++ (x, k) :: L.drop p).length = L.length + 1 := hperm.length_eq
      have hes : (SetTable.insertAt es p (knd.hash k, Value.ref x)).size = L.length + 1 := by
        have := congrArg List.length lrows
        rw [Array.length_toList] at this
        rw [this, rws, List.length_map, hlen]
      have hhs : (L.take p ++ (x, k) :: L.drop p).map (fun q => knd.hash q.2) = List.take p (L.map fun q => knd.hash q.2) ++ knd.hash k :: List.drop p (L.map fun q => knd.hash q.2) := by
        rw [List.map_append, List.map_cons, List.map_take, List.map_drop]
      have hnd : ((L.take p ++ (x, k) :: L.drop p).map (·.2)).Nodup := by
        refine ((hperm.map (·.2)).nodup_iff).mpr ?_
        exact List.nodup_cons.mpr ⟨hout, g.nd⟩
      have hled : w.params.followText "set-order" = true ∨ t'.led = true := by rw [m4, p5]; exact g.led
      have hfill : t'.fill = L.length + 1 := by
        rw [SetTable.fill.eq_1, m2, m3, ← SetTable.fill.eq_1]; exact p9
      refine wpAny_bind (store_g o1 o2 o3 (by rw [hes]; omega) fun h' sb ob => ?_)
      have htup : ∀ q ∈ L.take p ++ (x, k) :: L.drop p, knd.is h' q.2 q.1 := fun q hq => by
        rcases List.mem_cons.mp (hperm.mem_iff.mp hq) with e | e
        · subst e; exact Y.here hx o1 o3 sb
        · exact Y.here (g.tup q e) o1 o3 sb
      by_cases hfull : t'.tooFull = true
      · rw [hfull]
        simp only [Bool.not_false, Bool.and_self, if_true]
        obtain ⟨o', q1, q2, q3⟩ := ob
        have hfull := hfull
        unfold SetTable.tooFull at hfull
        rw [decide_eq_true_eq, hfill, m1, p4] at hfull
        have hM : ∃ M, SetTable.sizeAbove (SetTable.grown (es.size + 1)) - 1 = M ∧ MaskOk M ∧ SetTable.sizeAbove (SetTable.grown (es.size + 1)) ≤ 128 ∧ (L.length + 1) * 5 < M * 3 := by
          rw [g.size]
          rcases g.tab.mok with e | e | e
          · have : L.length = 4 := by omega
            rw [this, size_20]
            exact ⟨31, rfl, .inr (.inl rfl), by decide, by decide⟩
          · have : L.length = 18 := by omega
            rw [this, size_76]
            exact ⟨127, rfl, .inr (.inr rfl), by decide, by decide⟩
          · exfalso; omega
        obtain ⟨M, hM1, hM2, hM3, hM4⟩ := hM
        refine wpAny_bind (relay_g Y q1 q2 q3 lrows ?_ T.dm ?_ hnd htup hled (by rw [hlen]; exact hfew) hM1 hM2 hM3 (by rw [hlen]; exact hM4) fun h2 L2 es2 ep2 t2 sb2 g2 pm2 => ?_)
        · rw [T.sz, ← hhs, List.length_map, hlen, hes]
        · rw [hes, m1, p4]; omega
        · exact wpAny_pure (h true h2 L2 es2 ep2 t2 (sb.trans sb2) g2 (fun z => absurd z hout) fun _ => pm2.trans hperm)
      · have hfull : t'.tooFull = false := by simpa using hfull
        rw [hfull]
        simp only [Bool.not_false, Bool.and_false, Bool.false_eq_true, if_false]
        unfold SetTable.tooFull at hfull
        rw [decide_eq_false_iff_not, hfill] at hfull
        refine wpAny_pure (h true h' _ _ _ t' sb ⟨ob, lrows, by rw [hhs]; exact T, hnd, htup, hled, by rw [hlen]; omega, by rw [hlen]; exact hfew⟩ (fun z => absurd z hout) fun _ => hperm)
    by_cases hpl : t1.plain = true
    · rw [hpl]
      simp only [if_true]
      refine wpAny_bind (Y.hashBy hx fun r => ?_)
      cases r with
      | true => exact cont t1 rfl rfl rfl rfl
      | false => exact cont { mask := t1.mask, place := t1.place, dummies := t1.dummies, finger := t1.finger, led := t1.led, moves := t1.moves, plain := false } rfl rfl rfl rfl
    · have hpl : t1.plain = false := by simpa using hpl
      rw [hpl]
      simp only [Bool.false_eq_true, if_false]
      refine wpAny_bind (wpAny_pure ?_)
      exact cont t1 rfl rfl rfl rfl
end Gs
end
section
set_option Elab.async false
set_option linter.all false
set_option maxRecDepth 100000
namespace Gs
open PySem L2
variable {P : Program} {w : World} {K : Type} [DecidableEq K] {knd : HeapKind P w K}
structure Met (ks : List (Addr × K)) (i : Nat) (L : List (Addr × K)) : Prop where
  sub : ∀ p ∈ L, p ∈ ks.take i
  all : ∀ p ∈ ks.take i, p.2 ∈ L.map (·.2)
  len : L.length ≤ i
theorem Met.same {ks L : List (Addr × K)} {i : Nat} {x : Addr × K} (m : Met ks i L) (h : ks[i]? = some x) (hx : x.2 ∈ L.map (·.2)) : Met ks (i + 1) L := by
  have e := take_next h
  refine ⟨fun p hp => ?_, fun p hp => ?_, Nat.le_succ_of_le m.len⟩
  · rw [e]; exact List.mem_append_left _ (m.sub p hp)
  · rw [e] at hp
    rcases List.mem_append.mp hp with q | q
    · exact m.all p q
    · rw [List.mem_singleton.mp q]; exact hx
theorem Met.next {ks L L' : List (Addr × K)} {i : Nat} {x : Addr × K} (m : Met ks i L) (h : ks[i]? = some x) (hL : L'.Perm (x :: L)) : Met ks (i + 1) L' := by
  have e := take_next h
  refine ⟨fun p hp => ?_, fun p hp => ?_, ?_⟩
  · rw [e]
    rcases List.mem_cons.mp (hL.mem_iff.mp hp) with q | q
    · subst q; exact List.mem_append_right _ (by simp)
    · exact List.mem_append_left _ (m.sub p q)
  · refine ((hL.map (·.2)).mem_iff).mpr ?_
    rw [List.map_cons]
    rw [e] at hp
    rcases List.mem_append.mp hp with q | q
    · exact List.mem_cons_of_mem _ (m.all p q)
    · rw [List.mem_singleton.mp q]; exact List.mem_cons_self ..
  · rw [hL.length_eq, List.length_cons]; exact Nat.succ_le_succ m.len
theorem SG.keep {h h' : Heap} {a : Addr} {L : List (Addr × K)} {es : Array (Int × Value)} {ep : Nat} {t : SetTable} (g : SG knd h a L es ep t) (ho : ∀ o, h.get? a = some o → h'.get? a = some o) (ht : ∀ p ∈ L, knd.is h' p.2 p.1) : SG knd h' a L es ep t :=
  let ⟨o, o1, o2, o3⟩ := g.ob
  ⟨⟨o, ho o o1, o2, o3⟩, g.rows, g.tab, g.nd, ht, g.led, g.room, g.few⟩
theorem update_g {A : Around} {I : Addr} {fp wr : List Addr} {G : Array GenState → Array GenState → Prop} {n : Nat} {Pv : Nat → Value → Prop} {St : Nat → Shared → Prop} {R : Result → Shared → Prop} (W : WalksS P w A.in1 I fp wr G n Pv St) (Y : Sty knd) (S : Addr) (hS : S ∉ fp) (ks : List (Addr × K)) (hn : n = ks.length) (hz : ks.length < 64)
    (hP : ∀ i v, Pv i v → ∃ p, ks[i]? = some p ∧ v = .ref p.1) (h0 : Heap) (hks : ∀ p ∈ ks, knd.is h0 p.2 p.1) (hS0 : h0.get? S = none) (hwr : ∀ b ∈ wr, h0.get? b = none) (hroom : knd.room A.in1) :
    ∀ (j i : Nat) (s : Shared), n - i = j → i ≤ n → St i s → (∀ b o, h0.get? b = some o → s.heap.get? b = some o) → (∃ L es ep t, SG knd s.heap S L es ep t ∧ Met ks i L) →
      (∀ (s' : Shared) (L : List (Addr × K)) (es : Array (Int × Value)) (ep : Nat) (t : SetTable), Moved (S :: wr) G s s' → SG knd s'.heap S L es ep t → Met ks n L → (∀ b o, h0.get? b = some o → s'.heap.get? b = some o) → R (.ok (.ret .none)) s') →
      codeAny (model P w) A (.builtin "set.update.loop" { pos := [.ref S, .ref I] }) R s := by
  intro j
  induction j with
  | zero =>
    intro i s hj hi hst hh ⟨L, es, ep, t, g, m⟩ hR
    obtain rfl : i = n := by omega
    refine codeAny_builtin PyProof.Rows.F.entry_set_update_loop ?_
    rw [Around.under_plainId (by decide +kernel)]
    unfold Builtin.«set.update.loop»
    simp only
    refine wpAny_bind (W.done s _ _ hst fun s' mv => ?_)
    simp only
    refine wpAny_pure (hR s' L es ep t ⟨fun b o hb e => mv.heap b o (fun z => hb (List.mem_cons_of_mem _ z)) e, mv.gens, mv.drawn, mv.os, mv.toks⟩ ?_ m fun b o e => ?_)
    · exact g.keep (fun o e => mv.heap S o (fun z => hS (W.sub S z)) e) fun p hp => Y.more (hks p (List.mem_of_mem_take (m.sub p hp))) fun b o e => mv.heap b o (fun z => by rw [hwr b z] at e; cases e) (hh b o e)
    · exact mv.heap b o (fun z => by rw [hwr b z] at e; cases e) (hh b o e)
  | succ j ih =>
    intro i s hj hi hst hh ⟨L, es, ep, t, g, m⟩ hR
    have hlt : i < n := by omega
    refine codeAny_builtin PyProof.Rows.F.entry_set_update_loop ?_
    rw [Around.under_plainId (by decide +kernel)]
    unfold Builtin.«set.update.loop»
    simp only
    refine wpAny_bind (W.item i s _ _ hlt hst fun v s1 hv hst1 mv => ?_)
    simp only
    obtain ⟨p, hp, rfl⟩ := hP i v hv
    have hh1 : ∀ b o, h0.get? b = some o → s1.heap.get? b = some o := fun b o e => mv.heap b o (fun z => by rw [hwr b z] at e; cases e) (hh b o e)
    have g1 : SG knd s1.heap S L es ep t := g.keep (fun o e => mv.heap S o (fun z => hS (W.sub S z)) e) fun p hp => Y.more (hks p (List.mem_of_mem_take (m.sub p hp))) hh1
    have hx : knd.is s1.heap p.2 p.1 := Y.more (hks p (List.mem_of_getElem? hp)) hh1
    refine wpAny_bind (wpAny_holding ?_)
    unfold setAdd
    refine wpAny_holding (wpAny_bind (knd.pyHash hroom hx ?_))
    have hlen : L.length ≤ i := m.len
    refine add_g (s := { s1 with toks := s1.toks + knd.draws p.2 }) Y g1 hx hroom (by omega) fun b h' L' es' ep' t' sb g' hin hout => ?_
    refine wpAny_pure ⟨Code.quiet_builtin _ (by decide +kernel), ?_⟩
    have hh2 : ∀ b o, h0.get? b = some o → h'.get? b = some o := fun b o e => by
      have : b ≠ S := fun z => by subst z; rw [hS0] at e; cases e
      rw [sb.2 b this]; exact hh1 b o e
    refine ih (i + 1) _ (by omega) (by omega) (W.frame (i + 1) s1 h' _ hst1 (Nat.le_add_right _ _) fun b hb o e => ?_) hh2 ⟨L', es', ep', t', g', ?_⟩ fun s' L2 es2 ep2 t2 mv2 g2 m2 hh3 => hR s' L2 es2 ep2 t2 ?_ g2 m2 hh3
    · have : b ≠ S := fun z => by subst z; exact hS hb
      rw [sb.2 b this]; exact e
    · by_cases hk : p.2 ∈ L.map (·.2)
      · rw [hin hk]; exact m.same hp hk
      · exact m.next hp (hout hk)
    · refine ⟨fun b o hb e => mv2.heap b o hb ?_, W.gtrans _ _ _ mv.gens mv2.gens, mv2.drawn.trans mv.drawn, mv2.os.trans mv.os, Nat.le_trans mv.toks (Nat.le_trans (Nat.le_add_right _ _) mv2.toks)⟩
      have h1 : b ≠ S := fun z => hb (by subst z; exact List.mem_cons_self ..)
      have h2 : b ∉ wr := fun z => hb (List.mem_cons_of_mem _ z)
      show h'.get? b = some o
      rw [sb.2 b h1]
      exact mv.heap b o h2 e
end Gs
end
section
set_option Elab.async false
set_option linter.all false
set_option maxRecDepth 100000
namespace Gs
open PySem PySem.Spec PyProof.Rows L2
variable {P : Program} {w : World} {K : Type} [DecidableEq K] {knd : HeapKind P w K}
abbrev set0 (w : World) : Obj := { cls := .type "set", dict := none, data := .set #[] 0 (.fresh 0 0 (!w.params.followText "set-order")) }
theorem fresh_g {h : Heap} {a : Addr} (e : h.get? a = some (set0 w)) : SG knd h a [] #[] 0 (.fresh 0 0 (!w.params.followText "set-order")) := by
  have T := setTR_fresh (P := P) (w := w) e
  refine ⟨⟨_, e, ⟨rfl, rfl, rfl⟩, rfl⟩, rfl, T.tab, List.nodup_nil, fun _ h => (nomatch h), T.led, T.room, T.few⟩
theorem get_size (h : Heap) : ∀ n, h.objs.size ≤ n → h.get? n = none := fun n hn => by
  cases e : h.get? n with
  | none => rfl
  | some o => exact absurd (Heap.lt_size e) (Nat.not_lt.mpr hn)
section
variable {A : Around} {E : Value → Shared → Prop} {s : Shared}
set_option maxHeartbeats 3200000 in
theorem call_g (Y : Sty knd) {l : Addr} {items : Array Value} (ks : List (Addr × K)) {Q : Value → Shared → Prop} (hh : A.handled = none) (hl : s.heap.IsList l items) (hit : items.toList = ks.map fun p => .ref p.1) (hks : ∀ p ∈ ks, knd.is s.heap p.2 p.1) (hz : ks.length < 64) (hroom : ∀ A' : Around, A'.units ≤ A.units + 3 → knd.room A')
    (h : ∀ (h' : Heap) (tk : Nat) (L : List (Addr × K)) (es : Array (Int × Value)) (ep : Nat) (t : SetTable), SG knd h' s.heap.objs.size L es ep t → Met ks ks.length L → (∀ b o, s.heap.get? b = some o → h'.get? b = some o) → Q (.ref s.heap.objs.size) { s with heap := h', toks := tk }) :
    wpAny (model P w) A (call (.type "set") [.ref l]) Q E s := by
  have size1 : items.size = ks.length := by have := congrArg List.length hit; simpa using this
  obtain ⟨c0, t0, mro1⟩ := F.called_set.mro
  have made1 := F.called_set.made; have sub1 := F.called_set.sub
  refine wpAny_call (codeAny_of_tree ?_)
  show wpAny _ _ (callAny (.type "set") _) _ _ _
  refine wpAny_pure ⟨Code.quiet_builtin _ (by decide +kernel), codeAny_builtin F.entry_type_call ?_⟩
  rw [Around.under_plain (weight_type_call_type "set" [.ref l] []) rfl]
  have nt1 := F.called_set.notType; have cc1 := F.called_set.canCreate; have tc1 := F.typeCall_set_1 (.ref l)
  repeat (any_goals (first | assumption | wp_step))
  refine codeAny_mono (code_set_led1 (.ref l) (E := E) (Q₁ := fun obj s₁ => obj = .ref s.heap.objs.size ∧ s₁ = { s with heap := s.heap.push (set0 w) }) ⟨rfl, rfl⟩) fun r s₁ hr => ?_
  match r, hr with
  | .error e, hr => exact hr
  | .ok .next, hr => exact hr.elim
  | .ok .brk, hr => exact hr.elim
  | .ok .cont, hr => exact hr.elim
  | .ok (.ret obj), hr =>
    obtain ⟨rfl, rfl⟩ := hr
    have hS : (s.heap.push (set0 w)).get? s.heap.objs.size = some (set0 w) := Heap.get?_push_size _ rfl
    have hT : Shared.TypeIs { s with heap := s.heap.push (set0 w) } (.ref s.heap.objs.size) "set" := ⟨_, hS, rfl⟩
    have li1 := F.called_set.init.lookup; have bi1 := F.called_set.init.bind (.ref s.heap.objs.size)
    repeat (any_goals (first | assumption | wp_step))
    refine codeAny_mono (codeAny_call_builtin (R := wants (fun r s₂ => r = .none ∧ ∃ h' tk L es ep t, s₂ = { s with heap := h', toks := tk } ∧ SG knd h' s.heap.objs.size L es ep t ∧ Met ks ks.length L ∧ (∀ b o, s.heap.get? b = some o → h'.get? b = some o)) E) F.called_set.init.plain F.entry_set_init (check_set_init_1 hT ?_)) fun r₂ s₂ hr₂ => ?_
    · obtain ⟨⟨cl1, dc1, da1, sl1⟩, g1, e1, n1, d1⟩ := hl
      simp only at e1 d1; subst e1; subst d1
      have g2 : (s.heap.push (set0 w)).get? l = some { cls := .type "list", dict := dc1, data := .seq items n1, slots := sl1 } := Heap.get?_push_of_some _ g1
      have l2 : (s.heap.push (set0 w)).IsList l items := ⟨_, g2, rfl, n1, rfl⟩
      have sb1 := F.sub_list_set; have sb2 := F.sub_list_frozenset
      have nd1 : (Value.type "list" == Value.type "dict") = false := by decide
      unfold Builtin.«set.__init__» noKeywords Builtin.Frozenset.updateFrom
      generalize hPI : pyIter = PI
      wp_walk
      subst hPI
      refine wpAny_pyIter_list l2 (wpAny_bind (wpAny_runValue ?_))
      have lt1 : l < s.heap.objs.size := Heap.lt_size g1
      have sz1 : (s.heap.push (set0 w)).objs.size = s.heap.objs.size + 1 := Heap.size_push ..
      have ne1 : l ≠ (s.heap.push (set0 w)).objs.size := by rw [sz1]; exact Nat.ne_of_lt (Nat.lt_succ_of_lt lt1)
      have nf1 : s.heap.objs.size ∉ [(s.heap.push (set0 w)).objs.size, l] := by
        rw [sz1]
        simp only [List.mem_cons, List.not_mem_nil, or_false, not_or]
        exact ⟨Nat.ne_of_lt (Nat.lt_succ_self _), Nat.ne_of_gt lt1⟩
      have val1 : ∀ (i : Nat) (v : Value), items[i]? = some v → ∃ p, ks[i]? = some p ∧ v = .ref p.1 := fun i v hv => by
        rw [← Array.getElem?_toList, hit, List.getElem?_map] at hv
        obtain ⟨p, h1, h2⟩ := Option.map_eq_some_iff.mp hv
        exact ⟨p, h1, h2.symm⟩
      refine update_g ((Walks.list (by simp [hh]) _ l ne1 items).toS) Y s.heap.objs.size nf1 ks size1 hz val1 s.heap hks (get_size _ _ (Nat.le_refl _)) (fun b hb => ?_) (hroom _ ?_) (items.size - 0) 0 _ (by omega) (Nat.zero_le _) ⟨⟨_, Heap.get?_push_size _ rfl, rfl, rfl⟩, l2.push _⟩ (fun b o e => Heap.get?_push_of_some _ (Heap.get?_push_of_some _ e)) ⟨[], #[], 0, _, fresh_g (Heap.get?_push_of_some _ hS), ⟨fun _ h => (nomatch h), fun p hp => by simp at hp, Nat.le_refl 0⟩⟩ ?_
      · have hb : b ∈ [(s.heap.push (set0 w)).objs.size] := hb
        rw [List.mem_singleton.mp hb, sz1]
        exact get_size _ _ (Nat.le_succ _)
      · exact Nat.le_refl _
      rintro ⟨h', g', d', tk', os'⟩ L es ep t hm hS' hm' hk'
      obtain rfl : g' = s.gens := hm.gens
      obtain rfl : d' = s.drawn := hm.drawn
      obtain rfl : os' = s.os := hm.os
      show wpAny _ _ _ _ _ _
      refine wpAny_pure ?_
      show wpAny _ _ (ret Value.none) _ _ _
      rw [size1] at hm'
      exact wpAny_pure ⟨rfl, h', tk', L, es, ep, t, rfl, hS', hm', hk'⟩
    · match r₂, hr₂ with
      | .error e, hr₂ => exact hr₂
      | .ok .next, hr₂ => exact hr₂.elim
      | .ok .brk, hr₂ => exact hr₂.elim
      | .ok .cont, hr₂ => exact hr₂.elim
      | .ok (.ret r), hr₂ =>
        obtain ⟨rfl, h', tk', L, es, ep, t, rfl, a1, a2, a3⟩ := hr₂
        repeat (any_goals (first | assumption | wp_step))
        exact h _ _ _ _ _ _ a1 a2 a3
end
end Gs
end
section
set_option Elab.async false
set_option linter.all false
set_option maxRecDepth 100000
namespace Gs
open PySem PySem.Spec PyProof.Rows L2
variable {P : Program} {w : World}
theorem hash_tuple : typeLookup (.type "tuple") (Str.ofString "__hash__") = pure (some (.builtin "tuple.__hash__")) := by kernel_rfl
mutual
theorem hashBy_n {A : Around} {E : Value → Shared → Prop} {s : Shared} : ∀ (k : NestedKey) (v : Value) (n : Nat) (Q : Bool → Shared → Prop), (∀ r, Q r s) → NestedIs s.heap k v → wpAny (model P w) A (hashByValue n v) Q E s
  | .none, v, n, Q, hQ, h => by
    cases h
    rw [hashByValue.eq_1]
    exact wpAny_pure (hQ _)
  | .num i, v, n, Q, hQ, h => by
    cases h with
    | int => rw [hashByValue.eq_3]; exact wpAny_pure (hQ _)
    | bool => rw [hashByValue.eq_2]; exact wpAny_pure (hQ _)
  | .text x, v, n, Q, hQ, h => by
    cases h
    rw [hashByValue.eq_5]; exact wpAny_pure (hQ _)
  | .tup ks, v, 0, Q, hQ, h => by
    cases h
    rw [hashByValue.eq_11]
    exact wpAny_pure (hQ _)
  | .tup ks, v, n + 1, Q, hQ, h => by
    cases h with
    | tup h1 h2 h3 h4 =>
      rename_i a o vs m
      rw [show n + 1 = n.succ from rfl, hashByValue.eq_12]
      have ty : s.TypeIs (.ref a) "tuple" := ⟨o, h1, h2⟩
      refine wpAny_bind (wpAny_specialOf ty hash_tuple ?_)
      simp only
      refine wpAny_bind (wpAny_seqItems h1 h3 ?_)
      refine wpAny_bind ?_
      rw [Option.getD_some, ← Array.forIn_toList]
      refine hashBys_n ks vs.toList n _ (fun b hb => ?_) h4
      rcases hb with rfl | rfl
      · exact wpAny_pure (hQ _)
      · exact wpAny_pure (hQ _)
theorem hashBys_n {A : Around} {E : Value → Shared → Prop} {s : Shared} : ∀ (ks : List NestedKey) (vs : List Value) (n : Nat) (Q : Option Bool × Unit → Shared → Prop), (∀ b, b = (none, ()) ∨ b = (some false, ()) → Q b s) → NestedAll s.heap ks vs →
    wpAny (model P w) A (forIn vs ((none, ()) : Option Bool × Unit) fun x __s => do
      let __do_lift ← hashByValue n x
      if (!__do_lift) = true then pure (ForInStep.done (some false, ())) else pure (ForInStep.yield (none, ()))) Q E s
  | [], vs, n, Q, hQ, h => by
    cases h
    exact wpAny_pure (hQ _ (.inl rfl))
  | k :: ks, vs, n, Q, hQ, h => by
    cases h with
    | cons h1 h2 =>
      rw [List.forIn_cons]
      refine wpAny_bind (wpAny_bind (hashBy_n k _ n _ (fun r => ?_) h1))
      cases r with
      | true => exact wpAny_pure (hashBys_n ks _ n Q hQ h2)
      | false => exact wpAny_pure (wpAny_pure (hQ _ (.inr rfl)))
end
end Gs
end
section
set_option Elab.async false
set_option linter.all false
set_option maxRecDepth 100000
namespace Gs
open PySem PySem.Spec PyProof.Rows L2
variable {P : Program} {w : World}
mutual
theorem oc_n {A : Around} {E : Value → Shared → Prop} {s : Shared} : ∀ (k : NestedKey) (v : Value) (n : Nat) (Q : Bool → Shared → Prop), k.depth ≤ n → Q false s → NestedIs s.heap k v → wpAny (model P w) A (ofAClassStatement n v) Q E s
  | .none, v, n, Q, hd, hQ, h => by
    cases h
    rw [ofAClassStatement.eq_def]
    exact wpAny_pure hQ
  | .num i, v, n, Q, hd, hQ, h => by
    cases h with
    | int => rw [ofAClassStatement.eq_def]; exact wpAny_pure hQ
    | bool => rw [ofAClassStatement.eq_def]; exact wpAny_pure hQ
  | .text x, v, n, Q, hd, hQ, h => by
    cases h
    rw [ofAClassStatement.eq_def]; exact wpAny_pure hQ
  | .tup ks, v, 0, Q, hd, hQ, h => by
    rw [NestedKey.depth.eq_4] at hd
    omega
  | .tup ks, v, n + 1, Q, hd, hQ, h => by
    rw [NestedKey.depth.eq_4] at hd
    cases h with
    | tup h1 h2 h3 h4 =>
      rename_i a o vs m
      rw [ofAClassStatement.eq_def]
      simp only
      have ty : s.TypeIs (.ref a) "tuple" := ⟨o, h1, h2⟩
      refine wpAny_bind (wpAny_typeOf ty ?_)
      simp only [beq_self_eq_true, if_true]
      refine wpAny_bind (wpAny_pure ?_)
      simp only [Bool.not_true, Bool.false_eq_true, if_false]
      refine wpAny_bind (wpAny_seqItems h1 h3 ?_)
      simp only
      refine wpAny_bind ?_
      rw [← Array.forIn_toList]
      exact ocs_n ks vs.toList n _ (by omega) (wpAny_pure hQ) h4
theorem ocs_n {A : Around} {E : Value → Shared → Prop} {s : Shared} : ∀ (ks : List NestedKey) (vs : List Value) (n : Nat) (Q : Option Bool × Unit → Shared → Prop), NestedKey.depthAll ks ≤ n → Q (none, ()) s → NestedAll s.heap ks vs →
    wpAny (model P w) A (forIn vs ((none, ()) : Option Bool × Unit) fun y __s => do
      let __do_lift ← ofAClassStatement n y
      if __do_lift = true then pure (ForInStep.done (some true, ())) else pure (ForInStep.yield (none, ()))) Q E s
  | [], vs, n, Q, hd, hQ, h => by
    cases h
    exact wpAny_pure hQ
  | k :: ks, vs, n, Q, hd, hQ, h => by
    rw [NestedKey.depthAll.eq_2] at hd
    cases h with
    | cons h1 h2 =>
      rw [List.forIn_cons]
      refine wpAny_bind (wpAny_bind (oc_n k _ n _ (by omega) ?_ h1))
      exact wpAny_pure (ocs_n ks _ n Q (by omega) hQ h2)
end
theorem seen_n {A : Around} {E : Value → Shared → Prop} {s : Shared} {k : NestedKey} {b : Addr} {Q : Bool → Shared → Prop} (h : (nestedKind P w).is s.heap k b) : ∀ {ys : List Value}, (∀ y ∈ ys, ∃ k' c, y = .ref c ∧ (nestedKind P w).is s.heap k' c) → Q false s → wpAny (model P w) A (searchCouldBeSeen (.ref b) ys) Q E s := by
  intro ys hys hQ
  unfold searchCouldBeSeen
  refine wpAny_bind ?_
  suffices H : ∀ (ys : List Value), (∀ y ∈ ys, ∃ k' c, y = .ref c ∧ (nestedKind P w).is s.heap k' c) → ∀ R : Option Bool × Unit → Shared → Prop, R (none, ()) s → wpAny (model P w) A (forIn ys ((none, ()) : Option Bool × Unit) fun y __s =>
        have __r := __s;
        have very :=
          match Value.ref b, y with
          | Value.ref a, Value.ref b => a == b
          | x, x_1 => false;
        if (very || carriedByValue (Value.ref b) && carriedByValue y) = true then pure (ForInStep.yield (none, ()))
        else do
          let __do_lift ← eqIsQuiet 8 (Value.ref b)
          if (!__do_lift) = true then pure (ForInStep.done (some true, ()))
            else do
              let __do_lift ← eqIsQuiet 8 y
              if (!__do_lift) = true then pure (ForInStep.done (some true, ()))
                else do
                  let __do_lift ← ofAClassStatement 8 (Value.ref b)
                  if __do_lift = true then pure (ForInStep.done (some true, ()))
                    else do
                      let __do_lift ← ofAClassStatement 8 y
                      if __do_lift = true then pure (ForInStep.done (some true, ()))
                        else pure (ForInStep.yield (none, ()))) R E s from H ys hys _ (wpAny_pure hQ)
  intro ys
  induction ys with
  | nil => intro _ R hR; exact wpAny_pure hR
  | cons y ys ih =>
    intro hy R hR
    obtain ⟨k', c, rfl, hc⟩ := hy y (by simp)
    rw [List.forIn_cons]
    have go := ih (fun y hy' => hy y (by simp [hy'])) R hR
    refine wpAny_bind ?_
    simp only
    split
    · exact wpAny_pure go
    · refine wpAny_bind ((nestedKind P w).quiet h ?_)
      simp only [Bool.not_true, Bool.false_eq_true, if_false]
      refine wpAny_bind ((nestedKind P w).quiet hc ?_)
      simp only [Bool.not_true, Bool.false_eq_true, if_false]
      refine wpAny_bind (oc_n k _ 8 _ h.2 ?_ h.1)
      simp only [Bool.false_eq_true, if_false]
      refine wpAny_bind (oc_n k' _ 8 _ hc.2 ?_ hc.1)
      simp only [Bool.false_eq_true, if_false]
      exact wpAny_pure go
theorem nested_sty : Sty (nestedKind P w) := by
  refine ⟨fun {h h' k a d o es ep t} hk hd ho sb => ⟨?_, hk.2⟩, fun {h h' k a} hk hm => ⟨?_, hk.2⟩, fun hk ys hy hQ => seen_n hk hy hQ, fun {A E s k b Q} hk hQ => hashBy_n k _ 8 _ hQ hk.1⟩
  · refine NestedIs.at (h := h) (fun b o' vs n e1 e2 => ?_) k _ hk.1
    have : b ≠ d := by
      intro e
      subst e
      rw [hd] at e1
      cases e1
      rw [ho] at e2
      cases e2
    rw [sb.2 b this]; exact e1
  · exact NestedIs.at (h := h) (fun b o' vs n e1 _ => hm b o' e1) k _ hk.1
end Gs
end
section
set_option Elab.async false
set_option linter.all false
set_option maxRecDepth 100000
namespace Gs
open PySem PySem.Spec PyProof.Rows L2
variable {P : Program} {w : World} {K : Type} [DecidableEq K] {knd : HeapKind P w K}
theorem perm_map {α β : Type} {f : α → β} {ys : List β} : ∀ {xs : List α}, ys.Perm (xs.map f) → ∃ zs : List α, zs.Perm xs ∧ ys = zs.map f := by
  intro xs h
  generalize hm : xs.map f = ms at h
  induction h generalizing xs with
  | nil => cases xs with
    | nil => exact ⟨[], .nil, rfl⟩
    | cons => cases hm
  | cons y h ih =>
    cases xs with
    | nil => cases hm
    | cons x xs =>
      rw [List.map_cons] at hm
      injection hm with h1 h2
      obtain ⟨zs, p, e⟩ := ih h2
      exact ⟨x :: zs, p.cons x, by rw [List.map_cons, h1, e]⟩
  | swap a b l =>
    match xs, hm with
    | x :: y :: xs, hm =>
      rw [List.map_cons, List.map_cons] at hm
      injection hm with h1 h2
      injection h2 with h2 h3
      exact ⟨y :: x :: xs, .swap _ _ _, by rw [List.map_cons, List.map_cons, h1, h2, h3]⟩
  | trans h1 h2 ih1 ih2 =>
    obtain ⟨zs, p, e⟩ := ih2 hm
    obtain ⟨us, p2, e2⟩ := ih1 e.symm
    exact ⟨us, p2.trans p, e2⟩
theorem each_refs {R : Value → Addr × K → Prop} : ∀ {L : List (Addr × K)}, (∀ p ∈ L, R (.ref p.1) p) → PySem.W.EachIs R (L.map fun p => .ref p.1) L
  | [], _ => .nil
  | p :: L, h => .cons (h p (by simp)) (each_refs fun q hq => h q (by simp [hq]))
theorem refs_each : ∀ {L : List (Addr × K)} {us : List Value}, PySem.W.EachIs (fun v (p : Addr × K) => v = .ref p.1) us L → us = L.map fun p => .ref p.1
  | _, _, .nil => rfl
  | _, _, .cons h t => by rw [List.map_cons, h, refs_each t]
theorem sorted_g {A : Around} {E : Value → Shared → Prop} {s : Shared} {a : Addr} {L : List (Addr × K)} {es : Array (Int × Value)} {ep : Nat} {t : SetTable} (g : SG knd s.heap a L es ep t) (hh : A.handled = none) (enc : Addr × K → PyData) (hd : ∀ h' : Heap, (∀ b o, s.heap.get? b = some o → h'.get? b = some o) → ∀ p ∈ L, ∃ as, Reads h' (.ref p.1) (enc p) as ∧ ∀ b ∈ as, ∃ o, s.heap.get? b = some o)
    (hal : ∀ L' : List (Addr × K), L'.Perm L → PySem.W.AllAlike (L'.map enc)) (hso : ∀ L' : List (Addr × K), L'.Perm L → PySem.W.Sortable (L'.map enc)) (hu : ∀ p ∈ L, A.units + 2 + (enc p).depth < cLine) {Q : Value → Shared → Prop}
    (h : ∀ (s' : Shared) (q : Addr) (out : Array Value) (c : Nat) (L' : List (Addr × K)), (∀ b o, s.heap.get? b = some o → s'.heap.get? b = some o) → s'.gens = s.gens → s'.os = s.os → s.heap.objs.size ≤ q → s'.heap.get? q = some (seqObj "list" out c) → L'.Perm L → out.toList = (L'.mergeSort (PySem.W.dataLe false enc)).map (fun p => .ref p.1) → Q (.ref q) s') :
    wpAny (model P w) A (call (.builtin "sorted") [.ref a]) Q E s := by
  have hck : checkBuiltinCall "sorted" { pos := [Value.ref a] } = pure () := by kernel_rfl
  refine wpAny_call (codeAny_call_builtin plain_sorted entry_sorted ?_)
  rw [hck]
  refine wpAny_pure ?_
  unfold Builtin.sorted
  have hcc : checkCount "sorted" 1 1 ([Value.ref a] : List Value).length = pure () := by kernel_rfl
  simp only
  rw [hcc]
  refine wpAny_bind (wpAny_pure ?_)
  obtain ⟨o, o1, o2, o3⟩ := g.ob
  refine wpAny_bind (collect_set (by simpa using hh) ⟨o, o1, o2.1, o3⟩ g.fits (by rw [g.size]; exact Nat.lt_trans g.few (by decide)) g.tab.ris g.led fun s1 out1 k1 k2 k3 k4 k5 => ?_)
  have hout : ∃ L1 : List (Addr × K), L1.Perm L ∧ out1 = L1.map fun p => Value.ref p.1 := by
    rw [g.rows, rws, List.map_map] at k5
    exact perm_map (f := fun p : Addr × K => Value.ref p.1) k5
  obtain ⟨L1, p1, rfl⟩ := hout
  have hl1 : (L1.map fun p : Addr × K => Value.ref p.1).length ≤ sizeLine := by
    rw [List.length_map, p1.length_eq]
    have := g.few
    rw [show sizeLine = 16777216 from rfl]; omega
  refine wpAny_bind (wpAny_newList ?_ hl1)
  refine wpAny_bind (wpAny_holding ?_)
  refine PySem.W.list_sort_data (β := Addr × K) (enc := enc) (R := fun v p => v = .ref p.1) (bs := L1) (Heap.get?_push_size _ rfl) (each_refs fun p _ => rfl) ?_ (hal L1 p1) (hso L1 p1) (by rw [p1.length_eq]; have := g.few; rw [show sizeLine = 16777216 from rfl]; omega) (fun p hp => ?_) fun out hlen hout => ?_
  · refine each_refs fun p hp => ?_
    obtain ⟨as, r1, r2⟩ := hd (s1.heap.push { cls := .type "list", data := .seq (L1.map fun p => Value.ref p.1).toArray }) (fun b o e => Heap.get?_push_of_some _ (k1 b o e)) p (p1.mem_iff.mp hp)
    refine ⟨as, r1, fun hin => ?_⟩
    obtain ⟨o, e⟩ := r2 _ hin
    exact absurd (Heap.lt_size (k1 _ _ e)) (Nat.lt_irrefl _)
  · have := hu p (p1.mem_iff.mp hp)
    show A.units + 1 + 1 + _ < _
    omega
  · have e2 := refs_each hout
    have hat : (s1.heap.push { cls := .type "list", data := .seq (L1.map fun p => Value.ref p.1).toArray }).get? s1.heap.objs.size = some (seqObj "list" (L1.map fun p => Value.ref p.1).toArray 0) := Heap.get?_push_size _ rfl
    obtain ⟨c, hc⟩ := sortedHeap_at (out := out.toArray) hat
    have old : ∀ b o, s.heap.get? b = some o → (sortedHeap (s1.heap.push { cls := .type "list", data := .seq (L1.map fun p => Value.ref p.1).toArray }) s1.heap.objs.size (L1.map fun p => Value.ref p.1) out.toArray).get? b = some o := fun b o e => by
      have e1 := k1 b o e
      have lt := Heap.lt_size e1
      have e3 : (s1.heap.push { cls := .type "list", data := .seq (L1.map fun p => Value.ref p.1).toArray }).get? b = some o := Heap.get?_push_of_some _ e1
      rw [sortedHeap_old (Nat.ne_of_lt lt) (Heap.lt_size e3)]
      exact e3
    have key := h { heap := sortedHeap (s1.heap.push { cls := .type "list", data := .seq (L1.map fun p => Value.ref p.1).toArray }) s1.heap.objs.size (L1.map fun p => Value.ref p.1) out.toArray, gens := s1.gens, drawn := s1.drawn, toks := s1.toks, os := s1.os } s1.heap.objs.size out.toArray c L1 old k3 k4 k2 hc p1 e2
    exact wpAny_pure key
end Gs
end
section
set_option Elab.async false
set_option linter.all false
set_option maxRecDepth 100000
namespace Gs
open PySem PySem.Spec PyProof.Rows L2
/-! ### sorted lists are unique -/
theorem pw_unique {α : Type} {le : α → α → Prop} : ∀ {l m : List α}, l.Pairwise le → m.Pairwise le → l.Perm m → (∀ a ∈ l, ∀ b ∈ l, le a b → le b a → a = b) → l = m
  | [], m, _, _, p, _ => (p.symm.eq_nil).symm
  | a :: l, [], _, _, p, _ => by
    have := p.eq_nil
    cases this
  | a :: l, b :: m, h1, h2, p, anti => by
    have p1 := List.pairwise_cons.mp h1
    have p2 := List.pairwise_cons.mp h2
    have e : a = b := by
      rcases List.mem_cons.mp (p.mem_iff.mp (List.mem_cons_self ..)) with q | q
      · exact q
      · rcases List.mem_cons.mp (p.mem_iff.mpr (List.mem_cons_self ..)) with q2 | q2
        · exact q2.symm
        · exact anti a (by simp) b (List.mem_cons_of_mem _ q2) (p1.1 b q2) (p2.1 a q)
    subst e
    rw [pw_unique p1.2 p2.2 (p.cons_inv) fun x hx y hy => anti x (List.mem_cons_of_mem _ hx) y (List.mem_cons_of_mem _ hy)]
theorem le_total {β : Type} (k : β → PyData) (a b : β) : (PySem.W.dataLe false k a b || PySem.W.dataLe false k b a) = true := by
  rw [PySem.W.dataLe_eq]
  simp only [cond_false]
  cases h : PySem.W.dataLt (k b) (k a) with
  | false => rfl
  | true =>
    cases h2 : PySem.W.dataLt (k a) (k b) with
    | false => rfl
    | true =>
      have := (listOrd itemOrd).trans _ _ _ h h2
      have h3 := (listOrd itemOrd).irrefl (PySem.W.keyToks (k b))
      rw [h3] at this
      cases this
theorem le_trans {β : Type} (k : β → PyData) (a b c : β) (h1 : PySem.W.dataLe false k a b = true) (h2 : PySem.W.dataLe false k b c = true) : PySem.W.dataLe false k a c = true := by
  rw [PySem.W.dataLe_eq] at *
  simp only [cond_false, Bool.not_eq_true'] at *
  cases h : PySem.W.dataLt (k c) (k a) with
  | false => rfl
  | true =>
    rcases (listOrd itemOrd).negTrans _ (PySem.W.keyToks (k b)) _ h with q | q
    · have q : PySem.W.dataLt (k c) (k b) = true := q
      rw [h2] at q; cases q
    · have q : PySem.W.dataLt (k b) (k a) = true := q
      rw [h1] at q; cases q
theorem le_anti {β : Type} (k : β → PyData) (a b : β) (h1 : PySem.W.dataLe false k a b = true) (h2 : PySem.W.dataLe false k b a = true) : PySem.W.keyToks (k a) = PySem.W.keyToks (k b) := by
  rw [PySem.W.dataLe_eq] at *
  simp only [cond_false, Bool.not_eq_true'] at *
  exact (listOrd itemOrd).total _ _ h2 h1
/-! ### the keys' tokens tell the keys -/
mutual
theorem toks_inj : ∀ (a b : NestedKey) (r r' : List (Int ⊕ List Nat)), PySem.W.alike a.data b.data = true → PySem.W.keyToks a.data ++ r = PySem.W.keyToks b.data ++ r' → a = b ∧ r = r'
  | .none, .none, r, r', _, h => ⟨rfl, h⟩
  | .num i, .num j, r, r', _, h => by
    have h : ([Sum.inl i] : List (Int ⊕ List Nat)) ++ r = [Sum.inl j] ++ r' := h
    simp at h
    exact ⟨by rw [h.1], h.2⟩
  | .text x, .text y, r, r', _, h => by
    have h : ([Sum.inr x.cps.toList] : List (Int ⊕ List Nat)) ++ r = [Sum.inr y.cps.toList] ++ r' := h
    simp at h
    refine ⟨?_, h.2⟩
    have h1 := h.1
    cases x; cases y
    simp only at h1
    rw [h1]
  | .tup xs, .tup ys, r, r', ha, h => by
    obtain ⟨h1, h2⟩ := toksAll_inj xs ys r r' ha h
    exact ⟨by rw [h1], h2⟩
  | .none, .num _, _, _, ha, _ => by cases ha
  | .none, .text _, _, _, ha, _ => by cases ha
  | .none, .tup _, _, _, ha, _ => by cases ha
  | .num _, .none, _, _, ha, _ => by cases ha
  | .num _, .text _, _, _, ha, _ => by cases ha
  | .num _, .tup _, _, _, ha, _ => by cases ha
  | .text _, .none, _, _, ha, _ => by cases ha
  | .text _, .num _, _, _, ha, _ => by cases ha
  | .text _, .tup _, _, _, ha, _ => by cases ha
  | .tup _, .none, _, _, ha, _ => by cases ha
  | .tup _, .num _, _, _, ha, _ => by cases ha
  | .tup _, .text _, _, _, ha, _ => by cases ha
theorem toksAll_inj : ∀ (xs ys : List NestedKey) (r r' : List (Int ⊕ List Nat)), PySem.W.alikeAll (NestedKey.datas xs) (NestedKey.datas ys) = true → PySem.W.keyToksAll (NestedKey.datas xs) ++ r = PySem.W.keyToksAll (NestedKey.datas ys) ++ r' → xs = ys ∧ r = r'
  | [], [], r, r', _, h => by
    have h : ([Sum.inl 0] : List (Int ⊕ List Nat)) ++ r = [Sum.inl 0] ++ r' := h
    simp at h
    exact ⟨rfl, h⟩
  | [], y :: ys, r, r', _, h => by
    have h : ([Sum.inl 0] : List (Int ⊕ List Nat)) ++ r = (Sum.inl 1 :: (PySem.W.keyToks y.data ++ PySem.W.keyToksAll (NestedKey.datas ys))) ++ r' := h
    simp at h
  | x :: xs, [], r, r', _, h => by
    have h : (Sum.inl 1 :: (PySem.W.keyToks x.data ++ PySem.W.keyToksAll (NestedKey.datas xs))) ++ r = ([Sum.inl 0] : List (Int ⊕ List Nat)) ++ r' := h
    simp at h
  | x :: xs, y :: ys, r, r', ha, h => by
    have ha : (PySem.W.alike x.data y.data && PySem.W.alikeAll (NestedKey.datas xs) (NestedKey.datas ys)) = true := ha
    rw [Bool.and_eq_true] at ha
    have h : (Sum.inl 1 :: (PySem.W.keyToks x.data ++ PySem.W.keyToksAll (NestedKey.datas xs))) ++ r = (Sum.inl 1 :: (PySem.W.keyToks y.data ++ PySem.W.keyToksAll (NestedKey.datas ys))) ++ r' := h
    rw [List.cons_append, List.cons_append] at h
    injection h with _ h
    rw [List.append_assoc, List.append_assoc] at h
    obtain ⟨h1, h2⟩ := toks_inj x y _ _ ha.1 h
    obtain ⟨h3, h4⟩ := toksAll_inj xs ys _ _ ha.2 h2
    exact ⟨by rw [h1, h3], h4⟩
end
end Gs
end
section
set_option Elab.async false
set_option linter.all false
set_option maxRecDepth 100000
namespace Gs
open PySem PySem.Spec PyProof.Rows L2
/-! ### nested keys over the abstract heap -/
mutual
inductive NV (K : PySem.W.Frag) (H : Hp) : V → NestedKey → Prop
  | non : NV K H .non .none
  | int (i : Int) : NV K H (.int i) (.num i)
  | str (x : Str) : NV K H (.str x) (.text x)
  | tup {a : Addr} {vs : List V} {ks : List NestedKey} : SqT K H a vs → NVs K H vs ks → NV K H (.ref a) (.tup ks)
inductive NVs (K : PySem.W.Frag) (H : Hp) : List V → List NestedKey → Prop
  | nil : NVs K H [] []
  | cons {v : V} {vs : List V} {k : NestedKey} {ks : List NestedKey} : NV K H v k → NVs K H vs ks → NVs K H (v :: vs) (k :: ks)
end
mutual
theorem NV.mono {K : PySem.W.Frag} {H H' : Hp} (h : ∀ a o, H a = some o → H' a = some o) : ∀ (k : NestedKey) (v : V), NV K H v k → NV K H' v k
  | .none, _, n => by cases n; exact .non
  | .num _, _, n => by cases n; exact .int _
  | .text _, _, n => by cases n; exact .str _
  | .tup ks, _, n => by
    cases n with
    | tup h1 h2 => exact .tup (h1.imp (fun q => q.imp (h _ _) fun ⟨o, e⟩ => ⟨o, h _ _ e⟩) id) (NVs.mono h ks _ h2)
theorem NVs.mono {K : PySem.W.Frag} {H H' : Hp} (h : ∀ a o, H a = some o → H' a = some o) : ∀ (ks : List NestedKey) (vs : List V), NVs K H vs ks → NVs K H' vs ks
  | [], _, n => by cases n; exact .nil
  | k :: ks, _, n => by
    cases n with
    | cons h1 h2 => exact .cons (NV.mono h k _ h1) (NVs.mono h ks _ h2)
end
section
variable {X : Cx} {pins : List (Addr × Obj)} {σ : L2.St} {H : Hp} {s : Shared}
mutual
theorem nv_is (I : Inv X pins σ H s) : ∀ (k : NestedKey) (v : V) (u : Value), NV X.K H v k → RelV v u → NestedIs s.heap k u
  | .none, _, u, n, r => by cases n; cases (show u = Value.none from r); exact .none
  | .num i, _, u, n, r => by cases n; obtain ⟨t, rfl⟩ := r; exact .int i t
  | .text x, _, u, n, r => by cases n; obtain ⟨t, rfl⟩ := r; exact .text x t
  | .tup ks, _, u, n, r => by
    cases n with
    | tup h1 h2 =>
      rename_i a vs
      cases (show u = Value.ref a from r)
      obtain ⟨its, rv, ⟨o, e1, e2, m, e3⟩, _⟩ := I.tuple h1
      exact .tup e1 e2 e3 (by simpa using nvs_is I ks vs its h2 rv)
theorem nvs_is (I : Inv X pins σ H s) : ∀ (ks : List NestedKey) (vs : List V) (us : List Value), NVs X.K H vs ks → Vals vs us → NestedAll s.heap ks us
  | [], _, us, n, r => by cases n; cases r; exact .nil
  | k :: ks, _, us, n, r => by
    cases n with
    | cons h1 h2 =>
      cases r with
      | cons r1 r2 => exact .cons (nv_is I k _ _ h1 r1) (nvs_is I ks _ _ h2 r2)
end
mutual
theorem nv_reads (I : Inv X pins σ H s) {h' : Heap} (hm : ∀ b o, s.heap.get? b = some o → h'.get? b = some o) : ∀ (k : NestedKey) (v : V) (u : Value), NV X.K H v k → RelV v u → Reads h' u k.data []
  | .none, _, u, n, r => by cases n; cases (show u = Value.none from r); exact .none
  | .num i, _, u, n, r => by cases n; obtain ⟨t, rfl⟩ := r; exact .int i t
  | .text x, _, u, n, r => by cases n; obtain ⟨t, rfl⟩ := r; exact .str x t
  | .tup ks, _, u, n, r => by
    cases n with
    | tup h1 h2 =>
      rename_i a vs
      cases (show u = Value.ref a from r)
      obtain ⟨its, rv, ⟨o, e1, e2, m, e3⟩, _⟩ := I.tuple h1
      exact Reads.tuple (hm _ _ e1) e2 e3 (by simpa using nvs_reads I hm ks vs its h2 rv)
theorem nvs_reads (I : Inv X pins σ H s) {h' : Heap} (hm : ∀ b o, s.heap.get? b = some o → h'.get? b = some o) : ∀ (ks : List NestedKey) (vs : List V) (us : List Value), NVs X.K H vs ks → Vals vs us → ReadsAll h' us (NestedKey.datas ks) []
  | [], _, us, n, r => by cases n; cases r; exact .nil
  | k :: ks, _, us, n, r => by
    cases n with
    | cons h1 h2 =>
      cases r with
      | cons r1 r2 => exact ReadsAll.cons (nv_reads I hm k _ _ h1 r1) (nvs_reads I hm ks _ _ h2 r2)
end
end
/-! ### the set as an object of the abstract heap -/
structure SN0 (P : Program) (w : World) (h : Heap) (a : Addr) (L : List (Addr × NestedKey)) : Prop where
  ex : ∃ es ep t, (∃ o, h.get? a = some o ∧ o.ExactSet ∧ o.data = .set es ep t) ∧ es.toList = rws (nestedKind P w) L ∧ TabOk t (L.map fun p => (nestedKind P w).hash p.2) ∧ (L.map (·.2)).Nodup ∧ (w.params.followText "set-order" = true ∨ t.led = true) ∧ L.length * 5 < t.mask * 3 ∧ L.length < 64
theorem SG.part {P : Program} {w : World} {h : Heap} {a : Addr} {L : List (Addr × NestedKey)} {es : Array (Int × Value)} {ep : Nat} {t : SetTable} (g : SG (nestedKind P w) h a L es ep t) : SN0 P w h a L := ⟨es, ep, t, g.ob, g.rows, g.tab, g.nd, g.led, g.room, g.few⟩
theorem SN0.full {P : Program} {w : World} {h : Heap} {a : Addr} {L : List (Addr × NestedKey)} (g : SN0 P w h a L) (ht : ∀ p ∈ L, (nestedKind P w).is h p.2 p.1) : ∃ es ep t, SG (nestedKind P w) h a L es ep t :=
  let ⟨es, ep, t, a1, a2, a3, a4, a5, a6, a7⟩ := g.ex
  ⟨es, ep, t, a1, a2, a3, a4, ht, a5, a6, a7⟩
def SetNO (P : Program) (w : World) (a : Addr) (L : List (Addr × NestedKey)) : HO := .ext fun h => SN0 P w h a L
theorem setNO_new {P : Program} {w : World} {H : Hp} {h : Heap} {a : Addr} {L : List (Addr × NestedKey)} (g : SN0 P w h a L) : ObjOk P w H h a (SetNO P w a L) := by
  obtain ⟨es, ep, t, ⟨o, o1, o2, o3⟩, r⟩ := g.ex
  exact ⟨g, ⟨o, o1⟩, fun h1 h2 g1 hk => let ⟨es, ep, t, ⟨o, o1, o2, o3⟩, r⟩ := g1.ex; ⟨es, ep, t, ⟨o, hk o o1, o2, o3⟩, r⟩⟩
end Gs
end
section
set_option Elab.async false
set_option linter.all false
set_option maxRecDepth 100000
namespace Gs
open PySem PySem.Spec PyProof.Rows L2
theorem refs_vals {α : Type} : ∀ {ks : List (Addr × α)} {us : List Value}, Vals (ks.map fun p => V.ref p.1) us → us = ks.map fun p => .ref p.1
  | [], _, .nil => rfl
  | p :: ks, _, .cons h t => by
    cases (show _ = Value.ref p.1 from h)
    rw [List.map_cons, refs_vals t]
theorem vals_refs {α : Type} : ∀ (ks : List (Addr × α)), Vals (ks.map fun p => V.ref p.1) (ks.map fun p => .ref p.1)
  | [] => .nil
  | p :: ks => .cons rfl (vals_refs ks)
mutual
theorem depth_data : ∀ k : NestedKey, k.data.depth = k.depth
  | .none => rfl
  | .num _ => rfl
  | .text _ => rfl
  | .tup ks => by
    have h := depths_data ks
    rw [NestedKey.depth.eq_4, ← h]
    rfl
theorem depths_data : ∀ ks : List NestedKey, PyData.depthAll (NestedKey.datas ks) = NestedKey.depthAll ks
  | [] => rfl
  | k :: ks => by
    rw [NestedKey.depthAll.eq_2, ← depth_data k, ← depths_data ks]
    rfl
end
/-- set(xs) of a list of tuples -/
def rSetN (K : PySem.W.Frag) (P : Program) (w : World) : List V → Hp → VK → Prop := fun xs H Q => ∃ (l : Addr) (ks : List (Addr × NestedKey)), xs = [.ref l] ∧ SqL K H l (ks.map fun p => V.ref p.1) ∧ (∀ p ∈ ks, NV K H (.ref p.1) p.2 ∧ p.2.depth ≤ 8) ∧ ks.length < 64 ∧
  ∀ (a : Addr) (L : List (Addr × NestedKey)), H a = none → (L.map (·.2)).Nodup → (∀ p ∈ L, p ∈ ks) → (∀ p ∈ ks, p.2 ∈ L.map (·.2)) → L.length < 64 → Q (.ref a) (upd H a (SetNO P w a L))
/-- sorted(s) of a set of tuples -/
def rSortedN (K : PySem.W.Frag) (P : Program) (w : World) : List V → Hp → VK → Prop := fun vs H Q => ∃ (a : Addr) (L : List (Addr × NestedKey)), vs = [.ref a] ∧ H a = some (SetNO P w a L) ∧ (∀ p ∈ L, NV K H (.ref p.1) p.2 ∧ p.2.depth ≤ 8) ∧ PySem.W.AllAlike (L.map fun p => p.2.data) ∧ PySem.W.Sortable (L.map fun p => p.2.data) ∧
  ∀ (L' : List (Addr × NestedKey)) (q : Addr), L'.Perm L → H q = none → Q (.ref q) (upd H q (.lst ((L'.mergeSort (PySem.W.dataLe false fun p => p.2.data)).map fun p => V.ref p.1)))
section
variable {X : Cx}
theorem cr_setN (hc : X.calm = true) (hu : X.A.units + 66 < cLine) : CallR X (.type "set") (rSetN X.K X.prog X.w) := by
  rintro pins s σ H xs us Q I r ⟨l, ks, rfl, hq, hk, hz, k⟩
  obtain ⟨its, rv, pl, _⟩ := I.list hq
  rw [Vals.ref1 r]
  refine call_g nested_sty ks (I.ok.hd hc) pl.isList (by simpa using refs_vals rv) (fun p hp => ⟨nv_is I p.2 _ _ (hk p hp).1 rfl, (hk p hp).2⟩) hz (fun A' h => ?_) fun h' tk L es ep t g m hm => ?_
  · show A'.units + 8 < cLine
    omega
  · have hn : H s.heap.objs.size = none := I.hok.fresh (Nat.le_refl _)
    refine ⟨.ref _, upd H s.heap.objs.size (SetNO X.prog X.w s.heap.objs.size L), I.laid (t' := tk) hm (Nat.le_refl _) (setNO_new g.part), rfl, k _ L hn g.nd (fun p hp => ?_) (fun p hp => m.all p ?_) g.few⟩
    · have := m.sub p hp
      rwa [List.take_length] at this
    · rwa [List.take_length]
theorem cr_sortedN (hc : X.calm = true) (hu : X.A.units + 66 < cLine) : CallR X (.builtin "sorted") (rSortedN X.K X.prog X.w) := by
  rintro pins s σ H xs us Q I r ⟨a, L, rfl, hH, hk, hal, hso, k⟩
  rw [Vals.ref1 r]
  have ok : SN0 X.prog X.w s.heap a L := (I.hok a _ hH).1
  obtain ⟨es, ep, t, g⟩ := ok.full fun p hp => ⟨nv_is I p.2 _ _ (hk p hp).1 rfl, (hk p hp).2⟩
  refine sorted_g g (I.ok.hd hc) (fun p => p.2.data) (fun h' hm p hp => ⟨[], nv_reads I hm p.2 _ _ (hk p hp).1 rfl, fun _ z => (nomatch z)⟩) (fun L' hp d hd d' hd' => hal d ((hp.map _).mem_iff.mp hd) d' ((hp.map _).mem_iff.mp hd')) (fun L' hp => ?_) (fun p hp => ?_) fun s' q out c L' h1 h2 h3 h4 h5 h6 h7 => ?_
  · rcases hso with h | h
    · exact .inl fun d hd => h d ((hp.map _).mem_iff.mp hd)
    · exact .inr fun d hd => h d ((hp.map _).mem_iff.mp hd)
  · have := (hk p hp).2
    rw [depth_data]
    omega
  · have hl : ((L'.mergeSort (PySem.W.dataLe false fun p => p.2.data)).map fun p => V.ref p.1).length ≤ sizeLine := by
      rw [List.length_map, List.length_mergeSort, h6.length_eq]
      have := g.few
      rw [show sizeLine = 16777216 from rfl]; omega
    have J := I.laid (h' := s'.heap) (a := q) (o := .lst ((L'.mergeSort (PySem.W.dataLe false fun p => p.2.data)).map fun p => V.ref p.1)) (t' := 0) h1 h4 ⟨hl, out.toList, c, by rw [h7]; exact vals_refs _, by simpa using h5⟩
    have J' : Inv X pins σ (upd H q (.lst ((L'.mergeSort (PySem.W.dataLe false fun p => p.2.data)).map fun p => V.ref p.1))) s' := ⟨J.ok, h3.trans I.os, by rw [h2]; exact I.bare, J.base, J.loc, J.cell, J.free, J.freeC, J.pin, J.hok, J.len⟩
    exact ⟨.ref q, _, J', rfl, k L' q h6 (I.hok.fresh h4)⟩
end
end Gs
end
section
set_option Elab.async false
set_option linter.all false
set_option maxRecDepth 100000
/-! sorted(set(xs)), xs a list of ints or of tuples. -/
namespace Mn
open PySem PySem.Spec PyProof.Rows L2 Gs
variable {K : PySem.W.Frag}
mutual
/-- a key as a tree -/
def unD : NestedKey → D
  | .none => .non
  | .num i => .int i
  | .text x => .str x
  | .tup ks => .tup (unDs ks)
def unDs : List NestedKey → List D
  | [] => []
  | k :: ks => unD k :: unDs ks
end
mutual
theorem nk_un : ∀ (d : D) (k : NestedKey), nkD d = some k → d = unD k
  | .non, k, h => by cases h; rfl
  | .int i, k, h => by cases h; rfl
  | .str x, k, h => by cases h; rfl
  | .tup xs, k, h => by
    rw [nkD] at h
    obtain ⟨ks, h1, rfl⟩ := Option.map_eq_some_iff.mp h
    rw [unD, nks_un xs ks h1]
  | .bl _, k, h => by cases h
  | .lst _, k, h => by cases h
  | .dic _ _ _, k, h => by cases h
  | .set _, k, h => by cases h
  | .scr _, k, h => by cases h
  | .cell _, k, h => by cases h
theorem nks_un : ∀ (ds : List D) (ks : List NestedKey), nkDs ds = some ks → ds = unDs ks
  | [], ks, h => by cases h; rfl
  | d :: ds, ks, h => by
    rw [nkDs] at h
    cases q : nkD d with
    | none => rw [q] at h; cases h
    | some k =>
      cases q2 : nkDs ds with
      | none => rw [q, q2] at h; cases h
      | some ks' =>
        rw [q, q2] at h
        cases h
        rw [unDs, ← nk_un d k q, ← nks_un ds ks' q2]
end
mutual
theorem nk_data : ∀ (d : D) (k : NestedKey), nkD d = some k → d.toPy = some k.data
  | .non, k, h => by cases h; rfl
  | .int i, k, h => by cases h; rfl
  | .str x, k, h => by cases h; rfl
  | .tup xs, k, h => by
    rw [nkD] at h
    obtain ⟨ks, h1, rfl⟩ := Option.map_eq_some_iff.mp h
    rw [D.toPy, nks_data xs ks h1]
    rfl
  | .bl _, k, h => by cases h
  | .lst _, k, h => by cases h
  | .dic _ _ _, k, h => by cases h
  | .set _, k, h => by cases h
  | .scr _, k, h => by cases h
  | .cell _, k, h => by cases h
theorem nks_data : ∀ (ds : List D) (ks : List NestedKey), nkDs ds = some ks → D.toPys ds = some (NestedKey.datas ks)
  | [], ks, h => by cases h; rfl
  | d :: ds, ks, h => by
    rw [nkDs] at h
    cases q : nkD d with
    | none => rw [q] at h; cases h
    | some k =>
      cases q2 : nkDs ds with
      | none => rw [q, q2] at h; cases h
      | some ks' =>
        rw [q, q2] at h
        cases h
        rw [D.toPys, nk_data d k q, nks_data ds ks' q2]
        rfl
end
mutual
theorem rep_nv {al : List Addr} {F H : Hp} (sub : ∀ a o, F a = some o → H a = some o) : ∀ (d : D) (v : V) (k : NestedKey), Rep K al F v d → nkD d = some k → NV K H v k
  | .non, _, k, r, h => by cases h; cases r; exact .non
  | .int i, _, k, r, h => by cases h; cases r; exact .int i
  | .str x, _, k, r, h => by cases h; cases r; exact .str x
  | .tup xs, _, k, r, h => by
    rw [nkD] at h
    obtain ⟨ks, h1, rfl⟩ := Option.map_eq_some_iff.mp h
    cases r with
    | tup r1 r2 => exact .tup (r1.imp (fun q => q.imp (sub _ _) fun ⟨o, e⟩ => ⟨o, sub _ _ e⟩) id) (reps_nv sub xs _ ks r2 h1)
  | .bl _, _, k, _, h => by cases h
  | .lst _, _, k, _, h => by cases h
  | .dic _ _ _, _, k, _, h => by cases h
  | .set _, _, k, _, h => by cases h
  | .scr _, _, k, _, h => by cases h
  | .cell _, _, k, _, h => by cases h
theorem reps_nv {al : List Addr} {F H : Hp} (sub : ∀ a o, F a = some o → H a = some o) : ∀ (ds : List D) (vs : List V) (ks : List NestedKey), RepL K al F vs ds → nkDs ds = some ks → NVs K H vs ks
  | [], _, ks, r, h => by cases h; cases r; exact .nil
  | d :: ds, _, ks, r, h => by
    rw [nkDs] at h
    cases q : nkD d with
    | none => rw [q] at h; cases h
    | some k =>
      cases q2 : nkDs ds with
      | none => rw [q, q2] at h; cases h
      | some ks' =>
        rw [q, q2] at h
        cases h
        cases r with
        | cons r1 r2 => exact .cons (rep_nv sub d _ k r1 q) (reps_nv sub ds _ ks' r2 q2)
end
/-- the tuples' places -/
theorem places {al : List Addr} {F : Hp} : ∀ {ds : List D} {vs : List V} {ks : List NestedKey}, RepL K al F vs ds → nkDs ds = some ks → ds.all isTup = true → ∃ ps : List (Addr × NestedKey), vs = ps.map (fun p => V.ref p.1) ∧ ds = ps.map (fun p => unD p.2) ∧ ks = ps.map (·.2) ∧ ∀ p ∈ ps, nkD (unD p.2) = some p.2 ∧ Rep K al F (.ref p.1) (unD p.2)
  | [], _, ks, r, h, _ => by cases h; cases r; exact ⟨[], rfl, rfl, rfl, fun _ z => (nomatch z)⟩
  | d :: ds, _, ks, r, h, ht => by
    rw [List.all_cons, Bool.and_eq_true] at ht
    rw [nkDs] at h
    cases q : nkD d with
    | none => rw [q] at h; cases h
    | some k =>
      cases q2 : nkDs ds with
      | none => rw [q, q2] at h; cases h
      | some ks' =>
        rw [q, q2] at h
        cases h
        cases r with
        | cons r1 r2 =>
          obtain ⟨ps, e1, e2, e3, e4⟩ := places r2 q2 ht.2
          have ed := nk_un d k q
          cases d with
          | tup xs =>
            have r1' := r1
            cases r1 with
            | tup g1 g2 =>
              rename_i a vs'
              refine ⟨(a, k) :: ps, by rw [e1]; rfl, by rw [List.map_cons, ← ed, ← e2], by rw [e3]; rfl, fun p hp => ?_⟩
              rcases List.mem_cons.mp hp with z | z
              · subst z
                simp only
                rw [← ed]
                exact ⟨q, r1'⟩
              · exact e4 p z
          | _ => cases ht.1
theorem mem_dedupK : ∀ {xs : List D} {d : D}, (∀ x ∈ xs, ∃ k, nkD x = some k) → (d ∈ dedupK xs ↔ d ∈ xs)
  | [], d, _ => Iff.rfl
  | x :: xs, d, h => by
    rw [dedupK, List.mem_cons, List.mem_cons, List.mem_filter, mem_dedupK fun y hy => h y (List.mem_cons_of_mem _ hy)]
    constructor
    · rintro (h1 | h1)
      · exact .inl h1
      · exact .inr h1.1
    · rintro (h1 | h1)
      · exact .inl h1
      · by_cases e : nkD x = nkD d
        · obtain ⟨k, hk⟩ := h x (List.mem_cons_self ..)
          refine .inl ?_
          rw [nk_un x k hk, nk_un d k (e ▸ hk)]
        · exact .inr ⟨h1, by simp [e]⟩
theorem nodup_dedupK : ∀ {xs : List D}, (dedupK xs).Nodup
  | [] => List.nodup_nil
  | x :: xs => by
    rw [dedupK]
    refine List.nodup_cons.mpr ⟨fun h => ?_, nodup_dedupK.filter _⟩
    have := (List.mem_filter.mp h).2
    simp at this
theorem dedupK_len : ∀ {xs : List D}, (dedupK xs).length ≤ xs.length
  | [] => Nat.le_refl _
  | x :: xs => by
    rw [dedupK, List.length_cons, List.length_cons]
    exact Nat.succ_le_succ (Nat.le_trans (List.length_filter_le ..) dedupK_len)
end Mn
end
section
set_option Elab.async false
set_option linter.all false
set_option maxRecDepth 100000
namespace Mn
open PySem PySem.Spec PyProof.Rows L2 Gs
theorem cr_or {X : Cx} {f : Value} {r1 r2 : List V → Hp → VK → Prop} (h1 : CallR X f r1) (h2 : CallR X f r2) : CallR X f fun xs H Q => r1 xs H Q ∨ r2 xs H Q :=
  fun pins s σ H xs us Q I r w => w.elim (h1 pins s σ H xs us Q I r) (h2 pins s σ H xs us Q I r)
theorem key_data {m : Mu} {d : D} {k : NestedKey} {p : PyData} (h : nkD d = some k) (ht : isTup d = true) (hp : pyOf m d = some p) : p = k.data := by
  obtain ⟨d', h1, h2, _⟩ := pyOf_spec hp
  cases d with
  | tup xs =>
    cases h1
    rw [nk_data _ k h] at h2
    exact (Option.some.inj h2).symm
  | _ => cases ht
theorem unD_tup {k : NestedKey} {d : D} (h : nkD d = some k) (ht : isTup d = true) : isTup (unD k) = true := by
  rw [← nk_un d k h]; exact ht
theorem nodup_map_on {α β : Type} {f : α → β} : ∀ {l : List α}, l.Nodup → (∀ a ∈ l, ∀ b ∈ l, f a = f b → a = b) → (l.map f).Nodup
  | [], _, _ => List.nodup_nil
  | a :: l, h, inj => by
    have h1 := List.nodup_cons.mp h
    refine List.nodup_cons.mpr ⟨fun z => ?_, nodup_map_on h1.2 fun x hx y hy => inj x (List.mem_cons_of_mem _ hx) y (List.mem_cons_of_mem _ hy)⟩
    obtain ⟨b, hb, e⟩ := List.mem_map.mp z
    have := inj a (List.mem_cons_self ..) b (List.mem_cons_of_mem _ hb) e.symm
    subst this
    exact h1.1 hb
theorem perm_of {α : Type} : ∀ {l m : List α}, l.Nodup → m.Nodup → (∀ a, a ∈ l ↔ a ∈ m) → l.Perm m
  | [], m, _, _, h => by
    cases m with
    | nil => exact .nil
    | cons b m => exact absurd ((h b).mpr (List.mem_cons_self ..)) (by simp)
  | a :: l, m, h1, h2, h => by
    have ha : a ∈ m := (h a).mp (List.mem_cons_self ..)
    obtain ⟨s, t, rfl⟩ := List.append_of_mem ha
    have p1 := List.nodup_cons.mp h1
    have pm : (s ++ a :: t).Perm (a :: (s ++ t)) := List.perm_middle
    have p2 := List.nodup_cons.mp ((pm.nodup_iff).mp h2)
    refine ((perm_of p1.2 p2.2 fun x => ?_).cons a).trans pm.symm
    constructor
    · intro hx
      have : x ∈ a :: (s ++ t) := pm.mem_iff.mp ((h x).mp (List.mem_cons_of_mem _ hx))
      rcases List.mem_cons.mp this with e | e
      · subst e; exact absurd hx p1.1
      · exact e
    · intro hx
      have : x ∈ a :: l := (h x).mpr (pm.mem_iff.mpr (List.mem_cons_of_mem _ hx))
      rcases List.mem_cons.mp this with e | e
      · subst e; exact absurd hx p2.1
      · exact e
theorem nodup_of_keys {α β : Type} {f : α → β} : ∀ {l : List α}, (l.map f).Nodup → l.Nodup ∧ ∀ a ∈ l, ∀ b ∈ l, f a = f b → a = b
  | [], _ => ⟨List.nodup_nil, fun _ z => (nomatch z)⟩
  | a :: l, h => by
    have h1 := List.nodup_cons.mp h
    obtain ⟨i1, i2⟩ := nodup_of_keys (f := f) h1.2
    refine ⟨List.nodup_cons.mpr ⟨fun z => h1.1 (List.mem_map_of_mem z), i1⟩, fun x hx y hy e => ?_⟩
    rcases List.mem_cons.mp hx with q | q <;> rcases List.mem_cons.mp hy with q2 | q2
    · rw [q, q2]
    · subst q; exact absurd (e ▸ List.mem_map_of_mem q2) h1.1
    · subst q2; exact absurd (e ▸ List.mem_map_of_mem q) h1.1
    · exact i2 x q y q2 e
/-- the sorted list of a set's tuples is the same, whatever the set's order -/
theorem sort_same {m : Mu} {xs : List D} {ks : List NestedKey} {pp : List PyData} {ps L L' : List (Addr × NestedKey)} (hk : nkDs xs = some ks) (ht : xs.all isTup = true) (hp : pysOf m xs = some pp) (hal : PySem.W.AllAlike pp) (e2 : xs = ps.map fun p => unD p.2) (e4 : ∀ p ∈ ps, nkD (unD p.2) = some p.2)
    (hnd : (L.map (·.2)).Nodup) (hsub : ∀ p ∈ L, p ∈ ps) (hall : ∀ p ∈ ps, p.2 ∈ L.map (·.2)) (hL : L'.Perm L) : (dedupK xs).mergeSort (fun a b => !PySem.W.dataLt (pyKey m b) (pyKey m a)) = (L'.mergeSort (PySem.W.dataLe false fun p => p.2.data)).map fun p => unD p.2 := by
  have hle : (fun a b => !PySem.W.dataLt (pyKey m b) (pyKey m a)) = PySem.W.dataLe false (pyKey m) := by
    rw [PySem.W.dataLe_eq]; rfl
  rw [hle]
  have hkeys : ∀ x ∈ xs, ∃ k, nkD x = some k := fun x hx => by
    rw [e2] at hx
    obtain ⟨p, hp, rfl⟩ := List.mem_map.mp hx
    exact ⟨p.2, e4 p hp⟩
  have hdat : ∀ x ∈ xs, ∀ k, nkD x = some k → pyKey m x = k.data := fun x hx k hk => key_data hk (List.all_eq_true.mp ht x hx) (pysOf_mem hp hx)
  have hunm : ∀ p ∈ ps, unD p.2 ∈ xs := fun p hp => by rw [e2]; exact List.mem_map_of_mem hp
  have hin' : ∀ p ∈ L', p ∈ ps := fun p hp => hsub p (hL.mem_iff.mp hp)
  have hmS : ∀ p, p ∈ L'.mergeSort (PySem.W.dataLe false fun p : Addr × NestedKey => p.2.data) ↔ p ∈ L' := fun p => (List.mergeSort_perm _ _).mem_iff
  obtain ⟨nd', inj'⟩ := nodup_of_keys ((hL.map (·.2)).nodup_iff.mpr hnd)
  refine pw_unique (le := fun a b => PySem.W.dataLe false (pyKey m) a b = true) (List.pairwise_mergeSort (le_trans _) (le_total _) _) ?_ ?_ ?_
  · refine List.pairwise_map.mpr ?_
    refine List.Pairwise.imp_of_mem ?_ (List.pairwise_mergeSort (le_trans fun p : Addr × NestedKey => p.2.data) (le_total _) L')
    intro a b ha hb hab
    have ha := hin' a ((hmS a).mp ha)
    have hb := hin' b ((hmS b).mp hb)
    rw [PySem.W.dataLe_eq] at hab ⊢
    simp only [cond_false] at hab ⊢
    rw [hdat _ (hunm a ha) _ (e4 a ha), hdat _ (hunm b hb) _ (e4 b hb)]
    exact hab
  · refine (List.mergeSort_perm _ _).trans (perm_of nodup_dedupK (nodup_map_on ((List.mergeSort_perm _ _).nodup_iff.mpr nd') fun a ha b hb e => ?_) fun d => ?_)
    · have ha := (hmS a).mp ha
      have hb := (hmS b).mp hb
      refine inj' a ha b hb ?_
      have h1 := e4 a (hin' a ha)
      have h2 := e4 b (hin' b hb)
      rw [e, h2] at h1
      exact (Option.some.inj h1).symm
    · rw [mem_dedupK hkeys]
      constructor
      · intro hd
        rw [e2] at hd
        obtain ⟨p, hp, rfl⟩ := List.mem_map.mp hd
        obtain ⟨q, hq, e⟩ := List.mem_map.mp (hall p hp)
        exact List.mem_map.mpr ⟨q, (hmS q).mpr (hL.mem_iff.mpr hq), by rw [e]⟩
      · intro hd
        obtain ⟨p, hp, rfl⟩ := List.mem_map.mp hd
        exact hunm p (hin' p ((hmS p).mp hp))
  · intro a ha b hb h1 h2
    have ha := (mem_dedupK hkeys).mp ((List.mergeSort_perm _ _).mem_iff.mp ha)
    have hb := (mem_dedupK hkeys).mp ((List.mergeSort_perm _ _).mem_iff.mp hb)
    obtain ⟨k, hk1⟩ := hkeys a ha
    obtain ⟨k2, hk2⟩ := hkeys b hb
    have ht := le_anti (pyKey m) a b h1 h2
    rw [hdat a ha k hk1, hdat b hb k2 hk2] at ht
    have al : PySem.W.alike k.data k2.data = true := by
      rw [← hdat a ha k hk1, ← hdat b hb k2 hk2]
      have em := pysOf_map hp
      exact hal _ (by rw [em]; exact List.mem_map_of_mem ha) _ (by rw [em]; exact List.mem_map_of_mem hb)
    have := (toks_inj k k2 [] [] al (by rw [ht])).1
    rw [nk_un a k hk1, nk_un b k2 hk2, this]
theorem repL_un {K : PySem.W.Frag} {al : List Addr} {F : Hp} : ∀ {ps : List (Addr × NestedKey)}, (∀ p ∈ ps, Rep K al F (.ref p.1) (unD p.2)) → RepL K al F (ps.map fun p => V.ref p.1) (ps.map fun p => unD p.2)
  | [], _ => .nil
  | p :: ps, h => .cons (h p (List.mem_cons_self ..)) (repL_un fun q hq => h q (List.mem_cons_of_mem _ hq))
section
variable {X : Cx} {pos p p2 p3 : Pos} {a : Expr}
theorem pe_srtD {f : M D} (hc : X.calm = true) (hu : X.A.units + 66 < cLine) (hg : Gl X "sorted") (hm : X.mg "sorted" = none) (hg2 : Gl X "set") (hm2 : X.mg "set" = none) (ha : PE X a (tD X.K f)) (hn : nice a = true) :
    PE X (.Call (.Name "sorted" p) [.Call (.Name "set" p2) [a] [] p3] [] pos) (tD X.K (f.bind fun x e m => M.of (srtD m x) e m)) := by
  have inner := pe_callTy (p := p2) (pos := p3) (cr_or (cr_setL hc) (cr_setN hc hu)) hg2 hm2 (by decide +kernel) (pa_cons ha pa_nil (star_nice hn _ _)) (by decide) (by decide) (star_nice hn _ _)
  refine (pe_callB (cr_or (cr_sortedSet hc) (cr_sortedN hc hu)) hg hm (by decide +kernel) (pa_cons inner pa_nil) (by decide) (by decide)).imp fun σ H Q w => ?_
  show tG X.K (rpD X.K) f σ H _
  refine tG_mono (tG_bind w) fun v H1 h1 => ?_
  obtain ⟨d, e, m, al, F, sr, r, ok⟩ := h1
  obtain ⟨z, hz, fin⟩ := R.Ok.of ok
  unfold srtD at hz
  cases hd : deref m d with
  | none => rw [hd] at hz; cases hz
  | some d' =>
    rw [hd] at hz
    have th := sr.core.thru r hd
    cases d' with
    | lst xs =>
      simp only at hz
      obtain ⟨q, ys, rfl, g1, g2⟩ := th.lst sr.core.sub
      have htal : ∀ {t : Addr}, H1 t = none → t ∉ al := fun {t} ht z => by
        obtain ⟨o, ho⟩ := sr.core.has t z
        rw [ht] at ho; cases ho
      have xw : ∀ {t : Addr} (o : HO), H1 t = none → Ex al F H1 al F (upd H1 t o) := fun {t} o ht => ⟨Pre.refl _, Le.refl _, fun b o h _ => by rw [upd_ne (ne_of_none h ht)]; exact h, fun _ h => .inl h, fun _ _ h _ _ => h⟩
      split at hz
      · rename_i r0 h0
        cases hz
        unfold srtD0 at h0
        rw [hd] at h0
        simp only at h0
        split at h0
        · rename_i is hi
          split at h0
          · rename_i hl
            cases h0
            have ei := g2.unmapI hi
            subst ei
            refine .inl ⟨q, is, rfl, SqL.of g1, by rw [show scanBound = 4096 from rfl]; omega, fun t n ht hn' => .inl ?_⟩
            refine ⟨t, _, n, rfl, upd_same, by omega, fun ns u hp hmem hlen hu => ?_⟩
            have en : ns = srtI is := rising_unique hp (pw_srtI is) fun k => by
              rw [hmem k, mem_srtI]
              simp
            subst en
            have c1 : SR X.K σ (upd H1 t (SetO X.w t (fun j => decide (j ∈ is)) n)) e m al F := ⟨sr.core.write (sr.core.fresh ht) (htal ht) _, sr.slots, sr.len⟩
            exact Fin.newL (fin.trans (xw _ ht)) c1 (repL_ints _) hu
          · cases h0
        · cases h0
      · unfold srtND at hz
        split at hz
        · rename_i ks pp hk hp
          split at hz
          · rename_i hif
            obtain ⟨hlen, htup, hdep, hsrt⟩ := hif
            cases hz
            rw [Bool.and_eq_true] at hsrt
            have hal := (allAlike_ok hsrt.1).1
            have hso := sortable_ok hsrt.2
            obtain ⟨ps, e1, e2, e3, e4⟩ := places g2 hk htup
            have em := pysOf_map hp
            have hdat : ∀ b ∈ ps, b.2.data ∈ pp := fun b hb => by
              have hx : unD b.2 ∈ xs := by rw [e2]; exact List.mem_map_of_mem hb
              rw [← key_data (e4 b hb).1 (List.all_eq_true.mp htup _ hx) (pysOf_mem hp hx), em]
              exact List.mem_map_of_mem hx
            have hdd : ∀ b ∈ ps, b.2.depth ≤ 8 := fun b hb => by
              have : b.2 ∈ ks := by rw [e3]; exact List.mem_map_of_mem hb
              exact of_decide_eq_true (List.all_eq_true.mp hdep _ this)
            refine .inr ⟨q, ps, rfl, by rw [← e1]; exact SqL.of g1, fun b hb => ⟨rep_nv sr.core.sub _ _ _ (e4 b hb).2 (e4 b hb).1, hdd b hb⟩, by rw [e2, List.length_map] at hlen; exact hlen, fun t L ht hnd hsub hall hfew => .inr ?_⟩
            refine ⟨t, L, rfl, upd_same, fun b hb => ⟨NV.mono (fun c o hc => by rw [upd_ne (ne_of_none hc ht)]; exact hc) _ _ (rep_nv sr.core.sub _ _ _ (e4 b (hsub b hb)).2 (e4 b (hsub b hb)).1), hdd b (hsub b hb)⟩, ?_, ?_, fun L' q2 hL hq2 => ?_⟩
            · intro x hx y hy
              obtain ⟨b, hb, rfl⟩ := List.mem_map.mp hx
              obtain ⟨c, hc, rfl⟩ := List.mem_map.mp hy
              exact hal _ (hdat b (hsub b hb)) _ (hdat c (hsub c hc))
            · rcases hso with h | h
              · refine .inl fun x hx => ?_
                obtain ⟨b, hb, rfl⟩ := List.mem_map.mp hx
                exact h _ (hdat b (hsub b hb))
              · refine .inr fun x hx => ?_
                obtain ⟨b, hb, rfl⟩ := List.mem_map.mp hx
                exact h _ (hdat b (hsub b hb))
            · have c1 : SR X.K σ (upd H1 t (SetNO X.prog X.w t L)) e m al F := ⟨sr.core.write (sr.core.fresh ht) (htal ht) _, sr.slots, sr.len⟩
              rw [sort_same hk htup hp hal e2 (fun b hb => (e4 b hb).1) hnd hsub hall hL] at fin
              refine Fin.newL (fin.trans (xw _ ht)) c1 (repL_un fun b hb => ?_) hq2
              exact (e4 b (hsub b (hL.mem_iff.mp ((List.mergeSort_perm _ _).mem_iff.mp hb)))).2
          · cases hz
        · cases hz
    | _ => cases hz
end
end Mn
end
section
set_option Elab.async false
set_option linter.all false
set_option maxRecDepth 100000
/-! x[::-1] over trees. -/
namespace Mn
open PySem PySem.Spec PyProof.Rows L2
theorem adjust_rev (n : Nat) : Builtin.Slice.sliceAdjust none none (-1) (n : Int) = ((n : Int) - 1, -1) := by
  unfold Builtin.Slice.sliceAdjust
  simp
theorem places_rev (n : Nat) : Builtin.Slice.slicePlaces ((n : Int) - 1) (-1) (-1) = n := by
  unfold Builtin.Slice.slicePlaces
  simp
  try omega
theorem applied_rev {prog : Program} {w : World} {A : Around} {E : Value → Shared → Prop} {s : Shared} {sl : Addr} {vk : Value} {n : Nat} {Q : Int × Int × Nat → Shared → Prop} (hs : s.heap.IsSliceOf sl .none .none vk) (pk : IsPart vk (some (-1))) (h : Q ((n : Int) - 1, -1, n) s) :
    wpAny (model prog w) A (Builtin.Slice.sliceApplied (.ref sl) (pure (n : Int))) Q E s := by
  obtain ⟨os, hos, hcs, hds⟩ := hs
  refine wpAny_bind (wpAny_bind (wpAny_field hos hds rfl (wpAny_bind (wpAny_field hos hds rfl (wpAny_bind (wpAny_field hos hds rfl (wpAny_pure ?_)))))))
  refine wpAny_bind (HT.slicePart_ pk ?_)
  show wpAny _ _ (if ((-1 : Int) == 0) = true then _ else _) _ _ _
  rw [if_neg (by decide)]
  refine wpAny_bind (HT.slicePart_ .none (wpAny_bind (HT.slicePart_ .none (wpAny_bind (wpAny_pure ?_)))))
  show wpAny _ _ (match Builtin.Slice.sliceAdjust none none (-1) (n : Int) with
    | (lo, hi) => pure (lo, -1, Builtin.Slice.slicePlaces lo hi (-1))) _ _ _
  rw [adjust_rev]
  show wpAny _ _ (pure ((n : Int) - 1, -1, Builtin.Slice.slicePlaces ((n : Int) - 1) (-1) (-1))) _ _ _
  rw [places_rev]
  exact wpAny_pure h
theorem pick_rev (items : Array Value) : ((List.range items.size).filterMap fun (k : Nat) => items[((items.size : Int) - 1 + (k : Int) * (-1)).toNat]?).toArray = items.toList.reverse.toArray := by
  have h := PySem.W.krv_pick items
  rw [← h]
  unfold slicePick
  rw [PySem.W.krv_bounds]
  simp only
  rw [PySem.W.krv_sliceRange, List.filterMap_map]
  congr 1
  have hall : ∀ k ∈ List.range items.size, k < items.size := fun k hk => List.mem_range.mp hk
  generalize List.range items.size = l at hall
  induction l with
  | nil => rfl
  | cons k l ih =>
    have hk := hall k (by simp)
    have e : ((items.size : Int) - 1 + (k : Int) * (-1)).toNat = items.size - 1 - k := by omega
    rw [List.filterMap_cons, List.filterMap_cons, ih fun j hj => hall j (by simp [hj]), e]
    rfl
theorem getItem_rev {prog : Program} {w : World} {A : Around} {E : Value → Shared → Prop} {s : Shared} {t sl : Addr} {items : Array Value} {vk : Value} {Q : Value → Shared → Prop} (ht : IsTup s.heap t items) (hs : s.heap.IsSliceOf sl .none .none vk) (pk : IsPart vk (some (-1))) (hz : items.size ≤ sizeLine)
    (h : Q (.ref s.heap.objs.size) { s with heap := s.heap.push { cls := .type "tuple", data := .seq items.toList.reverse.toArray } }) : wpAny (model prog w) A (getItem (.ref t) (.ref sl)) Q E s := by
  obtain ⟨os, hos, hcs, hds⟩ := hs
  have hTs : s.TypeIs (.ref sl) "slice" := ⟨os, hos, hcs⟩
  refine wpAny_holding (wpAny_bind (wpAny_sequenceKey ht.typeIs (by decide) (wpAny_bind (wpAny_callSpecial?_slot ht.typeIs slot_tuple_getitem (wpAny_call_entry slot_tuple_getitem ht.typeIs entry_tuple_getitem ?_)))))
  have sa : slotArgs "__getitem__" 1 { pos := [Value.ref t, Value.ref sl] } = pure (Value.ref t, [Value.ref sl]) := rfl
  unfold Builtin.«tuple.__getitem__»
  rw [sa]
  refine wpAny_bind (wpAny_pure ?_)
  simp only
  refine wpAny_bind (tupleItemsOf_ ht (wpAny_bind (wpAny_typeOf hTs ?_)))
  show wpAny _ _ (if (Value.type "slice" == Value.type "slice") = true then _ else _) _ _ _
  rw [if_pos (by decide)]
  refine wpAny_bind (applied_rev ⟨os, hos, hcs, hds⟩ pk ?_)
  simp only
  have hno : ¬ (((items.size : Int) - 1 == 0 && (-1 : Int) == 1 && items.size == items.size) = true) := by simp
  rw [if_neg hno, pick_rev]
  refine wpAny_bind ?_
  unfold Builtin.Tuple.tupleExact
  refine wpAny_newObj_type (wpAny_pure ⟨_, rfl, wpAny_pure h⟩) ?_
  show items.toList.reverse.toArray.size ≤ sizeLine
  simpa using hz
end Mn
namespace Mn
open PySem PySem.Spec PyProof.Rows L2
section
variable {X : Cx} {pos p2 : Pos} {a st : Expr}
theorem vals_rev : ∀ {ys : List V} {its : List Value}, Vals ys its → Vals ys.reverse its.reverse
  | _, _, .nil => .nil
  | _, _, .cons h t => by
    rw [List.reverse_cons, List.reverse_cons]
    exact (vals_rev t).append (.cons h .nil)
theorem repL_rev {K : PySem.W.Frag} {al : List Addr} {F : Hp} : ∀ {xs : List D} {ys : List V}, RepL K al F ys xs → RepL K al F ys.reverse xs.reverse
  | [], _, h => by cases h; exact .nil
  | x :: xs, _, h => by
    cases h with
    | cons k1 k2 =>
      rw [List.reverse_cons, List.reverse_cons]
      exact (repL_rev k2).app (.cons k1 .nil)
theorem pe_revD {f : M D} (ha : PE X a (tD X.K f)) (hs : PE X st (tD X.K fun e m => .ok (.int (-1)) e m)) : PE X (.Subscript a (.Slice none none (some st) p2) pos) (tD X.K (f.bind fun x e m => M.of (revD m x) e m)) := by
  refine ⟨fun pins s σ H Q I w => Subscript_ (thn (ha.run pins s σ H _ I (tG_bind w)) fun v s1 x => ?_)⟩
  obtain ⟨y, H1, I1, r1, d, e, m, al, F, sr, r, ok⟩ := x
  obtain ⟨z, hz, fin⟩ := R.Ok.of ok
  have po := (po_D (.some hs)).run pins s1 σ H1 (fun i H' => i = some (-1) ∧ ∃ al' F', SR X.K σ H' e m al' F' ∧ Ex al F H1 al' F' H') I1 ⟨e, m, al, F, sr, some (-1), rfl, fun H' al' F' sr' ex' => ⟨rfl, al', F', sr', ex'⟩⟩
  refine wpAny_Slice ?_
  rw [evalPart_none]
  refine wpAny_pure ?_
  refine wpAny_pure (thn po fun vk s3 q => ?_)
  obtain ⟨o, H3, I3, pk, rfl, al', F', sr', ex'⟩ := q
  have r := r.mono ex'.pre ex'.le
  have I4 : Inv X pins σ H3 { s3 with heap := s3.heap.push { cls := .type "slice", data := .fields #[.none, .none, vk] } } := I3.kept fun b ob q => Heap.get?_push_of_some _ q
  have hsl : (s3.heap.push { cls := .type "slice", data := .fields #[.none, .none, vk] }).IsSliceOf s3.heap.objs.size .none .none vk := Heap.IsSliceOf.new _ _ _ _
  generalize hS : ({ s3 with heap := s3.heap.push { cls := .type "slice", data := .fields #[.none, .none, vk] } } : Shared) = S at I4 ⊢
  have hsl : S.heap.IsSliceOf s3.heap.objs.size .none .none vk := by rw [← hS]; exact hsl
  unfold revD at hz
  cases hd : deref m d with
  | none => rw [hd] at hz; cases hz
  | some d' =>
    rw [hd] at hz
    have th := sr'.core.thru r hd
    have hn : H3 S.heap.objs.size = none := I4.hok.fresh (Nat.le_refl _)
    cases d' with
    | tup xs =>
      cases hz
      obtain ⟨p, ys, rfl, h1, h2⟩ := th.tup sr'.core.sub
      cases (show v = Value.ref p from r1)
      obtain ⟨its, rv, ht, hl⟩ := I4.tuple h1
      have hsz : its.toArray.size ≤ sizeLine := by rw [List.size_toArray, ← rv.length]; exact hl
      refine tail_any ht.typeIs slot_tuple_getitem.lookup (getItem_rev ht hsl pk hsz ?_) rfl
      have rv' := vals_rev rv
      have rr := repL_rev h2
      refine ⟨.ref S.heap.objs.size, upd H3 S.heap.objs.size (.tup ys.reverse), I4.laid (t' := S.toks) (fun b u q => Heap.get?_push_of_some _ q) (Nat.le_refl _) ⟨by rw [List.length_reverse]; exact hl, its.reverse, rv', ?_⟩, rfl, ?_⟩
      · have : its.toArray.toList.reverse.toArray = its.reverse.toArray := rfl
        rw [this]
        exact ⟨_, Heap.get?_push_size _ rfl, rfl, 0, rfl⟩
      · exact Fin.newT (fin.trans ex') sr' rr hn
    | lst xs =>
      cases hz
      obtain ⟨p, ys, rfl, h1, h2⟩ := th.lst sr'.core.sub
      cases (show v = Value.ref p from r1)
      obtain ⟨its, rv, ht, hl⟩ := I4.list (SqL.of h1)
      have hsz : its.toArray.size ≤ sizeLine := by rw [List.size_toArray, ← rv.length]; exact hl
      refine tail_any ht.isList.typeIs slot_list_getitem.lookup (wpAny_getItem_list_slice ht.isList hsl .none .none pk (by decide) ?_ hsz) rfl
      have rv' := vals_rev rv
      have rr := repL_rev h2
      refine ⟨.ref S.heap.objs.size, upd H3 S.heap.objs.size (.lst ys.reverse), I4.laid (t' := S.toks) (fun b u q => Heap.get?_push_of_some _ q) (Nat.le_refl _) ⟨by rw [List.length_reverse]; exact hl, its.reverse, 0, rv', ?_⟩, rfl, ?_⟩
      · rw [PySem.W.krv_pick]
        exact Heap.get?_push_size _ rfl
      · exact Fin.newL (fin.trans ex') sr' rr hn
    | _ => cases hz
end
end Mn
end
section
set_option Elab.async false
set_option linter.all false
set_option maxRecDepth 100000
/-! isinstance and fields of own exception objects, over trees. -/
namespace Mn
open PySem PySem.Spec PyProof.Rows L2
theorem ClsX.all {K : PySem.W.Frag} {x : Str} {C : Addr} (h : ClsX K x C) : (PySem.W.clsIn K C).isSome = true ∧ PySem.W.findIn K (.ref C) "__getattribute__" = some (some (.builtin "BaseException.__getattribute__")) ∧ PySem.W.findIn K (.ref C) "__getattr__" = some none ∧
    PySem.W.subIn K (.ref C) (.type "BaseException") = some true ∧ PySem.W.findIn K (.ref C) "__class__" = some (some (.builtin "object.__class__")) ∧ PySem.W.specialIn K (.builtin "object.__class__") "__get__" = some (some (.builtin "getset_descriptor.__get__")) ∧
    PySem.W.takesIn K (.builtin "object.__class__") = some true ∧ PySem.W.mroIn K C (.type "object") = some true ∧ PySem.W.hasDictIn K C = true := by
  have q := h.ok
  unfold clsXB at q
  simp only [Bool.and_eq_true, decide_eq_true_eq] at q
  exact q
theorem ClsX.kit {K : PySem.W.Frag} {x : Str} {C a : Addr} {oe : Obj} {od : Option Obj} (h : ClsX K x C) : PySem.W.KitX K (.ref a) (.ref C) (fun hp => PySem.W.InstAt hp a oe C od) := by
  obtain ⟨h1, h2, h3, h4, h5, h6, h7, h8, _⟩ := h.all
  exact PySem.W.kitx_exc h1 h2 h3 h4 h5 h6 h7 h8
section
variable {X : Cx} {pins : List (Addr × Obj)} {σ : L2.St} {H : Hp} {s : Shared}
/-- how such an object stands -/
theorem inst0 {C a : Addr} (I : Inv X pins σ H s) (h : H a = some (ExO (.ref C) a)) : ∃ oe, PySem.W.InstAt s.heap a oe C none := by
  have ok : ObjOk X.prog X.w H s.heap a (ExO (.ref C) a) := I.hok a _ h
  obtain ⟨oe, vs, e1, z, e2, _⟩ := ok.1
  obtain ⟨oc, od, oda, osl⟩ := oe
  obtain ⟨z1, z2⟩ := z
  dsimp only at z1 z2 e2
  subst z1 z2 e2
  exact ⟨_, e1, rfl, rfl, trivial⟩
theorem inst1 {C a d : Addr} {fs : List (Str × V)} (I : Inv X pins σ H s) (h : H a = some (exo a C (some d))) (hd : H d = some (exd d fs)) : ∃ oe od, PySem.W.InstAt s.heap a oe C (some od) ∧ ∀ f v, fs.lookup f = some v → ∃ u, RelV v u ∧ PySem.W.lookIn f od = some (some u) := by
  obtain ⟨t1, e1⟩ := exo_at I.hok h
  obtain ⟨mA, hns, hr⟩ := exd_at I.hok hd
  obtain ⟨od, ho, hl⟩ := lookIn_ns hns
  refine ⟨_, od, ⟨e1, rfl, rfl, ho⟩, fun f v e => ?_⟩
  obtain ⟨u, hu, ru⟩ := RelO.some_of (v := v) (o := mA f) (by rw [← e]; exact hr f)
  exact ⟨u, ru, by rw [hl, hu]⟩
theorem call_isxD : CallR X (.builtin "isinstance") (fun vs H Q => ∃ σ e m al F v w a c k, vs = [v, w] ∧ SR X.K σ H e m al F ∧ Rep X.K al F v a ∧ Rep X.K al F w c ∧ isxD a c = some k ∧ Q (.bl k) H) := by
  rintro pins s σ H vs us Q I rs ⟨τ, e, m, al, F, v, w, a, c, k, rfl, sr, ra, rc, hk, q⟩
  obtain ⟨uv, uw, rfl, r1, r2⟩ : ∃ uv uw, us = [uv, uw] ∧ RelV v uv ∧ RelV w uw := by
    cases rs with
    | cons r1 rr => cases rr with
      | cons r2 rr => cases rr; exact ⟨_, _, rfl, r1, r2⟩
  unfold isxD at hk
  split at hk
  · rename_i x r tbl
    have cv : ClsV X.K w tbl := by cases rc with | clsV h => exact h
    obtain ⟨u, hu, ht⟩ := cv
    have e2 := hu _ r2
    subst e2
    cases ra with
    | exc0 h1 h2 =>
      cases (show uv = _ from r1)
      obtain ⟨oe, J⟩ := inst0 I (sr.core.sub _ _ h2)
      exact PySem.W.kia_one h1.kit I.kIn J (ht _ _ _ hk h1.ns) (fun z => nomatch z) fun tk => ⟨.bl k, H, I.tok tk, rfl, q⟩
    | exc1 h1 h2 h3 h4 h5 =>
      cases (show uv = _ from r1)
      obtain ⟨oe, od, J, _⟩ := inst1 I (sr.core.sub _ _ h3) (sr.core.sub _ _ h4)
      exact PySem.W.kia_one h1.kit I.kIn J (ht _ _ _ hk h1.ns) (fun z => nomatch z) fun tk => ⟨.bl k, H, I.tok tk, rfl, q⟩
  · cases hk
variable {a c : Expr} {p pos : Pos}
theorem pe_isxD {f g : M D} (hg : Gl X "isinstance") (hm : X.mg "isinstance" = none) (ha : PE X a (tD X.K f)) (hc : PE X c (tD X.K g)) (hn : nice a = true) (hn2 : nice c = true) :
    PE X (.Call (.Name "isinstance" p) [a, c] [] pos) (tD X.K (f.bind fun x => g.bind fun y => M.of ((isxD x y).map .bl))) := by
  refine (pe_callB call_isxD hg hm (by decide +kernel) (pa_cons ha (pa_cons hc pa_nil (star_nice hn2 _ _)) (star_nice hn _ _)) (by decide) (by decide) (star_nice hn _ _) (back_nice (by simp [hn2]) pos X.env)).imp fun σ H Q w => ?_
  refine tG_mono (tG_bind w) fun v H1 h1 => ?_
  obtain ⟨d, e, m, al, F, sr, r, ok⟩ := h1
  refine ⟨e, m, al, F, sr, (R.Ok.bind ok).mono (fun d2 e2 m2 ok2 v2 H2 al2 F2 sr2 ex2 r2 => ?_) fun _ _ _ z => z⟩
  obtain ⟨z, hz, fin⟩ := R.Ok.of ok2
  obtain ⟨k, hk, rfl⟩ := Option.map_eq_some_iff.mp hz
  exact ⟨σ, e2, m2, al2, F2, v, v2, d, d2, k, rfl, sr2, r.mono ex2.pre ex2.le, r2, hk, fin _ _ _ _ sr2 ex2 (.bl k)⟩
theorem pe_attrD {f : M D} {n : Str} (ha : PE X a (tD X.K f)) (hb : attributeBase a n X.env (eval a X.env) = eval a X.env) : PE X (.Attribute a n pos) (tD X.K (f.bind fun x => M.of (attrD x n))) := by
  refine ⟨fun pins s σ H Q I h => attr_of hb (thn (ha.run pins s σ H _ I (tG_bind h)) fun u s1 ⟨v, H1, I1, rv, hh⟩ => ?_)⟩
  obtain ⟨d, e, m, al, F, sr, r, ok⟩ := hh
  obtain ⟨y, hy, fin⟩ := R.Ok.of ok
  unfold attrD at hy
  split at hy
  · rename_i x f' y'
    split at hy
    · rename_i ef
      subst ef
      cases hy
      cases r with
      | @exc1 _ _ _ _ _ w _ h1 h2 h3 h4 h5 =>
        cases (show u = _ from rv)
        obtain ⟨oe, od, J, l⟩ := inst1 I1 (sr.core.sub _ _ h3) (sr.core.sub _ _ h4)
        obtain ⟨u2, ru, e2⟩ := l f' w (by simp [List.lookup])
        obtain ⟨_, g2, g3, g4, _, _, _, _, g9⟩ := h1.all
        exact HandSPX.exc_get I1.kIn J g2 g3 g4 (PySem.W.findObj_own g9 h2 rfl e2) (handed_of ru) ⟨_, H1, I1.tok _, ru, Fin.val fin sr h5⟩
    · cases hy
  · cases hy
end
end Mn
end
section
set_option Elab.async false
set_option linter.all false
set_option maxRecDepth 100000
/-! The checker: an expression of the program says what a term of the small language says. -/
namespace Mn
open PySem PySem.Spec PyProof.Rows L2
structure Tab where
  N : List Str
  sc : Scope
  fns : List (Str × Nat)
  gls : List (Str × Nat)
  free : List Str
  top : Bool
/-- a block's scope within another -/
def relS (sc out : Scope) : Scope := { sc with names := sc.names.map fun (n, k) => if (k == NameKind.free && out.kind == .function && out.names.lookup n == some .cell) then (n, NameKind.cell) else (n, k) }
def Tab.at (T : Tab) (sc : Scope) : Tab := { T with sc := relS sc T.sc, top := false }
def isVis (sc : Scope) (x : Str) : Bool := match sc.names.lookup x with
  | some .local => true
  | some .cell => true
  | some .free => true
  | _ => false
def isLoc (T : Tab) (x : Str) : Bool := match T.sc.names.lookup x with
  | some .local => true
  | some .cell => T.top
  | _ => false
def isLcl (sc : Scope) (x : Str) : Bool := match sc.names.lookup x with
  | some .local => true
  | _ => false
def isGl (sc : Scope) (x : Str) : Bool := match sc.names.lookup x with
  | some .globalImplicit => true
  | _ => false
theorem isVis_ok {sc : Scope} {x : Str} (h : isVis sc x = true) : Vis sc x := by
  unfold isVis at h
  split at h
  · exact .inl (by assumption)
  · exact .inr (.inl (by assumption))
  · exact .inr (.inr (by assumption))
  · cases h
theorem isLoc_ok {T : Tab} {x : Str} (h : isLoc T x = true) : T.sc.names.lookup x = some .local ∨ (T.sc.names.lookup x = some .cell ∧ T.top = true) := by
  unfold isLoc at h
  split at h
  · exact .inl (by assumption)
  · exact .inr ⟨by assumption, h⟩
  · cases h
theorem isLcl_ok {sc : Scope} {x : Str} (h : isLcl sc x = true) : sc.names.lookup x = some .local := by
  unfold isLcl at h
  split at h
  · assumption
  · cases h
theorem isGl_ok {sc : Scope} {x : Str} (h : isGl sc x = true) : sc.names.lookup x = some .globalImplicit := by
  unfold isGl at h
  split at h
  · assumption
  · cases h
structure Cok (X : Cx) (T : Tab) (P : Pg) : Prop where
  calm : X.calm = true
  N : X.N = T.N
  nd : T.N.Nodup
  sc : X.env.scope = T.sc
  kd : X.env.scope.kind = .function
  hu : X.A.units + 66 < cLine
  gd : X.A.guards = some []
  own : PassesOwn (model X.prog X.w) X.A X.env X.xe
  free : ∀ x ∈ T.free, X.mg x = none
  fns : ∀ x n, (x, n) ∈ T.fns → ∃ np, FnC X (P.fn n) np x
  gls : ∀ x n, (x, n) ∈ T.gls → ∀ d, P.gl n = some d → ∃ v, GlV X.mg x v ∧ ∀ al F, Rep X.K al F v d
  cell : T.top = true → ∀ x, X.fn x = true
def litEq : Const → Const → Bool
  | .none, .none => true
  | .bool a, .bool b => a == b
  | .int a, .int b => decide (a = b)
  | .str a, .str b => decide (a = b)
  | _, _ => false
theorem litEq_ok : ∀ {a b : Const}, litEq a b = true → a = b
  | .none, .none, _ => rfl
  | .bool a, .bool b, h => by simp [litEq] at h; rw [h]
  | .int a, .int b, h => by simp [litEq] at h; rw [h]
  | .str a, .str b, h => by simp [litEq] at h; rw [h]
def opEq : Operator → Operator → Bool
  | .Add, .Add => true
  | .Sub, .Sub => true
  | .Mult, .Mult => true
  | .Mod, .Mod => true
  | .FloorDiv, .FloorDiv => true
  | .Pow, .Pow => true
  | _, _ => false
theorem opEq_ok {a b : Operator} (h : opEq a b = true) : a = b := by
  cases a <;> cases b <;> first | rfl | cases h
def cpEq : CmpOp → CmpOp → Bool
  | .Eq, .Eq => true
  | .NotEq, .NotEq => true
  | .Lt, .Lt => true
  | .LtE, .LtE => true
  | .Gt, .Gt => true
  | .GtE, .GtE => true
  | .Is, .Is => true
  | .IsNot, .IsNot => true
  | .In, .In => true
  | .NotIn, .NotIn => true
  | _, _ => false
theorem cpEq_ok {a b : CmpOp} (h : cpEq a b = true) : a = b := by
  cases a <;> cases b <;> first | rfl | cases h
/-- a name that is no special one -/
def okNm (x : Str) : Bool := !(x == ("__debug__" : Str)) && !(x == ("__classdict__" : Str))
def isSpr : E → Bool
  | .spr _ => true
  | _ => false
def ownOf (N : List Str) (own : List Nat) : List (Str × Nat) := own.map fun i => ((N[i]?).getD Str.empty, i)
theorem ownOf_snd (N : List Str) (own : List Nat) : (ownOf N own).map (·.2) = own := by
  unfold ownOf
  induction own with
  | nil => rfl
  | cons i r ih => rw [List.map_cons, List.map_cons, ih]
mutual
def chkTg : Tg → Tab → Expr → Bool
  | .nm i, T, e => match e with
    | .Name x _ => decide (T.N[i]? = some x) && isLoc T x
    | _ => false
  | .tp ts, T, e => match e with
    | .Tuple es _ _ => chkTgs ts T es
    | _ => false
def chkTgs : List Tg → Tab → List Expr → Bool
  | [], _, es => match es with
    | [] => true
    | _ => false
  | t :: ts, T, es => match es with
    | e :: es => nice e && chkTg t T e && chkTgs ts T es
    | _ => false
end
mutual
def chk : E → Tab → Expr → Bool
  | .lit c, _, e => match e with
    | .Constant c' _ _ => litEq c c'
    | _ => false
  | .v i, T, e => match e with
    | .Name x _ => decide (T.N[i]? = some x) && isVis T.sc x && okNm x
    | _ => false
  | .frz i, T, e => match e with
    | .Name x _ => decide (T.N[i]? = some x) && isVis T.sc x && okNm x
    | _ => false
  | .glob n, T, e => match e with
    | .Name x _ => isGl T.sc x && okNm x && T.gls.any fun p => decide (p = (x, n))
    | _ => false
  | .bin op a b, T, e => match e with
    | .BinOp ea o eb _ => opEq op.op o && chk a T ea && chk b T eb
    | _ => false
  | .neg a, T, e => match e with
    | .UnaryOp .USub ea _ => chk a T ea
    | _ => false
  | .not a, T, e => match e with
    | .UnaryOp .Not ea _ => chk a T ea
    | _ => false
  | .cmp op a b, T, e => match e with
    | .Compare ea [o] [eb] _ => cpEq op.op o && chk a T ea && chk b T eb && nice eb
    | _ => false
  | .chain op op' a b c, T, e => match e with
    | .Compare ea [o, o'] [eb, ec] _ => cpEq op.op o && cpEq op'.op o' && chk a T ea && chk b T eb && chk c T ec && nice eb && nice ec
    | _ => false
  | .and es, T, e => match e with
    | .BoolOp .And xs _ => chkB es T xs
    | _ => false
  | .or es, T, e => match e with
    | .BoolOp .Or xs _ => chkB es T xs
    | _ => false
  | .ite c a b, T, e => match e with
    | .IfExp ec ea eb _ => chkT c T ec && chk a T ea && chk b T eb
    | _ => false
  | .tup es, T, e => match e with
    | .Tuple xs _ _ => chks es T xs
    | _ => false
  | .lst es, T, e => match e with
    | .List xs _ => chks es T xs
    | _ => false
  | .mk es, T, e => match e with
    | .List xs _ => chks es T xs
    | _ => false
  | .mkd _, _, e => match e with
    | .Dict [] [] _ => true
    | _ => false
  | .dic0, _, e => match e with
    | .Dict [] [] _ => true
    | _ => false
  | .dic1 a b, T, e => match e with
    | .Dict [some ea] [eb] _ => chk a T ea && chk b T eb
    | _ => false
  | .mkl a, T, e => match e with
    | .Call (.Name x _) [ea] [] _ => decide (x = ("list" : Str)) && isGl T.sc x && (T.free.any fun y => decide (y = x)) && chk a T ea && nice ea
    | _ => false
  | .srt a, T, e => match e with
    | .Call (.Name x _) [.Call (.Name y _) [ea] [] _] [] _ => decide (x = ("sorted" : Str)) && decide (y = ("set" : Str)) && isGl T.sc x && isGl T.sc y && (T.free.any fun z => decide (z = x)) && (T.free.any fun z => decide (z = y)) && chk a T ea && nice ea
    | _ => false
  | .idx a i, T, e => match e with
    | .Subscript ea ei _ => chk a T ea && chk i T ei && nice ei
    | _ => false
  | .slc a lo hi, T, e => match e with
    | .Subscript ea (.Slice lo' hi' none _) _ => chk a T ea && chkO lo T lo' && chkO hi T hi'
    | _ => false
  | .rev a, T, e => match e with
    | .Subscript ea (.Slice none none (some (.UnaryOp .USub (.Constant (.int 1) _ _) _)) _) _ => chk a T ea
    | _ => false
  | .bi b es, T, e => match e with
    | .Call (.Name x _) (ea :: eas) [] _ => decide (x = b.nm) && isGl T.sc x && (T.free.any fun y => decide (y = x)) && chks es T (ea :: eas) && (ea :: eas).all nice
    | _ => false
  | .isx a c, T, e => match e with
    | .Call (.Name f _) [ea, ec] [] _ => decide (f = ("isinstance" : Str)) && isGl T.sc f && (T.free.any fun y => decide (y = f)) && chk a T ea && chk c T ec && nice ea && nice ec
    | _ => false
  | .attr a f, T, e => match e with
    | .Attribute (.Name y p) g _ => decide (g = f) && chk a T (.Name y p)
    | _ => false
  | .isi a t, T, e => match e with
    | .Call (.Name f _) [ea, .Name x _] [] _ => decide (f = ("isinstance" : Str)) && decide (x = t.nm) && isGl T.sc f && isGl T.sc x && (T.free.any fun y => decide (y = f)) && (T.free.any fun y => decide (y = x)) && chk a T ea && nice ea
    | _ => false
  | .fn n es, T, e => match e with
    | .Call (.Name x _) eas [] _ => isGl T.sc x && okNm x && (T.fns.any fun p => decide (p = (x, n))) && chks es T eas && eas.all nice
    | _ => false
  | .me m o es, T, e => match e with
    | .Call (.Attribute eo nm ap) (ea :: eas) [] pos => decide (nm = m.nm) && chk o T eo && noCall eo && chks es T (ea :: eas) && (ea :: eas).all nice && decide ((ea :: eas).length < 30) && (ap.endLine == pos.line)
    | _ => false
  | .lc own tg it ifs elt, T, e => match e with
    | .ListComp eelt [⟨etg, eit, eifs, 0⟩] sc _ => blkC T.N T.sc sc (ownOf T.N own) && chkI it T etg eit && chkTg tg (T.at sc) etg && chkF ifs (T.at sc) eifs && chk elt (T.at sc) eelt && nice eit && (Tg.slots tg).all fun i => decide (i ∈ own)
    | _ => false
  | _, _, _ => false
def chks : List E → Tab → List Expr → Bool
  | [], _, es => match es with
    | [] => true
    | _ => false
  | .spr a :: r, T, es => match es with
    | .Starred e _ :: es => chk a T e && chks r T es
    | _ => false
  | a :: r, T, es => match es with
    | e :: es => nice e && chk a T e && chks r T es
    | _ => false
def chkB : List E → Tab → List Expr → Bool
  | [], _, _ => false
  | a :: r, T, es => match es with
    | e :: es => chk a T e && (if r.isEmpty = true then es.isEmpty else chkB r T es)
    | _ => false
def chkO : List E → Tab → Option Expr → Bool
  | [], _, o => match o with
    | none => true
    | _ => false
  | a :: r, T, o => match o with
    | some e => chk a T e && r.isEmpty && !isSpr a
    | _ => false
def chkT : E → Tab → Expr → Bool
  | .not a, T, e => match e with
    | .UnaryOp .Not ea _ => chkT a T ea
    | _ => false
  | .and es, T, e => match e with
    | .BoolOp .And xs _ => chkTB es T xs
    | _ => false
  | .or es, T, e => match e with
    | .BoolOp .Or xs _ => chkTB es T xs
    | _ => false
  | .cmp op a b, T, e => match e with
    | .Compare ea [o] [eb] _ => cpEq op.op o && chk a T ea && chk b T eb && nice eb
    | _ => false
  | .chain op op' a b c, T, e => match e with
    | .Compare ea [o, o'] [eb, ec] _ => cpEq op.op o && cpEq op'.op o' && chk a T ea && chk b T eb && chk c T ec && nice eb && nice ec
    | _ => false
  | .tr a, T, e => chk a T e && tst e
  | _, _, _ => false
def chkTB : List E → Tab → List Expr → Bool
  | [], _, _ => false
  | a :: r, T, es => match es with
    | e :: es => chkT a T e && (if r.isEmpty = true then es.isEmpty else chkTB r T es)
    | _ => false
def chkF : List E → Tab → List Expr → Bool
  | [], _, es => match es with
    | [] => true
    | _ => false
  | a :: r, T, es => match es with
    | [e] => chkT a T e && r.isEmpty
    | _ => false
def chkI : E → Tab → Expr → Expr → Bool
  | .rng1 a, T, _, e => match e with
    | .Call (.Name x _) [ea] [] _ => decide (x = ("range" : Str)) && isGl T.sc x && (T.free.any fun y => decide (y = x)) && chk a T ea && nice ea
    | _ => false
  | .rng2 a b, T, _, e => match e with
    | .Call (.Name x _) [ea, eb] [] _ => decide (x = ("range" : Str)) && isGl T.sc x && (T.free.any fun y => decide (y = x)) && chk a T ea && nice ea && chk b T eb && nice eb
    | _ => false
  | .it a, T, _, e => chk a T e
  | .enum a, T, tg, e => match tg, e with
    | .Tuple _ _ _, .Call (.Name x _) [ea] [] _ => decide (x = ("enumerate" : Str)) && isGl T.sc x && (T.free.any fun y => decide (y = x)) && chk a T ea && nice ea
    | _, _ => false
  | .zip a b _, T, tg, e => match tg, e with
    | .Tuple _ _ _, .Call (.Name x _) [ea, eb] [] _ => decide (x = ("zip" : Str)) && isGl T.sc x && (T.free.any fun y => decide (y = x)) && chk a T ea && nice ea && chk b T eb && nice eb
    | _, _ => false
  | _, _, _, _ => false
end
end Mn
end
section
set_option Elab.async false
set_option linter.all false
set_option maxRecDepth 100000
set_option maxHeartbeats 1000000
/-! The main theorem: what the checker passes, the small language says. -/
namespace Mn
open PySem PySem.Spec PyProof.Rows L2
theorem Cok.gl {X : Cx} {T : Tab} {P : Pg} (C : Cok X T P) {x : Str} (h : isGl T.sc x = true) : Gl X x := by
  have := isGl_ok h
  rw [← C.sc] at this
  exact this
theorem Cok.fr {X : Cx} {T : Tab} {P : Pg} (C : Cok X T P) {x : Str} (h : (T.free.any fun y => decide (y = x)) = true) : X.mg x = none := by
  obtain ⟨y, hy, e⟩ := List.any_eq_true.mp h
  have e := of_decide_eq_true e
  subst e
  exact C.free _ hy
theorem okNm_ok {x : Str} (h : okNm x = true) : (x == ("__debug__" : Str)) = false ∧ (x == ("__classdict__" : Str)) = false := by
  unfold okNm at h
  rw [Bool.and_eq_true, Bool.not_eq_true', Bool.not_eq_true'] at h
  exact h
theorem Cok.blk {X : Cx} {T : Tab} {P : Pg} (C : Cok X T P) {sc : Scope} {own : List (Str × Nat)} (hb : BlkOk X.N X.env.scope sc own) (s : Shared) (H : Hp) (A : Addr) (cl : List (Str × Addr)) (fp : List Addr) : Cok (X.blk s H sc (compEnvC sc cl A X.env) fp) (T.at sc) P where
  calm := C.calm
  N := C.N
  nd := C.nd
  sc := by
    show relabel sc X.env = relS sc T.sc
    unfold relS
    rw [← C.sc]
    rfl
  kd := hb.kind
  hu := C.hu
  gd := C.gd
  own := PassesOwn.never
  free := C.free
  fns := fun x n h => let ⟨np, F⟩ := C.fns x n h; ⟨np, ⟨F.len, F.gd, F.ex⟩⟩
  gls := C.gls
  cell := fun h => nomatch h
section
variable {P : Pg}
mutual
theorem tg_ok : ∀ (t : Tg) {T : Tab} {X : Cx} {e : Expr}, Cok X T P → chkTg t T e = true → PG X e (gD X.K t)
  | .nm i, T, X, e, C, h => by
    unfold chkTg at h
    split at h
    · rename_i x p
      rw [Bool.and_eq_true, decide_eq_true_eq] at h
      have hl := isLoc_ok h.2
      have hf : X.fn x = true ∨ X.env.scope.names.lookup x = some .local := by
        rcases hl with q | q
        · exact .inr (by rw [C.sc]; exact q)
        · exact .inl (C.cell q.2 x)
      have hl2 : Loc X.env.scope x := by
        rw [C.sc]
        rcases hl with q | q
        · exact .inl q
        · exact .inr q.1
      exact pg_nmD (C.N ▸ C.nd) (C.N ▸ h.1) hl2 hf
    · cases h
  | .tp ts, T, X, e, C, h => by
    unfold chkTg at h
    split at h
    · obtain ⟨g, hn, hl⟩ := tgs_ok ts C h
      exact pg_tpD C.calm g hn hl
    · cases h
theorem tgs_ok : ∀ (ts : List Tg) {T : Tab} {X : Cx} {es : List Expr}, Cok X T P → chkTgs ts T es = true → PGs X es (gDs X.K ts) ∧ es.all nice = true ∧ es.length = ts.length
  | [], T, X, es, C, h => by
    unfold chkTgs at h
    split at h
    · exact ⟨pgs_nilD, rfl, rfl⟩
    · cases h
  | t :: ts, T, X, es, C, h => by
    unfold chkTgs at h
    split at h
    · rw [Bool.and_eq_true, Bool.and_eq_true] at h
      obtain ⟨g, hn, hl⟩ := tgs_ok ts C h.2
      exact ⟨pgs_consD (tg_ok t C h.1.2) g h.1.1, by rw [List.all_cons, h.1.1, hn]; rfl, by rw [List.length_cons, List.length_cons, hl]⟩
    · cases h
end
theorem evs_cons {a : E} (h : isSpr a = false) (r : List E) : evs P (a :: r) = (ev P a).bind fun d => (evs P r).bind fun ds => M.ret (d :: ds) := by
  cases a <;> first | rfl | cases h
theorem chks_cons {a : E} (h : isSpr a = false) (r : List E) (T : Tab) (es : List Expr) : chks (a :: r) T es = (match es with
    | e :: es => nice e && chk a T e && chks r T es
    | _ => false) := by
  cases a <;> first | rfl | cases h
mutual
theorem pe_ok : ∀ (ir : E) {T : Tab} {X : Cx} {e : Expr}, Cok X T P → chk ir T e = true → PE X e (tD X.K (ev P ir))
  | .lit c, T, X, e, C, h => by
    unfold chk at h
    split at h
    · have q := litEq_ok h
      subst q
      exact pe_litD c
    · cases h
  | .v i, T, X, e, C, h => by
    unfold chk at h
    split at h
    · rw [Bool.and_eq_true, Bool.and_eq_true, decide_eq_true_eq] at h
      exact pe_varD (C.N ▸ h.1.1) (by rw [C.sc]; exact isVis_ok h.1.2) (okNm_ok h.2).1 (okNm_ok h.2).2
    · cases h
  | .frz i, T, X, e, C, h => by
    unfold chk at h
    split at h
    · rw [Bool.and_eq_true, Bool.and_eq_true, decide_eq_true_eq] at h
      exact pe_frzD (C.N ▸ h.1.1) (by rw [C.sc]; exact isVis_ok h.1.2) (okNm_ok h.2).1 (okNm_ok h.2).2
    · cases h
  | .glob n, T, X, e, C, h => by
    unfold chk at h
    split at h
    · rename_i x p
      rw [Bool.and_eq_true, Bool.and_eq_true] at h
      obtain ⟨q, hq, eq⟩ := List.any_eq_true.mp h.2
      have eq := of_decide_eq_true eq
      subst eq
      refine ⟨fun pins s σ H Q I w => ?_⟩
      obtain ⟨e, m, al, F, sr, ok⟩ := w
      obtain ⟨d, hd, fin⟩ := R.Ok.of ok
      obtain ⟨v, gv, rep⟩ := C.gls _ _ hq d hd
      rcases gv with ⟨u, hm, r⟩ | ⟨hm, hne, u, hb, r⟩
      · exact (pe_glob (C.gl h.1.1) hm r (okNm_ok h.1.2).1).run pins s σ H Q I (Fin.val fin sr (rep _ _))
      · exact (pe_bltn (C.gl h.1.1) hm hb r hne (okNm_ok h.1.2).1).run pins s σ H Q I (Fin.val fin sr (rep _ _))
    · cases h
  | .bin op a b, T, X, e, C, h => by
    unfold chk at h
    split at h
    · rw [Bool.and_eq_true, Bool.and_eq_true] at h
      have q := opEq_ok h.1.1
      subst q
      exact pe_binD op (pe_ok a C h.1.2) (pe_ok b C h.2)
    · cases h
  | .neg a, T, X, e, C, h => by
    unfold chk at h
    split at h
    · exact pe_negD (pe_ok a C h)
    · cases h
  | .not a, T, X, e, C, h => by
    unfold chk at h
    split at h
    · exact pe_notD (pe_ok a C h)
    · cases h
  | .cmp op a b, T, X, e, C, h => by
    unfold chk at h
    split at h
    · simp only [Bool.and_eq_true] at h
      have q := cpEq_ok h.1.1.1
      subst q
      exact pe_cmpDD (by have := C.hu; omega) op (pe_ok a C h.1.1.2) (pe_ok b C h.1.2) h.2
    · cases h
  | .chain op op' a b c, T, X, e, C, h => by
    unfold chk at h
    split at h
    · simp only [Bool.and_eq_true] at h
      obtain ⟨⟨⟨⟨⟨⟨h1, h2⟩, h3⟩, h4⟩, h5⟩, h6⟩, h7⟩ := h
      have q := cpEq_ok h1
      have q2 := cpEq_ok h2
      subst q q2
      exact pe_chainD (by have := C.hu; omega) op op' (pe_ok a C h3) (pe_ok b C h4) (pe_ok c C h5) h6 h7
    · cases h
  | .and es, T, X, e, C, h => by
    unfold chk at h
    split at h
    · exact and_ok es C h
    · cases h
  | .or es, T, X, e, C, h => by
    unfold chk at h
    split at h
    · exact or_ok es C h
    · cases h
  | .ite c a b, T, X, e, C, h => by
    unfold chk at h
    split at h
    · simp only [Bool.and_eq_true] at h
      exact pe_iteD (pt_ok c C h.1.1) (pe_ok a C h.1.2) (pe_ok b C h.2)
    · cases h
  | .tup es, T, X, e, C, h => by
    unfold chk at h
    split at h
    · exact pe_tupD (pa_ok es C h)
    · cases h
  | .lst es, T, X, e, C, h => by
    unfold chk at h
    split at h
    · exact pe_lstD (pa_ok es C h)
    · cases h
  | .mk es, T, X, e, C, h => by
    unfold chk at h
    split at h
    · exact pe_mkD (pa_ok es C h)
    · cases h
  | .idx a i, T, X, e, C, h => by
    unfold chk at h
    split at h
    · simp only [Bool.and_eq_true] at h
      exact pe_idxD (by have := C.hu; omega) (pe_ok a C h.1.1) (pe_ok i C h.1.2) h.2
    · cases h
  | .rev a, T, X, e, C, h => by
    unfold chk at h
    split at h
    · exact pe_revD (pe_ok a C h) (pe_negD (pe_litD (.int 1)))
    · cases h
  | .slc a lo hi, T, X, e, C, h => by
    unfold chk at h
    split at h
    · simp only [Bool.and_eq_true] at h
      exact pe_slcD (pe_ok a C h.1.1) (po_ok lo C h.1.2) (po_ok hi C h.2)
    · cases h
  | .bi b es, T, X, e, C, h => by
    unfold chk at h
    split at h
    · simp only [Bool.and_eq_true, decide_eq_true_eq] at h
      obtain ⟨⟨⟨⟨h1, h2⟩, h3⟩, h4⟩, h5⟩ := h
      subst h1
      exact pe_biD C.calm C.hu C.gd b (C.gl h2) (C.fr h3) (pa_ok es C h4) h5
    · cases h
  | .isx a c, T, X, e, C, h => by
    unfold chk at h
    split at h
    · simp only [Bool.and_eq_true, decide_eq_true_eq] at h
      obtain ⟨⟨⟨⟨⟨⟨h1, h2⟩, h3⟩, h4⟩, h5⟩, h6⟩, h7⟩ := h
      subst h1
      exact pe_isxD (C.gl h2) (C.fr h3) (pe_ok a C h4) (pe_ok c C h5) h6 h7
    · cases h
  | .attr a f, T, X, e, C, h => by
    unfold chk at h
    split at h
    · simp only [Bool.and_eq_true, decide_eq_true_eq] at h
      obtain ⟨h1, h2⟩ := h
      subst h1
      exact pe_attrD (pe_ok a C h2) rfl
    · cases h
  | .isi a t, T, X, e, C, h => by
    unfold chk at h
    split at h
    · simp only [Bool.and_eq_true, decide_eq_true_eq] at h
      obtain ⟨⟨⟨⟨⟨⟨⟨h1, h2⟩, h3⟩, h4⟩, h5⟩, h6⟩, h7⟩, h8⟩ := h
      subst h1 h2
      exact pe_isiD t (C.gl h3) (C.fr h5) (C.gl h4) (C.fr h6) (pe_ok a C h7) h8
    · cases h
  | .fn n es, T, X, e, C, h => by
    unfold chk at h
    split at h
    · rename_i x p eas pos
      simp only [Bool.and_eq_true] at h
      obtain ⟨⟨⟨⟨h1, h2⟩, h3⟩, h4⟩, h5⟩ := h
      obtain ⟨q, hq, eq⟩ := List.any_eq_true.mp h3
      have eq := of_decide_eq_true eq
      subst eq
      obtain ⟨np, F⟩ := C.fns _ _ hq
      have pa := pa_ok es C h4
      cases eas with
      | nil =>
        cases es with
        | nil => exact pe_fn0D F (C.gl h1) (okNm_ok h2).1
        | cons a r =>
          exfalso
          cases a <;> cases h4
      | cons a r => exact pe_fnD F (C.gl h1) (okNm_ok h2).1 pa h5
    · cases h
  | .me m o es, T, X, e, C, h => by
    unfold chk at h
    split at h
    · simp only [Bool.and_eq_true, decide_eq_true_eq] at h
      obtain ⟨⟨⟨⟨⟨⟨h1, h2⟩, h3⟩, h4⟩, h5⟩, h6⟩, h7⟩ := h
      subst h1
      exact pe_meD C.hu m (pe_ok o C h2) (pa_ok es C h4) h5 h6 h3 h7
    · cases h
  | .lc own tg it ifs elt, T, X, e, C, h => by
    unfold chk at h
    split at h
    · simp only [Bool.and_eq_true] at h
      obtain ⟨⟨⟨⟨⟨⟨h1, h2⟩, h3⟩, h4⟩, h5⟩, h6⟩, h7⟩ := h
      rename_i eelt etg eit eifs sc pos
      have hb : BlkOk X.N X.env.scope sc (ownOf T.N own) := by
        have := blkOk_by h1
        rw [C.N, C.sc]
        exact this
      have key := pe_lcD (pos := pos) (elt := eelt) C.calm (C.N ▸ C.nd) (pi_ok it C h2) hb (fun s H A cl fp => tg_ok tg (C.blk hb s H A cl fp) h3) (fun s H A cl fp => pf_ok ifs (C.blk hb s H A cl fp) h4)
        (fun s H A cl fp => pe_ok elt (C.blk hb s H A cl fp) h5) h6 (by
          rw [ownOf_snd]
          exact fun i hi => of_decide_eq_true (List.all_eq_true.mp h7 i hi))
      rw [ownOf_snd] at key
      exact key
    · cases h
  | .dic0, T, X, e, C, h => by
    unfold chk at h
    split at h
    · exact pe_dic0D
    · cases h
  | .mkd t, T, X, e, C, h => by
    unfold chk at h
    split at h
    · exact pe_mkdD t
    · cases h
  | .mkl a, T, X, e, C, h => by
    unfold chk at h
    split at h
    · simp only [Bool.and_eq_true, decide_eq_true_eq] at h
      obtain ⟨⟨⟨⟨h1, h2⟩, h3⟩, h4⟩, h5⟩ := h
      subst h1
      exact pe_mklD C.calm (C.gl h2) (C.fr h3) (pe_ok a C h4) h5
    · cases h
  | .srt a, T, X, e, C, h => by
    unfold chk at h
    split at h
    · simp only [Bool.and_eq_true, decide_eq_true_eq] at h
      obtain ⟨⟨⟨⟨⟨⟨⟨h1, h2⟩, h3⟩, h4⟩, h5⟩, h6⟩, h7⟩, h8⟩ := h
      subst h1 h2
      exact pe_srtD C.calm C.hu (C.gl h3) (C.fr h5) (C.gl h4) (C.fr h6) (pe_ok a C h7) h8
    · cases h
  | .spr _, _, _, _, _, h => by cases h
  | .dic1 a b, T, X, e, C, h => by
    unfold chk at h
    split at h
    · rw [Bool.and_eq_true] at h
      exact pe_dic1D (pe_ok a C h.1) (pe_ok b C h.2)
    · cases h
  | .tr _, _, _, _, _, h => by cases h
  | .lc2 _ _ _ _ _ _ _ _ _, _, _, _, _, h => by cases h
  | .it _, _, _, _, _, h => by cases h
  | .rng1 _, _, _, _, _, h => by cases h
  | .rng2 _ _, _, _, _, _, h => by cases h
  | .enum _, _, _, _, _, h => by cases h
  | .zip _ _ _, _, _, _, _, h => by cases h
theorem pa_ok : ∀ (irs : List E) {T : Tab} {X : Cx} {es : List Expr}, Cok X T P → chks irs T es = true → PA X es (tDs X.K (evs P irs))
  | [], T, X, es, C, h => by
    unfold chks at h
    split at h
    · exact pa_nilD
    · cases h
  | a :: r, T, X, es, C, h => by
    by_cases q : isSpr a = false
    · rw [chks_cons q] at h
      rw [evs_cons q]
      split at h
      · simp only [Bool.and_eq_true] at h
        exact pa_consD (pe_ok a C h.1.2) (pa_ok r C h.2) h.1.1
      · cases h
    · match a, q, h with
      | .spr b, _, h =>
        unfold chks at h
        split at h
        · rw [Bool.and_eq_true] at h
          exact pa_sprD (pe_ok b C h.1) (pa_ok r C h.2)
        · cases h
      | .lit _, q, _ => exact absurd rfl q
      | .v _, q, _ => exact absurd rfl q
      | .frz _, q, _ => exact absurd rfl q
      | .glob _, q, _ => exact absurd rfl q
      | .bin _ _ _, q, _ => exact absurd rfl q
      | .neg _, q, _ => exact absurd rfl q
      | .not _, q, _ => exact absurd rfl q
      | .cmp _ _ _, q, _ => exact absurd rfl q
      | .chain _ _ _ _ _, q, _ => exact absurd rfl q
      | .and _, q, _ => exact absurd rfl q
      | .or _, q, _ => exact absurd rfl q
      | .tr _, q, _ => exact absurd rfl q
      | .ite _ _ _, q, _ => exact absurd rfl q
      | .tup _, q, _ => exact absurd rfl q
      | .lst _, q, _ => exact absurd rfl q
      | .mk _, q, _ => exact absurd rfl q
      | .dic1 _ _, q, _ => exact absurd rfl q
      | .dic0, q, _ => exact absurd rfl q
      | .mkl _, q, _ => exact absurd rfl q
      | .srt _, q, _ => exact absurd rfl q
      | .mkd _, q, _ => exact absurd rfl q
      | .idx _ _, q, _ => exact absurd rfl q
      | .slc _ _ _, q, _ => exact absurd rfl q
      | .rev _, q, _ => exact absurd rfl q
      | .bi _ _, q, _ => exact absurd rfl q
      | .isi _ _, q, _ => exact absurd rfl q
      | .isx _ _, q, _ => exact absurd rfl q
      | .attr _ _, q, _ => exact absurd rfl q
      | .fn _ _, q, _ => exact absurd rfl q
      | .me _ _ _, q, _ => exact absurd rfl q
      | .lc _ _ _ _ _, q, _ => exact absurd rfl q
      | .lc2 _ _ _ _ _ _ _ _ _, q, _ => exact absurd rfl q
      | .it _, q, _ => exact absurd rfl q
      | .rng1 _, q, _ => exact absurd rfl q
      | .rng2 _ _, q, _ => exact absurd rfl q
      | .enum _, q, _ => exact absurd rfl q
      | .zip _ _ _, q, _ => exact absurd rfl q
theorem and_ok : ∀ (irs : List E) {T : Tab} {X : Cx} {es : List Expr} {pos : Pos}, Cok X T P → chkB irs T es = true → PE X (.BoolOp .And es pos) (tD X.K (evAnd P irs))
  | [], T, X, es, _, C, h => by cases h
  | a :: r, T, X, es, _, C, h => by
    unfold chkB at h
    split at h
    · rename_i e es'
      rw [Bool.and_eq_true] at h
      cases r with
      | nil =>
        have h2 := h.2
        simp only [List.isEmpty_nil, if_true] at h2
        cases es' with
        | nil => exact pe_one1 (pe_ok a C h.1)
        | cons _ _ => cases h2
      | cons b r =>
        have h2 := h.2
        simp only [List.isEmpty_cons, Bool.false_eq_true, if_false] at h2
        cases es' with
        | nil => cases h2
        | cons e2 es2 => exact pe_andD (pe_ok a C h.1) (and_ok (b :: r) C h2)
    · cases h
theorem or_ok : ∀ (irs : List E) {T : Tab} {X : Cx} {es : List Expr} {pos : Pos}, Cok X T P → chkB irs T es = true → PE X (.BoolOp .Or es pos) (tD X.K (evOr P irs))
  | [], T, X, es, _, C, h => by cases h
  | a :: r, T, X, es, _, C, h => by
    unfold chkB at h
    split at h
    · rename_i e es'
      rw [Bool.and_eq_true] at h
      cases r with
      | nil =>
        have h2 := h.2
        simp only [List.isEmpty_nil, if_true] at h2
        cases es' with
        | nil => exact pe_one1 (pe_ok a C h.1)
        | cons _ _ => cases h2
      | cons b r =>
        have h2 := h.2
        simp only [List.isEmpty_cons, Bool.false_eq_true, if_false] at h2
        cases es' with
        | nil => cases h2
        | cons e2 es2 => exact pe_orD (pe_ok a C h.1) (or_ok (b :: r) C h2)
    · cases h
theorem po_ok : ∀ (irs : List E) {T : Tab} {X : Cx} {o : Option Expr}, Cok X T P → chkO irs T o = true → POD X o (evs P irs)
  | [], T, X, o, C, h => by
    unfold chkO at h
    split at h
    · exact .none
    · cases h
  | a :: r, T, X, o, C, h => by
    unfold chkO at h
    split at h
    · simp only [Bool.and_eq_true, Bool.not_eq_true'] at h
      cases r with
      | nil =>
        rw [evs_cons h.2]
        exact .some (pe_ok a C h.1.1)
      | cons b r => exact absurd h.1.2 (by simp)
    · cases h
theorem pt_ok : ∀ (ir : E) {T : Tab} {X : Cx} {e : Expr}, Cok X T P → chkT ir T e = true → PT X e (tDT X.K (evT P ir))
  | .not a, T, X, e, C, h => by
    unfold chkT at h
    split at h
    · exact pt_notD (pt_ok a C h)
    · cases h
  | .and es, T, X, e, C, h => by
    unfold chkT at h
    split at h
    · exact (tand_ok es C h).pt
    · cases h
  | .or es, T, X, e, C, h => by
    unfold chkT at h
    split at h
    · exact (tor_ok es C h).pt
    · cases h
  | .cmp op a b, T, X, e, C, h => by
    unfold chkT at h
    split at h
    · simp only [Bool.and_eq_true] at h
      have q := cpEq_ok h.1.1.1
      subst q
      exact pt_cmpDD (by have := C.hu; omega) op (pe_ok a C h.1.1.2) (pe_ok b C h.1.2) h.2
    · cases h
  | .chain op op' a b c, T, X, e, C, h => by
    unfold chkT at h
    split at h
    · simp only [Bool.and_eq_true] at h
      obtain ⟨⟨⟨⟨⟨⟨h1, h2⟩, h3⟩, h4⟩, h5⟩, h6⟩, h7⟩ := h
      have q := cpEq_ok h1
      have q2 := cpEq_ok h2
      subst q q2
      exact pt_chainD (by have := C.hu; omega) op op' (pe_ok a C h3) (pe_ok b C h4) (pe_ok c C h5) h6 h7
    · cases h
  | .tr a, T, X, e, C, h => by
    unfold chkT at h
    rw [Bool.and_eq_true] at h
    exact pt_trD (pe_ok a C h.1) h.2
  | .lit _, _, _, _, _, h => by cases h
  | .v _, _, _, _, _, h => by cases h
  | .frz _, _, _, _, _, h => by cases h
  | .glob _, _, _, _, _, h => by cases h
  | .bin _ _ _, _, _, _, _, h => by cases h
  | .neg _, _, _, _, _, h => by cases h
  | .ite _ _ _, _, _, _, _, h => by cases h
  | .tup _, _, _, _, _, h => by cases h
  | .lst _, _, _, _, _, h => by cases h
  | .mk _, _, _, _, _, h => by cases h
  | .spr _, _, _, _, _, h => by cases h
  | .dic1 _ _, _, _, _, _, h => by cases h
  | .dic0, _, _, _, _, h => by cases h
  | .mkl _, _, _, _, _, h => by cases h
  | .srt _, _, _, _, _, h => by cases h
  | .mkd _, _, _, _, _, h => by cases h
  | .idx _ _, _, _, _, _, h => by cases h
  | .slc _ _ _, _, _, _, _, h => by cases h
  | .rev _, _, _, _, _, h => by cases h
  | .bi _ _, _, _, _, _, h => by cases h
  | .isi _ _, _, _, _, _, h => by cases h
  | .isx _ _, _, _, _, _, h => by cases h
  | .attr _ _, _, _, _, _, h => by cases h
  | .fn _ _, _, _, _, _, h => by cases h
  | .me _ _ _, _, _, _, _, h => by cases h
  | .lc _ _ _ _ _, _, _, _, _, h => by cases h
  | .lc2 _ _ _ _ _ _ _ _ _, _, _, _, _, h => by cases h
  | .it _, _, _, _, _, h => by cases h
  | .rng1 _, _, _, _, _, h => by cases h
  | .rng2 _ _, _, _, _, _, h => by cases h
  | .enum _, _, _, _, _, h => by cases h
  | .zip _ _ _, _, _, _, _, h => by cases h
theorem tand_ok : ∀ (irs : List E) {T : Tab} {X : Cx} {es : List Expr} {pos : Pos}, Cok X T P → chkTB irs T es = true → PW X (.BoolOp .And es pos) (tDT X.K (evAndT P irs))
  | [], T, X, es, _, C, h => by cases h
  | a :: r, T, X, es, _, C, h => by
    unfold chkTB at h
    split at h
    · rename_i e es'
      rw [Bool.and_eq_true] at h
      cases r with
      | nil =>
        have h2 := h.2
        simp only [List.isEmpty_nil, if_true] at h2
        cases es' with
        | nil => exact pw_and1D (pt_ok a C h.1)
        | cons _ _ => cases h2
      | cons b r =>
        have h2 := h.2
        simp only [List.isEmpty_cons, Bool.false_eq_true, if_false] at h2
        cases es' with
        | nil => cases h2
        | cons e2 es2 => exact pw_andD (pt_ok a C h.1) (tand_ok (b :: r) C h2)
    · cases h
theorem tor_ok : ∀ (irs : List E) {T : Tab} {X : Cx} {es : List Expr} {pos : Pos}, Cok X T P → chkTB irs T es = true → PW X (.BoolOp .Or es pos) (tDT X.K (evOrT P irs))
  | [], T, X, es, _, C, h => by cases h
  | a :: r, T, X, es, _, C, h => by
    unfold chkTB at h
    split at h
    · rename_i e es'
      rw [Bool.and_eq_true] at h
      cases r with
      | nil =>
        have h2 := h.2
        simp only [List.isEmpty_nil, if_true] at h2
        cases es' with
        | nil => exact pw_or1D (pt_ok a C h.1)
        | cons _ _ => cases h2
      | cons b r =>
        have h2 := h.2
        simp only [List.isEmpty_cons, Bool.false_eq_true, if_false] at h2
        cases es' with
        | nil => cases h2
        | cons e2 es2 => exact pw_orD (pt_ok a C h.1) (tor_ok (b :: r) C h2)
    · cases h
theorem pf_ok : ∀ (irs : List E) {T : Tab} {X : Cx} {es : List Expr}, Cok X T P → chkF irs T es = true → PTs X es (tDT X.K (evAndT P irs))
  | [], T, X, es, C, h => by
    unfold chkF at h
    split at h
    · exact pts_nilD
    · cases h
  | a :: r, T, X, es, C, h => by
    unfold chkF at h
    split at h
    · rw [Bool.and_eq_true] at h
      cases r with
      | nil => exact pts_oneD (pt_ok a C h.1)
      | cons b r => exact absurd h.2 (by simp)
    · cases h
theorem pi_ok : ∀ (ir : E) {T : Tab} {X : Cx} {tg e : Expr}, Cok X T P → chkI ir T tg e = true → PI X tg e (tIt X.K (its P ir))
  | .rng1 a, T, X, tg, e, C, h => by
    unfold chkI at h
    split at h
    · simp only [Bool.and_eq_true, decide_eq_true_eq] at h
      obtain ⟨⟨⟨⟨h1, h2⟩, h3⟩, h4⟩, h5⟩ := h
      subst h1
      exact pi_rng1D (C.gl h2) (C.fr h3) (pe_ok a C h4) h5
    · cases h
  | .rng2 a b, T, X, tg, e, C, h => by
    unfold chkI at h
    split at h
    · simp only [Bool.and_eq_true, decide_eq_true_eq] at h
      obtain ⟨⟨⟨⟨⟨⟨h1, h2⟩, h3⟩, h4⟩, h5⟩, h6⟩, h7⟩ := h
      subst h1
      exact pi_rng2D (C.gl h2) (C.fr h3) (pe_ok a C h4) (pe_ok b C h6) h5 h7
    · cases h
  | .it a, T, X, tg, e, C, h => by
    unfold chkI at h
    exact pi_itD (pe_ok a C h)
  | .enum a, T, X, tg, e, C, h => by
    unfold chkI at h
    split at h
    · simp only [Bool.and_eq_true, decide_eq_true_eq] at h
      obtain ⟨⟨⟨⟨h1, h2⟩, h3⟩, h4⟩, h5⟩ := h
      subst h1
      exact pi_enumD (C.gl h2) (C.fr h3) (pe_ok a C h4) h5
    · cases h
  | .zip a b s, T, X, tg, e, C, h => by
    unfold chkI at h
    split at h
    · simp only [Bool.and_eq_true, decide_eq_true_eq] at h
      obtain ⟨⟨⟨⟨⟨⟨h1, h2⟩, h3⟩, h4⟩, h5⟩, h6⟩, h7⟩ := h
      subst h1
      exact pi_zipD s (C.gl h2) (C.fr h3) (pe_ok a C h4) (pe_ok b C h6) h5 h7
    · cases h
  | .lit _, _, _, _, _, _, h => by cases h
  | .v _, _, _, _, _, _, h => by cases h
  | .frz _, _, _, _, _, _, h => by cases h
  | .glob _, _, _, _, _, _, h => by cases h
  | .bin _ _ _, _, _, _, _, _, h => by cases h
  | .neg _, _, _, _, _, _, h => by cases h
  | .not _, _, _, _, _, _, h => by cases h
  | .cmp _ _ _, _, _, _, _, _, h => by cases h
  | .chain _ _ _ _ _, _, _, _, _, _, h => by cases h
  | .and _, _, _, _, _, _, h => by cases h
  | .or _, _, _, _, _, _, h => by cases h
  | .tr _, _, _, _, _, _, h => by cases h
  | .ite _ _ _, _, _, _, _, _, h => by cases h
  | .tup _, _, _, _, _, _, h => by cases h
  | .lst _, _, _, _, _, _, h => by cases h
  | .mk _, _, _, _, _, _, h => by cases h
  | .spr _, _, _, _, _, _, h => by cases h
  | .dic1 _ _, _, _, _, _, _, h => by cases h
  | .dic0, _, _, _, _, _, h => by cases h
  | .mkl _, _, _, _, _, _, h => by cases h
  | .srt _, _, _, _, _, _, h => by cases h
  | .mkd _, _, _, _, _, _, h => by cases h
  | .idx _ _, _, _, _, _, _, h => by cases h
  | .slc _ _ _, _, _, _, _, _, h => by cases h
  | .rev _, _, _, _, _, _, h => by cases h
  | .bi _ _, _, _, _, _, _, h => by cases h
  | .isi _ _, _, _, _, _, _, h => by cases h
  | .isx _ _, _, _, _, _, _, h => by cases h
  | .attr _ _, _, _, _, _, _, h => by cases h
  | .fn _ _, _, _, _, _, _, h => by cases h
  | .me _ _ _, _, _, _, _, _, h => by cases h
  | .lc _ _ _ _ _, _, _, _, _, _, h => by cases h
  | .lc2 _ _ _ _ _ _ _ _ _, _, _, _, _, _, h => by cases h
end
end
end Mn
end
section
set_option Elab.async false
set_option linter.all false
set_option maxRecDepth 100000
/-! Names and objects that are forgotten. -/
namespace Mn
open PySem PySem.Spec PyProof.Rows L2
variable {K : PySem.W.Frag}
mutual
theorem rep_below {al al' : List Addr} {F : Hp} {n : Nat} (hn : ∀ k a, k < n → al'[k]? = some a → al[k]? = some a) : ∀ {d : D} {v : V}, Rep K al' F v d → below n d = true → Rep K al F v d
  | .non, _, r, _ => by cases r; exact .non
  | .bl _, _, r, _ => by cases r; exact .bl _
  | .int _, _, r, _ => by cases r; exact .int _
  | .str _, _, r, _ => by cases r; exact .str _
  | .tup ds, _, r, h => by
    cases r with
    | tup h1 h2 => exact .tup h1 (repL_below hn h2 h)
  | .lst ds, _, r, h => by
    cases r with
    | lst h1 h2 => exact .lst h1 (repL_below hn h2 h)
  | .dic _ _ vs, _, r, h => by
    rw [below, Bool.and_eq_true] at h
    cases r with
    | dicK h1 h2 => exact .dicK h1 (repL_below hn h2 h.2)
    | dicT h1 h2 => exact .dicT h1 (repL_below hn h2 h.2)
  | .set _, _, r, h => by
    cases r with
    | exc0 h1 h2 => exact .exc0 h1 h2
    | exc1 h1 h2 h3 h4 h5 =>
      rw [below, belows, belows, belows, Bool.and_eq_true, Bool.and_eq_true, Bool.and_eq_true] at h
      exact .exc1 h1 h2 h3 h4 (rep_below hn h5 h.2.2.1)
    | clsV q => exact .clsV q
  | .scr _, _, r, _ => by
    cases r with
    | scr h => exact .scr h
  | .cell k, _, r, h => by
    rw [below, decide_eq_true_eq] at h
    cases r with
    | cell q => exact .cell (hn _ _ h q)
theorem repL_below {al al' : List Addr} {F : Hp} {n : Nat} (hn : ∀ k a, k < n → al'[k]? = some a → al[k]? = some a) : ∀ {ds : List D} {vs : List V}, RepL K al' F vs ds → belows n ds = true → RepL K al F vs ds
  | [], _, r, _ => by cases r; exact .nil
  | d :: ds, _, r, h => by
    rw [belows, Bool.and_eq_true] at h
    cases r with
    | cons h1 h2 => exact .cons (rep_below hn h1 h.1) (repL_below hn h2 h.2)
end
theorem SR.forget {σ : L2.St} {H : Hp} {e : Env} {m : Mu} {al : List Addr} {F : Hp} (sr : SR K σ H e m al F) (vs : List Nat) : SR K σ H (wipeE e vs) m al F :=
  ⟨sr.core, fun i d h => sr.slots i d (wipeE_some h).1, by rw [wipeE_length]; exact sr.len⟩
theorem gc_ok {H H' : Hp} {m m' : Mu} {al al' : List Addr} {F F' : Hp} {σ : L2.St} {e : Env} (c0 : Core K H m al F) (s : SR K σ H' e m' al' F') (x : Ex al F H al' F' H') :
    ∃ al2, SR K σ H' e (gcM m.length e m') al2 F' ∧ Ex al F H al2 F' H' := by
  unfold gcM
  split
  · rename_i h
    rw [Bool.and_eq_true] at h
    have c := s.core
    have hl := c0.len
    have hle : al.length ≤ al'.length := by
      rcases Nat.lt_or_ge al'.length al.length with q | q
      · have h1 : al[al'.length]? = some al[al'.length] := by simp [q]
        have h2 := x.pre _ _ h1
        simp at h2
      · exact q
    have hn : ∀ k a, k < m.length → al'[k]? = some a → al[k]? = some a := fun k a hk hk' => by
      have h1 : al[k]? = some al[k] := by simp [hl, hk]
      have h2 := x.pre _ _ h1
      rw [hk'] at h2
      cases h2
      exact h1
    refine ⟨al, ⟨⟨c.sub, ?_, c0.nd, fun a ha => ?_, fun k a d2 h1 h2 => ?_⟩, fun i d hd => ?_, s.len⟩, ⟨Pre.refl _, x.le, x.keep, fun _ h => .inl h, x.nf⟩⟩
    · rw [List.length_take, ← c.len, hl]
      omega
    · obtain ⟨k, hk⟩ := List.mem_iff_getElem?.mp ha
      exact c.has a (List.mem_of_getElem? (x.pre k a hk))
    · have hk : k < m.length := by
        rw [← hl]; exact (List.getElem?_eq_some_iff.mp h1).1
      rw [List.getElem?_take_of_lt hk] at h2
      obtain ⟨g1, g2⟩ := c.live k a d2 (x.pre k a h1) h2
      refine ⟨g1, ?_⟩
      have hb : below m.length d2 = true := by
        have := List.all_eq_true.mp h.2 (some d2) (List.mem_of_getElem? (by rw [List.getElem?_take_of_lt hk]; exact h2))
        exact this
      cases g2 with
      | lst q1 q2 => exact .lst q1 (repL_below hn q2 hb)
      | dicK q1 q2 =>
        rw [below, Bool.and_eq_true] at hb
        exact .dicK q1 (repL_below hn q2 hb.2)
      | dicT q1 q2 =>
        rw [below, Bool.and_eq_true] at hb
        exact .dicT q1 (repL_below hn q2 hb.2)
    · obtain ⟨v, h1, h2⟩ := s.slots i d hd
      refine ⟨v, h1, rep_below hn h2 ?_⟩
      have := List.all_eq_true.mp h.1 (some d) (List.mem_of_getElem? hd)
      exact this
  · exact ⟨al', s, x⟩
theorem tF_gc {f : Env → Mu → Fl} (vs : List Nat) (E : Ends) (σ : L2.St) (H : Hp) (h : tF K (fun e m => gcFl vs m.length (f e m)) E σ H) : tF K f E σ H := by
  obtain ⟨e, m, al, F, sr, ok⟩ := h
  have ok : (gcFl vs m.length (f e m)).Ok (fpD K al F H E) := ok
  refine ⟨e, m, al, F, sr, ?_⟩
  cases hf : f e m with
  | nx e1 m1 =>
    rw [hf] at ok
    intro σ' H' al' F' sr' x
    obtain ⟨al2, s2, x2⟩ := gc_ok sr.core (sr'.forget vs) x
    exact ok σ' H' al2 F' s2 x2
  | ct e1 m1 =>
    rw [hf] at ok
    intro σ' H' al' F' sr' x
    obtain ⟨al2, s2, x2⟩ := gc_ok sr.core (sr'.forget vs) x
    exact ok σ' H' al2 F' s2 x2
  | rt d m1 => rw [hf] at ok; exact ok
  | bk e1 m1 => rw [hf] at ok; exact ok
  | exc c vs m1 => rw [hf] at ok; exact ok
  | stuck => rw [hf] at ok; exact ok
end Mn
end
section
set_option Elab.async false
set_option linter.all false
set_option maxRecDepth 100000
/-! x, y, z = a, b, c with plain local names. -/
namespace Mn
open PySem PySem.Spec PyProof.Rows L2
section
variable {X : Cx} {a b c : Expr}
def tPar3 (i j k : Nat) (ta : TA) : TS := fun D σ H => ta σ H fun vs H1 => ∃ u v w, vs = [u, v, w] ∧ D.nx (((σ.set k (some w)).set j (some v)).set i (some u)) H1
theorem ps_par3 {i j k : Nat} {x y z : Str} {ta : TA} {px py pz pt pt2 pos : Pos} {kt k2 : Nat} (hc : X.calm = true) (hN : X.N.Nodup) (hi : X.N[i]? = some x) (hj : X.N[j]? = some y) (hk : X.N[k]? = some z)
    (hx : X.env.scope.names.lookup x = some .local) (hy : X.env.scope.names.lookup y = some .local) (hz : X.env.scope.names.lookup z = some .local) (ha : PA X [a, b, c] ta)
    (hw : swappedStores [.Tuple [.Name x px, .Name y py, .Name z pz] kt pt] (.Tuple [a, b, c] k2 pt2) X.env = pure (some [x, y, z])) :
    PS X (.Assign [.Tuple [.Name x px, .Name y py, .Name z pz] kt pt] (.Tuple [a, b, c] k2 pt2) pos) (tPar3 i j k ta) := by
  refine ⟨fun pins s σ H D I h => ?_⟩
  have hs : swapsWithSole [.Tuple [.Name x px, .Name y py, .Name z pz] kt pt] (.Tuple [a, b, c] k2 pt2) pos.line X.env = pure false := rfl
  rw [exec_Assign_arm]
  refine wpAny_bind (wpAny_standAt ?_)
  rw [hs]
  refine wpAny_bind (wpAny_pure ?_)
  rw [if_neg (by decide)]
  refine wpAny_bind (Tuple_ (thn (ha.run _ pins s σ H _ I h) fun us s1 hh => ?_))
  obtain ⟨vs, H1, I1, r1, v1, v2, v3, e1, q1⟩ := hh
  subst e1
  obtain ⟨u1, u2, u3, rfl, q2, q3, q4⟩ : ∃ u1 u2 u3, us = [u1, u2, u3] ∧ RelV v1 u1 ∧ RelV v2 u2 ∧ RelV v3 u3 := by
    cases r1 with
    | cons p q => cases q with
      | cons p' q' => cases q' with
        | cons p2 q2 => cases q2; exact ⟨_, _, _, rfl, p, p', p2⟩
  refine wpAny_newObj_type ?_ (by show 3 ≤ sizeLine; decide)
  have I2 : Inv X pins σ H1 { s1 with heap := s1.heap.push { cls := .type "tuple", data := .seq [u1, u2, u3].toArray } } := I1.kept (t' := s1.toks) fun b o e => Heap.get?_push_of_some _ e
  rw [hw]
  refine wpAny_bind (wpAny_pure ?_)
  show wpAny (model X.prog X.w) X.A (do rule "assign.swapped-stores"; let items ← unpackItems (.ref s1.heap.objs.size) 3 none; assignInOrder [fun v => bindName X.env z v, fun v => bindName X.env y v, fun v => bindName X.env x v] items.reverse; pure Flow.next) _ _ _
  refine wpAny_bind (wpAny_rule (wpAny_bind (unpackItems_tuple (items := #[u1, u2, u3]) (I.ok.hd hc) (IsTup.new s1.heap _) fun h' hx' => ?_)))
  have I3 := I2.kept (h' := h') (t' := s1.toks) fun b o e => hx' b o (Nat.ne_of_lt (Heap.lt_size e)) e
  show wpAny _ _ (assignInOrder [fun v => bindName X.env z v, fun v => bindName X.env y v, fun v => bindName X.env x v] [u3, u2, u1] >>= fun _ => pure Flow.next) _ _ _
  refine wpAny_bind (assignInOrder_cons (wpAny_bindName (store_ok I3 hN hk (.inl hz) q4 (fun s2 I4 => ?_) (.inr hz))))
  refine assignInOrder_cons (wpAny_bindName (store_ok I4 hN hj (.inl hy) q3 (fun s3 I5 => ?_) (.inr hy)))
  exact assignInOrder_cons (wpAny_bindName (store_ok I5 hN hi (.inl hx) q2 (fun s4 I6 => assignInOrder_nil (wpAny_pure ⟨_, H1, I6, q1⟩)) (.inr hx)))
theorem swap3 {x y z : Str} {px py pz pt pt2 : Pos} {kt k2 : Nat} {env : PySem.Env} (hk : env.scope.kind = .function) (hx : env.kindOf x = some .local) (hy : env.kindOf y = some .local) (hz : env.kindOf z = some .local) (hxy : x ≠ y) (hxz : x ≠ z) (hyz : y ≠ z) (hl : (py.line == px.line) = true) (hl2 : (pz.line == px.line) = true)
    (n1 : notStar a = true) (n2 : notStar b = true) (n3 : notStar c = true) (h1 : [a, b, c].all (foldedForSure 8) = false) (h2 : [a, b, c].all (constantsAlone 8) = false) :
    swappedStores [.Tuple [.Name x px, .Name y py, .Name z pz] kt pt] (.Tuple [a, b, c] k2 pt2) env = pure (some [x, y, z]) := by
  have hb : env.blockKind = .function := by unfold Env.blockKind; rw [hk]; rfl
  have hs : ([a, b, c].any fun | .Starred .. => true | _ => false) = false := by
    simp only [List.any_cons, List.any_nil, Bool.or_false]
    have f : ∀ e : Expr, notStar e = true → (match e with | .Starred .. => true | _ => false) = false := by
      intro e h
      cases e <;> first | rfl | (simp [notStar] at h)
    rw [f a n1, f b n2, f c n3]
    rfl
  have e0 : [x, y, z].eraseDups = [x, y, z] := by simp [List.eraseDups_cons, hxy, hxz, hyz, Ne.symm hxy, Ne.symm hxz, Ne.symm hyz]
  unfold swappedStores
  simp only [List.length_cons, List.length_nil, hb, List.head?_cons, Option.map_some, Option.getD_some, List.filterMap_cons, List.filterMap_nil, hx, hy, hz, Expr.pos, hl, hl2, h1, h2]
  simp only [beq_self_eq_true, Bool.and_true, Bool.true_and, if_true]
  refine (if_neg (by simp)).trans ((if_neg fun h => ?_).trans ?_)
  · have q : false = true := hs.symm.trans h
    cases q
  · simp [e0]
theorem ps_par3D {i j k : Nat} {x y z : Str} {px py pz pt pt2 pos : Pos} {kt k2 : Nat} {g : M (List D)} (hc : X.calm = true) (hN : X.N.Nodup) (hi : X.N[i]? = some x) (hj : X.N[j]? = some y) (hk : X.N[k]? = some z)
    (hx : X.env.scope.names.lookup x = some .local) (hy : X.env.scope.names.lookup y = some .local) (hz : X.env.scope.names.lookup z = some .local) (ha : PA X [a, b, c] (tDs X.K g))
    (hw : swappedStores [.Tuple [.Name x px, .Name y py, .Name z pz] kt pt] (.Tuple [a, b, c] k2 pt2) X.env = pure (some [x, y, z])) :
    PS X (.Assign [.Tuple [.Name x px, .Name y py, .Name z pz] kt pt] (.Tuple [a, b, c] k2 pt2) pos) (tF X.K fun r m => (g r m).fl fun ds r m => match ds with
      | [d1, d2, d3] => .nx (((r.set k (some d3)).set j (some d2)).set i (some d1)) m
      | _ => .stuck) := by
  refine (ps_par3 hc hN hi hj hk hx hy hz ha hw).imp fun E σ H w => tG_mono (tF_bind w) fun vs H1 q => ?_
  obtain ⟨ds, e, m, al, F, sr, rx, ok⟩ := q
  dsimp only at ok
  split at ok
  · cases rx with
    | cons r1 rx => cases rx with
      | cons r2 rx => cases rx with
        | cons r3 rx =>
          cases rx
          exact ⟨_, _, _, rfl, ok _ _ _ _ (((sr.set r3).set r2).set r1) (Ex.refl _ _ _)⟩
  · exact ok.elim
end
end Mn
end
section
set_option Elab.async false
set_option linter.all false
set_option maxRecDepth 100000
set_option maxHeartbeats 1000000
/-! The checker of statements; a def's promise. -/
namespace Mn
open PySem PySem.Spec PyProof.Rows L2
def noSwap : Expr → Expr → Bool
  | .Tuple _ _ _, .Tuple _ _ _ => false
  | .List _ _, .Tuple _ _ _ => false
  | _, _ => true
theorem noSwap_ok {t e : Expr} (h : noSwap t e = true) (env : PySem.Env) : swappedStores [t] e env = pure none := by
  cases t <;> cases e <;> first | rfl | (cases h)
/-- a pair of targets that are not all plain locals is stored in order -/
def mixT (T : Tab) : Expr → Expr → Bool
  | .Tuple ts _ _, .Tuple _ _ _ => ts.any fun t => match t with
    | .Name y _ => !isLcl T.sc y
    | _ => true
  | _, _ => false
theorem filterMap_short {α β : Type} (f : α → Option β) : ∀ {l : List α}, (∃ x ∈ l, f x = none) → (l.filterMap f).length < l.length
  | [], h => by obtain ⟨x, hx, _⟩ := h; simp at hx
  | a :: l, h => by
    obtain ⟨x, hx, e⟩ := h
    have le : (l.filterMap f).length ≤ l.length := List.length_filterMap_le f l
    rcases List.mem_cons.mp hx with q | q
    · subst q
      rw [List.filterMap_cons_none e, List.length_cons]
      omega
    · have ih := filterMap_short f ⟨x, q, e⟩
      cases z : f a with
      | none => rw [List.filterMap_cons_none z, List.length_cons]; omega
      | some b => rw [List.filterMap_cons_some z, List.length_cons, List.length_cons]; omega
theorem mixT_ok {X : Cx} {T : Tab} (hs : X.env.scope = T.sc) {t e : Expr} (h : mixT T t e = true) : swappedStores [t] e X.env = pure none := by
  cases t <;> first | (cases h; done) | skip
  cases e <;> first | (cases h; done) | skip
  rename_i ts k p vs k2 p2
  have h : (ts.any fun t => match t with
    | .Name y _ => !isLcl T.sc y
    | _ => true) = true := h
  obtain ⟨x, hx, hq⟩ := List.any_eq_true.mp h
  unfold swappedStores
  simp only
  split
  · rfl
  · split
    · rfl
    · have short : ∀ line : Nat, ((ts.filterMap fun
        | .Name id pos => if (X.env.kindOf id == some .local && pos.line == line) = true then some id else none
        | _ => none).length != ts.length) = true := fun line => by
        have := filterMap_short (fun (t : Expr) => match t with
          | .Name id pos => if (X.env.kindOf id == some .local && pos.line == line) = true then some id else none
          | _ => none) ⟨x, hx, by
            cases x <;> first | rfl | skip
            rename_i y py
            simp only [Bool.not_eq_true'] at hq
            have ne : (X.env.kindOf y == some .local) = false := by
              show (X.env.scope.names.lookup y == some .local) = false
              rw [hs]
              unfold isLcl at hq
              cases z : T.sc.names.lookup y with
              | none => rfl
              | some k =>
                rw [z] at hq
                cases k <;> first | rfl | (cases hq)
            simp [ne]⟩
        simp only [bne_iff_ne, ne_eq]
        omega
      exact if_pos (Bool.or_eq_true_iff.mpr (.inl (short _)))
/-- the target is not swapped into a comprehension -/
def tgtOut (T : Tab) : Expr → Bool
  | .Name y _ => match T.sc.names.lookup y with
    | some .cell => true
    | _ => false
  | .Tuple _ _ _ => true
  | _ => false
theorem tgtOut_ok {X : Cx} {T : Tab} (hs : X.env.scope = T.sc) {t a : Expr} (h : tgtOut T t = true) (l : Nat) : swapsWithSole [t] a l X.env = pure false := by
  have go : swapsWith a (some t) l X.env = pure false := by
    cases t with
    | Name y p =>
      have h : (match T.sc.names.lookup y with
        | some .cell => true
        | _ => false) = true := h
      split at h
      · rename_i e
        have e : X.env.kindOf y = some .cell := by
          show X.env.scope.names.lookup y = _
          rw [hs]; exact e
        have ne : (NameKind.cell == NameKind.local) = false := rfl
        cases a <;> first | rfl | skip
        all_goals
          unfold swapsWith
          simp [e, ne]
      · cases h
    | Tuple _ _ _ => cases a <;> rfl
    | _ => cases h
  exact go
def isComp1 : Expr → Bool
  | .ListComp _ _ _ _ => true
  | _ => false
mutual
def chkS : S → Tab → Stmt → Bool
  | .set tg e, T, st => match st with
    | .Assign [etg] ee pos => nice etg && chkTg tg T etg && chk e T ee && (noSwap etg ee || mixT T etg ee) && (noComp ee || tgtOut T etg || (match tg, etg, ee with
      | .nm _, .Name y py, .ListComp _ _ sc p => isLcl T.sc y && (py.line == p.line) && !(sc.names.any fun (n, k) => n == y && (k == .local || k == .cell))
      | _, _, _ => false))
    | _ => false
  | .par i j a b, T, st => match st with
    | .Assign [.Tuple [.Name x px, .Name y py] _ _] (.Tuple [ea, eb] _ _) _ => decide (T.N[i]? = some x) && decide (T.N[j]? = some y) && isLcl T.sc x && isLcl T.sc y && decide (i ≠ j) && decide (x ≠ y) && (py.line == px.line) && chk a T ea && chk b T eb && nice ea && nice eb &&
        notStar ea && notStar eb && !([ea, eb].all (foldedForSure 8)) && !([ea, eb].all (constantsAlone 8))
    | _ => false
  | .par3 i j k a b c, T, st => match st with
    | .Assign [.Tuple [.Name x px, .Name y py, .Name z pz] _ _] (.Tuple [ea, eb, ec] _ _) _ => decide (T.N[i]? = some x) && decide (T.N[j]? = some y) && decide (T.N[k]? = some z) && (isLcl T.sc x && isLcl T.sc y && isLcl T.sc z) && (decide (x ≠ y) && decide (x ≠ z) && decide (y ≠ z)) && ((py.line == px.line) && (pz.line == px.line)) &&
        chks [a, b, c] T [ea, eb, ec] && (notStar ea && notStar eb && notStar ec) && !([ea, eb, ec].all (foldedForSure 8)) && !([ea, eb, ec].all (constantsAlone 8))
    | _ => false
  | .star i j e, T, st => match st with
    | .Assign [.Tuple [.Name x _, .Starred (.Name y _) _] _ _] ee _ => decide (T.N[i]? = some x) && decide (T.N[j]? = some y) && isLoc T x && isLoc T y && chk e T ee && noComp ee && noSwap (.Tuple [] 0 ⟨0, 0, 0, 0⟩) ee
    | _ => false
  | .sidx o i e, T, st => match st with
    | .Assign [.Subscript eo ei _] ee _ => chk e T ee && chk o T eo && chk i T ei && noComp ee && nice ei
    | _ => false
  | .aug n op e, T, st => match st with
    | .AugAssign (.Name x _) o ee _ => (decide (op = .add) || decide (op = .sub)) && opEq op.op o && decide (T.N[n]? = some x) && isLoc T x && chk e T ee
    | _ => false
  | .ex e, T, st => match st with
    | .Expr ee _ => chk e T ee && noComp ee
    | _ => false
  | .ret e, T, st => match st with
    | .Return (some ee) _ => chk e T ee
    | _ => false
  | .retN, _, st => match st with
    | .Return none _ => true
    | _ => false
  | .ite c a b, T, st => match st with
    | .If ec sa sb _ => chkT c T ec && chkSs a T sa && chkSs b T sb
    | _ => false
  | .for_ tg it b, T, st => match st with
    | .For etg eit sb [] _ => chkTg tg T etg && chkI it T etg eit && chkSs b T sb && nice eit
    | _ => false
  | .forg _ tg it b, T, st => match st with
    | .For etg eit sb [] _ => chkTg tg T etg && chkI it T etg eit && chkSs b T sb && nice eit
    | _ => false
  | .wh _ c b, T, st => match st with
    | .While ec sb [] _ => chkT c T ec && chkSs b T sb
    | _ => false
  | .brk, _, st => match st with
    | .Break _ => true
    | _ => false
  | .cnt, _, st => match st with
    | .Continue _ => true
    | _ => false
  | .pas, _, st => match st with
    | .Pass _ => true
    | _ => false
  | .never, _, _ => true
def chkSs : List S → Tab → List Stmt → Bool
  | [], _, sts => match sts with
    | [] => true
    | _ => false
  | s :: ss, T, sts => match sts with
    | st :: sts => chkS s T st && chkSs ss T sts
    | _ => false
end
section
variable {P : Pg}
theorem ps_setD' {X : Cx} {pos : Pos} {a tg : Expr} {T : Tg} {f : M D} (ha : PE X a (tD X.K f)) (hg : PG X tg (gD X.K T)) (hs : swapsWithSole [tg] a pos.line X.env = pure false) (hw : swappedStores [tg] a X.env = pure none) (h1 : (assignEach [tg] X.env).map (·.2) = [assign tg X.env]) :
    PS X (.Assign [tg] a pos) (tF X.K fun r m => (f r m).fl fun d r m => match bindTg T d r with
      | some r => .nx r m
      | none => .stuck) := by
  refine (ps_asg ha hg hs hw h1).imp fun E σ H w => tG_mono (tF_bind w) fun v H1 k => ?_
  obtain ⟨d, e, m, al, F, sr, r, ok⟩ := k
  cases hb : bindTg T d e with
  | none => simp only [hb] at ok; exact ok.elim
  | some e' =>
    simp only [hb] at ok
    exact ⟨d, e, e', m, al, F, sr, r, hb, fun σ' sr' _ => ok σ' _ _ _ sr' (Ex.refl _ _ _)⟩
theorem setLc_ok {T : Tab} {X : Cx} {n : Nat} {y : Str} {py p pos : Pos} {own : List Nat} {tg : Tg} {it elt : E} {ifs : List E} {eelt : Expr} {gens : List Comprehension} {sc : Scope} (C : Cok X T P) (h : chk (.lc own tg it ifs elt) T (.ListComp eelt gens sc p) = true) (ht : chkTg (.nm n) T (.Name y py) = true)
    (hl : isLcl T.sc y = true) (hp : (py.line == p.line) = true) (ha : (sc.names.any fun (n, k) => n == y && (k == .local || k == .cell)) = false) : PS X (.Assign [.Name y py] (.ListComp eelt gens sc p) pos) (tF X.K (ex P (.set (.nm n) (.lc own tg it ifs elt)))) := by
  unfold chk at h
  split at h
  · rename_i eq
    cases eq
    simp only [Bool.and_eq_true] at h
    obtain ⟨⟨⟨⟨⟨⟨h1, h2⟩, h3⟩, h4⟩, h5⟩, h6⟩, h7⟩ := h
    have hb : BlkOk X.N X.env.scope sc (ownOf T.N own) := by
      have := blkOk_by h1
      rw [C.N, C.sc]
      exact this
    unfold chkTg at ht
    simp only [Bool.and_eq_true, decide_eq_true_eq] at ht
    have hloc : X.env.scope.names.lookup y = some .local := by rw [C.sc]; exact isLcl_ok hl
    have key := ps_setLcD (pos := pos) (elt := eelt) (n := n) C.calm (C.N ▸ C.nd) (C.N ▸ ht.1) hloc (sw_true C.kd hloc hp ha) (pi_ok it C h2) hb (fun s H A cl fp => tg_ok tg (C.blk hb s H A cl fp) h3) (fun s H A cl fp => pf_ok ifs (C.blk hb s H A cl fp) h4)
      (fun s H A cl fp => pe_ok elt (C.blk hb s H A cl fp) h5) h6 (by
        rw [ownOf_snd]
        exact fun i hi => of_decide_eq_true (List.all_eq_true.mp h7 i hi))
    rw [ownOf_snd] at key
    exact key
  · cases h
mutual
theorem ps_ok : ∀ (ir : S) {T : Tab} {X : Cx} {st : Stmt}, Cok X T P → chkS ir T st = true → PS X st (tF X.K (ex P ir))
  | .set tg e, T, X, st, C, h => by
    unfold chkS at h
    split at h
    · simp only [Bool.and_eq_true] at h
      obtain ⟨⟨⟨⟨h1, h2⟩, h3⟩, h4⟩, h5⟩ := h
      have h4 : swappedStores [_] _ X.env = pure none := (Bool.or_eq_true_iff.mp h4).elim (fun q => noSwap_ok q X.env) (fun q => mixT_ok C.sc q)
      rw [Bool.or_eq_true, Bool.or_eq_true] at h5
      rcases h5 with (h5 | h5) | h5
      · exact ps_setD' (pe_ok e C h3) (tg_ok tg C h2) (swap_comp h5 _ _ _) h4 (tgt_nice h1 _)
      · exact ps_setD' (pe_ok e C h3) (tg_ok tg C h2) (tgtOut_ok C.sc h5 _) h4 (tgt_nice h1 _)
      · split at h5
        · simp only [Bool.and_eq_true, Bool.not_eq_true'] at h5
          cases e <;> first | (cases h3; done) | skip
          exact setLc_ok C h3 h2 h5.1.1 h5.1.2 h5.2
        · cases h5
    · cases h
  | .par i j a b, T, X, st, C, h => by
    unfold chkS at h
    split at h
    · rename_i x px y py _ _ _ _ _ _ _
      simp only [Bool.and_eq_true, decide_eq_true_eq, Bool.not_eq_true'] at h
      obtain ⟨⟨⟨⟨⟨⟨⟨⟨⟨⟨⟨⟨⟨⟨h1, h2⟩, h3⟩, h4⟩, h5⟩, h6⟩, h7⟩, h8⟩, h9⟩, h10⟩, h11⟩, h12⟩, h13⟩, h14⟩, h15⟩ := h
      have l1 : X.env.scope.names.lookup x = some .local := by rw [C.sc]; exact isLcl_ok h3
      have l2 : X.env.scope.names.lookup y = some .local := by rw [C.sc]; exact isLcl_ok h4
      exact ps_parD C.calm (C.N ▸ C.nd) (C.N ▸ h1) (C.N ▸ h2) h5 l1 l2 (pe_ok a C h8) (pe_ok b C h9) h10 h11 (swap2 C.kd l1 l2 h6 h7 h12 h13 h14 h15)
    · cases h
  | .par3 i j k a b c, T, X, st, C, h => by
    unfold chkS at h
    split at h
    · simp only [Bool.and_eq_true, decide_eq_true_eq, Bool.not_eq_true'] at h
      obtain ⟨⟨⟨⟨⟨⟨⟨⟨⟨h1, h2⟩, h3⟩, ⟨h4, h5⟩, h6⟩, ⟨h7, h8⟩, h9⟩, h10, h11⟩, h12⟩, ⟨h13, h14⟩, h15⟩, h16⟩, h17⟩ := h
      have l1 := isLcl_ok h4
      have l2 := isLcl_ok h5
      have l3 := isLcl_ok h6
      rw [← C.sc] at l1 l2 l3
      exact ps_par3D C.calm (C.N ▸ C.nd) (C.N ▸ h1) (C.N ▸ h2) (C.N ▸ h3) l1 l2 l3 (pa_ok [a, b, c] C h12) (swap3 C.kd l1 l2 l3 h7 h8 h9 h10 h11 h13 h14 h15 h16 h17)
    · cases h
  | .star i j e, T, X, st, C, h => by
    unfold chkS at h
    split at h
    · rename_i x p1 y p2 p3 kt p4 ee pos
      simp only [Bool.and_eq_true, decide_eq_true_eq] at h
      obtain ⟨⟨⟨⟨⟨⟨h1, h2⟩, h3⟩, h4⟩, h5⟩, h6⟩, h7⟩ := h
      have loc : ∀ {z : Str}, isLoc T z = true → Loc X.env.scope z ∧ (X.fn z = true ∨ X.env.scope.names.lookup z = some .local) := fun {z} hz => by
        rw [C.sc]
        rcases isLoc_ok hz with q | q
        · exact ⟨.inl q, .inr q⟩
        · exact ⟨.inr q.1, .inl (C.cell q.2 z)⟩
      have hw : swappedStores [.Tuple [.Name x p1, .Starred (.Name y p2) p3] kt p4] ee X.env = pure none := by
        cases ee <;> first | rfl | (cases h7)
      exact ps_starD (pe_ok e C h5) (C.N ▸ C.nd) (C.N ▸ h1) (C.N ▸ h2) (loc h3).1 (loc h4).1 (loc h3).2 (loc h4).2 C.calm (swap_comp h6 (some (.Tuple [.Name x p1, .Starred (.Name y p2) p3] kt p4)) pos.line X.env) hw
    · cases h
  | .sidx o i e, T, X, st, C, h => by
    unfold chkS at h
    split at h
    · simp only [Bool.and_eq_true] at h
      obtain ⟨⟨⟨⟨h1, h2⟩, h3⟩, h4⟩, h5⟩ := h
      exact ps_sidxD (pe_ok e C h1) (pe_ok o C h2) (pe_ok i C h3) h4 h5
    · cases h
  | .aug n op e, T, X, st, C, h => by
    unfold chkS at h
    split at h
    · simp only [Bool.and_eq_true, Bool.or_eq_true, decide_eq_true_eq] at h
      obtain ⟨⟨⟨⟨h1, h2⟩, h3⟩, h4⟩, h5⟩ := h
      have q := opEq_ok h2
      subst q
      have hl := isLoc_ok h4
      refine ps_augD h1 (C.N ▸ C.nd) (C.N ▸ h3) ?_ ?_ (pe_ok e C h5)
      · rw [C.sc]
        rcases hl with q | q
        · exact .inl q
        · exact .inr q.1
      · rcases hl with q | q
        · exact .inr (by rw [C.sc]; exact q)
        · exact .inl (C.cell q.2 _)
    · cases h
  | .ex e, T, X, st, C, h => by
    unfold chkS at h
    split at h
    · rw [Bool.and_eq_true] at h
      exact ps_exprD (pe_ok e C h.1) h.2
    · cases h
  | .ret e, T, X, st, C, h => by
    unfold chkS at h
    split at h
    · exact ps_retD (pe_ok e C h)
    · cases h
  | .retN, T, X, st, C, h => by
    unfold chkS at h
    split at h
    · exact ps_retND
    · cases h
  | .ite c a b, T, X, st, C, h => by
    unfold chkS at h
    split at h
    · simp only [Bool.and_eq_true] at h
      exact ps_ifD (pt_ok c C h.1.1) (pss_ok a C h.1.2) (pss_ok b C h.2)
    · cases h
  | .for_ tg it b, T, X, st, C, h => by
    unfold chkS at h
    split at h
    · simp only [Bool.and_eq_true] at h
      obtain ⟨⟨⟨h1, h2⟩, h3⟩, h4⟩ := h
      exact ps_forD C.own C.calm (pi_ok it C h2) (tg_ok tg C h1) (pss_ok b C h3) h4
    · cases h
  | .forg vs tg it b, T, X, st, C, h => by
    unfold chkS at h
    split at h
    · simp only [Bool.and_eq_true] at h
      obtain ⟨⟨⟨h1, h2⟩, h3⟩, h4⟩ := h
      exact ps_forD C.own C.calm (pi_ok it C h2) (tg_ok tg C h1) ((pss_ok b C h3).imp (tF_gc vs)) h4
    · cases h
  | .wh n c b, T, X, st, C, h => by
    unfold chkS at h
    split at h
    · simp only [Bool.and_eq_true] at h
      exact ps_whD n C.own (pt_ok c C h.1) (pss_ok b C h.2)
    · cases h
  | .brk, T, X, st, C, h => by
    unfold chkS at h
    split at h
    · exact ps_brkD
    · cases h
  | .cnt, T, X, st, C, h => by
    unfold chkS at h
    split at h
    · exact ps_cntD
    · cases h
  | .pas, T, X, st, C, h => by
    unfold chkS at h
    split at h
    · exact ps_passD
    · cases h
  | .never, T, X, st, C, h => ps_neverD
theorem pss_ok : ∀ (irs : List S) {T : Tab} {X : Cx} {sts : List Stmt}, Cok X T P → chkSs irs T sts = true → PSs X sts (tF X.K (exs P irs))
  | [], T, X, sts, C, h => by
    unfold chkSs at h
    split at h
    · exact pss_nilD
    · cases h
  | s :: ss, T, X, sts, C, h => by
    unfold chkSs at h
    split at h
    · rw [Bool.and_eq_true] at h
      exact pss_consD (ps_ok s C h.1) (pss_ok ss C h.2)
    · cases h
end
end
end Mn
end
section
set_option Elab.async false
set_option linter.all false
set_option maxRecDepth 100000
/-! A def keeps its promise. -/
namespace Mn
open PySem PySem.Spec PyProof.Rows L2
variable {K : PySem.W.Frag}
theorem trunc_ok {H H' : Hp} {m m' : Mu} {al al' : List Addr} {F F' : Hp} {d : D} {v : V} (c0 : Core K H m al F) (c : Core K H' m' al' F') (x : Ex al F H al' F' H') (r : Rep K al' F' v d) :
    ∃ al2, Core K H' (trunc m.length d m') al2 F' ∧ Ex al F H al2 F' H' ∧ Rep K al2 F' v d := by
  unfold trunc
  split
  · rename_i h
    rw [Bool.and_eq_true] at h
    have hl := c0.len
    have hle : al.length ≤ al'.length := by
      rcases Nat.lt_or_ge al'.length al.length with q | q
      · have h1 : al[al'.length]? = some al[al'.length] := by simp [q]
        have h2 := x.pre _ _ h1
        simp at h2
      · exact q
    have hn : ∀ k a, k < m.length → al'[k]? = some a → al[k]? = some a := fun k a hk hk' => by
      have h1 : al[k]? = some al[k] := by simp [hl, hk]
      have h2 := x.pre _ _ h1
      rw [hk'] at h2
      cases h2
      exact h1
    refine ⟨al, ⟨c.sub, ?_, c0.nd, fun a ha => ?_, fun k a d2 h1 h2 => ?_⟩, ⟨Pre.refl _, x.le, x.keep, fun _ h => .inl h, x.nf⟩, rep_below hn r h.1⟩
    · rw [List.length_take, ← c.len, hl]
      omega
    · obtain ⟨k, hk⟩ := List.mem_iff_getElem?.mp ha
      exact c.has a (List.mem_of_getElem? (x.pre k a hk))
    · have hk : k < m.length := by
        rw [← hl]; exact (List.getElem?_eq_some_iff.mp h1).1
      rw [List.getElem?_take_of_lt hk] at h2
      obtain ⟨g1, g2⟩ := c.live k a d2 (x.pre k a h1) h2
      refine ⟨g1, ?_⟩
      have hb : below m.length d2 = true := by
        have := List.all_eq_true.mp h.2 (some d2) (List.mem_of_getElem? (by rw [List.getElem?_take_of_lt hk]; exact h2))
        exact this
      cases g2 with
      | lst q1 q2 => exact .lst q1 (repL_below hn q2 hb)
      | dicK q1 q2 =>
        rw [below, Bool.and_eq_true] at hb
        exact .dicK q1 (repL_below hn q2 hb.2)
      | dicT q1 q2 =>
        rw [below, Bool.and_eq_true] at hb
        exact .dicT q1 (repL_below hn q2 hb.2)
  · exact ⟨al', c, x, r⟩
/-- a def of the module, by its number -/
structure FnM (prog : Program) (w : World) (K : PySem.W.Frag) (mg : Str → Option Value) (base : Heap) (k : Nat) (g : Fn) (x : Str) : Prop where
  ex : ∃ np f, (∀ ds m P E, (g ds m).Ok P E → ds.length = np) ∧ CalG prog w K mg base k f (spD K g np) ∧ mg x = some (.ref f) ∧ PySem.W.keepIn K (.ref f) = true
theorem FnM.mono {prog : Program} {w : World} {mg : Str → Option Value} {base : Heap} {j k : Nat} {g : Fn} {x : Str} (F : FnM prog w K mg base j g x) (h : j ≤ k) : FnM prog w K mg base k g x :=
  let ⟨np, f, l, ok, r⟩ := F.ex
  ⟨np, f, l, ok.mono h, r⟩
theorem run_len {P : Pg} {np ns : Nat} {b : List S} : ∀ ds m Q E, (run P np ns b ds m).Ok Q E → ds.length = np := by
  intro ds m Q E h
  unfold run at h
  split at h
  · assumption
  · exact h.elim
theorem start_slots {N : List Str} {vs : List V} {ds : List D} {al : List Addr} {F : Hp} (r : RepL K al F vs ds) : Slots K (start N vs) (ds.map some ++ List.replicate (N.length - ds.length) none) al F := by
  intro i d h
  unfold L2.start
  by_cases hi : i < ds.length
  · rw [List.getElem?_append_left (by simpa using hi), List.getElem?_map] at h
    obtain ⟨d', h1, h2⟩ := Option.map_eq_some_iff.mp h
    cases h2
    obtain ⟨v, h3, h4⟩ := r.get h1
    refine ⟨v, ?_, h4⟩
    rw [List.getElem?_append_left (by rw [List.length_map, r.length]; exact hi), List.getElem?_map, h3]
    rfl
  · rw [List.getElem?_append_right (by simpa using hi), List.getElem?_replicate] at h
    split at h <;> cases h
/-- THE RULE -/
theorem def_ok {prog : Program} {w : World} {mg : Str → Option Value} {base : Heap} {P : Pg} {x qual : Str} {st : Stmt} {f : Addr} {fd : FuncData} {N ps : List Str} {fns gls : List (Str × Nat)} {free : List Str} {k : Nat} {b : List S}
    (F : Fun K x qual st f fd) (S : FnScope N ps (defScope st)) (hc : chkSs b ⟨N, defScope st, fns, gls, free, true⟩ (defBody st) = true) (hfree : ∀ y ∈ free, mg y = none) (hfns : ∀ y n, (y, n) ∈ fns → FnM prog w K mg base k (P.fn n) y)
    (hgls : ∀ y n, (y, n) ∈ gls → ∀ d, P.gl n = some d → ∃ v, GlV mg y v ∧ ∀ al F, Rep K al F v d) : FnG prog w K mg base (k + 1) f fd ps (spD K (run P ps.length N.length b) ps.length) := by
  refine fnG_of F S (fun vs H Q E h => h.1) (fun cdv A outer s H vs Q E hgd hr h => ?_)
  obtain ⟨hl, al, G, m, ds, core, rep, ok⟩ := h
  have hle : ps.length ≤ N.length := by
    have := congrArg List.length S.pre
    rw [List.length_take] at this
    omega
  refine ⟨tF K (exs P b), pss_ok b (P := P) (T := ⟨N, defScope st, fns, gls, free, true⟩) ⟨rfl, rfl, S.nd, rfl, S.kind, ?_, hgd, PassesOwn.never, hfree, fun y n hy => ?_, hgls, fun _ _ => rfl⟩ hc, ?_⟩
  · have := hr.un
    show (A.deeper _).units + 66 < cLine
    omega
  · obtain ⟨np, f', l, ok', hm, hk⟩ := (hfns y n hy).ex
    exact ⟨np, l, hgd, f', k, ok', hr, hm, hk⟩
  · have hd : ds.length = ps.length := by rw [← rep.length]; exact hl
    unfold run at ok
    rw [if_pos hd] at ok
    refine ⟨ds.map some ++ List.replicate (N.length - ps.length) none, m, al, G, ⟨core, by rw [← hd]; exact start_slots rep, ?_⟩, ?_⟩
    · unfold L2.start
      rw [List.length_append, List.length_append, List.length_map, List.length_map, List.length_replicate, List.length_replicate, hl, hd]
    · cases he : exs P b (ds.map some ++ List.replicate (N.length - ps.length) none) m with
      | nx e' m' =>
        rw [he] at ok
        intro σ' H' al' F' sr ex
        obtain ⟨al2, c2, x2, r2⟩ := trunc_ok (d := .non) (v := .non) core sr.core ex .non
        exact ok _ _ _ _ c2 x2 r2
      | rt d m' =>
        rw [he] at ok
        intro v H' al' F' c ex r
        obtain ⟨al2, c2, x2, r2⟩ := trunc_ok core c ex r
        exact ok _ _ _ _ c2 x2 r2
      | bk e' m' => rw [he] at ok; exact ok.elim
      | ct e' m' => rw [he] at ok; exact ok.elim
      | exc c vs m' => rw [he] at ok; exact ok.elim
      | stuck => rw [he] at ok; exact ok.elim
theorem def_m {prog : Program} {w : World} {mg : Str → Option Value} {base : Heap} {P : Pg} {x qual : Str} {st : Stmt} {f : Addr} {fd : FuncData} {N ps : List Str} {fns gls : List (Str × Nat)} {free : List Str} {k : Nat} {b : List S}
    (F : Fun K x qual st f fd) (S : FnScope N ps (defScope st)) (hc : chkSs b ⟨N, defScope st, fns, gls, free, true⟩ (defBody st) = true) (hfree : ∀ y ∈ free, mg y = none) (hfns : ∀ y n, (y, n) ∈ fns → FnM prog w K mg base k (P.fn n) y)
    (hgls : ∀ y n, (y, n) ∈ gls → ∀ d, P.gl n = some d → ∃ v, GlV mg y v ∧ ∀ al F, Rep K al F v d) (hm : mg x = some (.ref f)) (hb : Binds K fd ps []) : FnM prog w K mg base (k + 1) (run P ps.length N.length b) x :=
  ⟨ps.length, f, run_len, (def_ok F S hc hfree hfns hgls).cal hb, hm, F.kp⟩
theorem two_nil {Q : Str → Nat → Prop} : ∀ y n, (y, n) ∈ ([] : List (Str × Nat)) → Q y n := fun _ _ h => by cases h
theorem two_cons {Q : Str → Nat → Prop} {a : Str} {b : Nat} {l : List (Str × Nat)} (h : Q a b) (r : ∀ y n, (y, n) ∈ l → Q y n) : ∀ y n, (y, n) ∈ (a, b) :: l → Q y n := fun y n m => by
  rcases List.mem_cons.mp m with e | e
  · cases e; exact h
  · exact r y n e
theorem one_nil {Q : Str → Prop} : ∀ y ∈ ([] : List Str), Q y := fun _ h => by cases h
theorem one_cons {Q : Str → Prop} {a : Str} {l : List Str} (h : Q a) (r : ∀ y ∈ l, Q y) : ∀ y ∈ a :: l, Q y := fun y m => by
  rcases List.mem_cons.mp m with e | e
  · cases e; exact h
  · exact r y e
theorem gl_int {mg : Str → Option Value} {y : Str} {c : Int} {t : Tok} (h : mg y = some (.int c t)) : ∀ d, some (D.int c) = some d → ∃ v, GlV mg y v ∧ ∀ al F, Rep K al F v d := fun d e => by
  cases e
  exact ⟨.int c, .inl ⟨_, h, t, rfl⟩, fun _ _ => .int c⟩
def stuckFn : Fn := fun _ _ => .stuck
def pgOf (l : List Fn) (gl : Nat → Option D) : Pg := ⟨fun n => l.getD n stuckFn, gl⟩
/-- the law's own end -/
theorem law_sp {P : Pg} {n k : Nat} {b : List S} (hlaw : ∀ ns : List Int, ns.length ≤ k → ∃ e m, run P 1 n b [.scr ns] [] = .ok (.bl true) e m) {H : Hp} {a : Addr} {ns : List Int} (hl : ns.length ≤ k) (hS : SqL K H a (ns.map V.int)) :
    spD K (run P 1 n b) 1 [.ref a] H (fun v _ => v = .bl true) fun _ _ _ => False := by
  obtain ⟨e, m, hr⟩ := hlaw ns hl
  refine ⟨rfl, [], H, [], [.scr ns], ⟨fun _ _ h => h, rfl, List.nodup_nil, fun _ h => (nomatch h), fun _ _ _ h => (nomatch h)⟩, .cons (.scr hS) .nil, ?_⟩
  rw [hr]
  intro v H' al' F' _ _ r
  cases r
  rfl
end Mn
end
section
set_option Elab.async false
set_option linter.all false
set_option maxRecDepth 100000
set_option maxHeartbeats 4000000
/-! Objects of own exception classes over any built-in error: made, with their own __init__; a class may take __new__ from one built-in class and __init__ from another. -/
namespace Mn
open PySem PySem.Spec
section
variable {prog : Program} {w : World} {A : Around} {E : Value → Shared → Prop} {R : Result → Shared → Prop} {h : Heap} {g : Array GenState} {d : Drawn} {t : Nat} {os : OsState}
variable {nm q : Str} {C N : Addr} {bs bm bmB : List Value} {hdct : Bool} {sn : List Str} {sub : List Value} {ab : Bool} {col : Option Bool} {dd : Option Addr} {k0 k1 k2 k3 k5 : Option Value} {B nI iI : String}
abbrev xcO (nm q : Str) (C N : Addr) (bs bm : List Value) (hdct : Bool) (sn : List Str) (sub : List Value) (ab : Bool) (col : Option Bool) (dd : Option Addr) (k0 k1 k2 k3 k5 : Option Value) (nI : String) : Obj := excClassObj nm q C N bs bm hdct sn sub ab col dd k0 k1 k2 k3 k5 nI
/-- what the classes behind C say to __new__ -/
structure NewOk (B : String) (bm : List Value) : Prop where
  b : bm.contains (.type B) = true
  a : bm.contains (.type "AttributeError") = false
  n : bm.contains (.type "NameError") = false
theorem x_check {M : Model} (F : ExcBaseFacts B nI iI bmB) (hB : NewOk B bm) {rest : List Value} {Q : Unit → Shared → Prop} (hC : h.get? C = some (xcO nm q C N bs bm hdct sn sub ab col dd k0 k1 k2 k3 k5 nI)) (k : Q () ⟨h, g, d, t, os⟩) :
    wpAny M A (checkBuiltinCall nI ⟨.ref C :: rest, []⟩) Q E ⟨h, g, d, t, os⟩ := by
  have c1 : (Value.ref C :: bm).contains (.type B) = true := by rw [List.contains_cons, hB.b, Bool.or_true]
  have c2 := F.noStar
  simp only [checkBuiltinCall, F.newKind, F.newSplit, F.newRow]
  repeat (first
    | refine wpAny_loadPart_at hC ?_
    | (refine wpAny_isSubtype_exc hC ?_; rw [c1])
    | refine wpAny_staticBase_exc hC ?_
    | refine wpAny_madeBy_exc hC ?_
    | simp only [bne_self_eq_false, Bool.false_eq_true, if_false]
    | wp_step)
  exact k
theorem x_new (F : ExcBaseFacts B nI iI bmB) (hB : NewOk B bm) {rest : List Value} (hC : h.get? C = some (xcO nm q C N bs bm hdct sn sub ab col dd k0 k1 k2 k3 k5 nI)) (hz : rest.length ≤ sizeLine)
    (k : R (.ok (.ret (.ref (h.objs.size + 1)))) ⟨(h.push { cls := .type "tuple", data := .seq rest.toArray }).push { cls := .ref C, data := .fields #[.ref h.objs.size, .none, .none, .none, .bool false, .none] }, g, d, t, os⟩) :
    codeAny (model prog w) A (.builtin nI ⟨.ref C :: rest, []⟩) R ⟨h, g, d, t, os⟩ := by
  have c0 := F.ends
  have c1 : (Value.ref C :: bm).contains (.type B) = true := by rw [List.contains_cons, hB.b, Bool.or_true]
  have c2 : (Value.ref C :: bm).contains (.type "AttributeError") = false := by rw [List.contains_cons, hB.a]; rfl
  have c3 : (Value.ref C :: bm).contains (.type "NameError") = false := by rw [List.contains_cons, hB.n]; rfl
  refine codeAny_builtinAt F.entry ?_
  unfold Builtin.«BaseException.__new__»
  refine wpAt_bind ?_
  show wpAt _ _ _ (stack >>= _) _ _ _
  refine wpAt_bind (wpAt_stack fun p below => wpAt_of_wpAny ?_)
  wp_walk
  refine wpAt_of_wpAny ?_
  rw [F.owner]
  repeat (first
    | with_reducible refine wpAny_madeHere_exc F.canon hC ?_
    | with_reducible refine wpAny_loadPart_at hC ?_
    | (with_reducible refine wpAny_isSubtype_exc hC ?_; first | rw [c1] | rw [c2] | rw [c3])
    | wp_step)
  show R _ _
  rw [Heap.size_push]
  exact k
theorem x_tcall (F : ExcBaseFacts B nI iI bmB) (hB : NewOk B bm) {rest : List Value} {fI : Addr} {Q : PySem.Fin → Shared → Prop} (hC : h.get? C = some (xcO nm q C N bs bm hdct sn sub ab col dd k0 k1 k2 k3 k5 nI))
    (hi : W.Looks (model prog w) h (typeLookup (.ref C) "__init__") (some (.ref fI))) (hb : ∀ self, W.Looks (model prog w) h (bindSpecial (.ref fI) self) (.ref fI, [self])) (hz : rest.length ≤ sizeLine)
    (k : codeAny (model prog w) A (.call (.ref fI) ⟨.ref (h.objs.size + 1) :: rest, []⟩)
      (fun r s' => match r with | .ok (.ret v) => v = .none ∧ Q (.done (.ret (.ref (h.objs.size + 1)))) s' | .ok _ => False | .error e => E e s') ⟨(h.push (W.kdv_tup rest)).push (HandSPX.excO C h.objs.size), g, d, t, os⟩) :
    wpAny (model prog w) A (Builtin.«type.__call__» ⟨.ref C :: rest, []⟩) Q E ⟨h, g, d, t, os⟩ := by
  repeat (first
    | with_reducible refine wpAny_loadPart_at hC ?_
    | with_reducible refine wpAny_madeBy_exc hC ?_
    | wp_step)
  refine codeAny_call_builtin_code (Code.quiet_builtin _ F.quiet) (x_check F hB hC (x_new F hB hC hz ?_))
  show wpAny _ _ _ _ _ _
  have kk : ∀ b o, h.get? b = some o → ((h.push (W.kdv_tup rest)).push (HandSPX.excO C h.objs.size)).get? b = some o := fun b o e => Heap.get?_push_of_some _ (Heap.get?_push_of_some _ e)
  have c1 := kk _ _ hC
  have c2 : ((h.push (W.kdv_tup rest)).push (HandSPX.excO C h.objs.size)).get? (h.objs.size + 1) = some (HandSPX.excO C h.objs.size) := by heap_get
  have c3 : (Value.ref C :: bm).contains (.ref C) = true := by simp
  have i1 := hi.keeps kk
  have b1 := (hb (.ref (h.objs.size + 1))).keeps kk
  unfold isInstance
  repeat (first
    | with_reducible refine wpAny_loadPart_at c2 ?_
    | (with_reducible refine wpAny_isSubtype_exc c1 ?_; rw [c3])
    | wp_step)
  show wpAny _ _ (typeLookup (.ref C) _) _ _ _
  refine i1.at (wpAny_holding (wpAny_bind (b1.at (wpAny_bind (wpAny_call (codeAny_mono k fun r s' z => ?_))))))
  rcases r with e | (v | _ | _ | _) <;> first | exact z | exact z.elim | skip
  obtain ⟨rfl, z⟩ := z
  first
    | exact wpAny_pure (wpAny_pure z)
    | (wp_walk; exact z)
theorem x_call (F : ExcBaseFacts B nI iI bmB) (hB : NewOk B bm) {rest : List Value} {fI : Addr} (hC : h.get? C = some (xcO nm q C N bs bm hdct sn sub ab col dd k0 k1 k2 k3 k5 nI))
    (hi : W.Looks (model prog w) h (typeLookup (.ref C) "__init__") (some (.ref fI))) (hb : ∀ self, W.Looks (model prog w) h (bindSpecial (.ref fI) self) (.ref fI, [self])) (hz : rest.length ≤ sizeLine)
    (k : codeAny (model prog w) (A.under (.builtin "type.__call__" ⟨.ref C :: rest, []⟩)) (.call (.ref fI) ⟨.ref (h.objs.size + 1) :: rest, []⟩) (W.InitBack (h.objs.size + 1) R) ⟨(h.push (W.kdv_tup rest)).push (HandSPX.excO C h.objs.size), g, d, t, os⟩) :
    codeAny (model prog w) A (.call (.ref C) ⟨rest, []⟩) R ⟨h, g, d, t, os⟩ := by
  have f1 := tc_lookup
  have f2 := tc_bind (.ref C)
  have f3 : (⟨h, g, d, t, os⟩ : Shared).TypeIs (.ref C) "type" := ⟨_, hC, rfl⟩
  refine codeAny_of_tree ?_
  show wpAny _ _ (callAny (.ref C) _) _ _ _
  repeat (any_goals (first
    | assumption
    | with_reducible refine wpAny_loadPart_at hC ?_
    | wp_step))
  refine ⟨rfl, codeAny_call_builtin_at (Code.quiet_builtin _ (by decide +kernel)) entry_typeCall (wpAny_check_type_call_sub hC (x_tcall F hB hC hi hb hz (codeAny_mono k fun r s' z => ?_)))⟩
  rcases r with e | (v | _ | _ | _) <;> exact z
/-- B.__init__(e, ..) -/
theorem x_init (G : PyProof.Rows.ExcClass B nI iI) (hcB : bm.contains (.type B) = true) {e t0 : Addr} {rest : List Value} {nId : String} (hC : h.get? C = some (xcO nm q C N bs bm hdct sn sub ab col dd k0 k1 k2 k3 k5 nId)) (he : h.get? e = some (HandSPX.excO C t0)) (hz : rest.length ≤ sizeLine)
    (k : ∀ h' t1, (∀ b o, b ≠ e → h.get? b = some o → h'.get? b = some o) → h'.get? e = some (HandSPX.excO C t1) → R (.ok (.ret .none)) ⟨h', g, d, t, os⟩) :
    codeAny (model prog w) A (.call (.builtin iI) ⟨.ref e :: rest, []⟩) R ⟨h, g, d, t, os⟩ := by
  have c1 : (Value.ref C :: bm).contains (.type B) = true := by rw [List.contains_cons, hcB, Bool.or_true]
  have c2 := G.notStar
  have ck : ∀ {M : Model} {A' : Around} {E' : Value → Shared → Prop} {Q' : Unit → Shared → Prop}, Q' () ⟨h, g, d, t, os⟩ → wpAny M A' (checkBuiltinCall iI ⟨.ref e :: rest, []⟩) Q' E' ⟨h, g, d, t, os⟩ := by
    intro M A' E' Q' z
    simp only [checkBuiltinCall, G.initKind, G.initSplit, G.initSig]
    repeat (first
      | (with_reducible refine wpAny_loadPart_at he ?_)
      | with_reducible refine wpAny_loadPart_at hC ?_
      | (with_reducible refine wpAny_isSubtype_exc hC ?_; rw [c1])
      | wp_step)
    refine wpAny_onRaise ?_
    rw [show ∀ (a b : String) (n : Nat), Bind.check ⟨.positional, "*", B, .self, [⟨"args", .varPos, false⟩]⟩ a b n (List.map (fun x => x.fst) ({ pos := Value.ref e :: rest } : Args).kw) = pure () from fun a b n => check_star_args _ _ _ _ _ _]
    exact wpAny_pure z
  refine codeAny_call_builtin G.init.plain G.initEntry (ck ?_)
  wp_walk
  refine k _ h.objs.size (fun b o hb ho => ?_) ?_
  · rw [Heap.get?_update_other _ _ (Ne.symm hb)]
    exact Heap.get?_push_of_some _ ho
  · rw [Heap.get?_update_self _ (Heap.get?_push_of_some _ he) rfl]
    rfl
end
end Mn
end
section
set_option Elab.async false
set_option linter.all false
set_option maxRecDepth 100000
set_option maxHeartbeats 2000000
/-! Own exception classes as what may be called: without an own __init__, and with one that calls its base's and sets one field. -/
namespace PySem.F
/-- KeyError: a store into an instance of a class over it -/
theorem keStore : StoreFacts "KeyError" [.type "KeyError", .type "LookupError", .type "Exception", .type "BaseException", .type "object"] "object.__setattr__" "object" := { PySem.F.store_LookupError with
  mro := by kernel_rfl
  slot := .of (owner := "object") (n := "__setattr__") (by rw [typeLookup_type, builtinLookup_eq_fast]; kernel_rfl) (by decide +kernel) (by decide +kernel) (by decide +kernel) (by first | exact .inl (by decide +kernel) | exact .inr (by decide +kernel)) (by rw [isSubtype_type]; kernel_rfl)
  hasOwner := by decide +kernel
  passes := fun self => by kernel_rfl }
end PySem.F
namespace Mn
open PySem PySem.Spec L2
/-! ### without an own __init__ -/
def mkx0 (x : Str) : Fn := fun ds m => match ds with
  | [_] => .ok (.set [.str x]) [] m
  | _ => .stuck
theorem mkx0_len {x : Str} : ∀ ds m P E, (mkx0 x ds m).Ok P E → ds.length = 1 := by
  intro ds m P E h
  unfold mkx0 at h
  split at h
  · rfl
  · exact h.elim
theorem Core.ext {K : PySem.W.Frag} {H : Hp} {m : Mu} {al : List Addr} {F : Hp} (c : Core K H m al F) {p : Addr} {o : HO} (hp : H p = none) : Core K (upd H p o) m al (upd F p o) ∧ Ex al F H al (upd F p o) (upd H p o) := by
  have hF : F p = none := by
    cases e : F p with
    | none => rfl
    | some u => rw [c.sub _ _ e] at hp; cases hp
  have nal : ∀ a ∈ al, a ≠ p := fun a ha z => by
    obtain ⟨u, hu⟩ := c.has a ha
    rw [z, hp] at hu
    cases hu
  refine ⟨⟨fun a u h => ?_, c.len, c.nd, fun a h => ?_, fun k a d h1 h2 => ?_⟩, ⟨Pre.refl _, Le.new hF, fun a u h n => ?_, fun a h => .inl h, fun a u h n q => ?_⟩⟩
  · by_cases e : a = p
    · rw [e, upd_same] at h
      rw [e, upd_same, h]
    · rw [upd_ne e] at h
      rw [upd_ne e]
      exact c.sub a u h
  · obtain ⟨u, hu⟩ := c.has a h
    exact ⟨u, by rw [upd_ne (nal a h)]; exact hu⟩
  · have ha := nal a (List.mem_of_getElem? h1)
    obtain ⟨g1, g2⟩ := c.live k a d h1 h2
    refine ⟨by rw [upd_ne ha]; exact g1, ?_⟩
    cases g2 with
    | lst q1 q2 => exact .lst (by rw [upd_ne ha]; exact q1) (q2.mono (Pre.refl _) (Le.new hF))
    | dicK q1 q2 => exact .dicK (by rw [upd_ne ha]; exact q1) (q2.mono (Pre.refl _) (Le.new hF))
    | dicT q1 q2 => exact .dicT (by rw [upd_ne ha]; exact q1) (q2.mono (Pre.refl _) (Le.new hF))
  · rw [upd_ne (fun z => by rw [z, hp] at h; cases h)]
    exact h
  · rw [upd_ne (fun z => by rw [z, hp] at q; cases q)]
    exact h
section
variable {P : Program} {w : World} {K : PySem.W.Frag} {mg : Str → Option Value} {base : Heap} {C : Addr} {x : Str} {B nI iI : String} {bT : List Value}
theorem cal0 (k : Nat) (F : ExcBaseFacts B nI iI bT) (q : PySem.W.excIn K C bT nI = true) (hx : ClsX K x C) : CalG P w K mg base k C (spD K (mkx0 x) 1) := by
  refine ⟨fun A outer s H us vs Q hg hr e0 r hsp => ?_⟩
  obtain ⟨hl, al, G, m, ds, core, rep, ok⟩ := hsp
  unfold mkx0 at ok
  split at ok
  · rename_i d0
    have hul : us.length = 1 := by rw [← r.length]; exact hl
    have KX := PySem.W.Frag.In.keeps e0.mod.kin fun b o e => (e0.bs b o e).1
    obtain ⟨bm, N, nm, qn, bs, hdct, sn, sub, ab, col, dd, k0, k1, k2, k3, k5, mN, hC, hN, hni, T⟩ := exc_obj KX q
    obtain ⟨hp, g, d, t, os⟩ := s
    refine wpAny_call_exc_subT F T hC hN hni (fun h' a hm => ?_) (by rw [hul]; show 1 ≤ sizeLine; rw [sizeLine_eq]; omega)
    obtain ⟨te, ht, hz⟩ := hm.there
    have hn : H a = none := e0.hok.gone hm.new
    obtain ⟨c', x'⟩ := core.ext (p := a) (o := ExO (.ref C) a) hn
    refine ⟨.ref a, upd H a (ExO (.ref C) a), rfl, e0.bare, Un.laidN hm.keeps hm.new hn, e0.hok.laidN hm.keeps hn (exO_ok ht ⟨rfl, rfl⟩ rfl rfl rfl (show 4 < 6 by decide)), rfl, ?_⟩
    exact ok _ _ _ _ c' x' (.exc0 hx upd_same)
  · exact ok.elim
end
end Mn
end
section
set_option Elab.async false
set_option linter.all false
set_option maxRecDepth 100000
set_option maxHeartbeats 2000000
/-! Own exception classes with an __init__ that calls its base's __init__ and sets one field. -/
namespace Mn
open PySem PySem.Spec
section
open PySem.W Builtin Builtin.ObjectAttr
variable {prog : Program} {w : World} {A : Around} {R : Result → Shared → Prop} {hp : Heap} {g : Array GenState} {d : Drawn} {t : Nat} {os : OsState}
theorem x_osa {K : Frag} {name : Str} {tk : Tok} {v : Value} {x C t0 : Addr} {B : String} {bT : List Value} (SF : StoreFacts B bT "object.__setattr__" "object") (X : K.In hp) (hx : hp.get? x = some (HandSPX.excO C t0)) (ov : excOver K C bT = true) (hd : hasDictIn K C = true)
    (ha : findIn K (.ref C) name = some none)
    (k : ∀ h' tk' dx, (∀ b o, b ≠ x → hp.get? b = some o → h'.get? b = some o) → hp.objs.size ≤ dx → dx ≠ x → h'.get? x = some ({ cls := .ref C, dict := some dx, data := .fields #[.ref t0, .none, .none, .none, .bool false, .none] } : Obj) → h'.Ns1 dx (fun y => if y = name then some v else none) →
      R (.ok (.ret .none)) ⟨h', g, d, tk', os⟩) :
    codeAny (model prog w) A (.call (.builtin "object.__setattr__") ⟨[.ref x, .str name tk, v], []⟩) R ⟨hp, g, d, t, os⟩ := by
  refine osa_openX (od := none) (r := none) SF X ⟨hx, rfl, rfl, trivial⟩ ov (by unfold takerIn; rw [ha]; rfl) fun b => ?_
  obtain ⟨cd, hc, hd'⟩ := any_some hd
  refine wpAny_bind (wpAny_pure (wpAny_bind (instanceDict_exc (s := ⟨hp, g, d, t, os⟩) hx (looks_clsIn X hc) hd' ?_)))
  show wpAny _ _ (storeInDict hp.objs.size (.str name tk) name v) _ _ _
  have hxs : x ≠ hp.objs.size := Nat.ne_of_lt (Heap.lt_size hx)
  refine HandSPX.store_in_new ⟨_, #[], _, (Heap.get?_update_ne _ _ _ _ hxs.symm).trans (Heap.get?_push_at rfl rfl), rfl, fun e he => absurd he (by simp), fun _ => rfl⟩ fun h' tk' hn' hs => ?_
  have e1 : (hp.push (dictOf [] 0)).get? x = some (HandSPX.excO C t0) := Heap.get?_push_of_some _ hx
  refine k h' tk' hp.objs.size (fun b o hb ho => (hs.2 b (Nat.ne_of_lt (Heap.lt_size ho))).trans ((Heap.get?_update_ne _ _ _ _ hb).trans (Heap.get?_push_of_some _ ho))) (Nat.le_refl _) hxs.symm ((hs.2 x hxs).trans (Heap.get?_update_self _ e1 rfl)) hn'
end
end Mn
namespace Mn
open PySem PySem.Spec L2
/-- what the written part says of such a class -/
structure XIn (K : PySem.W.Frag) (C : Addr) (bT : List Value) (nI : String) : Prop where
  q : PySem.W.excInitIn K C bT nI = true
  ov : PySem.W.excOver K C bT = true
  sa : PySem.W.findIn K (.ref C) "__setattr__" = some (some (.builtin "object.__setattr__"))
  hd : PySem.W.hasDictIn K C = true
section
variable {X : Cx} {pins : List (Addr × Obj)} {σ : L2.St} {H : Hp} {s : Shared} {a C : Addr} {f : Str} {y : V} {u : Value} {A : Around} {B nI iI : String} {bT : List Value}
theorem x_ost {Q : Unit → Shared → Prop} {E : Value → Shared → Prop} (SF : StoreFacts B bT "object.__setattr__" "object") (T : XIn X.K C bT nI) (I : Inv X pins σ H s) (e : H a = some (exo a C none)) (hno : PySem.W.findIn X.K (.ref C) f = some none) (ry : RelV y u)
    (k : ∀ dx s', H dx = none → dx ≠ a → Inv X pins σ (upd (upd H dx (exd dx [(f, y)])) a (exo a C (some dx))) s' → Q () s') : wpAny (model X.prog X.w) A (setAttr (.ref a) f u) Q E s := by
  obtain ⟨t1, ho⟩ := exo_at I.hok e
  obtain ⟨hp, g, d, t, os⟩ := s
  refine PySem.W.set_plain I.kIn (ox := HandSPX.excO C t1) (od := none) ⟨ho, rfl, rfl, trivial⟩ T.sa (x_osa SF I.kIn ho T.ov T.hd hno fun h' tk' dx kk dn dne hx hn => ?_)
  have hnd : H dx = none := I.hok.fresh dn
  have nd : ∀ {b : Addr} {o : Obj}, hp.get? b = some o → b ≠ dx := fun {b o} z => Nat.ne_of_lt (Nat.lt_of_lt_of_le (Heap.lt_size z) dn)
  have na : ∀ {b : Addr}, H b = none → b ≠ a := fun {b} n z => by rw [z, e] at n; cases n
  have U : Un X.fs [] H (upd (upd H dx (exd dx [(f, y)])) a (exo a C (some dx))) hp h' := ⟨fun b o z n _ _ => kk b o (na n) z, fun b o z n _ _ => ⟨o.slots, kk b o (na n) z⟩, fun b o z n _ => by rw [upd_ne (na n), upd_ne (nd z)]; exact n,
    fun b o z _ => if hb : b = a then ⟨_, (congrArg h'.get? hb).trans hx⟩ else ⟨o, kk b o hb z⟩, fun b xs z => by rw [upd_ne (at_ne e z exo_tup), upd_ne (ne_of_none z hnd)]; exact z, fun b o v z => by rw [upd_ne (at_ne e z exo_frz), upd_ne (ne_of_none z hnd)]; exact z,
    fun b ps z => ⟨#[], by rw [upd_ne (at_ne e z exo_tbl), upd_ne (ne_of_none z hnd), z]; simp⟩⟩
  refine k dx _ hnd dne (I.un (t' := tk') U fun b o z => ?_)
  by_cases hb : b = a
  · subst hb
    rw [upd_same] at z
    cases z
    exact exo_ok hx
  · rw [upd_ne hb] at z
    by_cases hd : b = dx
    · subst hd
      rw [upd_same] at z
      cases z
      exact exd_ok hn (relO_put (fs := []) ry fun _ => True.intro)
    · rw [upd_ne hd] at z
      refine (I.hok b o z).stay (fun c v hc r => kk c v ?_ r) (fun c hc => ?_) fun c xs hc => ?_
      · rcases hc with hc | hc
        · rw [hc]; exact hb
        · exact at_ne e hc exo_own
      · rw [upd_ne (at_ne e hc exo_own), upd_ne (ne_of_none hc hnd)]; exact hc
      · rw [upd_ne (at_ne e hc exo_tup), upd_ne (ne_of_none hc hnd)]; exact hc
theorem x_initI {us : List Value} {Q : Value → Shared → Prop} {E : Value → Shared → Prop} (G : PyProof.Rows.ExcClass B (nI) iI) (hcB : bT.contains (.type B) = true) (T : XIn X.K C bT nI) (I : Inv X pins σ H s) (e : H a = some (exo a C none)) (hl : us.length ≤ sizeLine) (k : ∀ s', Inv X pins σ H s' → Q .none s') :
    wpAny (model X.prog X.w) A (call (.builtin iI) (.ref a :: us)) Q E s := by
  obtain ⟨nm, N, qn, bs, bm, hdct, sn, sub, ab, col, dd, k0, k1, k2, k3, k5, hC, hT⟩ := PySem.W.excInit_of I.kIn T.q
  obtain ⟨t1, ho⟩ := exo_at I.hok e
  obtain ⟨hp, g, d, t, os⟩ := s
  refine wpAny_call (x_init G (by rw [hT]; exact hcB) hC ho hl fun h' t2 kk hx => ?_)
  have J := I.write (t' := t) (x := a) (e := a) (o := exo a C none) (by rw [e]; exact True.intro) (.inl rfl) kk ⟨_, hx⟩ (exo_ok hx)
  have eu : upd H a (exo a C none) = H := funext fun b => if hb : b = a then by rw [hb, upd_same, e] else by rw [upd_ne hb]
  rw [eu] at J
  exact k _ J
/-! ### the body of __init__ -/
def tXi (C : Addr) (ta : TA) : TE := fun σ H Q => ta σ H fun vs H1 => ∃ (a : Addr) (ws : List V), vs = .ref a :: ws ∧ ws.length ≤ 1000 ∧ H1 a = some (exo a C none) ∧ Q .non H1
def tXs (f : Str) (C : Addr) (to te : TE) : TS := fun D σ H => te σ H fun y H1 => to σ H1 fun x H2 => ∃ a : Addr, x = .ref a ∧ H2 a = some (exo a C none) ∧ ∀ dx, H2 dx = none → dx ≠ a → D.nx σ (upd (upd H2 dx (exd dx [(f, y)])) a (exo a C (some dx)))
variable {o e : Expr} {es : List Expr} {to te : TE} {ta : TA} {p p' p1 p2 pos : Pos} {B' : Str}
theorem pe_xi {pl : Sem Bool} (G : PyProof.Rows.ExcClass B nI iI) (hcB : bT.contains (.type B) = true) (T : XIn X.K C bT nI) (hg : Gl X B') (hm : X.mg B' = none) (hbo : bootBuiltins B' = some (.type B)) (hn1 : B' ≠ "__name__") (hd1 : (B' == ("__debug__" : Str)) = false)
    (hty : typeOf (.type B) = pure (.type "type")) (hst : Manifest.isStub B = false) (vV : PySem.W.findCls X.K (.type B) (.type "type") "__init__" = some (.val (.builtin iI))) (hha : PySem.W.handedIn (.builtin iI) = true) (ha : PA X (e :: es) ta)
    (hc : eval (.Call (.Attribute (.Name B' p1) "__init__" p2) (e :: es) [] pos) X.env = (do
      let ov ← eval (.Name B' p1) X.env
      standAt p2.atName
      let (f, first) ← holding [ov] (getMethod ov "__init__" pl)
      callWith pos f first (backTo pos (starEach (e :: es) X.env)) (backToKw pos (keywordEach [] X.env))))
    (he : starEach (e :: es) X.env = (false, eval e X.env) :: starEach es X.env) (hpl : ((backTo pos (starEach es X.env)).any fun z => z.1) = false) :
    PE X (.Call (.Attribute (.Name B' p1) "__init__" p2) (e :: es) [] pos) (tXi C ta) := by
  refine ⟨fun pins s σ H Q I h => PySem.W.methodCall_KW (ld_blt I hg hm hbo ?_ hn1 hd1) hc⟩
  obtain ⟨m, fr⟩ := I.fr
  refine PySem.W.method_type fr I.ok.mod.kin hty hst vV hha ?_
  show wpAny _ _ (callWith pos (Value.builtin iI) [] (backTo pos (starEach (e :: es) X.env)) []) _ _ _
  refine PyProof.Rows.callWith_method1 (thn (ha.run pos pins _ σ H _ (I.tok _) h) fun us s1 hh => ?_) he hpl
  obtain ⟨vs, H1, I1, r1, a, ws, ev, hl, ea, q⟩ := hh
  subst ev
  cases r1 with
  | @cons _ u0 _ ur ra rw' =>
    obtain rfl : u0 = Value.ref a := ra
    exact x_initI G hcB T I1 ea (by rw [← Paired.length rw', sizeLine_eq]; omega) fun s' J => ⟨.non, H1, J, rfl, q⟩
theorem ps_xs (SF : StoreFacts B bT "object.__setattr__" "object") (T : XIn X.K C bT nI) (hno : PySem.W.findIn X.K (.ref C) f = some none) (ho : PE X o to) (he : PE X e te) (hs : swapsWith e (some (.Attribute o f p')) pos.line X.env = pure false) : PS X (.Assign [.Attribute o f p'] e pos) (tXs f C to te) := by
  refine ⟨fun pins s σ H D I h => plainObj_wpAny_Assign_Attribute (thn (he.run pins s σ H _ I h) fun v s1 h1 => ?_) hs⟩
  obtain ⟨y, H1, I1, r1, q1⟩ := h1
  refine thn (ho.run pins s1 σ H1 _ I1 q1) fun u s2 h2 => ?_
  obtain ⟨x, H2, I2, r2, a, ex, ea, q⟩ := h2
  subst ex
  obtain rfl : u = Value.ref a := r2
  exact x_ost SF T I2 ea hno r1 fun dx s' n ne J => ⟨σ, _, J, q dx n ne⟩
end
end Mn
end
section
set_option Elab.async false
set_option linter.all false
set_option maxRecDepth 100000
set_option maxHeartbeats 2000000
/-! Such a class as what may be called. -/
namespace Mn
open PySem PySem.Spec L2
def mkx1 (x f : Str) : Fn := fun ds m => match ds with
  | [y] => .ok (.set [.str x, .str f, y]) [] m
  | _ => .stuck
theorem mkx1_len {x f : Str} : ∀ ds m P E, (mkx1 x f ds m).Ok P E → ds.length = 1 := by
  intro ds m P E h
  unfold mkx1 at h
  split at h
  · rfl
  · exact h.elim
theorem funFrames_keep {h h' base : Heap} (k : ∀ b o, h.get? b = some o → h'.get? b = some o) : ∀ {l : List PySem.Env}, h.FunFrames base l → h'.FunFrames base l
  | [], _ => trivial
  | _ :: _, ⟨hk, ⟨L, o, hf, hb, ho, hd⟩, hr⟩ => ⟨hk, ⟨L, o, hf, hb, k _ _ ho, hd⟩, funFrames_keep k hr⟩
theorem env0_laid {P : Program} {w : World} {K : PySem.W.Frag} {mg : Str → Option Value} {base : Heap} {A : Around} {outer : List PySem.Env} {s : Shared} {H : Hp} {h' : Heap} {a : Addr} {o : HO} {t' : Nat} (e : Env0 P w K mg base A outer s H) (k : ∀ b u, s.heap.get? b = some u → h'.get? b = some u) (hz : s.heap.objs.size ≤ h'.objs.size)
    (hp : s.heap.objs.size ≤ a) (new : ObjOk P w (upd H a o) h' a o) : Env0 P w K mg base A outer { s with heap := h', toks := t' } (upd H a o) where
  frames := e.frames
  mod := e.mod
  bs := fun b u q => ⟨k b u (e.bs b u q).1, by rw [upd_ne (Nat.ne_of_lt (Nat.lt_of_lt_of_le (Heap.lt_size (e.bs b u q).1) hp))]; exact (e.bs b u q).2⟩
  bsz := Nat.le_trans e.bsz hz
  funs := funFrames_keep k e.funs
  frf := fun b hb => by
    have z := e.frf b hb
    by_cases q : b = a
    · exfalso
      have : ∀ {l : List PySem.Env}, s.heap.FunFrames base l → b ∈ frs l → ∃ o, s.heap.get? b = some o := by
        intro l
        induction l with
        | nil => intro _ m; exact nomatch m
        | cons v r ih =>
          rintro ⟨_, ⟨L, o, hf, _, ho, _⟩, hr⟩ m
          unfold frs at m
          simp only [List.filterMap_cons, hf, List.mem_cons] at m
          rcases m with rfl | m
          · exact ⟨o, ho⟩
          · exact ih hr m
      obtain ⟨u, hu⟩ := this e.funs hb
      have z2 := Nat.lt_of_lt_of_le (Heap.lt_size hu) hp
      rw [q] at z2
      exact Nat.lt_irrefl _ z2
    · rw [upd_ne q]; exact z
  hok := e.hok.laid k hp new
  bare := e.bare
theorem okNm_ok2 {x : Str} (h : okNm x = true) : (x == ("__debug__" : Str)) = false ∧ (x == ("__classdict__" : Str)) = false := by
  unfold okNm at h
  rw [Bool.and_eq_true, Bool.not_eq_true', Bool.not_eq_true'] at h
  exact h
theorem init_call {B' : Str} {p1 p2 pos : Pos} {args : List Expr} {env : PySem.Env} (hf : methodCallForm (args.length + ([] : List Keyword).length) (backTo pos (starEach args env)) (backToKw pos (keywordEach [] env)) = true) (hl : (p2.endLine == pos.line) = true) :
    eval (.Call (.Attribute (.Name B' p1) "__init__" p2) args [] pos) env = (do
      let ov ← eval (.Name B' p1) env
      standAt p2.atName
      let (f, first) ← holding [ov] (getMethod ov "__init__" (plainOf (.Name B' p1) env))
      callWith pos f first (backTo pos (starEach args env)) (backToKw pos (keywordEach [] env))) := by
  show (do
      let ov ← eval (.Name B' p1) env
      standAt p2.atName
      methodCall (.Name B' p1) "__init__" p2 pos env ov (args.length + ([] : List Keyword).length) (backTo pos (starEach args env)) (backToKw pos (keywordEach [] env))) = _
  simp only [mcall_line hf hl]
def spI (f : Str) (C : Addr) : Sp := fun vs H Q _ => ∃ a v, vs = [.ref a, v] ∧ H a = some (exo a C none) ∧ ∀ d, H d = none → d ≠ a → Q .non (upd (upd H d (exd d [(f, v)])) a (exo a C (some d)))
section
variable {P : Program} {w : World} {K : PySem.W.Frag} {mg : Str → Option Value} {base : Heap} {C fI : Addr} {x f sx vx qual m : Str} {B nI iI : String} {bT : List Value} {fd : FuncData} {st : Stmt} {k : Nat}
theorem init_fn {B' : Str} {p1 p2 q1 q2 q3 q4 q5 q6 pos pp : Pos} {j : Nat} (F : Fun K "__init__" qual st fI fd) (S : FnScope [sx, vx] [sx, vx] (defScope st))
    (hb : defBody st = [.Expr (.Call (.Attribute (.Name B' p1) "__init__" p2) [.Name sx q1, .Constant (.str m) j q2] [] pos) pp, .Assign [.Attribute (.Name sx q3) f q4] (.Name vx q5) q6])
    (G : PyProof.Rows.ExcClass B nI iI) (hcB : bT.contains (.type B) = true) (T : XIn K C bT nI) (SF : StoreFacts B bT "object.__setattr__" "object") (hno : PySem.W.findIn K (.ref C) f = some none)
    (hg : isGl (defScope st) B' = true) (hm : mg B' = none) (hbo : bootBuiltins B' = some (.type B)) (hn1 : B' ≠ "__name__") (hd1 : (B' == ("__debug__" : Str)) = false)
    (hv1 : isVis (defScope st) sx = true) (hv2 : isVis (defScope st) vx = true) (ho1 : okNm sx = true) (ho2 : okNm vx = true)
    (hty : typeOf (.type B) = pure (.type "type")) (hst : Manifest.isStub B = false) (vV : PySem.W.findCls K (.type B) (.type "type") "__init__" = some (.val (.builtin iI))) (hha : PySem.W.handedIn (.builtin iI) = true)
    (hl : (p2.endLine == pos.line) = true)
    (hs1 : ∀ env : PySem.Env, swapsWith (.Call (.Attribute (.Name B' p1) "__init__" p2) [.Name sx q1, .Constant (.str m) j q2] [] pos) none pp.line env = pure false) (hs2 : ∀ env : PySem.Env, swapsWith (.Name vx q5) (some (.Attribute (.Name sx q3) f q4)) q6.line env = pure false) :
    FnG P w K mg base (k + 1) fI fd [sx, vx] (spI f C) := by
  refine fnG_of F S (fun vs H Q E h => ?_) (fun cdv A outer s H vs Q E hgd hr h => ?_)
  · obtain ⟨a, v, rfl, _⟩ := h
    rfl
  · obtain ⟨a, v, rfl, ha, hk⟩ := h
    have o1 := okNm_ok2 ho1
    have o2 := okNm_ok2 ho2
    rw [hb]
    have pv0 : ∀ q, PE (cxOf CX0 P w K mg base [sx, vx] qual (defScope st) fI cdv A outer s H E).nox (.Name sx q) (tVar 0) := fun q => pe_var rfl (isVis_ok hv1) o1.1 o1.2
    have pv1 : ∀ q, PE (cxOf CX0 P w K mg base [sx, vx] qual (defScope st) fI cdv A outer s H E).nox (.Name vx q) (tVar 1) := fun q => pe_var rfl (isVis_ok hv2) o2.1 o2.2
    refine ⟨_, pss_cons (ps_expr (pe_xi G hcB T (isGl_ok hg) hm hbo hn1 hd1 hty hst vV hha (pa_cons (pv0 q1) (pa_cons pe_str pa_nil)) (init_call rfl hl) rfl rfl) (hs1 _)) (pss_cons (ps_xs SF T hno (pv0 q3) (pv1 q5) (hs2 _)) pss_nil), ?_⟩
    refine ⟨.ref a, rfl, ?_⟩
    refine ⟨a, [.str m], rfl, (show 1 ≤ 1000 by decide), ha, ?_⟩
    refine ⟨v, rfl, .ref a, rfl, a, rfl, ha, fun dx n ne => hk dx n ne⟩
theorem cal1 {N iN : String} {bN : List Value} {ps : List Str} (F : ExcBaseFacts N nI iN bN) (hN : NewOk N bT) (T : XIn K C bT nI) (hx : ClsX K x C) (hno : PySem.W.findIn K (.ref C) f = some none) (iC : PySem.W.findIn K (.ref C) "__init__" = some (some (.ref fI)))
    (tI : PySem.W.typeIn K (.ref fI) = some (.type "function")) (FI : FnG P w K mg base k fI fd ps (spI f C)) (hb : Binds K fd ps []) (h2 : ps.length = 2) : CalG P w K mg base (k + 1) C (spD K (mkx1 x f) 1) := by
  refine ⟨fun A outer s H us vs Q hg hr e0 r hsp => ?_⟩
  obtain ⟨hl, al, G, mu, ds, core, rep, ok⟩ := hsp
  unfold mkx1 at ok
  split at ok
  · rename_i y
    cases rep with
    | @cons v0 _ _ _ ry rn =>
      cases rn
      cases r with
      | @cons _ u0 _ _ ru rn =>
        cases rn
        have KX := PySem.W.Frag.In.keeps e0.mod.kin fun b o e => (e0.bs b o e).1
        obtain ⟨nm, N', qn, bs, bm, hdct, sn, sub, ab, col, dd, k0, k1, k2, k3, k5, hC, hT⟩ := PySem.W.excInit_of KX T.q
        obtain ⟨hp, g, dr, tk, os⟩ := s
        have hz : hp.objs.size ≤ hp.objs.size + 1 := Nat.le_succ _
        have hn : H (hp.objs.size + 1) = none := e0.hok.fresh hz
        have kk : ∀ b o, hp.get? b = some o → ((hp.push (PySem.W.kdv_tup [u0])).push (HandSPX.excO C hp.objs.size)).get? b = some o := fun b o e => Heap.get?_push_of_some _ (Heap.get?_push_of_some _ e)
        have hget : ((hp.push (PySem.W.kdv_tup [u0])).push (HandSPX.excO C hp.objs.size)).get? (hp.objs.size + 1) = some (HandSPX.excO C hp.objs.size) := by heap_get
        have new : ObjOk P w (upd H (hp.objs.size + 1) (exo (hp.objs.size + 1) C none)) ((hp.push (PySem.W.kdv_tup [u0])).push (HandSPX.excO C hp.objs.size)) (hp.objs.size + 1) (exo (hp.objs.size + 1) C none) := exo_ok hget
        have e1 := env0_laid (t' := tk) e0 kk (by rw [Heap.size_push, Heap.size_push]; exact Nat.le_trans (Nat.le_succ _) (Nat.le_succ _)) hz new
        refine wpAny_call (x_call F ⟨by rw [hT]; exact hN.b, by rw [hT]; exact hN.a, by rw [hT]; exact hN.n⟩ hC (PySem.W.looks_findIn KX iC) (fun self => PySem.W.bind_fn KX self tI) (by show 1 ≤ sizeLine; rw [sizeLine_eq]; omega) ?_)
        refine codeAny_mono (FI.run _ outer _ _ ⟨[.ref (hp.objs.size + 1), u0], []⟩ [.ref (hp.objs.size + 1), u0] [.ref (hp.objs.size + 1), v0] (fun v H2 => v = .non ∧ ∃ d, upd H (hp.objs.size + 1) (exo (hp.objs.size + 1) C none) d = none ∧ d ≠ hp.objs.size + 1 ∧
            H2 = upd (upd (upd H (hp.objs.size + 1) (exo (hp.objs.size + 1) C none)) d (exd d [(f, v0)])) (hp.objs.size + 1) (exo (hp.objs.size + 1) C (some d))) E0 hg (hr.make C [u0] []) (e1.make C [u0] [])
          (by have := hb ⟨(hp.push (PySem.W.kdv_tup [u0])).push (HandSPX.excO C hp.objs.size), g, dr, tk, os⟩ [.ref (hp.objs.size + 1), u0] (PySem.W.Frag.In.keeps e1.mod.kin fun b o e => (e1.bs b o e).1) (by rw [h2]; rfl); rw [List.append_nil] at this; exact this)
          (.cons rfl (.cons ru .nil)) ⟨_, _, rfl, upd_same, fun d n ne => ⟨rfl, d, n, ne, rfl⟩⟩) fun res s' hq => ?_
        match res, hq with
        | .error e, hq => exact hq.elim
        | .ok .next, hq => exact hq.elim
        | .ok .brk, hq => exact hq.elim
        | .ok .cont, hq => exact hq.elim
        | .ok (.ret u), hq =>
          obtain ⟨v, H2, os2, bare2, un2, hok2, rv, ev, d, hd1, hd2, eH⟩ := hq
          subst ev
          refine ⟨rv, .ref (hp.objs.size + 1), H2, os2, bare2, (Un.laid kk hz hn).trans un2, hok2, rfl, ?_⟩
          have hd0 : H d = none := by rw [upd_ne hd2] at hd1; exact hd1
          have eH2 : H2 = upd (upd H d (exd d [(f, v0)])) (hp.objs.size + 1) (exo (hp.objs.size + 1) C (some d)) := by
            rw [eH]
            funext b
            by_cases hb : b = hp.objs.size + 1
            · rw [hb, upd_same, upd_same]
            · rw [upd_ne hb, upd_ne hb]
              by_cases hbd : b = d
              · rw [hbd, upd_same, upd_same]
              · rw [upd_ne hbd, upd_ne hbd, upd_ne hb]
          rw [eH2]
          obtain ⟨c1, x1⟩ := core.ext (o := exd d [(f, v0)]) hd0
          obtain ⟨c2, x2⟩ := c1.ext (p := hp.objs.size + 1) (o := exo (hp.objs.size + 1) C (some d)) (by rw [upd_ne (Ne.symm hd2)]; exact hn)
          have x3 := x1.trans x2
          exact ok _ _ _ _ c2 x3 (.exc1 hx hno upd_same (by rw [upd_ne hd2, upd_same]) (ry.mono x3.pre x3.le))
  · exact ok.elim
end
end Mn
end
section
set_option Elab.async false
set_option linter.all false
set_option maxRecDepth 100000
/-! Classes as names of the module. -/
namespace Mn
open PySem PySem.Spec PyProof.Rows L2
def tblB (K : PySem.W.Frag) (cv : Value) : List D → Bool
  | [] => true
  | .tup [.str y, .bl b] :: r => (match PySem.W.nsIn K mainGlobals y with
    | some (some (.ref C)) => decide (PySem.W.kitOne K (.ref C) cv = some b)
    | _ => false) && tblB K cv r
  | _ => false
theorem tblB_ok {K : PySem.W.Frag} {cv : Value} : ∀ {tbl : List D}, tblB K cv tbl = true → ∀ x b C, lkB tbl x = some b → PySem.W.nsIn K mainGlobals x = some (some (.ref C)) → PySem.W.kitOne K (.ref C) cv = some b
  | [], _, _, _, _, h, _ => by cases h
  | d :: r, ht, x, b, C, h, hn => by
    unfold tblB at ht
    split at ht
    · cases ‹_ :: _ = []›
    · rename_i y b' r' e
      cases e
      rw [Bool.and_eq_true] at ht
      rw [lkB] at h
      split at h
      · rename_i exy
        subst exy
        cases h
        have q := ht.1
        rw [hn] at q
        exact of_decide_eq_true q
      · exact tblB_ok ht.2 _ _ _ h hn
    · cases ht
section
variable {K : PySem.W.Frag} {mg : Str → Option Value} {y : Str} {tbl : List D}
theorem gl_own {C : Addr} (h : mg y = some (.ref C)) (ht : tblB K (.ref C) tbl = true) : ∀ d, some (D.set [.non, .lst tbl]) = some d → ∃ v, GlV mg y v ∧ ∀ al F, Rep K al F v d := fun d e => by
  cases e
  exact ⟨.ref C, .inl ⟨_, h, rfl⟩, fun _ _ => .clsV ⟨.ref C, fun u r => r, tblB_ok ht⟩⟩
theorem gl_blt {T : String} (h : mg y = none) (hb : bootBuiltins y = some (.type T)) (hn : y ≠ "__name__") (ht : tblB K (.type T) tbl = true) : ∀ d, some (D.set [.non, .lst tbl]) = some d → ∃ v, GlV mg y v ∧ ∀ al F, Rep K al F v d := fun d e => by
  cases e
  exact ⟨.ty T, .inr ⟨h, hn, _, hb, rfl⟩, fun _ _ => .clsV ⟨.type T, fun u r => r, tblB_ok ht⟩⟩
variable {prog : Program} {w : World} {base : Heap} {x f : Str} {C fI : Addr} {B N nI iI iN : String} {bT bN : List Value} {fd : FuncData} {ps : List Str}
theorem cls_m0 (k : Nat) (F : ExcBaseFacts B nI iI bT) (hC : PySem.W.nsIn K mainGlobals x = some (some (.ref C))) (ok : clsXB K C = true) (q : PySem.W.excIn K C bT nI = true) (kp : PySem.W.keepIn K (.ref C) = true) (hm : mg x = some (.ref C)) : FnM prog w K mg base k (mkx0 x) x :=
  ⟨1, C, mkx0_len, cal0 k F q ⟨hC, ok⟩, hm, kp⟩
def xinB (K : PySem.W.Frag) (C : Addr) (bT : List Value) (nI : String) : Bool := PySem.W.excInitIn K C bT nI && (PySem.W.excOver K C bT && (decide (PySem.W.findIn K (.ref C) "__setattr__" = some (some (.builtin "object.__setattr__"))) && PySem.W.hasDictIn K C))
theorem xin_of (h : xinB K C bT nI = true) : XIn K C bT nI := by
  unfold xinB at h
  simp only [Bool.and_eq_true, decide_eq_true_eq] at h
  exact ⟨h.1, h.2.1, h.2.2.1, h.2.2.2⟩
theorem cls_m1 {k : Nat} (F : ExcBaseFacts N nI iN bN) (hN : NewOk N bT) (T : XIn K C bT nI) (hC : PySem.W.nsIn K mainGlobals x = some (some (.ref C))) (ok : clsXB K C = true) (hno : PySem.W.findIn K (.ref C) f = some none) (iC : PySem.W.findIn K (.ref C) "__init__" = some (some (.ref fI)))
    (tI : PySem.W.typeIn K (.ref fI) = some (.type "function")) (FI : FnG prog w K mg base k fI fd ps (spI f C)) (hb : Binds K fd ps []) (h2 : ps.length = 2) (kp : PySem.W.keepIn K (.ref C) = true) (hm : mg x = some (.ref C)) : FnM prog w K mg base (k + 1) (mkx1 x f) x :=
  ⟨1, C, mkx1_len, cal1 F hN T ⟨hC, ok⟩ hno iC tI FI hb h2, hm, kp⟩
end
def kid : Stmt → Stmt
  | .ClassDef (body := b) .. => b.getD 0 (.Pass ⟨0, 0, 0, 0⟩)
  | s => s
end Mn
end
section
set_option Elab.async false
set_option maxRecDepth 100000
namespace Kl
open PySem L2 Mn
abbrev top (i : Nat) : Stmt := PySem.Challenge.pw_meetrows_k00_errors.main.body.getD i (.Pass ⟨0, 0, 0, 0⟩)
def tbl0 : List D := [.tup [.str "MeetError", .bl true], .tup [.str "InvalidName", .bl true], .tup [.str "InvalidRows", .bl true], .tup [.str "InvalidPattern", .bl true], .tup [.str "InvalidQuestion", .bl true], .tup [.str "InvalidNeed", .bl true], .tup [.str "InvalidPlacement", .bl true], .tup [.str "InvalidOperation", .bl true], .tup [.str "InvalidEdit", .bl true], .tup [.str "ParseError", .bl true], .tup [.str "InvalidCommand", .bl true], .tup [.str "InvalidNumber", .bl false], .tup [.str "UnknownName", .bl false], .tup [.str "TooMany", .bl false], .tup [.str "Lost", .bl false], .tup [.str "NothingToUndo", .bl false]]
def tbl1 : List D := [.tup [.str "MeetError", .bl true], .tup [.str "InvalidName", .bl true], .tup [.str "InvalidRows", .bl true], .tup [.str "InvalidPattern", .bl true], .tup [.str "InvalidQuestion", .bl true], .tup [.str "InvalidNeed", .bl true], .tup [.str "InvalidPlacement", .bl true], .tup [.str "InvalidOperation", .bl true], .tup [.str "InvalidEdit", .bl true], .tup [.str "ParseError", .bl true], .tup [.str "InvalidCommand", .bl true], .tup [.str "InvalidNumber", .bl false], .tup [.str "UnknownName", .bl false], .tup [.str "TooMany", .bl false], .tup [.str "Lost", .bl false], .tup [.str "NothingToUndo", .bl false]]
def tbl2 : List D := [.tup [.str "MeetError", .bl false], .tup [.str "InvalidName", .bl false], .tup [.str "InvalidRows", .bl false], .tup [.str "InvalidPattern", .bl false], .tup [.str "InvalidQuestion", .bl false], .tup [.str "InvalidNeed", .bl false], .tup [.str "InvalidPlacement", .bl false], .tup [.str "InvalidOperation", .bl false], .tup [.str "InvalidEdit", .bl false], .tup [.str "ParseError", .bl false], .tup [.str "InvalidCommand", .bl false], .tup [.str "InvalidNumber", .bl true], .tup [.str "UnknownName", .bl true], .tup [.str "TooMany", .bl false], .tup [.str "Lost", .bl false], .tup [.str "NothingToUndo", .bl true]]
def tbl3 : List D := [.tup [.str "MeetError", .bl false], .tup [.str "InvalidName", .bl false], .tup [.str "InvalidRows", .bl false], .tup [.str "InvalidPattern", .bl false], .tup [.str "InvalidQuestion", .bl false], .tup [.str "InvalidNeed", .bl false], .tup [.str "InvalidPlacement", .bl false], .tup [.str "InvalidOperation", .bl false], .tup [.str "InvalidEdit", .bl false], .tup [.str "ParseError", .bl false], .tup [.str "InvalidCommand", .bl false], .tup [.str "InvalidNumber", .bl false], .tup [.str "UnknownName", .bl false], .tup [.str "TooMany", .bl true], .tup [.str "Lost", .bl false], .tup [.str "NothingToUndo", .bl false]]
def tbl4 : List D := [.tup [.str "MeetError", .bl false], .tup [.str "InvalidName", .bl false], .tup [.str "InvalidRows", .bl false], .tup [.str "InvalidPattern", .bl false], .tup [.str "InvalidQuestion", .bl false], .tup [.str "InvalidNeed", .bl false], .tup [.str "InvalidPlacement", .bl false], .tup [.str "InvalidOperation", .bl false], .tup [.str "InvalidEdit", .bl false], .tup [.str "ParseError", .bl false], .tup [.str "InvalidCommand", .bl false], .tup [.str "InvalidNumber", .bl false], .tup [.str "UnknownName", .bl false], .tup [.str "TooMany", .bl false], .tup [.str "Lost", .bl true], .tup [.str "NothingToUndo", .bl false]]
def tbl5 : List D := [.tup [.str "MeetError", .bl false], .tup [.str "InvalidName", .bl true], .tup [.str "InvalidRows", .bl false], .tup [.str "InvalidPattern", .bl false], .tup [.str "InvalidQuestion", .bl false], .tup [.str "InvalidNeed", .bl false], .tup [.str "InvalidPlacement", .bl false], .tup [.str "InvalidOperation", .bl false], .tup [.str "InvalidEdit", .bl false], .tup [.str "ParseError", .bl false], .tup [.str "InvalidCommand", .bl false], .tup [.str "InvalidNumber", .bl false], .tup [.str "UnknownName", .bl false], .tup [.str "TooMany", .bl false], .tup [.str "Lost", .bl false], .tup [.str "NothingToUndo", .bl false]]
def tbl6 : List D := [.tup [.str "MeetError", .bl false], .tup [.str "InvalidName", .bl false], .tup [.str "InvalidRows", .bl true], .tup [.str "InvalidPattern", .bl false], .tup [.str "InvalidQuestion", .bl false], .tup [.str "InvalidNeed", .bl false], .tup [.str "InvalidPlacement", .bl false], .tup [.str "InvalidOperation", .bl false], .tup [.str "InvalidEdit", .bl false], .tup [.str "ParseError", .bl false], .tup [.str "InvalidCommand", .bl false], .tup [.str "InvalidNumber", .bl false], .tup [.str "UnknownName", .bl false], .tup [.str "TooMany", .bl false], .tup [.str "Lost", .bl false], .tup [.str "NothingToUndo", .bl false]]
def tbl7 : List D := [.tup [.str "MeetError", .bl false], .tup [.str "InvalidName", .bl false], .tup [.str "InvalidRows", .bl false], .tup [.str "InvalidPattern", .bl true], .tup [.str "InvalidQuestion", .bl false], .tup [.str "InvalidNeed", .bl false], .tup [.str "InvalidPlacement", .bl false], .tup [.str "InvalidOperation", .bl false], .tup [.str "InvalidEdit", .bl false], .tup [.str "ParseError", .bl false], .tup [.str "InvalidCommand", .bl false], .tup [.str "InvalidNumber", .bl false], .tup [.str "UnknownName", .bl false], .tup [.str "TooMany", .bl false], .tup [.str "Lost", .bl false], .tup [.str "NothingToUndo", .bl false]]
def tbl8 : List D := [.tup [.str "MeetError", .bl false], .tup [.str "InvalidName", .bl false], .tup [.str "InvalidRows", .bl false], .tup [.str "InvalidPattern", .bl false], .tup [.str "InvalidQuestion", .bl true], .tup [.str "InvalidNeed", .bl false], .tup [.str "InvalidPlacement", .bl false], .tup [.str "InvalidOperation", .bl false], .tup [.str "InvalidEdit", .bl false], .tup [.str "ParseError", .bl false], .tup [.str "InvalidCommand", .bl false], .tup [.str "InvalidNumber", .bl false], .tup [.str "UnknownName", .bl false], .tup [.str "TooMany", .bl false], .tup [.str "Lost", .bl false], .tup [.str "NothingToUndo", .bl false]]
def tbl9 : List D := [.tup [.str "MeetError", .bl false], .tup [.str "InvalidName", .bl false], .tup [.str "InvalidRows", .bl false], .tup [.str "InvalidPattern", .bl false], .tup [.str "InvalidQuestion", .bl false], .tup [.str "InvalidNeed", .bl true], .tup [.str "InvalidPlacement", .bl false], .tup [.str "InvalidOperation", .bl false], .tup [.str "InvalidEdit", .bl false], .tup [.str "ParseError", .bl false], .tup [.str "InvalidCommand", .bl false], .tup [.str "InvalidNumber", .bl false], .tup [.str "UnknownName", .bl false], .tup [.str "TooMany", .bl false], .tup [.str "Lost", .bl false], .tup [.str "NothingToUndo", .bl false]]
def tbl10 : List D := [.tup [.str "MeetError", .bl false], .tup [.str "InvalidName", .bl false], .tup [.str "InvalidRows", .bl false], .tup [.str "InvalidPattern", .bl false], .tup [.str "InvalidQuestion", .bl false], .tup [.str "InvalidNeed", .bl false], .tup [.str "InvalidPlacement", .bl true], .tup [.str "InvalidOperation", .bl false], .tup [.str "InvalidEdit", .bl false], .tup [.str "ParseError", .bl false], .tup [.str "InvalidCommand", .bl false], .tup [.str "InvalidNumber", .bl false], .tup [.str "UnknownName", .bl false], .tup [.str "TooMany", .bl false], .tup [.str "Lost", .bl false], .tup [.str "NothingToUndo", .bl false]]
def tbl11 : List D := [.tup [.str "MeetError", .bl false], .tup [.str "InvalidName", .bl false], .tup [.str "InvalidRows", .bl false], .tup [.str "InvalidPattern", .bl false], .tup [.str "InvalidQuestion", .bl false], .tup [.str "InvalidNeed", .bl false], .tup [.str "InvalidPlacement", .bl false], .tup [.str "InvalidOperation", .bl true], .tup [.str "InvalidEdit", .bl false], .tup [.str "ParseError", .bl false], .tup [.str "InvalidCommand", .bl false], .tup [.str "InvalidNumber", .bl false], .tup [.str "UnknownName", .bl false], .tup [.str "TooMany", .bl false], .tup [.str "Lost", .bl false], .tup [.str "NothingToUndo", .bl false]]
def tbl12 : List D := [.tup [.str "MeetError", .bl false], .tup [.str "InvalidName", .bl false], .tup [.str "InvalidRows", .bl false], .tup [.str "InvalidPattern", .bl false], .tup [.str "InvalidQuestion", .bl false], .tup [.str "InvalidNeed", .bl false], .tup [.str "InvalidPlacement", .bl false], .tup [.str "InvalidOperation", .bl false], .tup [.str "InvalidEdit", .bl true], .tup [.str "ParseError", .bl false], .tup [.str "InvalidCommand", .bl false], .tup [.str "InvalidNumber", .bl false], .tup [.str "UnknownName", .bl false], .tup [.str "TooMany", .bl false], .tup [.str "Lost", .bl false], .tup [.str "NothingToUndo", .bl false]]
def tbl13 : List D := [.tup [.str "MeetError", .bl false], .tup [.str "InvalidName", .bl false], .tup [.str "InvalidRows", .bl false], .tup [.str "InvalidPattern", .bl false], .tup [.str "InvalidQuestion", .bl false], .tup [.str "InvalidNeed", .bl false], .tup [.str "InvalidPlacement", .bl false], .tup [.str "InvalidOperation", .bl false], .tup [.str "InvalidEdit", .bl false], .tup [.str "ParseError", .bl true], .tup [.str "InvalidCommand", .bl false], .tup [.str "InvalidNumber", .bl false], .tup [.str "UnknownName", .bl false], .tup [.str "TooMany", .bl false], .tup [.str "Lost", .bl false], .tup [.str "NothingToUndo", .bl false]]
def tbl14 : List D := [.tup [.str "MeetError", .bl false], .tup [.str "InvalidName", .bl false], .tup [.str "InvalidRows", .bl false], .tup [.str "InvalidPattern", .bl false], .tup [.str "InvalidQuestion", .bl false], .tup [.str "InvalidNeed", .bl false], .tup [.str "InvalidPlacement", .bl false], .tup [.str "InvalidOperation", .bl false], .tup [.str "InvalidEdit", .bl false], .tup [.str "ParseError", .bl false], .tup [.str "InvalidCommand", .bl true], .tup [.str "InvalidNumber", .bl false], .tup [.str "UnknownName", .bl false], .tup [.str "TooMany", .bl false], .tup [.str "Lost", .bl false], .tup [.str "NothingToUndo", .bl false]]
def tbl15 : List D := [.tup [.str "MeetError", .bl false], .tup [.str "InvalidName", .bl false], .tup [.str "InvalidRows", .bl false], .tup [.str "InvalidPattern", .bl false], .tup [.str "InvalidQuestion", .bl false], .tup [.str "InvalidNeed", .bl false], .tup [.str "InvalidPlacement", .bl false], .tup [.str "InvalidOperation", .bl false], .tup [.str "InvalidEdit", .bl false], .tup [.str "ParseError", .bl false], .tup [.str "InvalidCommand", .bl false], .tup [.str "InvalidNumber", .bl true], .tup [.str "UnknownName", .bl false], .tup [.str "TooMany", .bl false], .tup [.str "Lost", .bl false], .tup [.str "NothingToUndo", .bl false]]
def tbl16 : List D := [.tup [.str "MeetError", .bl false], .tup [.str "InvalidName", .bl false], .tup [.str "InvalidRows", .bl false], .tup [.str "InvalidPattern", .bl false], .tup [.str "InvalidQuestion", .bl false], .tup [.str "InvalidNeed", .bl false], .tup [.str "InvalidPlacement", .bl false], .tup [.str "InvalidOperation", .bl false], .tup [.str "InvalidEdit", .bl false], .tup [.str "ParseError", .bl false], .tup [.str "InvalidCommand", .bl false], .tup [.str "InvalidNumber", .bl false], .tup [.str "UnknownName", .bl true], .tup [.str "TooMany", .bl false], .tup [.str "Lost", .bl false], .tup [.str "NothingToUndo", .bl false]]
def tbl17 : List D := [.tup [.str "MeetError", .bl false], .tup [.str "InvalidName", .bl false], .tup [.str "InvalidRows", .bl false], .tup [.str "InvalidPattern", .bl false], .tup [.str "InvalidQuestion", .bl false], .tup [.str "InvalidNeed", .bl false], .tup [.str "InvalidPlacement", .bl false], .tup [.str "InvalidOperation", .bl false], .tup [.str "InvalidEdit", .bl false], .tup [.str "ParseError", .bl false], .tup [.str "InvalidCommand", .bl false], .tup [.str "InvalidNumber", .bl true], .tup [.str "UnknownName", .bl false], .tup [.str "TooMany", .bl false], .tup [.str "Lost", .bl false], .tup [.str "NothingToUndo", .bl false]]
def tbl18 : List D := [.tup [.str "MeetError", .bl false], .tup [.str "InvalidName", .bl false], .tup [.str "InvalidRows", .bl false], .tup [.str "InvalidPattern", .bl false], .tup [.str "InvalidQuestion", .bl false], .tup [.str "InvalidNeed", .bl false], .tup [.str "InvalidPlacement", .bl false], .tup [.str "InvalidOperation", .bl false], .tup [.str "InvalidEdit", .bl false], .tup [.str "ParseError", .bl false], .tup [.str "InvalidCommand", .bl false], .tup [.str "InvalidNumber", .bl false], .tup [.str "UnknownName", .bl true], .tup [.str "TooMany", .bl false], .tup [.str "Lost", .bl false], .tup [.str "NothingToUndo", .bl false]]
def tbl19 : List D := [.tup [.str "MeetError", .bl false], .tup [.str "InvalidName", .bl false], .tup [.str "InvalidRows", .bl false], .tup [.str "InvalidPattern", .bl false], .tup [.str "InvalidQuestion", .bl false], .tup [.str "InvalidNeed", .bl false], .tup [.str "InvalidPlacement", .bl false], .tup [.str "InvalidOperation", .bl false], .tup [.str "InvalidEdit", .bl false], .tup [.str "ParseError", .bl false], .tup [.str "InvalidCommand", .bl false], .tup [.str "InvalidNumber", .bl false], .tup [.str "UnknownName", .bl false], .tup [.str "TooMany", .bl true], .tup [.str "Lost", .bl false], .tup [.str "NothingToUndo", .bl false]]
def tbl20 : List D := [.tup [.str "MeetError", .bl false], .tup [.str "InvalidName", .bl false], .tup [.str "InvalidRows", .bl false], .tup [.str "InvalidPattern", .bl false], .tup [.str "InvalidQuestion", .bl false], .tup [.str "InvalidNeed", .bl false], .tup [.str "InvalidPlacement", .bl false], .tup [.str "InvalidOperation", .bl false], .tup [.str "InvalidEdit", .bl false], .tup [.str "ParseError", .bl false], .tup [.str "InvalidCommand", .bl false], .tup [.str "InvalidNumber", .bl false], .tup [.str "UnknownName", .bl false], .tup [.str "TooMany", .bl false], .tup [.str "Lost", .bl true], .tup [.str "NothingToUndo", .bl false]]
def gl (n : Nat) : Option D := match n with
  | 0 => some (.set [.non, .lst tbl0])
  | 1 => some (.set [.non, .lst tbl1])
  | 2 => some (.set [.non, .lst tbl2])
  | 3 => some (.set [.non, .lst tbl3])
  | 4 => some (.set [.non, .lst tbl4])
  | 5 => some (.set [.non, .lst tbl5])
  | 6 => some (.set [.non, .lst tbl6])
  | 7 => some (.set [.non, .lst tbl7])
  | 8 => some (.set [.non, .lst tbl8])
  | 9 => some (.set [.non, .lst tbl9])
  | 10 => some (.set [.non, .lst tbl10])
  | 11 => some (.set [.non, .lst tbl11])
  | 12 => some (.set [.non, .lst tbl12])
  | 13 => some (.set [.non, .lst tbl13])
  | 14 => some (.set [.non, .lst tbl14])
  | 15 => some (.set [.non, .lst tbl15])
  | 16 => some (.set [.non, .lst tbl16])
  | 17 => some (.set [.non, .lst tbl17])
  | 18 => some (.set [.non, .lst tbl18])
  | 19 => some (.set [.non, .lst tbl19])
  | 20 => some (.set [.non, .lst tbl20])
  | _ => none
def g0 : Fn := mkx0 "MeetError"
def g1 : Fn := mkx0 "InvalidName"
def g2 : Fn := mkx0 "InvalidRows"
def g3 : Fn := mkx0 "InvalidPattern"
def g4 : Fn := mkx0 "InvalidQuestion"
def g5 : Fn := mkx0 "InvalidNeed"
def g6 : Fn := mkx0 "InvalidPlacement"
def g7 : Fn := mkx0 "InvalidOperation"
def g8 : Fn := mkx0 "InvalidEdit"
def g9 : Fn := mkx0 "ParseError"
def g10 : Fn := mkx0 "InvalidCommand"
def g11 : Fn := mkx1 "InvalidNumber" "value"
abbrev t11 : Stmt := kid (top 12)
theorem s11 : FnScope ["self", "value"] ["self", "value"] (defScope t11) := ⟨rfl, rfl, rfl, by decide +kernel, rfl, by decide +kernel, by decide +kernel⟩
theorem i11 {prog : Program} {w : World} {K : PySem.W.Frag} {mg : Str → Option Value} {base : Heap} {C fI : Addr} {fd : FuncData} (F : Fun K "__init__" "InvalidNumber.__init__" t11 fI fd) (T : XIn K C [.type "IndexError", .type "LookupError", .type "Exception", .type "BaseException", .type "object"] "IndexError.__new__") (hno : PySem.W.findIn K (.ref C) "value" = some none) (hm : mg "IndexError" = none)
    (vV : PySem.W.findCls K (.type "IndexError") (.type "type") "__init__" = some (.val (.builtin "IndexError.__init__"))) : FnG prog w K mg base 1 fI fd ["self", "value"] (spI "value" C) :=
  init_fn (k := 0) (B' := "IndexError") (m := "another number is expected") F s11 rfl PyProof.Rows.excClass_IndexError (by decide +kernel) T PySem.F.store_IndexError hno (by decide +kernel) hm (by decide +kernel) (by decide) (by decide) (by decide +kernel) (by decide +kernel) (by decide) (by decide) (by kernel_rfl) (by decide +kernel) vV (by decide +kernel) rfl (fun _ => rfl) fun _ => rfl
def g12 : Fn := mkx1 "UnknownName" "name"
abbrev t12 : Stmt := kid (top 13)
theorem s12 : FnScope ["self", "name"] ["self", "name"] (defScope t12) := ⟨rfl, rfl, rfl, by decide +kernel, rfl, by decide +kernel, by decide +kernel⟩
theorem i12 {prog : Program} {w : World} {K : PySem.W.Frag} {mg : Str → Option Value} {base : Heap} {C fI : Addr} {fd : FuncData} (F : Fun K "__init__" "UnknownName.__init__" t12 fI fd) (T : XIn K C [.type "KeyError", .type "LookupError", .type "Exception", .type "BaseException", .type "object"] "LookupError.__new__") (hno : PySem.W.findIn K (.ref C) "name" = some none) (hm : mg "KeyError" = none)
    (vV : PySem.W.findCls K (.type "KeyError") (.type "type") "__init__" = some (.val (.builtin "KeyError.__init__"))) : FnG prog w K mg base 1 fI fd ["self", "name"] (spI "name" C) :=
  init_fn (k := 0) (B' := "KeyError") (m := "a known name is expected") F s12 rfl PyProof.Rows.excClass_KeyError (by decide +kernel) T PySem.F.keStore hno (by decide +kernel) hm (by decide +kernel) (by decide) (by decide) (by decide +kernel) (by decide +kernel) (by decide) (by decide) (by kernel_rfl) (by decide +kernel) vV (by decide +kernel) rfl (fun _ => rfl) fun _ => rfl
def g13 : Fn := mkx1 "TooMany" "limit"
abbrev t13 : Stmt := kid (top 14)
theorem s13 : FnScope ["self", "limit"] ["self", "limit"] (defScope t13) := ⟨rfl, rfl, rfl, by decide +kernel, rfl, by decide +kernel, by decide +kernel⟩
theorem i13 {prog : Program} {w : World} {K : PySem.W.Frag} {mg : Str → Option Value} {base : Heap} {C fI : Addr} {fd : FuncData} (F : Fun K "__init__" "TooMany.__init__" t13 fI fd) (T : XIn K C [.type "OverflowError", .type "ArithmeticError", .type "Exception", .type "BaseException", .type "object"] "OverflowError.__new__") (hno : PySem.W.findIn K (.ref C) "limit" = some none) (hm : mg "OverflowError" = none)
    (vV : PySem.W.findCls K (.type "OverflowError") (.type "type") "__init__" = some (.val (.builtin "OverflowError.__init__"))) : FnG prog w K mg base 1 fI fd ["self", "limit"] (spI "limit" C) :=
  init_fn (k := 0) (B' := "OverflowError") (m := "there is more than a limit allows") F s13 rfl PyProof.Rows.excClass_OverflowError (by decide +kernel) T PySem.F.store_OverflowError hno (by decide +kernel) hm (by decide +kernel) (by decide) (by decide) (by decide +kernel) (by decide +kernel) (by decide) (by decide) (by kernel_rfl) (by decide +kernel) vV (by decide +kernel) rfl (fun _ => rfl) fun _ => rfl
def g14 : Fn := mkx1 "Lost" "paper"
abbrev t14 : Stmt := kid (top 15)
theorem s14 : FnScope ["self", "paper"] ["self", "paper"] (defScope t14) := ⟨rfl, rfl, rfl, by decide +kernel, rfl, by decide +kernel, by decide +kernel⟩
theorem i14 {prog : Program} {w : World} {K : PySem.W.Frag} {mg : Str → Option Value} {base : Heap} {C fI : Addr} {fd : FuncData} (F : Fun K "__init__" "Lost.__init__" t14 fI fd) (T : XIn K C [.type "RuntimeError", .type "Exception", .type "BaseException", .type "object"] "RuntimeError.__new__") (hno : PySem.W.findIn K (.ref C) "paper" = some none) (hm : mg "RuntimeError" = none)
    (vV : PySem.W.findCls K (.type "RuntimeError") (.type "type") "__init__" = some (.val (.builtin "RuntimeError.__init__"))) : FnG prog w K mg base 1 fI fd ["self", "paper"] (spI "paper" C) :=
  init_fn (k := 0) (B' := "RuntimeError") (m := "the placement loses an answer") F s14 rfl PyProof.Rows.excClass_RuntimeError (by decide +kernel) T PySem.F.store_RuntimeError hno (by decide +kernel) hm (by decide +kernel) (by decide) (by decide) (by decide +kernel) (by decide +kernel) (by decide) (by decide) (by kernel_rfl) (by decide +kernel) vV (by decide +kernel) rfl (fun _ => rfl) fun _ => rfl
def g15 : Fn := mkx1 "NothingToUndo" "many"
abbrev t15 : Stmt := kid (top 16)
theorem s15 : FnScope ["self", "many"] ["self", "many"] (defScope t15) := ⟨rfl, rfl, rfl, by decide +kernel, rfl, by decide +kernel, by decide +kernel⟩
theorem i15 {prog : Program} {w : World} {K : PySem.W.Frag} {mg : Str → Option Value} {base : Heap} {C fI : Addr} {fd : FuncData} (F : Fun K "__init__" "NothingToUndo.__init__" t15 fI fd) (T : XIn K C [.type "LookupError", .type "Exception", .type "BaseException", .type "object"] "LookupError.__new__") (hno : PySem.W.findIn K (.ref C) "many" = some none) (hm : mg "LookupError" = none)
    (vV : PySem.W.findCls K (.type "LookupError") (.type "type") "__init__" = some (.val (.builtin "LookupError.__init__"))) : FnG prog w K mg base 1 fI fd ["self", "many"] (spI "many" C) :=
  init_fn (k := 0) (B' := "LookupError") (m := "there are not so many steps") F s15 rfl PyProof.Rows.excClass_LookupError (by decide +kernel) T PySem.F.store_LookupError hno (by decide +kernel) hm (by decide +kernel) (by decide) (by decide) (by decide +kernel) (by decide +kernel) (by decide) (by decide) (by kernel_rfl) (by decide +kernel) vV (by decide +kernel) rfl (fun _ => rfl) fun _ => rfl
/-! _law_with_message_right -/
abbrev t16 : Stmt := top 18
abbrev N16 : List Str := ["error", "others", "one"]
def b16 : List S := [(.ite (.or [(.not (.tr (.isx (.v 0) (.glob 0)))), (.not (.tr (.isx (.v 0) (.glob 1))))]) [(.ret (.lit (.bool false)))] []), (.set (.nm 1) (.lst [(.isx (.v 0) (.glob 2)), (.isx (.v 0) (.glob 3)), (.isx (.v 0) (.glob 4))])), (.ret (.cmp .eq (.lc [2] (.nm 2) (.it (.v 1)) [(.tr (.v 2))] (.lit (.int 1))) (.lst [])))]
def P16 : Pg := pgOf [g0, g1, g2, g3, g4, g5, g6, g7, g8, g9, g10, g11, g12, g13, g14, g15] gl
def g16 : Fn := run P16 1 3 b16
theorem c16 : chkSs b16 ⟨N16, defScope t16, [], [("MeetError", 0), ("ValueError", 1), ("LookupError", 2), ("OverflowError", 3), ("RuntimeError", 4)], ["isinstance"], true⟩ (defBody t16) = true := by decide +kernel
theorem s16 : FnScope N16 ["error"] (defScope t16) := ⟨rfl, rfl, rfl, by decide +kernel, rfl, by decide +kernel, by decide +kernel⟩
/-! _law_kinds -/
abbrev t17 : Stmt := top 19
abbrev N17 : List Str := ["error", "told"]
def b17 : List S := [(.set (.nm 1) (.lst [(.isx (.v 0) (.glob 5)), (.isx (.v 0) (.glob 6)), (.isx (.v 0) (.glob 7))])), (.set (.nm 1) (.bin .add (.v 1) (.lst [(.isx (.v 0) (.glob 8)), (.isx (.v 0) (.glob 9))]))), (.set (.nm 1) (.bin .add (.v 1) (.lst [(.isx (.v 0) (.glob 10)), (.isx (.v 0) (.glob 11))]))), (.ret (.bin .add (.v 1) (.lst [(.isx (.v 0) (.glob 12)), (.isx (.v 0) (.glob 13)), (.isx (.v 0) (.glob 14))])))]
def P17 : Pg := pgOf [g0, g1, g2, g3, g4, g5, g6, g7, g8, g9, g10, g11, g12, g13, g14, g15, g16] gl
def g17 : Fn := run P17 1 2 b17
theorem c17 : chkSs b17 ⟨N17, defScope t17, [], [("InvalidName", 5), ("InvalidRows", 6), ("InvalidPattern", 7), ("InvalidQuestion", 8), ("InvalidNeed", 9), ("InvalidPlacement", 10), ("InvalidOperation", 11), ("InvalidEdit", 12), ("ParseError", 13), ("InvalidCommand", 14)], ["isinstance"], true⟩ (defBody t17) = true := by decide +kernel
theorem s17 : FnScope N17 ["error"] (defScope t17) := ⟨rfl, rfl, rfl, by decide +kernel, rfl, by decide +kernel, by decide +kernel⟩
/-! _law_valued_right -/
abbrev t18 : Stmt := top 20
abbrev N18 : List Str := ["thing", "size", "paper", "one", "two", "three", "four", "five", "due", "error", "told", "unlike_here"]
def b18 : List S := [(.set (.nm 1) (.ite (.and [(.tr (.isi (.v 0) .int)), (.not (.tr (.isi (.v 0) .bool)))]) (.v 0) (.lit (.int 12)))), (.set (.nm 2) (.tup [(.lit (.str "lost")), (.tup [(.tup [(.lit (.str "e")), (.v 1)])]), (.tup [(.v 1)])])), (.par3 3 4 5 (.fn 11 [(.v 0)]) (.fn 12 [(.v 0)]) (.fn 13 [(.v 1)])), (.par 6 7 (.fn 14 [(.v 2)]) (.fn 15 [(.v 1)])), (.set (.nm 8) (.lst [(.v 0), (.v 0), (.v 1), (.v 2), (.v 1)])), (.ite (.cmp .ne (.bi .repr [(.lst [(.attr (.v 3) "value"), (.attr (.v 4) "name"), (.attr (.v 5) "limit"), (.attr (.v 6) "paper"), (.attr (.v 7) "many")])]) (.bi .repr [(.v 8)])) [(.ret (.lit (.bool false)))] []), (.ite (.cmp .ne (.lc [9] (.nm 9) (.it (.tup [(.v 3), (.v 4), (.v 5), (.v 6), (.v 7)])) [(.tr (.isx (.v 9) (.glob 0)))] (.lit (.int 1))) (.lst [])) [(.ret (.lit (.bool false)))] []), (.set (.nm 10) (.lst [(.isx (.v 3) (.glob 15)), (.isx (.v 4) (.glob 16)), (.isx (.v 5) (.glob 3))])), (.set (.nm 10) (.bin .add (.v 10) (.lst [(.isx (.v 6) (.glob 4)), (.isx (.v 7) (.glob 2))]))), (.set (.nm 11) (.lst [(.isx (.v 3) (.glob 17)), (.isx (.v 4) (.glob 17)), (.isx (.v 7) (.glob 17))])), (.set (.nm 11) (.bin .add (.v 11) (.lst [(.isx (.v 7) (.glob 18)), (.isx (.v 6) (.glob 19)), (.isx (.v 5) (.glob 20))]))), (.ret (.and [(.cmp .eq (.v 10) (.bin .mul (.lst [(.lit (.bool true))]) (.lit (.int 5)))), (.cmp .eq (.v 11) (.lst [(.lit (.bool true)), (.lit (.bool false)), (.lit (.bool false)), (.lit (.bool false)), (.lit (.bool false)), (.lit (.bool false))]))]))]
def P18 : Pg := pgOf [g0, g1, g2, g3, g4, g5, g6, g7, g8, g9, g10, g11, g12, g13, g14, g15, g16, g17] gl
def g18 : Fn := run P18 1 12 b18
theorem c18 : chkSs b18 ⟨N18, defScope t18, [("InvalidNumber", 11), ("UnknownName", 12), ("TooMany", 13), ("Lost", 14), ("NothingToUndo", 15)], [("MeetError", 0), ("IndexError", 15), ("KeyError", 16), ("OverflowError", 3), ("RuntimeError", 4), ("LookupError", 2), ("InvalidNumber", 17), ("UnknownName", 18), ("TooMany", 19), ("Lost", 20)], ["bool", "int", "isinstance", "repr"], true⟩ (defBody t18) = true := by decide +kernel
theorem s18 : FnScope N18 ["thing"] (defScope t18) := ⟨rfl, rfl, rfl, by decide +kernel, rfl, by decide +kernel, by decide +kernel⟩
/-! law -/
abbrev t19 : Stmt := top 21
abbrev N19 : List Str := ["script", "some", "at", "error", "one", "things", "cell", "thing"]
def b19 : List S := [(.set (.nm 1) (.lst [(.fn 1 [(.lit (.str "a"))]), (.fn 2 [(.lit (.str "a"))]), (.fn 3 [(.lit (.str "a"))]), (.fn 4 [(.lit (.str "a"))]), (.fn 5 [(.lit (.str "a"))])])), (.set (.nm 1) (.bin .add (.v 1) (.lst [(.fn 6 [(.lit (.str "a"))]), (.fn 7 [(.lit (.str "a"))]), (.fn 8 [(.lit (.str "a"))]), (.fn 9 [(.lit (.str "a"))]), (.fn 10 [(.lit (.str "a"))])]))), (.for_ (.tp [(.nm 2), (.nm 3)]) (.enum (.v 1)) [(.ite (.or [(.not (.tr (.fn 16 [(.v 3)]))), (.cmp .ne (.fn 17 [(.v 3)]) (.lc [4] (.nm 4) (.rng1 (.lit (.int 10))) [] (.cmp .eq (.v 4) (.v 2))))]) [(.ret (.lit (.bool false)))] [])]), (.ite (.or [(.cmp .mem (.lit (.bool true)) (.fn 17 [(.fn 0 [(.lit (.str "a"))])])), (.not (.tr (.isx (.fn 0 [(.lit (.str "a"))]) (.glob 1))))]) [(.ret (.lit (.bool false)))] []), (.set (.nm 5) (.lst [(.lit .none), (.lit (.int 0)), (.neg (.lit (.int 1))), (.lit (.bool true)), (.lit (.str "")), (.lit (.str "a")), (.tup []), (.tup [(.lit (.int 1)), (.tup [(.lit (.int 2))])]), (.lst []), (.lst [(.lit (.int 1))]), .dic0, (.dic1 (.lit (.str "a")) (.lit (.int 1))), (.bin .pow (.lit (.int 10)) (.lit (.int 39)))])), (.set (.nm 5) (.bin .add (.v 5) (.lc [6] (.nm 6) (.it (.slc (.v 0) [] [(.lit (.int 9))])) [] (.bin .mod (.bi .int [(.bi .abs [(.v 6)])]) (.bin .pow (.lit (.int 10)) (.lit (.int 40))))))), (.ret (.cmp .eq (.lc [7] (.nm 7) (.it (.v 5)) [(.not (.tr (.fn 18 [(.v 7)])))] (.v 7)) (.lst [])))]
def P19 : Pg := pgOf [g0, g1, g2, g3, g4, g5, g6, g7, g8, g9, g10, g11, g12, g13, g14, g15, g16, g17, g18] gl
def g19 : Fn := run P19 1 8 b19
theorem c19 : chkSs b19 ⟨N19, defScope t19, [("InvalidName", 1), ("InvalidRows", 2), ("InvalidPattern", 3), ("InvalidQuestion", 4), ("InvalidNeed", 5), ("InvalidPlacement", 6), ("InvalidOperation", 7), ("InvalidEdit", 8), ("ParseError", 9), ("InvalidCommand", 10), ("_law_with_message_right", 16), ("_law_kinds", 17), ("MeetError", 0), ("_law_valued_right", 18)], [("ValueError", 1)], ["abs", "enumerate", "int", "isinstance", "range"], true⟩ (defBody t19) = true := by decide +kernel
theorem s19 : FnScope N19 ["script"] (defScope t19) := ⟨rfl, rfl, rfl, by decide +kernel, rfl, by decide +kernel, by decide +kernel⟩
end Kl
end
section
set_option Elab.async false
set_option maxRecDepth 100000
/-! The interpreter's equations, for simp. -/
namespace Mn
open PySem
@[simp] theorem trunc_self (d : D) (m : Mu) : trunc m.length d m = m := by
  unfold trunc
  rw [List.take_length]
  split <;> rfl
@[simp] theorem bind_ok {α β : Type} (a : α) (e : Env) (m : Mu) (f : α → Env → Mu → R β) : (R.ok a e m).bind f = f a e m := rfl
@[simp] theorem fl_okk {α : Type} (a : α) (e : Env) (m : Mu) (f : α → Env → Mu → Fl) : (R.ok a e m).fl f = f a e m := rfl
theorem bind_ap {α β : Type} (x : M α) (f : α → M β) (e : Env) (m : Mu) : (x.bind f) e m = (x e m).bind f := rfl
theorem ret_ap {α : Type} (a : α) (e : Env) (m : Mu) : M.ret a e m = .ok a e m := rfl
theorem of_some {α : Type} (a : α) (e : Env) (m : Mu) : M.of (some a) e m = .ok a e m := rfl
theorem lc_step {g : D → Env → Option Env} {t : M Bool} {f : M D} {own : List Nat} {x y : D} {xs ys : List D} {e e1 e2 e3 e4 : Env} {m m2 m3 m4 : Mu} (hg : g x e = some e1) (ht : t e1 m = .ok true e2 m2) (hf : f e2 m2 = .ok y e3 m3)
    (hr : lcGo g t f own xs (wipeE e3 own) m3 = .ok ys e4 m4) : lcGo g t f own (x :: xs) e m = .ok (y :: ys) e4 m4 := by
  rw [lcGo, hg]
  show (t e1 m).bind _ = _
  rw [ht]
  show (f e2 m2).bind _ = _
  rw [hf]
  show (lcGo g t f own xs (wipeE e3 own) m3).bind _ = _
  rw [hr]
theorem lc_skip {g : D → Env → Option Env} {t : M Bool} {f : M D} {own : List Nat} {x : D} {xs ys : List D} {e e1 e2 e4 : Env} {m m2 m4 : Mu} (hg : g x e = some e1) (ht : t e1 m = .ok false e2 m2)
    (hr : lcGo g t f own xs (wipeE e2 own) m2 = .ok ys e4 m4) : lcGo g t f own (x :: xs) e m = .ok ys e4 m4 := by
  rw [lcGo, hg]
  show (t e1 m).bind _ = _
  rw [ht]
  show lcGo g t f own xs (wipeE e2 own) m2 = _
  exact hr
/-- a comprehension -/
theorem ev_lc {P : Pg} {own : List Nat} {tg : Tg} {it elt : E} {ifs : List E} {e e1 e2 : Env} {m m1 m2 : Mu} {xs ys : List D} (hi : its P it e m = .ok xs e1 m1) (hl : lcGo (bindTg tg) (evAndT P ifs) (ev P elt) own xs (wipeE e1 own) m1 = .ok ys e2 m2) (hs : ys.length ≤ 16777216) :
    ev P (.lc own tg it ifs elt) e m = .ok (.lst ys) e2 m2 := by
  show ((its P it e m).bind fun xs e m => (lcGo (bindTg tg) (evAndT P ifs) (ev P elt) own xs (wipeE e own) m).bind fun ys e m => if lim ys = true then R.ok (D.lst ys) e m else .stuck) = _
  have : lim ys = true := by unfold lim; simpa using hs
  rw [hi]
  show (lcGo (bindTg tg) (evAndT P ifs) (ev P elt) own xs (wipeE e1 own) m1).bind _ = _
  rw [hl]
  show (if lim ys = true then R.ok (D.lst ys) e2 m2 else .stuck) = _
  rw [this, if_pos rfl]
theorem exs_cons {P : Pg} {s : S} {ss : List S} {e e1 : Env} {m m1 : Mu} {k : Fl} (h : ex P s e m = .nx e1 m1) (hr : exs P ss e1 m1 = k) : exs P (s :: ss) e m = k := by
  show (match ex P s e m with
    | .nx r m => exs P ss r m
    | f => f) = k
  rw [h]; exact hr
theorem exs_rt {P : Pg} {s : S} {ss : List S} {e : Env} {m m1 : Mu} {d : D} (h : ex P s e m = .rt d m1) : exs P (s :: ss) e m = .rt d m1 := by
  show (match ex P s e m with
    | .nx r m => exs P ss r m
    | f => f) = _
  rw [h]
theorem ex_set {P : Pg} {tg : Tg} {a : E} {e e1 e2 : Env} {m m1 : Mu} {d : D} (h : ev P a e m = .ok d e1 m1) (hb : bindTg tg d e1 = some e2) : ex P (.set tg a) e m = .nx e2 m1 := by
  show ((ev P a e m).fl fun d r m => match bindTg tg d r with
    | some r => Fl.nx r m
    | none => .stuck) = _
  rw [h]
  show (match bindTg tg d e1 with
    | some r => Fl.nx r m1
    | none => .stuck) = _
  rw [hb]
theorem ex_ret {P : Pg} {a : E} {e e1 : Env} {m m1 : Mu} {d : D} (h : ev P a e m = .ok d e1 m1) : ex P (.ret a) e m = .rt d m1 := by
  show ((ev P a e m).fl fun d _ m => Fl.rt d m) = _
  rw [h]
theorem run_rt {P : Pg} {np ns : Nat} {b : List S} {ds : List D} {m m1 : Mu} {d : D} (hl : ds.length = np) (h : exs P b (ds.map some ++ List.replicate (ns - np) none) m = .rt d m1) : run P np ns b ds m = .ok d [] (trunc m.length d m1) := by
  unfold run
  rw [if_pos hl, h]
theorem run_by {P : Pg} {np ns : Nat} {b b' : List S} {ds : List D} {e : Env} {m m1 m2 : Mu} {d : D} (hl : ds.length = np) (hb : b = b') (he : ds.map some ++ List.replicate (ns - np) none = e) (h : exs P b' e m = .rt d m1) (ht : trunc m.length d m1 = m2) : run P np ns b ds m = .ok d [] m2 := by
  subst hb he ht
  exact run_rt hl h
theorem its_rng1 {P : Pg} {a : E} {e e1 : Env} {m m1 : Mu} {x : D} {xs : List D} (h : ev P a e m = .ok x e1 m1) (hr : rngD [x] = some xs) : its P (.rng1 a) e m = .ok xs e1 m1 := by
  show ((ev P a e m).bind fun x => M.of (rngD [x])) = _
  rw [h]
  show (M.of (rngD [x]) e1 m1 : R (List D)) = _
  rw [hr]
theorem ev_bin {P : Pg} {op : Bop} {a b : E} {e e1 e2 : Env} {m m1 m2 : Mu} {x y z : D} (h1 : ev P a e m = .ok x e1 m1) (h2 : ev P b e1 m1 = .ok y e2 m2) (h3 : binD m2 op x y = some z) : ev P (.bin op a b) e m = .ok z e2 m2 := by
  show (ev P a e m).bind _ = _
  rw [h1]
  show (ev P b e1 m1).bind _ = _
  rw [h2]
  show (M.of (binD m2 op x y) e2 m2 : R D) = _
  rw [h3]
theorem ev_bi1 {P : Pg} {b : Bi} {a : E} {e e1 : Env} {m m1 : Mu} {x z : D} (h : ev P a e m = .ok x e1 m1) (hb : biD m1 b [x] = some z) : ev P (.bi b [a]) e m = .ok z e1 m1 := by
  have hs : evs P [a] e m = .ok [x] e1 m1 := by
    have q : isSpr a = false := by
      cases a <;> first | rfl | (cases h)
    rw [evs_cons q]
    show (ev P a e m).bind _ = _
    rw [h]
    rfl
  show (evs P [a] e m).bind _ = _
  rw [hs]
  show (M.of (biD m1 b [x]) e1 m1 : R D) = _
  rw [hb]
theorem binD_mod {m : Mu} {i j : Int} (h : 0 < j) : binD m .mod (.int i) (.int j) = some (.int (i % j)) := if_pos h
theorem ex_ite {P : Pg} {c : E} {a b : List S} {e e1 : Env} {m m1 : Mu} {k : Bool} {r : Fl} (h : evT P c e m = .ok k e1 m1) (hr : (if k = true then exs P a e1 m1 else exs P b e1 m1) = r) : ex P (.ite c a b) e m = r := by
  show ((evT P c e m).fl fun k r m => if k = true then exs P a r m else exs P b r m) = _
  rw [h]
  exact hr
theorem exs_nil {P : Pg} {e : Env} {m : Mu} : exs P [] e m = .nx e m := rfl
theorem ev_idx {P : Pg} {a b : E} {e e1 e2 : Env} {m m1 m2 : Mu} {x y z : D} (h1 : ev P a e m = .ok x e1 m1) (h2 : ev P b e1 m1 = .ok y e2 m2) (h3 : idxD m2 x y = some z) : ev P (.idx a b) e m = .ok z e2 m2 := by
  show (ev P a e m).bind _ = _
  rw [h1]
  show (ev P b e1 m1).bind _ = _
  rw [h2]
  show (M.of (idxD m2 x y) e2 m2 : R D) = _
  rw [h3]
end Mn
end
section
set_option Elab.async false
set_option linter.all false
set_option maxRecDepth 100000
namespace Mn
open PySem
theorem ev_fn {P : Pg} {n : Nat} {es : List E} {e e1 e2 : Mn.Env} {m m1 m2 : Mu} {ds : List D} {d : D} (h : evs P es e m = .ok ds e1 m1) (hf : P.fn n ds m1 = .ok d e2 m2) : ev P (.fn n es) e m = .ok d e1 m2 := by
  show ((evs P es e m).bind fun ds e m => (P.fn n ds m).bind fun d _ m' => R.ok d e m') = _
  rw [h]
  show ((P.fn n ds m1).bind fun d _ m' => R.ok d e1 m') = _
  rw [hf]
theorem ev_slcto {P : Pg} {a b : E} {e e1 e2 : Mn.Env} {m m1 m2 : Mu} {x y z : D} (h1 : ev P a e m = .ok x e1 m1) (h2 : ev P b e1 m1 = .ok y e2 m2) (h3 : slcD m2 x [] [y] = some z) : ev P (.slc a [] [b]) e m = .ok z e2 m2 := by
  have q : isSpr b = false := by
    cases b <;> first | rfl | (cases h2)
  show (ev P a e m).bind _ = _
  rw [h1]
  show (evs P [b] e1 m1).bind _ = _
  rw [evs_cons q]
  show ((ev P b e1 m1).bind _).bind _ = _
  rw [h2]
  show (M.of (slcD m2 x [] [y]) e2 m2 : R D) = _
  rw [h3]
theorem evs_one {P : Pg} {a : E} {e e1 : Mn.Env} {m m1 : Mu} {x : D} (h : ev P a e m = .ok x e1 m1) : evs P [a] e m = .ok [x] e1 m1 := by
  have q : isSpr a = false := by
    cases a <;> first | rfl | (cases h)
  rw [evs_cons q]
  show (ev P a e m).bind _ = _
  rw [h]
  rfl
theorem evs_add {P : Pg} {a : E} {es : List E} {e e1 e2 : Mn.Env} {m m1 m2 : Mu} {x : D} {xs : List D} (h : ev P a e m = .ok x e1 m1) (h2 : evs P es e1 m1 = .ok xs e2 m2) : evs P (a :: es) e m = .ok (x :: xs) e2 m2 := by
  have q : isSpr a = false := by
    cases a <;> first | rfl | (cases h)
  rw [evs_cons q]
  show (ev P a e m).bind _ = _
  rw [h]
  show (evs P es e1 m1).bind _ = _
  rw [h2]
theorem ev_tup {P : Pg} {es : List E} {e e1 : Mn.Env} {m m1 : Mu} {ds : List D} (h : evs P es e m = .ok ds e1 m1) (hl : lim ds = true) : ev P (.tup es) e m = .ok (.tup ds) e1 m1 := by
  show ((evs P es).bind fun ds => if lim ds = true then M.ret (D.tup ds) else M.of none) e m = _
  unfold M.bind
  rw [h]
  show (if lim ds = true then M.ret (D.tup ds) else M.of none) e1 m1 = _
  rw [if_pos hl]
theorem ev_lst {P : Pg} {es : List E} {e e1 : Mn.Env} {m m1 : Mu} {ds : List D} (h : evs P es e m = .ok ds e1 m1) (hl : lim ds = true) : ev P (.lst es) e m = .ok (.lst ds) e1 m1 := by
  show ((evs P es).bind fun ds => if lim ds = true then M.ret (D.lst ds) else M.of none) e m = _
  unfold M.bind
  rw [h]
  show (if lim ds = true then M.ret (D.lst ds) else M.of none) e1 m1 = _
  rw [if_pos hl]
theorem map_at {α β : Type} {f g : α → β} {xs : List α} (h : xs.map f = xs.map g) {x : α} (hx : x ∈ xs) : f x = g x := List.map_inj_left.mp h x hx
theorem ex_ex {P : Pg} {s : E} {e e1 : Mn.Env} {m m1 : Mu} {d : D} (h : ev P s e m = .ok d e1 m1) : ex P (.ex s) e m = .nx e1 m1 := by
  show ((ev P s e m).fl fun _ r m => Fl.nx r m) = _
  rw [h]
theorem its_it {P : Pg} {a : E} {e e1 : Mn.Env} {m m1 : Mu} {x : D} {xs : List D} (h : ev P a e m = .ok x e1 m1) (hr : walkD m1 x = some xs) : its P (.it a) e m = .ok xs e1 m1 := by
  show ((ev P a e m).bind fun x e m => M.of (walkD m x) e m) = _
  rw [h]
  show (M.of (walkD m1 x) e1 m1 : R (List D)) = _
  rw [hr]
theorem ev_slcfrom {P : Pg} {a b : E} {e e1 e2 : Mn.Env} {m m1 m2 : Mu} {x y z : D} (h1 : ev P a e m = .ok x e1 m1) (h2 : ev P b e1 m1 = .ok y e2 m2) (h3 : slcD m2 x [y] [] = some z) : ev P (.slc a [b] []) e m = .ok z e2 m2 := by
  have q : isSpr b = false := by
    cases b <;> first | rfl | (cases h2)
  show (ev P a e m).bind _ = _
  rw [h1]
  show (evs P [b] e1 m1).bind _ = _
  rw [evs_cons q]
  show ((ev P b e1 m1).bind _).bind _ = _
  rw [h2]
  show (M.of (slcD m2 x [y] []) e2 m2 : R D) = _
  rw [h3]
theorem evT_or2 {P : Pg} {x y : E} {e e1 e2 : Mn.Env} {m m1 m2 : Mu} (h : evT P x e m = .ok false e1 m1) (h2 : evT P y e1 m1 = .ok false e2 m2) : evT P (.or [x, y]) e m = .ok false e2 m2 := by
  show (evT P x e m).bind (fun (k : Bool) => if k = true then M.ret true else evOrT P [y]) = _
  rw [h]
  show (evT P y e1 m1).bind (fun (k : Bool) => if k = true then M.ret true else evOrT P []) = _
  rw [h2]
  rfl
theorem evT_cmp {P : Pg} {op : Cop} {a b : E} {e e1 e2 : Mn.Env} {m m1 m2 : Mu} {x y : D} {k : Bool} (h1 : ev P a e m = .ok x e1 m1) (h2 : ev P b e1 m1 = .ok y e2 m2) (h3 : cmpD m2 op x y = some k) : evT P (.cmp op a b) e m = .ok k e2 m2 := by
  show (ev P a e m).bind _ = _
  rw [h1]
  show (ev P b e1 m1).bind _ = _
  rw [h2]
  show (M.of (cmpD m2 op x y) e2 m2 : R Bool) = _
  rw [h3]
theorem ev_cmp {P : Pg} {op : Cop} {a b : E} {e e1 e2 : Mn.Env} {m m1 m2 : Mu} {x y : D} {k : Bool} (h1 : ev P a e m = .ok x e1 m1) (h2 : ev P b e1 m1 = .ok y e2 m2) (h3 : cmpD m2 op x y = some k) : ev P (.cmp op a b) e m = .ok (.bl k) e2 m2 := by
  show (ev P a e m).bind _ = _
  rw [h1]
  show (ev P b e1 m1).bind _ = _
  rw [h2]
  show (M.of ((cmpD m2 op x y).map .bl) e2 m2 : R D) = _
  rw [h3]
  rfl
theorem of_rep {α : Type} {f : D → α} {y : α} {n : Nat} {xs : List D} (h : xs.map f = List.replicate n y) : ∀ x ∈ xs, f x = y := fun x hx => List.eq_of_mem_replicate (h ▸ List.mem_map_of_mem hx)
theorem ex_forg {P : Pg} {vs : List Nat} {tg : Tg} {it : E} {b : List S} {e e1 : Mn.Env} {m m1 : Mu} {xs : List D} {r : Fl} (h : its P it e m = .ok xs e1 m1) (hr : forGo (bindTg tg) (fun r m => gcFl vs m.length (exs P b r m)) xs e1 m1 = r) : ex P (.forg vs tg it b) e m = r := by
  show ((its P it e m).fl fun xs r m => forGo (bindTg tg) (fun r m => gcFl vs m.length (exs P b r m)) xs r m) = _
  rw [h]
  exact hr
theorem ex_for {P : Pg} {tg : Tg} {it : E} {b : List S} {e e1 : Mn.Env} {m m1 : Mu} {xs : List D} {r : Fl} (h : its P it e m = .ok xs e1 m1) (hr : forGo (bindTg tg) (exs P b) xs e1 m1 = r) : ex P (.for_ tg it b) e m = r := by
  show ((its P it e m).fl fun xs r m => forGo (bindTg tg) (exs P b) xs r m) = _
  rw [h]
  exact hr
theorem forGo_nx {g : D → Mn.Env → Option Mn.Env} {f : Mn.Env → Mu → Fl} {x : D} {xs : List D} {e e1 e2 : Mn.Env} {m m2 : Mu} {r : Fl} (h1 : g x e = some e1) (h2 : f e1 m = .nx e2 m2) (h3 : forGo g f xs e2 m2 = r) : forGo g f (x :: xs) e m = r := by
  rw [forGo, h1]
  simp only
  rw [h2]
  exact h3
end Mn
namespace Mn
open PySem
theorem ev_me {P : Pg} {me : Me} {o : E} {es : List E} {e e1 e2 : Mn.Env} {m m1 m2 m3 : Mu} {x d : D} {ds : List D} (h1 : ev P o e m = .ok x e1 m1) (ht : meT m1 me x = true) (h2 : evs P es e1 m1 = .ok ds e2 m2) (h3 : meD m2 me x ds = some (d, m3)) : ev P (.me me o es) e m = .ok d e2 m3 := by
  rw [ev]
  unfold M.bind
  rw [h1]
  show (if meT m1 me x = true then (evs P es e1 m1).bind fun ds e m => match meD m me x ds with
    | some (d, m') => R.ok d e m'
    | none => R.stuck else R.stuck) = _
  rw [if_pos ht, h2]
  show (match meD m2 me x ds with
    | some (d, m') => R.ok d e2 m'
    | none => R.stuck) = _
  rw [h3]
theorem ev_srt {P : Pg} {a : E} {e e1 : Mn.Env} {m m1 : Mu} {x z : D} (h : ev P a e m = .ok x e1 m1) (hz : srtD m1 x = some z) : ev P (.srt a) e m = .ok z e1 m1 := by
  rw [ev]
  unfold M.bind
  rw [h]
  show (M.of (srtD m1 x) e1 m1 : R D) = _
  rw [hz]
end Mn
end
section
set_option Elab.async false
set_option linter.all false
set_option maxRecDepth 100000
set_option maxHeartbeats 1000000
/-! k00, the plain side: ints of at most forty digits, shown. -/
namespace Kl
open PySem Mn
theorem ok_app (x y : Str) : PyData.strOk (x ++ y) = (PyData.strOk x && PyData.strOk y) := by
  show (x.cps ++ y.cps).all _ = _
  rw [Array.all_append]
  rfl
theorem ok_of (s : String) : PyData.strOk (Str.ofString s) = true := by
  rw [Str.ofString_eq_toList]
  unfold PyData.strOk
  rw [← Array.all_toList]
  simp only [List.all_eq_true, List.mem_map, decide_eq_true_eq]
  rintro n ⟨c, _, rfl⟩
  have := c.valid
  rcases this with h | h
  · have h1 : c.toNat < 55296 := h
    omega
  · have h1 : c.toNat < 1114112 := h.2
    omega
theorem len_of (s : String) : (Str.ofString s).length = s.length := by
  rw [Str.ofString_eq_toList]
  show (s.toList.map Char.toNat).toArray.size = _
  rw [List.size_toArray, List.length_map]
  first | exact String.length_toList | rfl | exact (String.length_toList s)
abbrev pL (i : Int) : PyData := .list [.int i, .int i, .int i, .tuple [.str "lost", .tuple [.tuple [.str "e", .int i]], .tuple [.int i]], .int i]
abbrev dL (i : Int) : D := .lst [.int i, .int i, .int i, .tup [.str "lost", .tup [.tup [.str "e", .int i]], .tup [.int i]], .int i]
/-- of a text: its signs are such, and not too many -/
def Good (n : Nat) (x : Str) : Prop := PyData.strOk x = true ∧ x.length ≤ n
theorem Good.app {a b : Nat} {x y : Str} (h : Good a x) (k : Good b y) : Good (a + b) (x ++ y) := ⟨by rw [ok_app, h.1, k.1]; rfl, by rw [strLen_append]; exact Nat.add_le_add h.2 k.2⟩
theorem Good.of (s : String) : Good s.length (Str.ofString s) := ⟨ok_of s, Nat.le_of_eq (len_of s)⟩
theorem Good.int {i : Int} (h : i.natAbs < 10 ^ 40) : Good 41 (Str.ofString (toString i)) := ⟨ok_of _, by rw [len_of]; exact int_text_length_le10 (by decide) h⟩
theorem Good.le {a b : Nat} {x : Str} (h : Good a x) (k : a ≤ b) : Good b x := ⟨h.1, Nat.le_trans h.2 k⟩
theorem Good.from {b : Nat} : ∀ {ts : List Str} {k a : Nat} {acc : Str}, Good a acc → (∀ t ∈ ts, Good b t) → Good (a + ts.length * (b + 2)) (textFrom k acc ts)
  | [], _, a, _, h, _ => by
    show Good (a + 0 * (b + 2)) _
    rw [Nat.zero_mul]
    exact h
  | t :: ts, k, a, acc, h, q => by
    have h1 : Good (a + 2) (acc ++ (Str.ofString (if k > 0 then ", " else ""))) := by
      by_cases z : k > 0
      · rw [if_pos z]
        exact h.app (Good.of ", ")
      · rw [if_neg z]
        exact (h.app (Good.of "")).le (by show a + 0 ≤ a + 2; omega)
    have h2 := Good.from (k := k + 1) (h1.app (q t List.mem_cons_self)) fun t ht => q t (List.mem_cons_of_mem _ ht)
    refine Good.le h2 ?_
    rw [List.length_cons, Nat.add_mul]
    omega
theorem Good.list {b : Nat} {ts : List Str} (q : ∀ t ∈ ts, Good b t) : Good (1 + ts.length * (b + 2) + 1) (listText ts) := (Good.from (Good.of "[") q).app (Good.of "]")
theorem Good.join {b : Nat} : ∀ {ts : List Str}, (∀ t ∈ ts, Good b t) → Good (ts.length * (b + 2)) (Str.join ", " ts)
  | [], _ => ⟨by decide +kernel, by show Str.length _ ≤ 0 * (b + 2); rw [Nat.zero_mul]; exact Nat.le_refl 0⟩
  | [x], q => (q x List.mem_cons_self).le (by show b ≤ 1 * (b + 2); omega)
  | x :: y :: r, q => by
    have h := Good.join (ts := y :: r) fun t ht => q t (List.mem_cons_of_mem _ ht)
    refine Good.le (((q x List.mem_cons_self).app (Good.of ", ")).app h) ?_
    show b + 2 + (r.length + 1) * (b + 2) ≤ (r.length + 1 + 1) * (b + 2)
    rw [Nat.add_mul (r.length + 1) 1]
    omega
theorem Good.tuple {b : Nat} {ts : List Str} (q : ∀ t ∈ ts, Good b t) : Good (1 + ts.length * (b + 2) + 2) (tupleText ts) := by
  refine Good.app ((Good.of "(").app (Good.join q)) ?_
  split
  · exact Good.of ",)"
  · exact (Good.of ")").le (by decide)
theorem one_of {b : Nat} {x : Str} (h : Good b x) : ∀ t ∈ [x], Good b t := fun t ht => by
  rcases List.mem_singleton.mp ht with rfl
  exact h
theorem good_pL {i : Int} (h : i.natAbs < 10 ^ 40) : Good 5000 (pL i).shown := by
  have g := Good.int h
  have t1 : Good 46 (tupleText [Str.ofString (toString i)]) := (Good.tuple (one_of g)).le (by simp only [List.length_cons, List.length_nil]; omega)
  have t2 : Good 89 (tupleText [reprText "e", Str.ofString (toString i)]) := (Good.tuple (b := 41) fun t ht => by
    rcases List.mem_cons.mp ht with rfl | ht
    · exact ⟨by decide +kernel, by decide +kernel⟩
    · exact one_of g t ht).le (by simp only [List.length_cons, List.length_nil]; omega)
  have t3 : Good 94 (tupleText [tupleText [reprText "e", Str.ofString (toString i)]]) := (Good.tuple (one_of t2)).le (by simp only [List.length_cons, List.length_nil]; omega)
  have t4 : Good 291 (tupleText [reprText "lost", tupleText [tupleText [reprText "e", Str.ofString (toString i)]], tupleText [Str.ofString (toString i)]]) := (Good.tuple (b := 94) fun t ht => by
    rcases List.mem_cons.mp ht with rfl | ht
    · exact ⟨by decide +kernel, by decide +kernel⟩
    · rcases List.mem_cons.mp ht with rfl | ht
      · exact t3
      · exact (one_of (t1.le (by decide)) t ht)).le (by simp only [List.length_cons, List.length_nil]; omega)
  refine Good.le (Good.list (b := 291) (ts := [Str.ofString (toString i), Str.ofString (toString i), Str.ofString (toString i), tupleText [reprText "lost", tupleText [tupleText [reprText "e", Str.ofString (toString i)]], tupleText [Str.ofString (toString i)]], Str.ofString (toString i)]) fun t ht => ?_) (by simp only [List.length_cons, List.length_nil]; omega)
  simp only [List.mem_cons, List.not_mem_nil, or_false] at ht
  rcases ht with rfl | rfl | rfl | rfl | rfl
  · exact g.le (by decide)
  · exact g.le (by decide)
  · exact g.le (by decide)
  · exact t4
  · exact g.le (by decide)
theorem log_ok {i : Int} (h : i.natAbs < 10 ^ 40) : i.natAbs.log2 < 1920 := by
  by_cases z : i.natAbs = 0
  · rw [z]
    decide
  · exact (Nat.log2_lt z).mpr (Nat.lt_of_lt_of_le h (by decide +kernel))
theorem repr_dL {i : Int} (h : i.natAbs < 10 ^ 40) : biD [] .repr [dL i] = some (.str (pL i).shown) := by
  have e1 : pyOf [] (dL i) = some (pL i) := by kernel_rfl
  have e2 : (pL i).showable = true := by
    simp only [PyData.showable, PyData.showableAll, log_ok h, decide_true, Bool.true_and, Bool.and_true]
  show reprD [] (dL i) = _
  show (match pyOf [] (dL i) with
    | some p => if p.showable = true ∧ p.hasDict = false ∧ p.shown.length ≤ 16777216 then some (D.str p.shown) else none
    | none => reprX (dL i)) = _
  rw [e1]
  exact if_pos ⟨e2, rfl, Nat.le_trans (good_pL h).2 (by decide)⟩
theorem ne_str {x : Str} (h : PyData.strOk x = true) : cmpD [] .ne (.str x) (.str x) = some false := by
  have e1 : pyOf [] (.str x) = some (.str x) := by
    show (if SeqAt.shaped (.str x) = true then some (PyData.str x) else none) = _
    refine if_pos ?_
    unfold SeqAt.shaped
    rw [show (PyData.str x).canLay0 = true from h]
    rfl
  show (eqD [] (.str x) (.str x)).map (!·) = _
  unfold eqD
  rw [e1]
  show some (!(PyData.eqv (.str x) (.str x))) = _
  have : PyData.eqv (.str x) (.str x) = true := by
    simp [PyData.eqv]
  rw [this]
  rfl
end Kl
end
section
set_option Elab.async false
set_option linter.all false
set_option maxRecDepth 100000
set_option maxHeartbeats 1000000
/-! k00: _law_valued_right of an int, and of the written things. -/
namespace Kl
open PySem Mn
theorem split5 {P : Pg} {pre post : List S} {e e1 : Mn.Env} {m m1 : Mu} {r : Fl} (h : exs P pre e m = .nx e1 m1) (h2 : exs P post e1 m1 = r) : exs P (pre ++ post) e m = r := by
  induction pre generalizing e m with
  | nil =>
    have : Fl.nx e m = .nx e1 m1 := h
    cases this
    exact h2
  | cons s ss ih =>
    show exs P (s :: (ss ++ post)) e m = r
    cases hs : ex P s e m with
    | nx e2 m2 =>
      refine exs_cons hs (ih ?_)
      have q : exs P (s :: ss) e m = exs P ss e2 m2 := exs_cons hs rfl
      rw [← q]
      exact h
    | rt d m2 => rw [exs_rt hs] at h; cases h
    | bk e2 m2 =>
      exfalso
      have q : exs P (s :: ss) e m = .bk e2 m2 := by
        show (match ex P s e m with | .nx e m => exs P ss e m | r => r) = _
        rw [hs]
      rw [q] at h; cases h
    | ct e2 m2 =>
      exfalso
      have q : exs P (s :: ss) e m = .ct e2 m2 := by
        show (match ex P s e m with | .nx e m => exs P ss e m | r => r) = _
        rw [hs]
      rw [q] at h; cases h
    | exc c vs m2 =>
      exfalso
      have q : exs P (s :: ss) e m = .exc c vs m2 := by
        show (match ex P s e m with | .nx e m => exs P ss e m | r => r) = _
        rw [hs]
      rw [q] at h; cases h
    | stuck =>
      exfalso
      have q : exs P (s :: ss) e m = .stuck := by
        show (match ex P s e m with | .nx e m => exs P ss e m | r => r) = _
        rw [hs]
      rw [q] at h; cases h
abbrev pap (i : Int) : D := .tup [.str "lost", .tup [.tup [.str "e", .int i]], .tup [.int i]]
/-- the names' values ahead of the texts -/
abbrev eV (i : Int) : Mn.Env := [some (.int i), some (.int i), some (pap i), some (.set [.str "InvalidNumber", .str "value", .int i]), some (.set [.str "UnknownName", .str "name", .int i]), some (.set [.str "TooMany", .str "limit", .int i]),
  some (.set [.str "Lost", .str "paper", pap i]), some (.set [.str "NothingToUndo", .str "many", .int i]), some (dL i), none, none, none]
theorem pre18 (i : Int) : exs P18 (b18.take 5) [some (.int i), none, none, none, none, none, none, none, none, none, none, none] [] = .nx (eV i) [] := by kernel_rfl
theorem post18 (i : Int) : exs P18 (b18.drop 6) (eV i) [] = .rt (.bl true) [] := by kernel_rfl
theorem b18_parts : b18 = b18.take 5 ++ (.ite (.cmp .ne (.bi .repr [(.lst [(.attr (.v 3) "value"), (.attr (.v 4) "name"), (.attr (.v 5) "limit"), (.attr (.v 6) "paper"), (.attr (.v 7) "many")])]) (.bi .repr [(.v 8)])) [(.ret (.lit (.bool false)))] []) :: b18.drop 6 := rfl
theorem valued_int {i : Int} (h : i.natAbs < 10 ^ 40) : g18 [.int i] [] = .ok (.bl true) [] [] := by
  refine run_by rfl b18_parts rfl (split5 (pre18 i) (exs_cons (e1 := eV i) (m1 := []) ?_ (post18 i))) rfl
  refine ex_ite (k := false) (e1 := eV i) (m1 := []) (evT_cmp (e1 := eV i) (m1 := []) (e2 := eV i) (m2 := []) (x := .str (pL i).shown) (y := .str (pL i).shown) (ev_bi1 (x := dL i) (e1 := eV i) (m1 := []) (by kernel_rfl) (repr_dL h)) (ev_bi1 (x := dL i) (e1 := eV i) (m1 := []) (by kernel_rfl) (repr_dL h)) (ne_str (good_pL h).1)) ?_
  exact exs_nil (P := P18)
/-- what is written, none of it a great int -/
abbrev things : List D := [.non, .int 0, .int (-1), .bl true, .str "", .str "a", .tup [], .tup [.int 1, .tup [.int 2]], .lst [], .lst [.int 1], .dic false [] [], .dic false [.str "a"] [.int 1], .int (10 ^ 39)]
theorem valued_thing : ∀ x ∈ things, g18 [x] [] = .ok (.bl true) [] [] := by
  have k : ∀ x ∈ [D.non, .bl true, .str "", .str "a", .tup [], .tup [.int 1, .tup [.int 2]], .lst [], .lst [.int 1], .dic false [] [], .dic false [.str "a"] [.int 1]], g18 [x] [] = .ok (.bl true) [] [] := by
    refine of_rep (n := 10) ?_
    kernel_rfl
  intro x hx
  simp only [things, List.mem_cons, List.not_mem_nil, or_false] at hx
  rcases hx with rfl | rfl | rfl | rfl | rfl | rfl | rfl | rfl | rfl | rfl | rfl | rfl | rfl
  · exact k _ (by simp)
  · exact valued_int (by decide)
  · exact valued_int (by decide)
  · exact k _ (by simp)
  · exact k _ (by simp)
  · exact k _ (by simp)
  · exact k _ (by simp)
  · exact k _ (by simp)
  · exact k _ (by simp)
  · exact k _ (by simp)
  · exact k _ (by simp)
  · exact k _ (by simp)
  · exact valued_int (by decide +kernel)
end Kl
end
section
set_option Elab.async false
set_option linter.all false
set_option maxRecDepth 100000
set_option maxHeartbeats 1000000
/-! k00: the law. -/
namespace Kl
open PySem Mn
abbrev errs : D := .lst [.set [.str "InvalidName"], .set [.str "InvalidRows"], .set [.str "InvalidPattern"], .set [.str "InvalidQuestion"], .set [.str "InvalidNeed"], .set [.str "InvalidPlacement"], .set [.str "InvalidOperation"], .set [.str "InvalidEdit"], .set [.str "ParseError"], .set [.str "InvalidCommand"]]
abbrev eL (ns : List Int) (xs : List D) (c t : Option D) : Mn.Env := [some (.scr ns), some errs, some (.int 9), some (.set [.str "InvalidCommand"]), none, some (.lst xs), c, t]
theorem pre19 (ns : List Int) : exs P19 (b19.take 5) [some (.scr ns), none, none, none, none, none, none, none] [] = .nx (eL ns things none none) [] := by kernel_rfl
def fc (c : Int) : Int := (if c < 0 then -c else c) % 10 ^ 40
theorem fc_small (c : Int) : (fc c).natAbs < 10 ^ 40 := by
  have h1 : 0 ≤ fc c := Int.emod_nonneg _ (by decide +kernel)
  have h2 : fc c < 10 ^ 40 := Int.emod_lt_of_pos _ (by decide +kernel)
  omega
abbrev elt6 : E := .bin .mod (.bi .int [.bi .abs [.v 6]]) (.bin .pow (.lit (.int 10)) (.lit (.int 40)))
theorem pow40 (e : Mn.Env) : ev P19 (.bin .pow (.lit (.int 10)) (.lit (.int 40))) e [] = .ok (.int (10 ^ 40)) e [] := by kernel_rfl
theorem elt_at (ns : List Int) (c : Int) : ev P19 elt6 (eL ns things (some (.int c)) none) [] = .ok (.int (fc c)) (eL ns things (some (.int c)) none) [] :=
  ev_bin (x := .int (if c < 0 then -c else c)) (ev_bi1 (ev_bi1 (x := .int c) rfl rfl) rfl) (pow40 _) (binD_mod (by decide +kernel))
theorem cells_go (ns : List Int) : ∀ cs : List Int, lcGo (bindTg (.nm 6)) (evAndT P19 []) (ev P19 elt6) [6] (cs.map .int) (eL ns things none none) [] = .ok (cs.map fun c => .int (fc c)) (eL ns things none none) []
  | [] => rfl
  | c :: cs => lc_step (e1 := eL ns things (some (.int c)) none) rfl rfl (elt_at ns c) (cells_go ns cs)
theorem slice_cells (ns : List Int) : ∃ cs : List Int, sliceD (ns.map .int) none (some 9) = cs.map .int ∧ cs.length ≤ ns.length := by
  refine ⟨(ns.drop (HT.sIx (ns.map D.int).length 0 none)).take (HT.sIx (ns.map D.int).length (ns.map D.int).length (some 9) - HT.sIx (ns.map D.int).length 0 none), ?_, ?_⟩
  · unfold sliceD
    rw [List.map_take, List.map_drop]
  · rw [List.length_take, List.length_drop]
    omega
theorem judged_skip (ns : List Int) (all : List D) : ∀ xs : List D, (∀ x ∈ xs, g18 [x] [] = .ok (.bl true) [] []) →
    lcGo (bindTg (.nm 7)) (evAndT P19 [.not (.tr (.fn 18 [.v 7]))]) (ev P19 (.v 7)) [7] xs (eL ns all none none) [] = .ok [] (eL ns all none none) []
  | [], _ => rfl
  | x :: xs, h => by
    refine lc_skip (e1 := eL ns all none (some x)) (e2 := eL ns all none (some x)) (m2 := []) rfl ?_ (judged_skip ns all xs fun y hy => h y (List.mem_cons_of_mem _ hy))
    have h1 : ev P19 (.fn 18 [.v 7]) (eL ns all none (some x)) [] = .ok (.bl true) (eL ns all none (some x)) [] := ev_fn (evs_one (x := x) rfl) (h x List.mem_cons_self)
    show ((((ev P19 (.fn 18 [.v 7]) (eL ns all none (some x)) []).bind fun y e m => M.of (truD m y) e m).bind fun k => M.ret (!k)).bind fun k => if k = true then evAndT P19 [] else M.ret false) = _
    rw [h1]
    rfl
theorem b19_parts : b19 = b19.take 5 ++ [.set (.nm 5) (.bin .add (.v 5) (.lc [6] (.nm 6) (.it (.slc (.v 0) [] [.lit (.int 9)])) [] elt6)), .ret (.cmp .eq (.lc [7] (.nm 7) (.it (.v 5)) [.not (.tr (.fn 18 [.v 7]))] (.v 7)) (.lst []))] := rfl
theorem add_lst {xs ys : List D} (h : (xs ++ ys).length ≤ 16777216) : binD [] .add (.lst xs) (.lst ys) = some (.lst (xs ++ ys)) := by
  show (if lim (xs ++ ys) = true then some (D.lst (xs ++ ys)) else none) = _
  exact if_pos (decide_eq_true h)
theorem law_plain (ns : List Int) (hl : ns.length ≤ 63) : ∃ e m, run P19 1 8 b19 [.scr ns] [] = .ok (.bl true) e m := by
  obtain ⟨cs, hc, hcl⟩ := slice_cells ns
  have hall : ∀ x ∈ things ++ cs.map (fun c => D.int (fc c)), g18 [x] [] = .ok (.bl true) [] [] := fun x hx => by
    rcases List.mem_append.mp hx with hx | hx
    · exact valued_thing x hx
    · obtain ⟨c, _, rfl⟩ := List.mem_map.mp hx
      exact valued_int (fc_small c)
  have hlen : (things ++ cs.map (fun c => D.int (fc c))).length ≤ 16777216 := by
    rw [List.length_append, List.length_map]
    show 13 + cs.length ≤ 16777216
    omega
  have s5 : ex P19 (.set (.nm 5) (.bin .add (.v 5) (.lc [6] (.nm 6) (.it (.slc (.v 0) [] [.lit (.int 9)])) [] elt6))) (eL ns things none none) [] = .nx (eL ns (things ++ cs.map fun c => D.int (fc c)) none none) [] := by
    refine ex_set (e1 := eL ns things none none) (m1 := []) (d := .lst (things ++ cs.map fun c => D.int (fc c))) (ev_bin (x := .lst things) (e1 := eL ns things none none) (m1 := []) rfl (ev_lc (xs := cs.map .int) (e1 := eL ns things none none) (m1 := []) ?_ (cells_go ns cs) ?_) (add_lst hlen)) rfl
    · rw [← hc]
      exact its_it (x := .lst (sliceD (ns.map .int) none (some 9))) (ev_slcto (x := .scr ns) (y := .int 9) rfl rfl rfl) rfl
    · rw [List.length_map]
      omega
  have s6 : ex P19 (.ret (.cmp .eq (.lc [7] (.nm 7) (.it (.v 5)) [.not (.tr (.fn 18 [.v 7]))] (.v 7)) (.lst []))) (eL ns (things ++ cs.map fun c => D.int (fc c)) none none) [] = .rt (.bl true) [] :=
    ex_ret (ev_cmp (x := .lst []) (y := .lst []) (e1 := eL ns (things ++ cs.map fun c => D.int (fc c)) none none) (m1 := []) (ev_lc (its_it (x := .lst (things ++ cs.map fun c => D.int (fc c))) rfl rfl) (judged_skip ns _ _ hall) (by decide)) rfl rfl)
  exact ⟨[], [], run_by rfl b19_parts rfl (split5 (pre19 ns) (exs_cons s5 (exs_rt s6))) rfl⟩
end Kl
end
set_option Elab.async false
set_option maxRecDepth 100000
namespace Kl
open PySem L2 Mn
theorem all_mk {w : World} {K : PySem.W.Frag} {h : Heap} {mg : Str → Option Value} {fa f0 f1 f2 f3 f4 f5 f6 f7 f8 f9 f10 f11 f12 f13 f14 f15 f16 f17 f18 f19 fi11 fi12 fi13 fi14 fi15 : Addr} (X : K.In h) (G : h.Ns mainGlobals mg) (hfa : mg "law" = some (.ref fa))
    {od11 an11 od12 an12 od13 an13 od14 an14 od15 an15 od16 an16 od17 an17 od18 an18 od19 an19 : Option Addr} {sl11 sl12 sl13 sl14 sl15 sl16 sl17 sl18 sl19 : Array (Option Value)} {oc11 kV11 dc11 pm11 cd11 ct11 oc12 kV12 dc12 pm12 cd12 ct12 oc13 kV13 dc13 pm13 cd13 ct13 oc14 kV14 dc14 pm14 cd14 ct14 oc15 kV15 dc15 pm15 cd15 ct15 oc16 kV16 dc16 pm16 cd16 ct16 oc17 kV17 dc17 pm17 cd17 ct17 oc18 kV18 dc18 pm18 cd18 ct18 oc19 kV19 dc19 pm19 cd19 ct19 : Value}
    (a0 : PySem.W.nsIn K mainGlobals "MeetError" = some (some (.ref f0))) (ok0 : clsXB K f0 = true) (q0 : PySem.W.excIn K f0 [.type "ValueError", .type "Exception", .type "BaseException", .type "object"] "ValueError.__new__" = true) (k0 : PySem.W.keepIn K (.ref f0) = true)
    (a1 : PySem.W.nsIn K mainGlobals "InvalidName" = some (some (.ref f1))) (ok1 : clsXB K f1 = true) (q1 : PySem.W.excIn K f1 [.type "ValueError", .type "Exception", .type "BaseException", .type "object"] "ValueError.__new__" = true) (k1 : PySem.W.keepIn K (.ref f1) = true)
    (a2 : PySem.W.nsIn K mainGlobals "InvalidRows" = some (some (.ref f2))) (ok2 : clsXB K f2 = true) (q2 : PySem.W.excIn K f2 [.type "ValueError", .type "Exception", .type "BaseException", .type "object"] "ValueError.__new__" = true) (k2 : PySem.W.keepIn K (.ref f2) = true)
    (a3 : PySem.W.nsIn K mainGlobals "InvalidPattern" = some (some (.ref f3))) (ok3 : clsXB K f3 = true) (q3 : PySem.W.excIn K f3 [.type "ValueError", .type "Exception", .type "BaseException", .type "object"] "ValueError.__new__" = true) (k3 : PySem.W.keepIn K (.ref f3) = true)
    (a4 : PySem.W.nsIn K mainGlobals "InvalidQuestion" = some (some (.ref f4))) (ok4 : clsXB K f4 = true) (q4 : PySem.W.excIn K f4 [.type "ValueError", .type "Exception", .type "BaseException", .type "object"] "ValueError.__new__" = true) (k4 : PySem.W.keepIn K (.ref f4) = true)
    (a5 : PySem.W.nsIn K mainGlobals "InvalidNeed" = some (some (.ref f5))) (ok5 : clsXB K f5 = true) (q5 : PySem.W.excIn K f5 [.type "ValueError", .type "Exception", .type "BaseException", .type "object"] "ValueError.__new__" = true) (k5 : PySem.W.keepIn K (.ref f5) = true)
    (a6 : PySem.W.nsIn K mainGlobals "InvalidPlacement" = some (some (.ref f6))) (ok6 : clsXB K f6 = true) (q6 : PySem.W.excIn K f6 [.type "ValueError", .type "Exception", .type "BaseException", .type "object"] "ValueError.__new__" = true) (k6 : PySem.W.keepIn K (.ref f6) = true)
    (a7 : PySem.W.nsIn K mainGlobals "InvalidOperation" = some (some (.ref f7))) (ok7 : clsXB K f7 = true) (q7 : PySem.W.excIn K f7 [.type "ValueError", .type "Exception", .type "BaseException", .type "object"] "ValueError.__new__" = true) (k7 : PySem.W.keepIn K (.ref f7) = true)
    (a8 : PySem.W.nsIn K mainGlobals "InvalidEdit" = some (some (.ref f8))) (ok8 : clsXB K f8 = true) (q8 : PySem.W.excIn K f8 [.type "ValueError", .type "Exception", .type "BaseException", .type "object"] "ValueError.__new__" = true) (k8 : PySem.W.keepIn K (.ref f8) = true)
    (a9 : PySem.W.nsIn K mainGlobals "ParseError" = some (some (.ref f9))) (ok9 : clsXB K f9 = true) (q9 : PySem.W.excIn K f9 [.type "ValueError", .type "Exception", .type "BaseException", .type "object"] "ValueError.__new__" = true) (k9 : PySem.W.keepIn K (.ref f9) = true)
    (a10 : PySem.W.nsIn K mainGlobals "InvalidCommand" = some (some (.ref f10))) (ok10 : clsXB K f10 = true) (q10 : PySem.W.excIn K f10 [.type "ValueError", .type "Exception", .type "BaseException", .type "object"] "ValueError.__new__" = true) (k10 : PySem.W.keepIn K (.ref f10) = true)
    (a11 : PySem.W.nsIn K mainGlobals "InvalidNumber" = some (some (.ref f11))) (ok11 : clsXB K f11 = true) (q11 : xinB K f11 [.type "IndexError", .type "LookupError", .type "Exception", .type "BaseException", .type "object"] "IndexError.__new__" = true) (k11 : PySem.W.keepIn K (.ref f11) = true) (no11 : PySem.W.findIn K (.ref f11) "value" = some none)
    (ic11 : PySem.W.findIn K (.ref f11) "__init__" = some (some (.ref fi11))) (ti11 : PySem.W.typeIn K (.ref fi11) = some (.type "function")) (vv11 : PySem.W.findCls K (.type "IndexError") (.type "type") "__init__" = some (.val (.builtin "IndexError.__init__")))
    (l11 : K.lookup fi11 = some ⟨oc11, od11, .func (PySem.W.fnOf "__init__" "InvalidNumber.__init__" (defArgs t11) (defBody t11) (defScope t11) .none kV11 dc11 pm11 an11 cd11 ct11), sl11⟩) (cc11 : PySem.W.codeIn K cd11 "InvalidNumber.__init__" = true) (ki11 : PySem.W.keepIn K (.ref fi11) = true)
    (a12 : PySem.W.nsIn K mainGlobals "UnknownName" = some (some (.ref f12))) (ok12 : clsXB K f12 = true) (q12 : xinB K f12 [.type "KeyError", .type "LookupError", .type "Exception", .type "BaseException", .type "object"] "LookupError.__new__" = true) (k12 : PySem.W.keepIn K (.ref f12) = true) (no12 : PySem.W.findIn K (.ref f12) "name" = some none)
    (ic12 : PySem.W.findIn K (.ref f12) "__init__" = some (some (.ref fi12))) (ti12 : PySem.W.typeIn K (.ref fi12) = some (.type "function")) (vv12 : PySem.W.findCls K (.type "KeyError") (.type "type") "__init__" = some (.val (.builtin "KeyError.__init__")))
    (l12 : K.lookup fi12 = some ⟨oc12, od12, .func (PySem.W.fnOf "__init__" "UnknownName.__init__" (defArgs t12) (defBody t12) (defScope t12) .none kV12 dc12 pm12 an12 cd12 ct12), sl12⟩) (cc12 : PySem.W.codeIn K cd12 "UnknownName.__init__" = true) (ki12 : PySem.W.keepIn K (.ref fi12) = true)
    (a13 : PySem.W.nsIn K mainGlobals "TooMany" = some (some (.ref f13))) (ok13 : clsXB K f13 = true) (q13 : xinB K f13 [.type "OverflowError", .type "ArithmeticError", .type "Exception", .type "BaseException", .type "object"] "OverflowError.__new__" = true) (k13 : PySem.W.keepIn K (.ref f13) = true) (no13 : PySem.W.findIn K (.ref f13) "limit" = some none)
    (ic13 : PySem.W.findIn K (.ref f13) "__init__" = some (some (.ref fi13))) (ti13 : PySem.W.typeIn K (.ref fi13) = some (.type "function")) (vv13 : PySem.W.findCls K (.type "OverflowError") (.type "type") "__init__" = some (.val (.builtin "OverflowError.__init__")))
    (l13 : K.lookup fi13 = some ⟨oc13, od13, .func (PySem.W.fnOf "__init__" "TooMany.__init__" (defArgs t13) (defBody t13) (defScope t13) .none kV13 dc13 pm13 an13 cd13 ct13), sl13⟩) (cc13 : PySem.W.codeIn K cd13 "TooMany.__init__" = true) (ki13 : PySem.W.keepIn K (.ref fi13) = true)
    (a14 : PySem.W.nsIn K mainGlobals "Lost" = some (some (.ref f14))) (ok14 : clsXB K f14 = true) (q14 : xinB K f14 [.type "RuntimeError", .type "Exception", .type "BaseException", .type "object"] "RuntimeError.__new__" = true) (k14 : PySem.W.keepIn K (.ref f14) = true) (no14 : PySem.W.findIn K (.ref f14) "paper" = some none)
    (ic14 : PySem.W.findIn K (.ref f14) "__init__" = some (some (.ref fi14))) (ti14 : PySem.W.typeIn K (.ref fi14) = some (.type "function")) (vv14 : PySem.W.findCls K (.type "RuntimeError") (.type "type") "__init__" = some (.val (.builtin "RuntimeError.__init__")))
    (l14 : K.lookup fi14 = some ⟨oc14, od14, .func (PySem.W.fnOf "__init__" "Lost.__init__" (defArgs t14) (defBody t14) (defScope t14) .none kV14 dc14 pm14 an14 cd14 ct14), sl14⟩) (cc14 : PySem.W.codeIn K cd14 "Lost.__init__" = true) (ki14 : PySem.W.keepIn K (.ref fi14) = true)
    (a15 : PySem.W.nsIn K mainGlobals "NothingToUndo" = some (some (.ref f15))) (ok15 : clsXB K f15 = true) (q15 : xinB K f15 [.type "LookupError", .type "Exception", .type "BaseException", .type "object"] "LookupError.__new__" = true) (k15 : PySem.W.keepIn K (.ref f15) = true) (no15 : PySem.W.findIn K (.ref f15) "many" = some none)
    (ic15 : PySem.W.findIn K (.ref f15) "__init__" = some (some (.ref fi15))) (ti15 : PySem.W.typeIn K (.ref fi15) = some (.type "function")) (vv15 : PySem.W.findCls K (.type "LookupError") (.type "type") "__init__" = some (.val (.builtin "LookupError.__init__")))
    (l15 : K.lookup fi15 = some ⟨oc15, od15, .func (PySem.W.fnOf "__init__" "NothingToUndo.__init__" (defArgs t15) (defBody t15) (defScope t15) .none kV15 dc15 pm15 an15 cd15 ct15), sl15⟩) (cc15 : PySem.W.codeIn K cd15 "NothingToUndo.__init__" = true) (ki15 : PySem.W.keepIn K (.ref fi15) = true)
    (a16 : PySem.W.nsIn K mainGlobals "_law_with_message_right" = some (some (.ref f16))) (l16 : K.lookup f16 = some ⟨oc16, od16, .func (PySem.W.fnOf "_law_with_message_right" "_law_with_message_right" (defArgs t16) (defBody t16) (defScope t16) .none kV16 dc16 pm16 an16 cd16 ct16), sl16⟩) (cc16 : PySem.W.codeIn K cd16 "_law_with_message_right" = true) (k16 : PySem.W.keepIn K (.ref f16) = true)
    (a17 : PySem.W.nsIn K mainGlobals "_law_kinds" = some (some (.ref f17))) (l17 : K.lookup f17 = some ⟨oc17, od17, .func (PySem.W.fnOf "_law_kinds" "_law_kinds" (defArgs t17) (defBody t17) (defScope t17) .none kV17 dc17 pm17 an17 cd17 ct17), sl17⟩) (cc17 : PySem.W.codeIn K cd17 "_law_kinds" = true) (k17 : PySem.W.keepIn K (.ref f17) = true)
    (a18 : PySem.W.nsIn K mainGlobals "_law_valued_right" = some (some (.ref f18))) (l18 : K.lookup f18 = some ⟨oc18, od18, .func (PySem.W.fnOf "_law_valued_right" "_law_valued_right" (defArgs t18) (defBody t18) (defScope t18) .none kV18 dc18 pm18 an18 cd18 ct18), sl18⟩) (cc18 : PySem.W.codeIn K cd18 "_law_valued_right" = true) (k18 : PySem.W.keepIn K (.ref f18) = true)
    (a19 : PySem.W.nsIn K mainGlobals "law" = some (some (.ref f19))) (l19 : K.lookup f19 = some ⟨oc19, od19, .func (PySem.W.fnOf "law" "law" (defArgs t19) (defBody t19) (defScope t19) .none kV19 dc19 pm19 an19 cd19 ct19), sl19⟩) (cc19 : PySem.W.codeIn K cd19 "law" = true) (k19 : PySem.W.keepIn K (.ref f19) = true)
    (tb0 : tblB K (.ref f0) tbl0 = true)
    (tb1 : tblB K (.type "ValueError") tbl1 = true)
    (tb2 : tblB K (.type "LookupError") tbl2 = true)
    (tb3 : tblB K (.type "OverflowError") tbl3 = true)
    (tb4 : tblB K (.type "RuntimeError") tbl4 = true)
    (tb5 : tblB K (.ref f1) tbl5 = true)
    (tb6 : tblB K (.ref f2) tbl6 = true)
    (tb7 : tblB K (.ref f3) tbl7 = true)
    (tb8 : tblB K (.ref f4) tbl8 = true)
    (tb9 : tblB K (.ref f5) tbl9 = true)
    (tb10 : tblB K (.ref f6) tbl10 = true)
    (tb11 : tblB K (.ref f7) tbl11 = true)
    (tb12 : tblB K (.ref f8) tbl12 = true)
    (tb13 : tblB K (.ref f9) tbl13 = true)
    (tb14 : tblB K (.ref f10) tbl14 = true)
    (tb15 : tblB K (.type "IndexError") tbl15 = true)
    (tb16 : tblB K (.type "KeyError") tbl16 = true)
    (tb17 : tblB K (.ref f11) tbl17 = true)
    (tb18 : tblB K (.ref f12) tbl18 = true)
    (tb19 : tblB K (.ref f13) tbl19 = true)
    (tb20 : tblB K (.ref f14) tbl20 = true)
    (z0 : PySem.W.nsIn K mainGlobals "IndexError" = some none)
    (z1 : PySem.W.nsIn K mainGlobals "KeyError" = some none)
    (z2 : PySem.W.nsIn K mainGlobals "LookupError" = some none)
    (z3 : PySem.W.nsIn K mainGlobals "OverflowError" = some none)
    (z4 : PySem.W.nsIn K mainGlobals "RuntimeError" = some none)
    (z5 : PySem.W.nsIn K mainGlobals "ValueError" = some none)
    (z6 : PySem.W.nsIn K mainGlobals "abs" = some none)
    (z7 : PySem.W.nsIn K mainGlobals "bool" = some none)
    (z8 : PySem.W.nsIn K mainGlobals "enumerate" = some none)
    (z9 : PySem.W.nsIn K mainGlobals "int" = some none)
    (z10 : PySem.W.nsIn K mainGlobals "isinstance" = some none)
    (z11 : PySem.W.nsIn K mainGlobals "range" = some none)
    (z12 : PySem.W.nsIn K mainGlobals "repr" = some none) :
    ∃ fd : FuncData, (∀ (s : Shared) (v : Value), BindsTo s fd ⟨[v], []⟩ [("script", v)]) ∧ ∀ base : Heap, K.In base → base.Ns mainGlobals mg → FnG PySem.Challenge.rw_meetrows_k00_errors.prog w K mg base 4 fa fd ["script"] (spD K g19 1) := by
  have e := hfa.symm.trans (PySem.W.mg_of X G a19)
  cases e
  have F16 := fun_mk (st := t16) l16 cc16 k16
  have F17 := fun_mk (st := t17) l17 cc17 k17
  have F18 := fun_mk (st := t18) l18 cc18 k18
  have F19 := fun_mk (st := t19) l19 cc19 k19
  refine ⟨PySem.W.fnOf "law" "law" (defArgs t19) (defBody t19) (defScope t19) .none kV19 dc19 pm19 an19 cd19 ct19, fun s v => .of_eq rfl, fun base _ _ => ?_⟩
  have M0 : FnM PySem.Challenge.rw_meetrows_k00_errors.prog w K mg base 1 g0 "MeetError" := cls_m0 1 PySem.F.excBase_ValueError a0 ok0 q0 k0 (PySem.W.mg_of X G a0)
  have M1 : FnM PySem.Challenge.rw_meetrows_k00_errors.prog w K mg base 1 g1 "InvalidName" := cls_m0 1 PySem.F.excBase_ValueError a1 ok1 q1 k1 (PySem.W.mg_of X G a1)
  have M2 : FnM PySem.Challenge.rw_meetrows_k00_errors.prog w K mg base 1 g2 "InvalidRows" := cls_m0 1 PySem.F.excBase_ValueError a2 ok2 q2 k2 (PySem.W.mg_of X G a2)
  have M3 : FnM PySem.Challenge.rw_meetrows_k00_errors.prog w K mg base 1 g3 "InvalidPattern" := cls_m0 1 PySem.F.excBase_ValueError a3 ok3 q3 k3 (PySem.W.mg_of X G a3)
  have M4 : FnM PySem.Challenge.rw_meetrows_k00_errors.prog w K mg base 1 g4 "InvalidQuestion" := cls_m0 1 PySem.F.excBase_ValueError a4 ok4 q4 k4 (PySem.W.mg_of X G a4)
  have M5 : FnM PySem.Challenge.rw_meetrows_k00_errors.prog w K mg base 1 g5 "InvalidNeed" := cls_m0 1 PySem.F.excBase_ValueError a5 ok5 q5 k5 (PySem.W.mg_of X G a5)
  have M6 : FnM PySem.Challenge.rw_meetrows_k00_errors.prog w K mg base 1 g6 "InvalidPlacement" := cls_m0 1 PySem.F.excBase_ValueError a6 ok6 q6 k6 (PySem.W.mg_of X G a6)
  have M7 : FnM PySem.Challenge.rw_meetrows_k00_errors.prog w K mg base 1 g7 "InvalidOperation" := cls_m0 1 PySem.F.excBase_ValueError a7 ok7 q7 k7 (PySem.W.mg_of X G a7)
  have M8 : FnM PySem.Challenge.rw_meetrows_k00_errors.prog w K mg base 1 g8 "InvalidEdit" := cls_m0 1 PySem.F.excBase_ValueError a8 ok8 q8 k8 (PySem.W.mg_of X G a8)
  have M9 : FnM PySem.Challenge.rw_meetrows_k00_errors.prog w K mg base 1 g9 "ParseError" := cls_m0 1 PySem.F.excBase_ValueError a9 ok9 q9 k9 (PySem.W.mg_of X G a9)
  have M10 : FnM PySem.Challenge.rw_meetrows_k00_errors.prog w K mg base 1 g10 "InvalidCommand" := cls_m0 1 PySem.F.excBase_ValueError a10 ok10 q10 k10 (PySem.W.mg_of X G a10)
  have T11 := xin_of q11
  have F11 := fun_mk (st := t11) l11 cc11 ki11
  have M11 : FnM PySem.Challenge.rw_meetrows_k00_errors.prog w K mg base 2 g11 "InvalidNumber" := cls_m1 (N := "IndexError") (k := 1) PySem.F.excBase_IndexError ⟨by decide +kernel, by decide +kernel, by decide +kernel⟩ T11 a11 ok11 no11 ic11 ti11 (i11 F11 T11 no11 (PySem.W.mg_none_of X G z0) vv11) (F11.binds (ps := ["self", "value"]) fun _ _ _ _ _ _ us hl => match us, hl with | [_, _], _ => rfl) rfl k11 (PySem.W.mg_of X G a11)
  have T12 := xin_of q12
  have F12 := fun_mk (st := t12) l12 cc12 ki12
  have M12 : FnM PySem.Challenge.rw_meetrows_k00_errors.prog w K mg base 2 g12 "UnknownName" := cls_m1 (N := "LookupError") (k := 1) PySem.F.excBase_LookupError ⟨by decide +kernel, by decide +kernel, by decide +kernel⟩ T12 a12 ok12 no12 ic12 ti12 (i12 F12 T12 no12 (PySem.W.mg_none_of X G z1) vv12) (F12.binds (ps := ["self", "name"]) fun _ _ _ _ _ _ us hl => match us, hl with | [_, _], _ => rfl) rfl k12 (PySem.W.mg_of X G a12)
  have T13 := xin_of q13
  have F13 := fun_mk (st := t13) l13 cc13 ki13
  have M13 : FnM PySem.Challenge.rw_meetrows_k00_errors.prog w K mg base 2 g13 "TooMany" := cls_m1 (N := "OverflowError") (k := 1) PySem.F.excBase_OverflowError ⟨by decide +kernel, by decide +kernel, by decide +kernel⟩ T13 a13 ok13 no13 ic13 ti13 (i13 F13 T13 no13 (PySem.W.mg_none_of X G z3) vv13) (F13.binds (ps := ["self", "limit"]) fun _ _ _ _ _ _ us hl => match us, hl with | [_, _], _ => rfl) rfl k13 (PySem.W.mg_of X G a13)
  have T14 := xin_of q14
  have F14 := fun_mk (st := t14) l14 cc14 ki14
  have M14 : FnM PySem.Challenge.rw_meetrows_k00_errors.prog w K mg base 2 g14 "Lost" := cls_m1 (N := "RuntimeError") (k := 1) PySem.F.excBase_RuntimeError ⟨by decide +kernel, by decide +kernel, by decide +kernel⟩ T14 a14 ok14 no14 ic14 ti14 (i14 F14 T14 no14 (PySem.W.mg_none_of X G z4) vv14) (F14.binds (ps := ["self", "paper"]) fun _ _ _ _ _ _ us hl => match us, hl with | [_, _], _ => rfl) rfl k14 (PySem.W.mg_of X G a14)
  have T15 := xin_of q15
  have F15 := fun_mk (st := t15) l15 cc15 ki15
  have M15 : FnM PySem.Challenge.rw_meetrows_k00_errors.prog w K mg base 2 g15 "NothingToUndo" := cls_m1 (N := "LookupError") (k := 1) PySem.F.excBase_LookupError ⟨by decide +kernel, by decide +kernel, by decide +kernel⟩ T15 a15 ok15 no15 ic15 ti15 (i15 F15 T15 no15 (PySem.W.mg_none_of X G z2) vv15) (F15.binds (ps := ["self", "many"]) fun _ _ _ _ _ _ us hl => match us, hl with | [_, _], _ => rfl) rfl k15 (PySem.W.mg_of X G a15)
  have M16 : FnM PySem.Challenge.rw_meetrows_k00_errors.prog w K mg base 1 g16 "_law_with_message_right" := def_m (P := P16) (k := 0) F16 s16 c16 (one_cons (PySem.W.mg_none_of X G z10) one_nil) two_nil (two_cons (gl_own (PySem.W.mg_of X G a0) tb0) (two_cons (gl_blt (PySem.W.mg_none_of X G z5) (by decide +kernel) (by decide) tb1) (two_cons (gl_blt (PySem.W.mg_none_of X G z2) (by decide +kernel) (by decide) tb2) (two_cons (gl_blt (PySem.W.mg_none_of X G z3) (by decide +kernel) (by decide) tb3) (two_cons (gl_blt (PySem.W.mg_none_of X G z4) (by decide +kernel) (by decide) tb4) two_nil))))) (PySem.W.mg_of X G a16) (F16.binds (ps := ["error"]) fun _ _ _ _ _ _ us hl => match us, hl with | [_], _ => rfl)
  have M17 : FnM PySem.Challenge.rw_meetrows_k00_errors.prog w K mg base 1 g17 "_law_kinds" := def_m (P := P17) (k := 0) F17 s17 c17 (one_cons (PySem.W.mg_none_of X G z10) one_nil) two_nil (two_cons (gl_own (PySem.W.mg_of X G a1) tb5) (two_cons (gl_own (PySem.W.mg_of X G a2) tb6) (two_cons (gl_own (PySem.W.mg_of X G a3) tb7) (two_cons (gl_own (PySem.W.mg_of X G a4) tb8) (two_cons (gl_own (PySem.W.mg_of X G a5) tb9) (two_cons (gl_own (PySem.W.mg_of X G a6) tb10) (two_cons (gl_own (PySem.W.mg_of X G a7) tb11) (two_cons (gl_own (PySem.W.mg_of X G a8) tb12) (two_cons (gl_own (PySem.W.mg_of X G a9) tb13) (two_cons (gl_own (PySem.W.mg_of X G a10) tb14) two_nil)))))))))) (PySem.W.mg_of X G a17) (F17.binds (ps := ["error"]) fun _ _ _ _ _ _ us hl => match us, hl with | [_], _ => rfl)
  have M18 : FnM PySem.Challenge.rw_meetrows_k00_errors.prog w K mg base 3 g18 "_law_valued_right" := def_m (P := P18) (k := 2) F18 s18 c18 (one_cons (PySem.W.mg_none_of X G z7) (one_cons (PySem.W.mg_none_of X G z9) (one_cons (PySem.W.mg_none_of X G z10) (one_cons (PySem.W.mg_none_of X G z12) one_nil)))) (two_cons (M11.mono (by decide)) (two_cons (M12.mono (by decide)) (two_cons (M13.mono (by decide)) (two_cons (M14.mono (by decide)) (two_cons (M15.mono (by decide)) two_nil))))) (two_cons (gl_own (PySem.W.mg_of X G a0) tb0) (two_cons (gl_blt (PySem.W.mg_none_of X G z0) (by decide +kernel) (by decide) tb15) (two_cons (gl_blt (PySem.W.mg_none_of X G z1) (by decide +kernel) (by decide) tb16) (two_cons (gl_blt (PySem.W.mg_none_of X G z3) (by decide +kernel) (by decide) tb3) (two_cons (gl_blt (PySem.W.mg_none_of X G z4) (by decide +kernel) (by decide) tb4) (two_cons (gl_blt (PySem.W.mg_none_of X G z2) (by decide +kernel) (by decide) tb2) (two_cons (gl_own (PySem.W.mg_of X G a11) tb17) (two_cons (gl_own (PySem.W.mg_of X G a12) tb18) (two_cons (gl_own (PySem.W.mg_of X G a13) tb19) (two_cons (gl_own (PySem.W.mg_of X G a14) tb20) two_nil)))))))))) (PySem.W.mg_of X G a18) (F18.binds (ps := ["thing"]) fun _ _ _ _ _ _ us hl => match us, hl with | [_], _ => rfl)
  exact def_ok (P := P19) (k := 3) F19 s19 c19 (one_cons (PySem.W.mg_none_of X G z6) (one_cons (PySem.W.mg_none_of X G z8) (one_cons (PySem.W.mg_none_of X G z9) (one_cons (PySem.W.mg_none_of X G z10) (one_cons (PySem.W.mg_none_of X G z11) one_nil))))) (two_cons (M1.mono (by decide)) (two_cons (M2.mono (by decide)) (two_cons (M3.mono (by decide)) (two_cons (M4.mono (by decide)) (two_cons (M5.mono (by decide)) (two_cons (M6.mono (by decide)) (two_cons (M7.mono (by decide)) (two_cons (M8.mono (by decide)) (two_cons (M9.mono (by decide)) (two_cons (M10.mono (by decide)) (two_cons (M16.mono (by decide)) (two_cons (M17.mono (by decide)) (two_cons (M0.mono (by decide)) (two_cons (M18.mono (by decide)) two_nil)))))))))))))) (two_cons (gl_blt (PySem.W.mg_none_of X G z5) (by decide +kernel) (by decide) tb1) two_nil)
theorem walk {l : PySem.W.OpenLaw} {q : Program} {loose : List Str} {XP : (Str → Option Value) → Heap → Prop} {YP : World → Heap → Prop} {d : DefRec} {K : Params → PySem.W.Frag} (hn : l.most = some 63) (hdf : d.params.defaults = [])
    (hY : ∀ (w : World) (h : Heap), YP w h → (K w.params).In h)
    (F : ∀ (w : World) (mg : Str → Option Value) (fa : Addr) (h : Heap), (K w.params).In h → h.Ns mainGlobals mg → mg d.name = some (.ref fa) →
      ∃ fd : FuncData, (∀ (s : Shared) (u : Value), BindsTo s fd ⟨[u], []⟩ [("script", u)]) ∧ ∀ base : Heap, (K w.params).In base → base.Ns mainGlobals mg → FnG l.prog w (K w.params) mg base 4 fa fd ["script"] (spD (K w.params) g19 1)) :
    PySem.W.WalkO q loose XP YP l.row.toRowW d [] (fun f vs => PySem.call f vs) :=
  walkG (n := 63) (k := 4) (x := "script") (sp := fun w => spD (K w.params) g19 1) hn (by decide) hdf ⟨rfl, by decide, by decide⟩ hY F fun _ _ a ns hl _ hS => law_sp law_plain hl hS
end Kl
open PySem PySem.W PyProof.Rows
set_option maxRecDepth 100000 in
set_option maxHeartbeats 0 in
theorem PySem.Challenge.cw_meetrows_k00_errors_holds : PySem.Challenge.rw_meetrows_k00_errors.Holds := by
  w_on; o_law; k_head; (case hw => w_witness2)
  k_fill
  refine Kl.walk (l := PySem.Challenge.rw_meetrows_k00_errors) rfl rfl (fun w h Y => PySem.W.kIn_of Y) ?F
  case F =>
    intro w mg fa h KX G hmg
    refine' Kl.all_mk KX G hmg ?a0 ?ok0 ?q0 ?k0 ?a1 ?ok1 ?q1 ?k1 ?a2 ?ok2 ?q2 ?k2 ?a3 ?ok3 ?q3 ?k3 ?a4 ?ok4 ?q4 ?k4 ?a5 ?ok5 ?q5 ?k5 ?a6 ?ok6 ?q6 ?k6 ?a7 ?ok7 ?q7 ?k7 ?a8 ?ok8 ?q8 ?k8 ?a9 ?ok9 ?q9 ?k9 ?a10 ?ok10 ?q10 ?k10 ?a11 ?ok11 ?q11 ?k11 ?no11 ?ic11 ?ti11 ?vv11 ?l11 ?cc11 ?ki11 ?a12 ?ok12 ?q12 ?k12 ?no12 ?ic12 ?ti12 ?vv12 ?l12 ?cc12 ?ki12 ?a13 ?ok13 ?q13 ?k13 ?no13 ?ic13 ?ti13 ?vv13 ?l13 ?cc13 ?ki13 ?a14 ?ok14 ?q14 ?k14 ?no14 ?ic14 ?ti14 ?vv14 ?l14 ?cc14 ?ki14 ?a15 ?ok15 ?q15 ?k15 ?no15 ?ic15 ?ti15 ?vv15 ?l15 ?cc15 ?ki15 ?a16 ?l16 ?cc16 ?k16 ?a17 ?l17 ?cc17 ?k17 ?a18 ?l18 ?cc18 ?k18 ?a19 ?l19 ?cc19 ?k19 ?tb0 ?tb1 ?tb2 ?tb3 ?tb4 ?tb5 ?tb6 ?tb7 ?tb8 ?tb9 ?tb10 ?tb11 ?tb12 ?tb13 ?tb14 ?tb15 ?tb16 ?tb17 ?tb18 ?tb19 ?tb20 ?z0 ?z1 ?z2 ?z3 ?z4 ?z5 ?z6 ?z7 ?z8 ?z9 ?z10 ?z11 ?z12
    (case a0 => k_is)
    (case k0 => k_is)
    (case a1 => k_is)
    (case k1 => k_is)
    (case a2 => k_is)
    (case k2 => k_is)
    (case a3 => k_is)
    (case k3 => k_is)
    (case a4 => k_is)
    (case k4 => k_is)
    (case a5 => k_is)
    (case k5 => k_is)
    (case a6 => k_is)
    (case k6 => k_is)
    (case a7 => k_is)
    (case k7 => k_is)
    (case a8 => k_is)
    (case k8 => k_is)
    (case a9 => k_is)
    (case k9 => k_is)
    (case a10 => k_is)
    (case k10 => k_is)
    (case a11 => k_is)
    (case k11 => k_is)
    (case no11 => k_is)
    (case ic11 => k_is)
    (case ti11 => k_is)
    (case vv11 => k_is)
    (case l11 => k_is)
    (case cc11 => k_is)
    (case ki11 => k_is)
    (case a12 => k_is)
    (case k12 => k_is)
    (case no12 => k_is)
    (case ic12 => k_is)
    (case ti12 => k_is)
    (case vv12 => k_is)
    (case l12 => k_is)
    (case cc12 => k_is)
    (case ki12 => k_is)
    (case a13 => k_is)
    (case k13 => k_is)
    (case no13 => k_is)
    (case ic13 => k_is)
    (case ti13 => k_is)
    (case vv13 => k_is)
    (case l13 => k_is)
    (case cc13 => k_is)
    (case ki13 => k_is)
    (case a14 => k_is)
    (case k14 => k_is)
    (case no14 => k_is)
    (case ic14 => k_is)
    (case ti14 => k_is)
    (case vv14 => k_is)
    (case l14 => k_is)
    (case cc14 => k_is)
    (case ki14 => k_is)
    (case a15 => k_is)
    (case k15 => k_is)
    (case no15 => k_is)
    (case ic15 => k_is)
    (case ti15 => k_is)
    (case vv15 => k_is)
    (case l15 => k_is)
    (case cc15 => k_is)
    (case ki15 => k_is)
    (case a16 => k_is)
    (case l16 => k_is)
    (case cc16 => k_is)
    (case k16 => k_is)
    (case a17 => k_is)
    (case l17 => k_is)
    (case cc17 => k_is)
    (case k17 => k_is)
    (case a18 => k_is)
    (case l18 => k_is)
    (case cc18 => k_is)
    (case k18 => k_is)
    (case a19 => k_is)
    (case l19 => k_is)
    (case cc19 => k_is)
    (case k19 => k_is)
    (case z0 => k_is)
    (case z1 => k_is)
    (case z2 => k_is)
    (case z3 => k_is)
    (case z4 => k_is)
    (case z5 => k_is)
    (case z6 => k_is)
    (case z7 => k_is)
    (case z8 => k_is)
    (case z9 => k_is)
    (case z10 => k_is)
    (case z11 => k_is)
    (case z12 => k_is)
    (case ok0 => kernel_rfl)
    (case q0 => kernel_rfl)
    (case ok1 => kernel_rfl)
    (case q1 => kernel_rfl)
    (case ok2 => kernel_rfl)
    (case q2 => kernel_rfl)
    (case ok3 => kernel_rfl)
    (case q3 => kernel_rfl)
    (case ok4 => kernel_rfl)
    (case q4 => kernel_rfl)
    (case ok5 => kernel_rfl)
    (case q5 => kernel_rfl)
    (case ok6 => kernel_rfl)
    (case q6 => kernel_rfl)
    (case ok7 => kernel_rfl)
    (case q7 => kernel_rfl)
    (case ok8 => kernel_rfl)
    (case q8 => kernel_rfl)
    (case ok9 => kernel_rfl)
    (case q9 => kernel_rfl)
    (case ok10 => kernel_rfl)
    (case q10 => kernel_rfl)
    (case ok11 => kernel_rfl)
    (case q11 => kernel_rfl)
    (case ok12 => kernel_rfl)
    (case q12 => kernel_rfl)
    (case ok13 => kernel_rfl)
    (case q13 => kernel_rfl)
    (case ok14 => kernel_rfl)
    (case q14 => kernel_rfl)
    (case ok15 => kernel_rfl)
    (case q15 => kernel_rfl)
    (case tb0 => kernel_rfl)
    (case tb1 => kernel_rfl)
    (case tb2 => kernel_rfl)
    (case tb3 => kernel_rfl)
    (case tb4 => kernel_rfl)
    (case tb5 => kernel_rfl)
    (case tb6 => kernel_rfl)
    (case tb7 => kernel_rfl)
    (case tb8 => kernel_rfl)
    (case tb9 => kernel_rfl)
    (case tb10 => kernel_rfl)
    (case tb11 => kernel_rfl)
    (case tb12 => kernel_rfl)
    (case tb13 => kernel_rfl)
    (case tb14 => kernel_rfl)
    (case tb15 => kernel_rfl)
    (case tb16 => kernel_rfl)
    (case tb17 => kernel_rfl)
    (case tb18 => kernel_rfl)
    (case tb19 => kernel_rfl)
    (case tb20 => kernel_rfl)
