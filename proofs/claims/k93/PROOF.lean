import PyProof.Rows.All
import Wide.All
import OpenK.AllK
import Wide.FinOn
import KE.KStateDown
import HandS.ForMost
import HandS.ForExc
import HandS.Defaults
import HandS.Deep
import HandS.Evl
import HandS.Walk
import HandS.HeadNt
import HandS.HeadHook2
import HandS.ExcInitHot
import HandS.ExcIs
import HandS.ExcField
import HandS.IsInst
import HandS.Property
import HandS.ClsMeth
import KE.GoesMore
import KE.KDictList
import PyProof.InstNe
import HandS.HotCalls
import HandS.Style
import HandS.SuiteRaise
import HandS.RaiseFrom
import HandS.TryMany
import KE.KTryMore
import HandS.Head0
import HandS.Head1
import HandS.Head2
import HandS.WordsExc
import HandS.FStr
import HandS.Ends
import HandS.HeadEnd
import PyProof.ToksMono
import HandS.Base
import HandS.Call
import HandS.Replace
import HandS.ReplaceList
import Lean
import PySem.Challenge.RW_learntbyasking_k93_signatures_kept
set_option Elab.async false
set_option linter.all false
set_option maxRecDepth 100000
set_option maxHeartbeats 4000000
/-! The ground: defs that are promised where no repr is under way (FnG), repr of data. -/
namespace B
open PySem PySem.Spec PyProof.Rows L2

/-- no guard stands around -/
def G0 (A : Around) : Prop := A.guards = some []
theorem G0.down {A : Around} (h : G0 A) (env : Env) : G0 (A.deeper env) := h

/-- a def's promise where no guard stands around -/
structure FnG (P : Program) (w : World) (K : PySem.W.Frag) (mg : Str → Option Value) (b0 : Heap) (CX : CXT) (k : Nat) (f : Addr) (fd : FuncData) (ps : List Str) (sp : Sp) : Prop where
  len : ∀ vs H Q E, sp vs H Q E → vs.length = ps.length
  run : ∀ (A : Around), G0 A → ∀ (outer : List Env) (s : Shared) (H : Hp) (args : Args) (us : List Value) (vs : List V) (Q : VK) (E : XK),
    Room k A → Env0 P w K mg b0 A outer s H → BindsTo s fd args (ps.zip us) → Vals vs us → sp vs H Q E → codeAny (model P w) A (.call (.ref f) args) (CR CX outer P w H s Q E) s

section
variable {P : Program} {w : World} {K : PySem.W.Frag} {mg : Str → Option Value} {b0 : Heap} {CX : CXT} {k : Nat} {f : Addr} {fd : FuncData} {ps : List Str} {sp : Sp}
theorem FnG.of (F : FnOk P w K mg b0 CX k f fd ps sp) : FnG P w K mg b0 CX k f fd ps sp := ⟨F.len, fun A _ => F.run A⟩
theorem FnG.mono {j : Nat} (F : FnG P w K mg b0 CX j f fd ps sp) (h : j ≤ k) : FnG P w K mg b0 CX k f fd ps sp :=
  ⟨F.len, fun A g o s H a us vs Q E hr => F.run A g o s H a us vs Q E (hr.mono h)⟩

/-- a def by its body, where no guard stands around -/
theorem gfn_of {nm qual : Str} {params : Arguments} {body : List Stmt} {scope : Scope} {dV kV doc pm cdv ct oc : Value} {an od : Option Addr} {osl : Array (Option Value)} {N : List Str}
    (lk : K.lookup f = some ⟨oc, od, .func (PySem.W.fnOf nm qual params body scope dV kV doc pm an cdv ct), osl⟩) (hcd : PySem.W.codeIn K cdv qual = true) (S : FnScope N ps scope)
    (len : ∀ vs H Q E, sp vs H Q E → vs.length = ps.length)
    (hb : ∀ (A : Around), G0 A → ∀ (outer : List Env) (s : Shared) (H : Hp) (vs : List V) (Q : VK) (E : XK), Room k (A.deeper (envOfC qual scope s.heap.objs.size f cdv)) → sp vs H Q E →
      ∃ t, PSs (cxOf CX P w K mg b0 N qual scope f cdv A outer s H E) body t ∧ t { nx := fun _ H' => Q .non H', rt := Q } (L2.start N vs) H) :
    FnG P w K mg b0 CX (k + 1) f (PySem.W.fnOf nm qual params body scope dV kV doc pm an cdv ct) ps sp := by
  constructor
  · exact len
  intro A g outer s H args us vs Q E room e0 bnd rel want
  have n1 : vs.length = ps.length := len _ _ _ _ want
  have inK : K.In s.heap := e0.mod.kin.keeps (fun b o z => (e0.bs b o z).1)
  have noL : s.heap.NoLimit := e0.mod.nolimit.keeps (fun b o z => (e0.bs b o z).1)
  have kinds : ∀ y ∈ ps.zip us, scope.names.lookup y.1 = some .local ∨ (scope.names.lookup y.1 = some .cell ∧ ((cellsFrom (s.heap.objs.size + 1) scope.names []).lookup y.1).isSome = true) := by
    rintro ⟨n, v⟩ hy
    cases S.par n (List.of_mem_zip hy).1 with
    | inl q => exact Or.inl q
    | inr q => exact Or.inr ⟨q, PySem.W.cellsFrom_some _ _ _ (Or.inl q)⟩
  refine codeAny_call_function room.depth (inK _ _ lk) rfl S.co S.gen rfl (PySem.W.codeRec_of inK hcd) (bnd _ _ _ _ ?_)
  refine wpAny_newFunctionEnv_cells S.kind kinds (fun env he s1 x => ?_)
  cases he
  refine ⟨noL.keeps x.toInCall.keep, codeAny_func ?_⟩
  obtain ⟨t, ht, hq⟩ := hb A g outer s H vs Q E (room.deeper _) want
  refine wpAny_mono (ht.run [] s1 (L2.start N vs) H _ (inv_start S room.hd e0 n1 rel x) hq) (fun fl s' z => ?_) (fun e s' z => z)
  match fl, z with
  | .ret u, ⟨v, _, H', J, rv, q⟩ => exact ⟨v, H', J.os, J.bare, J.base, J.hok, rv, q⟩
  | .next, ⟨_, H', J, q⟩ => exact ⟨.non, H', J.os, J.bare, J.base, J.hok, rfl, q⟩
  | .brk, ⟨_, _, _, q⟩ => exact q.elim
  | .cont, ⟨_, _, _, q⟩ => exact q.elim
theorem Fun.okG {x qual : Str} {st : Stmt} {N : List Str} (F : L2.Fun K x qual st f fd) (S : FnScope N ps (defScope st)) (len : ∀ vs H Q E, sp vs H Q E → vs.length = ps.length)
    (hb : ∀ (cdv : Value) (A : Around), G0 A → ∀ (outer : List Env) (s : Shared) (H : Hp) (vs : List V) (Q : VK) (E : XK), Room k (A.deeper (envOfC qual (defScope st) s.heap.objs.size f cdv)) → sp vs H Q E →
      ∃ t, PSs (cxOf CX0 P w K mg b0 N qual (defScope st) f cdv A outer s H E).nox (defBody st) t ∧ t { nx := fun _ H' => Q .non H', rt := Q } (L2.start N vs) H) : FnG P w K mg b0 CX0 (k + 1) f fd ps sp := by
  obtain ⟨oc, od, kV, doc, pm, an, cdv, ct, osl, rfl, lk, hcd⟩ := F.ex
  refine gfn_of lk hcd S len (fun A g outer s H vs Q E hr want => ?_)
  obtain ⟨t, h, q⟩ := hb cdv A g outer s H vs Q E hr want
  exact ⟨t, h.nox, q⟩
end

section
variable {X : Cx} {CX : CXT} {k : Nat} {f : Addr} {fd : FuncData} {ps : List Str} {sp : Sp} {E : XK} {x : Str} {p pos : Pos} {e : Expr} {es : List Expr} {t : TA}
theorem grun {pins : List (Addr × Obj)} {σ : L2.St} {H : Hp} {s : Shared} {Q : VK} {us : List Value} {vs : List V} (F : FnG X.prog X.w X.K X.mg X.base CX k f fd ps sp) (g : G0 X.A) (hr : Room k X.A) (hb : Binds X.K fd ps []) (hx : Passes CX X E)
    (I : Inv X pins σ H s) (r : Vals vs us) (h : sp vs H Q E) : wpAny (model X.prog X.w) X.A (call (.ref f) us) (EP X pins σ Q) X.xe s := by
  have n1 : us.length = ps.length := (r.length).symm.trans (F.len _ _ _ _ h)
  have bnd := hb s us I.kIn (by rw [List.append_nil]; exact n1)
  rw [List.append_nil] at bnd
  refine wpAny_call (codeAny_mono (F.run X.A g X.stack s H ⟨us, []⟩ us vs Q E hr I.env0 bnd r h) (fun res s' z => ?_))
  match res, z with
  | .error e, z => exact hx pins σ H s e s' I z
  | .ok (.ret u), z => exact I.after z
/-- f(..) of a def that is promised where no guard stands around -/
theorem pe_callG (F : FnG X.prog X.w X.K X.mg X.base CX k f fd ps sp) (g : G0 X.A) (hr : Room k X.A) (hg : Gl X x) (hm : X.mg x = some (.ref f)) (hk : PySem.W.keepIn X.K (.ref f) = true) (hb : Binds X.K fd ps []) (hx : Passes CX X E) (ha : PA X (e :: es) t)
    (hdb : (x == ("__debug__" : Str)) = false := by decide) (he : starEach (e :: es) X.env = (false, eval e X.env) :: starEach es X.env := by rfl) (hpl : (backTo pos (starEach es X.env)).any (·.1) = false := by rfl) :
    PE X (.Call (.Name x p) (e :: es) [] pos) (tCall sp [] E t) := by
  constructor
  intro pins s σ H Q I h
  refine wpAny_Call_Name_kw (ld_glob I hg hm ?_ hdb)
  refine PySem.W.callWith_K (h₀ := X.base) I.ok.mod.kin hk (thn (ha.run pos pins s σ H _ I h) ?_) he hpl
  rintro us s1 ⟨vs, H1, I1, r, q⟩
  refine ⟨I1.kIn, grun F g hr hb hx I1 r ?_⟩
  rw [List.append_nil] at q
  exact q
end

end B

set_option Elab.async false
set_option linter.all false
set_option maxRecDepth 100000
set_option maxHeartbeats 4000000
/-! Grown heaps (Gr), data that stands in the part that nobody writes (Dp over F). -/
namespace B
open PySem PySem.Spec PyProof.Rows L2

/-- F: what is never written any more; M: what may be written. From (F, H) to (F', H') -/
structure Gr (M : List Addr) (F H F' H' : Hp) : Prop where
  ff : Same F F'
  fh : Same F' H'
  hh : ∀ b o, b ∉ M → H b = some o → H' b = some o
  al : ∀ b, H b ≠ none → H' b ≠ none
  nf : ∀ b, H b ≠ none → F b = none → F' b = none

section
variable {M : List Addr} {F H F1 H1 F2 H2 : Hp} {a p : Addr} {o u : HO}
theorem Gr.refl (h : Same F H) : Gr M F H F H := ⟨Same.refl F, h, fun _ _ _ e => e, fun _ e => e, fun _ _ e => e⟩
theorem Gr.trans (x : Gr M F H F1 H1) (y : Gr M F1 H1 F2 H2) : Gr M F H F2 H2 :=
  ⟨x.ff.trans y.ff, y.fh, fun b o n e => y.hh b o n (x.hh b o n e), fun b e => y.al b (x.al b e), fun b e n => y.nf b (x.al b e) (x.nf b e n)⟩
theorem Gr.more {M' : List Addr} (x : Gr M F H F1 H1) (h : ∀ b, b ∈ M → b ∈ M') : Gr M' F H F1 H1 := ⟨x.ff, x.fh, fun b o n e => x.hh b o (fun q => n (h b q)) e, x.al, x.nf⟩
theorem Gr.zero (x : Gr [] F H F1 H1) : Gr M F H F1 H1 := x.more fun _ q => nomatch q
theorem Gr.same (x : Gr [] F H F1 H1) : Same H H1 := fun b o e => x.hh b o (fun q => nomatch q) e
theorem Gr.fresh (x : Gr M F H F1 H1) (h : H1 a = none) : H a = none := by
  cases e : H a with
  | none => rfl
  | some o => exact absurd h (x.al a (by rw [e]; exact fun z => nomatch z))
theorem Gr.freshF (x : Gr M F H F1 H1) (h : H1 a = none) : F1 a = none := x.fh.free h
theorem some_ne {x : Option HO} {o : HO} (h : x = some o) : x ≠ none := by rw [h]; exact fun z => nomatch z
/-- a new thing that stays as it is -/
theorem Gr.new (x : Gr M F H F1 H1) (h : H1 p = none) : Gr M F H (upd F1 p o) (upd H1 p o) where
  ff := x.ff.trans (Evl.Ex.new (x.freshF h))
  fh := fun b u e => by
    by_cases hb : b = p
    · subst hb; rw [upd_same] at e ⊢; exact e
    · rw [upd_ne hb] at e ⊢; exact x.fh b u e
  hh := fun b u n e => Evl.Ex.new h b u (x.hh b u n e)
  al := fun b e => by
    by_cases hb : b = p
    · subst hb; rw [upd_same]; exact fun z => nomatch z
    · rw [upd_ne hb]; exact x.al b e
  nf := fun b e n => by
    have hb : b ≠ p := fun z => x.al b e (by rw [z]; exact h)
    rw [upd_ne hb]; exact x.nf b e n
/-- a new thing that may be written -/
theorem Gr.own (x : Gr M F H F1 H1) (h : H1 p = none) : Gr M F H F1 (upd H1 p o) where
  ff := x.ff
  fh := fun b u e => Evl.Ex.new h b u (x.fh b u e)
  hh := fun b u n e => Evl.Ex.new h b u (x.hh b u n e)
  al := fun b e => by
    by_cases hb : b = p
    · subst hb; rw [upd_same]; exact fun z => nomatch z
    · rw [upd_ne hb]; exact x.al b e
  nf := x.nf
/-- a write -/
theorem Gr.put (x : Gr M F H F1 H1) (hf : F1 a = none) (hm : a ∈ M ∨ H a = none) : Gr M F H F1 (upd H1 a o) where
  ff := x.ff
  fh := fun b u e => by
    have hb : b ≠ a := fun z => by rw [z, hf] at e; cases e
    rw [upd_ne hb]; exact x.fh b u e
  hh := fun b u n e => by
    have hb : b ≠ a := fun z => by
      rcases hm with q | q
      · exact n (z ▸ q)
      · rw [z, q] at e; cases e
    rw [upd_ne hb]; exact x.hh b u n e
  al := fun b e => by
    by_cases hb : b = a
    · subst hb; rw [upd_same]; exact fun z => nomatch z
    · rw [upd_ne hb]; exact x.al b e
  nf := x.nf
/-- what was made here is never written any more -/
theorem Gr.still (x : Gr M F H F1 H1) (h : H1 a = some o) (h0 : H a = none) (hf : F1 a = none) : Gr M F H (upd F1 a o) H1 where
  ff := x.ff.trans (Evl.Ex.new hf)
  fh := fun b u e => by
    by_cases hb : b = a
    · subst hb; rw [upd_same] at e; cases e; exact h
    · rw [upd_ne hb] at e; exact x.fh b u e
  hh := x.hh
  al := x.al
  nf := fun b e n => by
    have hb : b ≠ a := fun z => e (by rw [z]; exact h0)
    rw [upd_ne hb]; exact x.nf b e n
/-- a list that may be written, elsewhere -/
theorem Gr.at_ (x : Gr M F H F1 H1) (n : a ∉ M) (h : H a = some o) : H1 a = some o := x.hh a o n h
theorem Gr.offF (x : Gr M F H F1 H1) (h : H a = some o) (hf : F a = none) : F1 a = none := x.nf a (some_ne h) hf
theorem updF {H : Hp} {p a : Addr} {o : HO} (h : H p = none) (e : H a ≠ none) : upd H p o a = H a := upd_ne fun z => e (by rw [z]; exact h)
end

end B
namespace L2
open PySem PySem.Spec PyProof.Rows
/-! ### data -/
section
variable {K : PySem.W.Frag} {F F' H : Hp}
theorem Same.sqt (s : Same F F') {a : Addr} {xs : List V} (h : SqT K F a xs) : SqT K F' a xs := Evl.ex_t s h
mutual
theorem Dp.mono (s : Same F F') : ∀ {v : V} {d : PyData}, Dp K F v d → Dp K F' v d
  | _, _, .non => .non
  | _, _, .bl b => .bl b
  | _, _, .int i => .int i
  | _, _, .str x => .str x
  | _, _, .lst h t => .lst (s.seq h) (DpAll.mono s t)
  | _, _, .tup h t => .tup (Same.sqt s h) (DpAll.mono s t)
theorem DpAll.mono (s : Same F F') : ∀ {vs : List V} {ds : List PyData}, DpAll K F vs ds → DpAll K F' vs ds
  | _, _, .nil => .nil
  | _, _, .cons h t => .cons (Dp.mono s h) (DpAll.mono s t)
end
theorem DpAll.length : ∀ {vs : List V} {ds : List PyData}, DpAll K F vs ds → vs.length = ds.length
  | _, _, .nil => rfl
  | _, _, .cons _ t => by rw [List.length_cons, List.length_cons, DpAll.length t]
theorem DpAll.get : ∀ {vs : List V} {ds : List PyData} {i : Nat} {v : V}, DpAll K F vs ds → vs[i]? = some v → ∃ d, ds[i]? = some d ∧ Dp K F v d
  | _, _, _, _, .nil, e => by simp at e
  | _, _, 0, _, .cons h _, e => by simp at e; subst e; exact ⟨_, rfl, h⟩
  | _, _, i + 1, v, .cons _ t, e => by
    obtain ⟨d, h1, h2⟩ := DpAll.get (i := i) (v := v) t (by simpa using e)
    exact ⟨d, by simpa using h1, h2⟩
theorem DpAll.at : ∀ {vs : List V} {ds : List PyData} {i : Nat} {d : PyData}, DpAll K F vs ds → ds[i]? = some d → ∃ v, vs[i]? = some v ∧ Dp K F v d
  | _, _, _, _, .nil, e => by simp at e
  | _, _, 0, _, .cons h _, e => by simp at e; subst e; exact ⟨_, rfl, h⟩
  | _, _, i + 1, v, .cons _ t, e => by
    obtain ⟨d, h1, h2⟩ := DpAll.at (i := i) (d := v) t (by simpa using e)
    exact ⟨d, by simpa using h1, h2⟩
theorem DpAll.append : ∀ {vs ws : List V} {ds es : List PyData}, DpAll K F vs ds → DpAll K F ws es → DpAll K F (vs ++ ws) (ds ++ es)
  | _, _, _, _, .nil, s => s
  | _, _, _, _, .cons h t, s => .cons h (DpAll.append t s)
theorem DpAll.take : ∀ {vs : List V} {ds : List PyData} (n : Nat), DpAll K F vs ds → DpAll K F (vs.take n) (ds.take n)
  | _, _, 0, _ => .nil
  | _, _, _ + 1, .nil => .nil
  | _, _, n + 1, .cons h t => .cons h (DpAll.take n t)
theorem DpAll.drop : ∀ {vs : List V} {ds : List PyData} (n : Nat), DpAll K F vs ds → DpAll K F (vs.drop n) (ds.drop n)
  | _, _, 0, r => r
  | _, _, _ + 1, .nil => .nil
  | _, _, n + 1, .cons _ t => DpAll.drop n t
theorem DpAll.set {v : V} {d : PyData} (h : Dp K F v d) : ∀ {vs : List V} {ds : List PyData} (i : Nat), DpAll K F vs ds → DpAll K F (vs.set i v) (ds.set i d)
  | _, _, _, .nil => .nil
  | _, _, 0, .cons _ t => .cons h t
  | _, _, i + 1, .cons q t => .cons q (DpAll.set h i t)
theorem DpAll.snoc {vs : List V} {ds : List PyData} {v : V} {d : PyData} (t : DpAll K F vs ds) (h : Dp K F v d) : DpAll K F (vs ++ [v]) (ds ++ [d]) := t.append (.cons h .nil)
theorem DpAll.reverse : ∀ {vs : List V} {ds : List PyData}, DpAll K F vs ds → DpAll K F vs.reverse ds.reverse
  | _, _, .nil => .nil
  | _, _, .cons h t => by rw [List.reverse_cons, List.reverse_cons]; exact (DpAll.reverse t).snoc h
theorem DpAll.strs : ∀ (xs : List Str), DpAll K F (xs.map V.str) (xs.map PyData.str)
  | [] => .nil
  | x :: xs => .cons (.str x) (DpAll.strs xs)
theorem DpAll.ints : ∀ (xs : List Int), DpAll K F (xs.map V.int) (xs.map PyData.int)
  | [] => .nil
  | x :: xs => .cons (.int x) (DpAll.ints xs)
theorem DpAll.strs_of : ∀ {vs : List V} {xs : List Str}, DpAll K F vs (xs.map PyData.str) → vs = xs.map V.str
  | _, [], .nil => rfl
  | _, x :: xs, .cons h t => by cases h; rw [DpAll.strs_of t]; rfl
theorem DpAll.ints_of : ∀ {vs : List V} {xs : List Int}, DpAll K F vs (xs.map PyData.int) → vs = xs.map V.int
  | _, [], .nil => rfl
  | _, x :: xs, .cons h t => by cases h; rw [DpAll.ints_of t]; rfl
theorem Dp.newT {p : Addr} {xs : List V} {ds : List PyData} (h : F p = some (.tup xs)) (t : DpAll K F xs ds) : Dp K F (.ref p) (.tuple ds) := .tup (Evl.st_of h) t
theorem Dp.newL {p : Addr} {xs : List V} {ds : List PyData} (h : F p = some (.lst xs)) (t : DpAll K F xs ds) : Dp K F (.ref p) (.list ds) := .lst (Evl.sq_of h) t
theorem Dp.str_of {v : V} {x : Str} (h : Dp K F v (.str x)) : v = .str x := by cases h; rfl
theorem Dp.int_of {v : V} {x : Int} (h : Dp K F v (.int x)) : v = .int x := by cases h; rfl
theorem Dp.bl_of {v : V} {x : Bool} (h : Dp K F v (.bool x)) : v = .bl x := by cases h; rfl
theorem Dp.lst_of {v : V} {ds : List PyData} (h : Dp K F v (.list ds)) : ∃ a xs, v = .ref a ∧ SqL K F a xs ∧ DpAll K F xs ds := by
  cases h with
  | lst q t => exact ⟨_, _, rfl, q, t⟩
theorem Dp.tup_of {v : V} {ds : List PyData} (h : Dp K F v (.tuple ds)) : ∃ a xs, v = .ref a ∧ SqT K F a xs ∧ DpAll K F xs ds := by
  cases h with
  | tup q t => exact ⟨_, _, rfl, q, t⟩
end

end L2
namespace B
open PySem PySem.Spec PyProof.Rows L2
/-! ### a walk over a list or a tuple -/
/-- a list or a tuple -/
def Sq (K : PySem.W.Frag) (H : Hp) (a : Addr) (xs : List V) : Prop := SqL K H a xs ∨ SqT K H a xs
theorem Sq.mono {K : PySem.W.Frag} {F F' : Hp} {a : Addr} {xs : List V} (s : Same F F') (h : Sq K F a xs) : Sq K F' a xs := h.elim (fun z => .inl (s.seq z)) fun z => .inr (Same.sqt s z)
section
variable {X : Cx} {tg iter : Expr} {w1 w2 : TI} {te : TE}
theorem pi_or (h1 : PI X tg iter w1) (h2 : PI X tg iter w2) : PI X tg iter (fun σ H R => w1 σ H R ∨ w2 σ H R) :=
  ⟨fun pins s σ H R I h => h.elim (fun z => h1.run pins s σ H R I z) fun z => h2.run pins s σ H R I z⟩
end
end B

set_option Elab.async false
set_option linter.all false
set_option maxRecDepth 100000
set_option maxHeartbeats 4000000
/-! Fine data (depth, size), repr, what is alike. -/
namespace B
open PySem PySem.Spec PyProof.Rows L2
open PySem.PyData (shown shownAll showable showableAll hasDict hasDictAll depth depthAll eqv canLay0 canLayAll0)

/-- a text of plain signs -/
def Asc (x : Str) : Prop := ∀ c ∈ x.cps.toList, c < 128
/-- data of depth n at most, whose repr has k signs at most -/
structure Fine (n k : Nat) (d : PyData) : Prop where
  lay : canLay0 d = true
  dep : depth d ≤ n
  sho : showable d = true
  dic : hasDict d = false
  len : (shown d).length ≤ k
section
variable {n k m j : Nat} {d : PyData} {ds : List PyData}
theorem Fine.mono (h : Fine n k d) (hn : n ≤ m) (hk : k ≤ j) : Fine m j d := ⟨h.lay, Nat.le_trans h.dep hn, h.sho, h.dic, Nat.le_trans h.len hk⟩
theorem strOk_asc {x : Str} (h : Asc x) : PyData.strOk x = true := by
  show x.cps.all (· < 0x110000) = true
  rw [← Array.all_toList, List.all_eq_true]
  intro c hc
  have := h c hc
  exact decide_eq_true (by omega)
theorem fine_str {x : Str} {l : Nat} (h : Asc x) (hl : x.length ≤ l) : Fine 0 (10 * l + 2) (.str x) :=
  ⟨strOk_asc h, Nat.le_refl _, rfl, rfl, by
    have e := StrLaws.reprText_len x (fun c hc => by have := h c hc; omega)
    show (reprText x).length ≤ _
    omega⟩
theorem log2_small {i : Int} (h : i.natAbs < 10 ^ 30) : i.natAbs.log2 < 1920 := by
  by_cases z : i.natAbs = 0
  · rw [z]; decide
  · have e : i.natAbs < 2 ^ 1920 := Nat.lt_trans h (by decide +kernel)
    exact (Nat.log2_lt z).mpr e
theorem fine_int {i : Int} (h : i.natAbs < 10 ^ 30) : Fine 0 31 (.int i) :=
  ⟨rfl, Nat.le_refl _, decide_eq_true (log2_small h), rfl, by
    have e := int_text_length_le10 (k := 30) (by decide) h
    show (Str.ofString (toString i)).length ≤ 31
    rw [PySem.ofString_length]; exact e⟩
theorem fine_bool {b : Bool} : Fine 0 5 (.bool b) := ⟨rfl, Nat.le_refl _, rfl, rfl, by cases b <;> decide⟩
theorem fine_none : Fine 0 4 .none := ⟨rfl, Nat.le_refl _, rfl, rfl, by decide⟩
theorem all_fine : ∀ {ds : List PyData}, (∀ d ∈ ds, Fine n k d) →
    canLayAll0 ds = true ∧ depthAll ds ≤ n ∧ showableAll ds = true ∧ hasDictAll ds = false ∧ ((shownAll ds).map (·.length)).sum ≤ ds.length * k ∧ (shownAll ds).length = ds.length
  | [], _ => ⟨rfl, Nat.zero_le _, rfl, rfl, Nat.zero_le _, rfl⟩
  | d :: ds, h => by
    obtain ⟨a, b, c, e, f, g⟩ := all_fine (ds := ds) fun x hx => h x (List.mem_cons_of_mem _ hx)
    have q := h d List.mem_cons_self
    refine ⟨?_, ?_, ?_, ?_, ?_, ?_⟩
    · simp only [PyData.canLayAll0, q.lay, a, Bool.and_self]
    · simp only [PyData.depthAll]; have := q.dep; omega
    · simp only [PyData.showableAll, q.sho, c, Bool.and_self]
    · simp only [PyData.hasDictAll, q.dic, e, Bool.or_self]
    · simp only [PyData.shownAll, List.map_cons, List.sum_cons, List.length_cons, Nat.succ_mul]; have := q.len; omega
    · simp only [PyData.shownAll, List.length_cons, g]
theorem fine_tup (h : ∀ d ∈ ds, Fine n k d) (hl : ds.length ≤ m) : Fine (n + 1) (m * (k + 2) + 3) (.tuple ds) := by
  obtain ⟨a, b, c, e, f, g⟩ := all_fine h
  refine ⟨a, by simp only [PyData.depth]; omega, c, e, ?_⟩
  have z := tupleText_len_le (shownAll ds)
  have y : ds.length * (k + 2) ≤ m * (k + 2) := Nat.mul_le_mul_right _ hl
  have y2 : ds.length * (k + 2) = ds.length * k + ds.length * 2 := Nat.mul_add ..
  show (tupleText (shownAll ds)).length ≤ _
  omega
theorem fine_lst (h : ∀ d ∈ ds, Fine n k d) (hl : ds.length ≤ m) : Fine (n + 1) (m * (k + 2) + 3) (.list ds) := by
  obtain ⟨a, b, c, e, f, g⟩ := all_fine h
  refine ⟨a, by simp only [PyData.depth]; omega, c, e, ?_⟩
  have z := listText_len_le (shownAll ds)
  have y : ds.length * (k + 2) ≤ m * (k + 2) := Nat.mul_le_mul_right _ hl
  have y2 : ds.length * (k + 2) = ds.length * k + ds.length * 2 := Nat.mul_add ..
  show (listText (shownAll ds)).length ≤ _
  omega
theorem Fine.shaped (h : Fine n k d) (hn : n ≤ 64) : SeqAt.shaped d = true := by
  show (canLay0 d && decide (depth d ≤ 64)) = true
  rw [h.lay, decide_eq_true (Nat.le_trans h.dep hn)] <;> rfl
end

/-! ### what is alike -/
mutual
theorem eqv_refl : ∀ d : PyData, hasDict d = false → eqv d d = true
  | .none, _ => rfl
  | .bool b, _ => by cases b <;> rfl
  | .int i, _ => by simp [PyData.eqv]
  | .str x, _ => by simp [PyData.eqv]
  | .list xs, h => by simp only [PyData.eqv]; exact eqvAll_refl xs h
  | .tuple xs, h => by simp only [PyData.eqv]; exact eqvAll_refl xs h
  | .dict _, h => nomatch h
theorem eqvAll_refl : ∀ ds : List PyData, hasDictAll ds = false → PyData.eqvAll ds ds = true
  | [], _ => rfl
  | d :: ds, h => by
    simp only [PyData.hasDictAll, Bool.or_eq_false_iff] at h
    simp only [PyData.eqvAll, eqv_refl d h.1, eqvAll_refl ds h.2, Bool.and_self]
end

/-! ### repr -/
/-- repr of data -/
def rRepr (K : PySem.W.Frag) : List V → Hp → VK → Prop := fun xs H Q => ∃ v d k, xs = [v] ∧ Dp K H v d ∧ Fine 60 k d ∧ k ≤ sizeLine ∧ Q (.str (shown d)) H
theorem call_reprD {X : Cx} (g : G0 X.A) (hu : X.A.units + 64 < cLine) : CallR X (.builtin "repr") (rRepr X.K) := by
  intro pins s σ H xs us Q I r h
  obtain ⟨v, d, k, rfl, hd, hf, hk, q⟩ := h
  obtain ⟨u, rfl, rv⟩ := vals1 r
  have hsz : (shown d).length ≤ sizeLine := Nat.le_trans hf.len hk
  obtain ⟨as, rd⟩ := Dp.reads I d v u hd rv
  have fin : ∀ (h' : Heap) (t : Tok) (tk : Nat), (∀ b o, s.heap.get? b = some o → h'.get? b = some o) → EP X pins σ Q (.str (shown d) t) { s with heap := h', toks := tk } := fun h' t tk kk =>
    ⟨.str (shown d), H, I.kept (t' := tk) kk, ⟨t, rfl⟩, q⟩
  have prim : ∀ (t : Tok) (tk : Nat), EP X pins σ Q (.str (shown d) t) { s with toks := tk } := fun t tk => fin s.heap t tk fun _ _ z => z
  cases hd with
  | non => cases rv; exact PySem.P.repr_of_none (prim _ _)
  | bl b => cases rv; exact PySem.P.repr_of_bool (by have z := prim s.toks (s.toks + 1); cases b <;> exact z)
  | int i =>
    obtain ⟨t, rfl⟩ := rv
    exact PySem.P.repr_of_int (of_decide_eq_true hf.sho) (prim _ _)
  | str x =>
    obtain ⟨t, rfl⟩ := rv
    exact PySem.P.repr_of_str (prim _ _) hsz
  | lst h1 h2 =>
    cases rv
    exact repr_of_reads' rd hf.sho (fun z => by rw [hf.dic] at z; cases z) g (by have := hf.dep; omega) (fun _ _ z => z) (fun h' t tk kk => fin h' t tk kk) hsz
  | tup h1 h2 =>
    cases rv
    exact repr_of_reads' rd hf.sho (fun z => by rw [hf.dic] at z; cases z) g (by have := hf.dep; omega) (fun _ _ z => z) (fun h' t tk kk => fin h' t tk kk) hsz
end B

set_option Elab.async false
set_option linter.all false
set_option maxRecDepth 100000
set_option maxHeartbeats 4000000
/-! The facts of the top: each a Bool over the written part, all of them read in one run. -/
namespace B
open PySem PySem.Spec PyProof.Rows L2 He

/-- the object of an own error class with an own __init__ -/
def oexB (K : PySem.W.Frag) (C : Addr) : Bool := (match K.lookup C with
  | some ⟨.type "type", _, .cls cd, sl⟩ => (match cd.mro, sl.toList with
    | .ref D :: bm, [_, _, _, _, some (.builtin n), _] => decide (D = C) && (decide (n = "ValueError.__new__") && (!cd.hasDel && (cd.hasDict && PySem.HandSPX.refsVE bm)))
    | _, _ => false)
  | _ => false) && (eqO (PySem.W.findIn K (.ref C) "__setattr__") (some (some (.builtin "object.__setattr__"))) &&
    (decide (PySem.W.subIn K (.ref C) (.type "BaseException") = some true) && (decide (PySem.W.typeIn K (.ref C) = some (.type "type")) && PySem.W.keepIn K (.ref C))))
theorem oexB_ok {K : PySem.W.Frag} {C : Addr} (q : oexB K C = true) : OexC K C := by
  obtain ⟨q1, q⟩ := ba q
  obtain ⟨q2, q⟩ := ba q
  obtain ⟨q3, q⟩ := ba q
  obtain ⟨q4, q5⟩ := ba q
  refine ⟨?_, eqO_ok q2, of_decide_eq_true q3, of_decide_eq_true q4, q5⟩
  clear q2 q3 q4 q5
  split at q1
  · rename_i dd cd sl ho
    split at q1
    · rename_i D bm k0 k1 k2 k3 n k5 hm hs
      obtain ⟨r1, q⟩ := ba q1
      obtain ⟨r2, q⟩ := ba q
      obtain ⟨r3, q⟩ := ba q
      obtain ⟨r4, r5⟩ := ba q
      have r1 := of_decide_eq_true r1
      have r2 := of_decide_eq_true r2
      obtain ⟨c1, c2, c3, c4, c5, c6, c7, c8, c9, c10, c11⟩ := cd
      dsimp only at hm r3 r4
      have r3 : c11 = false := by simpa using r3
      subst hm r3 r4 r1 r2
      have e : sl = #[k0, k1, k2, k3, some (.builtin "ValueError.__new__"), k5] := Array.toList_inj.mp hs
      subst e
      exact ⟨c1, c5, c4, c2, bm, c7, c8, c9, c10, dd, k0, k1, k2, k3, k5, ho, r5⟩
    · cases q1
  · cases q1
/-- the getter of a property -/
def pf (K : PySem.W.Frag) (C : Addr) (m : Str) : Addr := match PySem.W.recIn K (ma K C m) "property" with
  | some (.ref f :: _) => f
  | _ => 0

inductive Fx where
  | he (f : Fa)
  | err (x f : Str)
  | exq (x : Str)
  | exm (x y : Str) (b : Bool)
  | exa (x : Str) (ys : List Str) (b : Bool)
  | kit (x y : Str) (b : Bool)
  | kity (x : Str) (T : String) (b : Bool)
  | tyk (T : String) (y : Str) (b : Bool)
  | ins (x : Str)
  | prop (x m : Str)
  | cm (x m : Str)
  | eqs (x : Str)
  | nf (x : Str) (T : String)
  | tup (x : Str) (vs : List Dv)
def Fx.ok (K : PySem.W.Frag) : Fx → Bool
  | .he f => f.ok K
  | .err x f => oexB K (ga K x) && (eqO (PySem.W.findIn K (.ref (ga K x)) f) (some none) && (eqO (PySem.W.findIn K (.ref (ga K x)) "__init__") (some (some (.ref (ma K (ga K x) "__init__")))) &&
      decide (PySem.W.typeIn K (.ref (ma K (ga K x) "__init__")) = some (.type "function"))))
  | .exq x => xfB K (ga K x) && (eqO (PySem.W.findIn K (.ref (ga K x)) "__class__") (some (some (.builtin "object.__class__"))) && (eqO (PySem.W.specialIn K (.builtin "object.__class__") "__get__") (some (some (.builtin "getset_descriptor.__get__"))) &&
      (decide (PySem.W.takesIn K (.builtin "object.__class__") = some true) && decide (PySem.W.mroIn K (ga K x) (.type "object") = some true))))
  | .exm x y b => decide (PySem.W.exmOne K (.ref (ga K x)) (.ref (ga K y)) = some b)
  | .exa x ys b => decide (PySem.W.exmAny K (.ref (ga K x)) (ys.map fun y => Value.ref (ga K y)) = some b)
  | .kit x y b => decide (PySem.W.kitOne K (.ref (ga K x)) (.ref (ga K y)) = some b)
  | .kity x T b => decide (PySem.W.kitOne K (.ref (ga K x)) (.type T) = some b)
  | .tyk T y b => decide (PySem.W.kitOne K (.type T) (.ref (ga K y)) = some b)
  | .ins x => eqO (PySem.W.findIn K (.ref (ga K x)) "__class__") (some (some (.builtin "object.__class__"))) && (eqO (PySem.W.specialIn K (.builtin "object.__class__") "__get__") (some (some (.builtin "getset_descriptor.__get__"))) &&
      (decide (PySem.W.takesIn K (.builtin "object.__class__") = some true) && decide (PySem.W.mroIn K (ga K x) (.type "object") = some true)))
  | .prop x m => eqO (PySem.W.findIn K (.ref (ga K x)) m) (some (some (.ref (ma K (ga K x) m)))) && (eqO (PySem.W.specialIn K (.ref (ma K (ga K x) m)) "__get__") (some (some (.builtin "property.__get__"))) &&
      (decide (PySem.W.takesIn K (.ref (ma K (ga K x) m)) = some true) && (match PySem.W.recIn K (ma K (ga K x) m) "property" with
        | some (.ref _ :: _) => true
        | _ => false)))
  | .cm x m => He5.wrapB K (ga K x) "classmethod" "classmethod.__get__" m && (PySem.W.fnIn K (He5.wf K (ga K x) "classmethod" m) && (PySem.W.readsIn K (ga K x) (.type "type") && eqO (PySem.W.specialIn K (.ref (ga K x)) "__getattribute__") (some (some (.builtin "type.__getattribute__")))))
  | .eqs x => eqO (PySem.W.findIn K (.ref (ga K x)) "__eq__") (some (some (.ref (ma K (ga K x) "__eq__")))) && (PySem.W.isFn K (.ref (ma K (ga K x) "__eq__")) && (eqO (PySem.W.findIn K (.ref (ga K x)) "__ne__") (some (some (.builtin "object.__ne__"))) &&
      (decide (PySem.W.mroIn K (ga K x) (.type "object") = some true) && PySem.W.notFirst K (ga K x) (.ref (ga K x)))))
  | .nf x T => PySem.W.notFirst K (ga K x) (.type T)
  | .tup x vs => tupB K x vs && eqO (PySem.W.nsIn K mainGlobals x) (some (some (.ref (ga K x))))

section
variable {K : PySem.W.Frag}
structure ErrF (K : PySem.W.Frag) (C fI : Addr) (f : Str) : Prop where
  oex : OexC K C
  no : PySem.W.findIn K (.ref C) f = some none
  init : PySem.W.findIn K (.ref C) "__init__" = some (some (.ref fI))
  fn : PySem.W.typeIn K (.ref fI) = some (.type "function")
theorem err_ok {x f : Str} (c : (Fx.err x f).ok K = true) : ErrF K (ga K x) (ma K (ga K x) "__init__") f := by
  obtain ⟨c1, c⟩ := ba c
  obtain ⟨c2, c⟩ := ba c
  obtain ⟨c3, c4⟩ := ba c
  exact ⟨oexB_ok c1, eqO_ok c2, eqO_ok c3, of_decide_eq_true c4⟩
theorem exq_ok {x : Str} (c : (Fx.exq x).ok K = true) : XfC K (ga K x) ∧ ExcC K (ga K x) := by
  obtain ⟨c1, c⟩ := ba c
  obtain ⟨c2, c⟩ := ba c
  obtain ⟨c3, c⟩ := ba c
  obtain ⟨c4, c5⟩ := ba c
  have T := xfB_ok c1
  exact ⟨T, T.ga, T.gg, T.exC, T.hdC, eqO_ok c2, eqO_ok c3, of_decide_eq_true c4, of_decide_eq_true c5⟩
structure InsF (K : PySem.W.Frag) (C : Addr) : Prop where
  ha : PySem.W.findIn K (.ref C) "__class__" = some (some (.builtin "object.__class__"))
  hn : PySem.W.specialIn K (.builtin "object.__class__") "__get__" = some (some (.builtin "getset_descriptor.__get__"))
  htk : PySem.W.takesIn K (.builtin "object.__class__") = some true
  hm : PySem.W.mroIn K C (.type "object") = some true
theorem ins_ok {x : Str} (c : (Fx.ins x).ok K = true) : InsF K (ga K x) := by
  obtain ⟨c1, c⟩ := ba c
  obtain ⟨c2, c⟩ := ba c
  obtain ⟨c3, c4⟩ := ba c
  exact ⟨eqO_ok c1, eqO_ok c2, of_decide_eq_true c3, of_decide_eq_true c4⟩
theorem prop_ok {x m : Str} (c : (Fx.prop x m).ok K = true) : PropOf K (ga K x) m (ma K (ga K x) m) (pf K (ga K x) m) := by
  obtain ⟨c1, c⟩ := ba c
  obtain ⟨c2, c⟩ := ba c
  obtain ⟨c3, c4⟩ := ba c
  refine ⟨eqO_ok c1, eqO_ok c2, of_decide_eq_true c3, ?_⟩
  unfold pf
  split at c4
  · rename_i f r e
    exact ⟨r, by rw [e]⟩
  · cases c4
theorem cm_ok {x m : Str} (c : (Fx.cm x m).ok K = true) : ClX.CRead K (ga K x) (.type "type") ∧ ClX.CMet K (ga K x) (.type "type") m (ma K (ga K x) m) (He5.wf K (ga K x) "classmethod" m) := by
  obtain ⟨c1, c⟩ := ba c
  obtain ⟨c2, c⟩ := ba c
  obtain ⟨c3, c4⟩ := ba c
  exact ⟨⟨c3, eqO_ok c4⟩, He5.cmet_of c1 c2⟩
structure EqF (K : PySem.W.Frag) (C f : Addr) : Prop where
  eq : PySem.W.findIn K (.ref C) "__eq__" = some (some (.ref f))
  fn : PySem.W.isFn K (.ref f) = true
  ne : PySem.W.findIn K (.ref C) "__ne__" = some (some (.builtin "object.__ne__"))
  ob : PySem.W.mroIn K C (.type "object") = some true
  own : PySem.W.notFirst K C (.ref C) = true
theorem eqs_ok {x : Str} (c : (Fx.eqs x).ok K = true) : EqF K (ga K x) (ma K (ga K x) "__eq__") := by
  obtain ⟨c1, c⟩ := ba c
  obtain ⟨c2, c⟩ := ba c
  obtain ⟨c3, c⟩ := ba c
  obtain ⟨c4, c5⟩ := ba c
  exact ⟨eqO_ok c1, c2, eqO_ok c3, of_decide_eq_true c4, c5⟩
end

/-! ### the Hook -/
def obsM (fx : List Fx) (fn : List He5.DefA) (K : PySem.W.Frag) : He.AlD := ((fx.all fun f => f.ok K) && fn.all fun d => d.ok K, fn.map fun d => He5.fnA K (d.at_ K))
def valM (fn : List He5.DefA) : He.AlD := (true, fn.map He5.DefA.val)
def SaysM (fx : List Fx) (fn : List He5.DefA) (K : PySem.W.Frag) : Prop := obsM fx fn K = valM fn
def obsMG (n : Nat) (fx : List Fx) (fn : List He5.DefA) (g : Addr → Option Obj) : He.AlD := obsM fx fn (frG g (He5.asA g n))
def hookM (n : Nat) (fx : List Fx) (fn : List He5.DefA) : PySem.W.Hook where
  α := He.AlD
  obs := fun s => obsMG n fx fn s.heap.get?
  val := fun _ => valM fn
  says := fun _ h => ∃ K : PySem.W.Frag, K.In h ∧ SaysM fx fn K
  of := fun _ _ e => ⟨_, frG_in, e⟩
  keeps := fun _ _ _ ⟨K, hK, c⟩ k => ⟨K, PySem.W.Frag.In.keeps hK k, c⟩
theorem obsMG_eq {n : Nat} {fx : List Fx} {fn : List He5.DefA} {g : Addr → Option Obj} {s : Shared} (h : ∀ a, g a = s.heap.get? a) : obsMG n fx fn g = (hookM n fx fn).obs s := by
  have e : g = s.heap.get? := funext h
  subst e
  rfl
section
variable {fx : List Fx} {fn : List He5.DefA} {K : PySem.W.Frag}
theorem SaysM.fact (c : SaysM fx fn K) (i : Nat) {f : Fx} (h : fx[i]? = some f := by rfl) : f.ok K = true := by
  have c1 : ((fx.all fun f => f.ok K) && fn.all fun d => d.ok K) = true := congrArg (fun z : He.AlD => z.1) c
  exact List.all_eq_true.mp (ba c1).1 f (List.mem_of_getElem? h)
theorem SaysM.def_ (c : SaysM fx fn K) (i : Nat) {d : He5.DefA} (h : fn[i]? = some d := by rfl) : ∃ fd, FunD K d.name d.qual d.params d.body d.scope (d.dvs K) (d.kws K) (d.at_ K) fd := by
  have c1 : ((fx.all fun f => f.ok K) && fn.all fun d => d.ok K) = true := congrArg (fun z : He.AlD => z.1) c
  have e : fn.map (fun d => He5.fnA K (d.at_ K)) = fn.map He5.DefA.val := congrArg (fun z : He.AlD => z.2) c
  have e2 := congrArg (fun l => l[i]?) e
  simp only [List.getElem?_map, h, Option.map_some] at e2
  exact He5.DefA.funD (Option.some.inj e2) (List.all_eq_true.mp (ba c1).2 d (List.mem_of_getElem? h))
end

/-- a def of the module: where its name stands, and its promise -/
structure Has (P : Program) (w : World) (K : PySem.W.Frag) (mg : Str → Option Value) (b0 : Heap) (CX : CXT) (k : Nat) (f : Addr) (ps : List Str) (sp : Sp) : Prop where
  ex : ∃ fd, FnOk P w K mg b0 CX k f fd ps sp ∧ Binds K fd ps []
  kp : PySem.W.keepIn K (.ref f) = true
/-- .. where no guard stands around -/
structure HasG (P : Program) (w : World) (K : PySem.W.Frag) (mg : Str → Option Value) (b0 : Heap) (CX : CXT) (k : Nat) (f : Addr) (ps : List Str) (sp : Sp) : Prop where
  ex : ∃ fd, FnG P w K mg b0 CX k f fd ps sp ∧ Binds K fd ps []
  kp : PySem.W.keepIn K (.ref f) = true
section
variable {X : Cx} {CX : CXT} {k j : Nat} {f : Addr} {ps : List Str} {sp : Sp} {E : XK} {x : Str} {p pos : Pos} {e : Expr} {es : List Expr} {t : TA}
/-- f(..) -/
theorem pc (D : Has X.prog X.w X.K X.mg X.base CX k f ps sp) (hm : X.mg x = some (.ref f)) (hr : Room j X.A) (hx : Passes CX X E) (ha : PA X (e :: es) t) (hj : k ≤ j := by decide) (hg : Gl X x := by rfl)
    (hdb : (x == ("__debug__" : Str)) = false := by decide) (he : starEach (e :: es) X.env = (false, eval e X.env) :: starEach es X.env := by rfl) (hpl : (backTo pos (starEach es X.env)).any (·.1) = false := by rfl) :
    PE X (.Call (.Name x p) (e :: es) [] pos) (tCall sp [] E t) := by
  obtain ⟨⟨fd, F, b⟩, kp⟩ := D
  exact pe_call F (hr.mono hj) hg hm kp b .nil hx ha hdb he hpl
theorem pcG (D : HasG X.prog X.w X.K X.mg X.base CX k f ps sp) (hm : X.mg x = some (.ref f)) (g : G0 X.A) (hr : Room j X.A) (hx : Passes CX X E) (ha : PA X (e :: es) t) (hj : k ≤ j := by decide) (hg : Gl X x := by rfl)
    (hdb : (x == ("__debug__" : Str)) = false := by decide) (he : starEach (e :: es) X.env = (false, eval e X.env) :: starEach es X.env := by rfl) (hpl : (backTo pos (starEach es X.env)).any (·.1) = false := by rfl) :
    PE X (.Call (.Name x p) (e :: es) [] pos) (tCall sp [] E t) := by
  obtain ⟨⟨fd, F, b⟩, kp⟩ := D
  exact pe_callG F g (hr.mono hj) hg hm kp b hx ha hdb he hpl
end
end B

set_option Elab.async false
set_option linter.all false
set_option maxRecDepth 100000
set_option maxHeartbeats 4000000
namespace B
open PySem PySem.Spec PyProof.Rows L2
/-- a test's answer, the heap as it was -/
def An (t : TT) (σ : L2.St) (H : Hp) (b : Bool) : Prop := ∀ Q : Bool → Hp → Prop, Q b H → t σ H Q
/-- a value, the heap as it was -/
def Vl (t : TE) (σ : L2.St) (H : Hp) (v : V) : Prop := ∀ Q : VK, Q v H → t σ H Q
section
variable {t u : TT} {σ σ' : L2.St} {H : Hp} {a b : Bool} {te ta tb : TE} {t1 t2 : TS} {N Bk Ct : L2.St → Hp → Prop} {Rt : VK} {v x y : V} {i : Nat} {r : R2}
theorem notT {b : Bool} (h : (!b) = true) : b = false := by cases b with
  | true => cases h
  | false => rfl
theorem notF {b : Bool} (h : (!b) = false) : b = true := by cases b with
  | true => rfl
  | false => cases h
theorem an_not (h : An t σ H b) : An (tNot t) σ H (!b) := fun Q q => h _ q
theorem an_or (h : An t σ H a) (h2 : a = false → An u σ H b) : An (tOr t u) σ H (a || b) := fun Q q => h _ (by
  cases a with
  | true => rw [if_pos rfl]; exact q
  | false => rw [if_neg Bool.false_ne_true]; exact h2 rfl Q q)
theorem an_and (h : An t σ H a) (h2 : a = true → An u σ H b) : An (tAnd t u) σ H (a && b) := fun Q q => h _ (by
  cases a with
  | true => rw [if_pos rfl]; exact h2 rfl Q q
  | false => rw [if_neg Bool.false_ne_true]; exact q)
theorem an_cong (h : An t σ H a) (e : a = b) : An t σ H b := e ▸ h
theorem an_val (h : Vl te σ H (.bl b)) : An (tB te) σ H b := fun Q q => h _ ⟨b, rfl, q⟩
theorem an_test (h : Vl te σ H (.bl b)) : An (tTest te) σ H b := fun Q q => h _ ⟨b, rfl, q⟩
theorem vl_var (h : σ[i]? = some (some v)) : Vl (tVar i) σ H v := fun Q q => ⟨v, h, q⟩
theorem vl_c : Vl (tC v) σ H v := fun Q q => q
theorem vl_cong (h : Vl te σ H x) (e : x = y) : Vl te σ H y := e ▸ h
theorem vl_op (ha : Vl ta σ H x) (hb : Vl tb σ H y) (hr : ∀ Q : VK, Q v H → r x y H Q) : Vl (tOp r ta tb) σ H v := fun Q q => ha _ (hb _ (hr Q q))
theorem vl_I0 {g : Int → Int → V} {m n : Int} (ha : Vl ta σ H (.int m)) (hb : Vl tb σ H (.int n)) : Vl (tOp (rI0 g) ta tb) σ H (g m n) := vl_op ha hb fun Q q => ⟨m, n, rfl, rfl, q⟩
theorem vl_I {c : Int → Int → Prop} {g : Int → Int → V} {m n : Int} (ha : Vl ta σ H (.int m)) (hb : Vl tb σ H (.int n)) (h : c m n) : Vl (tOp (rI c g) ta tb) σ H (g m n) := vl_op ha hb fun Q q => ⟨m, n, rfl, rfl, h, q⟩
theorem vl_eqI {m n : Int} (ha : Vl ta σ H (.int m)) (hb : Vl tb σ H (.int n)) : Vl (tOp rEq ta tb) σ H (.bl (decide (m = n))) := vl_op ha hb fun Q q => ⟨rfl, by
  have e : decide (V.int m = V.int n) = decide (m = n) := decide_eq_decide.mpr ⟨fun z => V.int.inj z, fun z => by rw [z]⟩
  rw [e]; exact q⟩
theorem vl_eqS {m n : Str} (ha : Vl ta σ H (.str m)) (hb : Vl tb σ H (.str n)) : Vl (tOp rEq ta tb) σ H (.bl (decide (m = n))) := vl_op ha hb fun Q q => ⟨rfl, by
  have e : decide (V.str m = V.str n) = decide (m = n) := decide_eq_decide.mpr ⟨fun z => V.str.inj z, fun z => by rw [z]⟩
  rw [e]; exact q⟩
/-- statements: what stands behind -/
theorem sq {t u : TS} (h : t ⟨u ⟨N, Rt, Bk, Ct⟩, Rt, Bk, Ct⟩ σ H) : tSeq t u ⟨N, Rt, Bk, Ct⟩ σ H := h
theorem if_an (h : An t σ H b) (y : b = true → t1 ⟨N, Rt, Bk, Ct⟩ σ H) (n : b = false → t2 ⟨N, Rt, Bk, Ct⟩ σ H) : tIfS t t1 t2 ⟨N, Rt, Bk, Ct⟩ σ H := h _ (by
  cases b with
  | true => rw [if_pos rfl]; exact y rfl
  | false => rw [if_neg Bool.false_ne_true]; exact n rfl)
theorem if_1 (h : An t σ H b) (y : b = true → t1 ⟨N, Rt, Bk, Ct⟩ σ H) (n : b = false → N σ H) : tIfS t t1 tNext ⟨N, Rt, Bk, Ct⟩ σ H := if_an h y n
theorem if_no1 (h : An t σ H false) (n : N σ H) : tIfS t t1 tNext ⟨N, Rt, Bk, Ct⟩ σ H := if_an h (fun z => nomatch z) fun _ => n
theorem if_yes (h : An t σ H true) (y : t1 ⟨N, Rt, Bk, Ct⟩ σ H) : tIfS t t1 t2 ⟨N, Rt, Bk, Ct⟩ σ H := if_an h (fun _ => y) fun z => nomatch z
theorem if_no (h : An t σ H false) (n : t2 ⟨N, Rt, Bk, Ct⟩ σ H) : tIfS t t1 t2 ⟨N, Rt, Bk, Ct⟩ σ H := if_an h (fun z => nomatch z) fun _ => n
theorem asg (h : te σ H fun x H1 => N (σ.set i (some x)) H1) : tAsg te (gName i) ⟨N, Rt, Bk, Ct⟩ σ H := h
theorem asgV (h : Vl te σ H v) (q : N (σ.set i (some v)) H) : tAsg te (gName i) ⟨N, Rt, Bk, Ct⟩ σ H := h _ q
theorem ret (h : te σ H Rt) : tRet te ⟨N, Rt, Bk, Ct⟩ σ H := h
theorem retV (h : Vl te σ H v) (q : Rt v H) : tRet te ⟨N, Rt, Bk, Ct⟩ σ H := h _ q
theorem drp (h : te σ H fun _ H1 => N σ H1) : tDrop te ⟨N, Rt, Bk, Ct⟩ σ H := h
theorem nxt (h : N σ H) : tNext ⟨N, Rt, Bk, Ct⟩ σ H := h
theorem st_ {N : L2.St → Hp → Prop} (e : σ = σ') (h : N σ' H) : N σ H := e ▸ h
theorem at_ {t : TS} {D : Ends} (e : σ = σ') (h : t D σ' H) : t D σ H := e ▸ h
theorem cps_get {x : Str} {i : Nat} {c : Nat} (h : x.cps[i]? = some c) : x.cps.toList[i]? = some c := by rw [Array.getElem?_toList]; exact h
theorem cps_len (x : Str) : x.cps.toList.length = x.length := Array.length_toList
/-- isinstance(x, str) -/
theorem an_isStr {K : PySem.W.Frag} {x : Str} (h : Vl ta σ H (.str x)) : An (tB (tCB (rIsi K) (tCons ta (tCons (tC (.ty "str")) tNil)))) σ H true := fun Q q =>
  h _ ⟨_, _, _, _, true, rfl, .ty _, .base (.str _), kit_ty (by decide +kernel), true, rfl, q⟩
end
section
variable {X : Cx} {x : Str} {pos : Pos}
/-- a module's constant -/
theorem gI {n : Int} (h : ∃ t, X.mg x = some (.int n t)) (hg : Gl X x := by rfl) (hdb : (x == ("__debug__" : Str)) = false := by decide) : PE X (.Name x pos) (tC (.int n)) := let ⟨_, m⟩ := h; pe_glob hg m ⟨_, rfl⟩ hdb
theorem gS {z : Str} (h : ∃ t, X.mg x = some (.str z t)) (hg : Gl X x := by rfl) (hdb : (x == ("__debug__" : Str)) = false := by decide) : PE X (.Name x pos) (tC (.str z)) := let ⟨_, m⟩ := h; pe_glob hg m ⟨_, rfl⟩ hdb
/-- a module's def, class -/
theorem gR {a : Addr} (h : X.mg x = some (.ref a)) (hg : Gl X x := by rfl) (hdb : (x == ("__debug__" : Str)) = false := by decide) : PE X (.Name x pos) (tC (.ref a)) := pe_glob hg h rfl hdb
/-- a built-in class as a value -/
theorem gTy {n : String} (h : X.mg x = none) (hv : bootBuiltins x = some (.type n) := by decide +kernel) (hg : Gl X x := by rfl) (hn : x ≠ "__name__" := by decide) (hdb : (x == ("__debug__" : Str)) = false := by decide) : PE X (.Name x pos) (tC (.ty n)) := pe_bltn hg h hv rfl hn hdb
end
end B

set_option Elab.async false
set_option linter.all false
set_option maxRecDepth 100000
set_option maxHeartbeats 4000000
/-! Own errors: their __init__, what they are made of, raised calm or hot; from the one wish to the other. -/
namespace B
open PySem PySem.Spec PyProof.Rows L2

/-! ### an __init__ that keeps its one argument -/
def spErr (C : Addr) (f : Str) : Sp := fun vs H Q _ => ∃ (a : Addr) (v : V), vs = [.ref a, v] ∧ H a = some (exo a C none) ∧ ∀ d, H d = none → d ≠ a → Q .non (upd (upd H d (exd d [(f, v)])) a (exo a C (some d)))
/-- the text of such an __init__ -/
structure ErrT (st : Stmt) (f x : Str) : Prop where
  sc : FnScope ["self", x] ["self", x] (defScope st)
  body : ∃ q1 q2 q3 q4 : Pos, defBody st = [.Assign [.Attribute (.Name "self" q1) f q2] (.Name x q3) q4]
  l0 : (defScope st).names.lookup ("self" : Str) = some NameKind.local
  l1 : (defScope st).names.lookup x = some NameKind.local
  d1 : (x == ("__debug__" : Str)) = false
  d2 : (x == ("__classdict__" : Str)) = false
section
variable {P : Program} {w : World} {K : PySem.W.Frag} {mg : Str → Option Value} {b0 : Heap} {C fI : Addr} {f x qual : Str} {st : Stmt} {fd : FuncData}
theorem err_ps {X : Cx} (Tx : ErrT st f x) (hN : X.N = [("self" : Str), x]) (hs : X.env.scope = defScope st) (hw : ∀ q1 q2 q3 q4 : Pos, swapsWith (.Name x q3) (some (.Attribute (.Name "self" q1) f q2)) q4.line X.env = pure false := by intros; rfl) :
    PSs X (defBody st) (tOst X.K f (tVar 0) (tVar 1)) := by
  obtain ⟨q1, q2, q3, q4, e⟩ := Tx.body
  rw [e]
  exact pss_one (ps_ost (pe_var (i := 0) (by rw [hN]; rfl) (.inl (by rw [hs]; exact Tx.l0))) (pe_var (i := 1) (by rw [hN]; rfl) (.inl (by rw [hs]; exact Tx.l1)) Tx.d1 Tx.d2) (hw q1 q2 q3 q4))
theorem err_read (T : ErrF K C fI f) {a : Addr} {v : V} {H : Hp} {D : Ends} (e : H a = some (exo a C none)) (k : ∀ d, H d = none → d ≠ a → D.nx [some (.ref a), some v] (upd (upd H d (exd d [(f, v)])) a (exo a C (some d)))) :
    tOst K f (tVar 0) (tVar 1) D [some (.ref a), some v] H := ⟨_, rfl, _, rfl, a, C, rfl, T.oex, T.no, .inl ⟨e, k⟩⟩
theorem err_fn (T : ErrF K C fI f) (Tx : ErrT st f x) (F : L2.Fun K "__init__" qual st fI fd) : FnOk P w K mg b0 CX0 1 fI fd ["self", x] (spErr C f) := by
  refine F.ok Tx.sc (fun vs H Q E h => ?_) (fun cdv A outer s H vs Q E hr h => ?_)
  · obtain ⟨a, v, rfl, _⟩ := h; rfl
  · obtain ⟨a, v, rfl, e, k⟩ := h
    exact ⟨_, err_ps Tx rfl rfl, err_read T e k⟩
theorem err_fnH (T : ErrF K C fI f) (Tx : ErrT st f x) (F : L2.Fun K "__init__" qual st fI fd) : L2H.FnH P w K mg b0 CX0 1 fI fd ["self", x] (spErr C f) := by
  obtain ⟨oc, od, kV, doc, pm, an, cdv, ct, osl, rfl, lk, hcd⟩ := F.ex
  refine L2H.fn_ofH lk hcd Tx.sc (fun vs H Q E h => ?_) (fun A outer s H vs Q E p hot hr h => ?_)
  · obtain ⟨a, v, rfl, _⟩ := h; rfl
  · obtain ⟨a, v, rfl, e, k⟩ := h
    exact ⟨_, err_ps Tx rfl rfl, err_read T e k⟩
/-- what is wanted of the error, from what stands behind it -/
theorem err_out {H1 : Hp} {v : V} {Q : XK} (h : ∀ d, H1 d = none → Q (.ref C) (some d) (upd H1 d (.xd [(f, v)]))) :
    [v].length ≤ 1000 ∧ ∀ a, H1 a = none → spErr C f (.ref a :: ([v] ++ [])) (upd H1 a (exo a C none))
      (fun u H2 => u = .non ∧ ∃ (d : Addr) (fs : List (Str × V)), H2 a = some (exo a C (some d)) ∧ H2 d = some (exd d fs) ∧ H1 d = none ∧ Q (.ref C) (some d) (upd (L2.del H2 a) d (.xd fs))) (fun _ _ _ => False) := by
  refine ⟨by show 1 ≤ 1000; decide, fun a na => ⟨a, v, rfl, upd_same, fun d nd ne => ⟨rfl, d, [(f, v)], upd_same, ?_, ?_, ?_⟩⟩⟩
  · rw [upd_ne ne, upd_same]
  · rw [upd_ne ne] at nd; exact nd
  · have hd : H1 d = none := by rw [upd_ne ne] at nd; exact nd
    have e : upd (L2.del (upd (upd (upd H1 a (exo a C none)) d (exd d [(f, v)])) a (exo a C (some d))) a) d (.xd [(f, v)]) = upd H1 d (.xd [(f, v)]) := by
      funext b
      by_cases h1 : b = d
      · subst h1; rw [upd_same, upd_same]
      · rw [upd_ne h1, upd_ne h1]
        by_cases h2 : b = a
        · subst h2; rw [L2.del_same, na]
        · rw [L2.del_ne h2, upd_ne h2, upd_ne h1, upd_ne h2]
    rw [e]; exact h d hd
end

/-! ### an error is made where nothing is handled -/
section
variable {X : Cx} {CX : CXT} {x : Str} {C fI : Addr} {k j : Nat} {fd : FuncData} {ps : List Str} {sp : Sp} {e : Expr} {es : List Expr} {ta : TA} {p pos : Pos} {W : WX}
theorem pmk5_calm (T : OexC X.K C) (iC : PySem.W.findIn X.K (.ref C) "__init__" = some (some (.ref fI))) (tI : PySem.W.typeIn X.K (.ref fI) = some (.type "function"))
    (F1 : FnOk X.prog X.w X.K X.mg X.base CX k fI fd ps sp) (hr : Room (k + 1) X.A) (hb : Binds X.K fd ps []) (hx : Passes CX X (fun _ _ _ => False)) (hg : Gl X x) (hm : X.mg x = some (.ref C)) (ha : PA X (e :: es) ta)
    (hdb : (x == ("__debug__" : Str)) = false) (he : starEach (e :: es) X.env = (false, eval e X.env) :: starEach es X.env) (hpl : (backTo pos (starEach es X.env)).any (·.1) = false) :
    L2H.PMk5 X (.Call (.Name x p) (e :: es) [] pos) (tMkO C sp [] ta) := by
  intro pins s σ H Q I want
  obtain ⟨c1, c2, c3, c4, bm, c6, c7, c8, c9, c10, k0, k1, k2, k3, k5, lk, ve⟩ := T.cls
  refine wpAny_Call_Name_kw (ld_glob I hg hm (PySem.W.callWith_K (h₀ := X.base) I.ok.mod.kin T.kC (thn (ha.run pos pins s σ H _ I want) ?_) he hpl) hdb)
  rintro us ⟨h1, g1, d1, t1, o1⟩ ⟨vs, H1, I1, rel, len, kk⟩
  refine ⟨I1.kIn, ?_⟩
  show wpAny (model X.prog X.w) X.A (call (.ref C) us) _ X.xe _
  have above : h1.objs.size ≤ h1.objs.size + 1 := Nat.le_succ _
  have free : H1 (h1.objs.size + 1) = none := I1.hok.fresh above
  have want1 := kk (h1.objs.size + 1) free
  rw [List.append_nil] at want1
  have old : ∀ b o, h1.get? b = some o → ((h1.push (PySem.W.kdv_tup us)).push (PySem.HandSPX.excO C h1.objs.size)).get? b = some o := fun b o z => Heap.get?_push_of_some _ (Heap.get?_push_of_some _ z)
  have there : ((h1.push (PySem.W.kdv_tup us)).push (PySem.HandSPX.excO C h1.objs.size)).get? (h1.objs.size + 1) = some (PySem.HandSPX.excO C h1.objs.size) := by heap_get
  have I2 : Inv X pins σ (upd H1 (h1.objs.size + 1) (exo (h1.objs.size + 1) C none)) ⟨(h1.push (PySem.W.kdv_tup us)).push (PySem.HandSPX.excO C h1.objs.size), g1, d1, t1, o1⟩ :=
    Inv.laid (t' := t1) I1 old above (exo_ok there)
  have rel2 : Vals (V.ref (h1.objs.size + 1) :: vs) (Value.ref (h1.objs.size + 1) :: us) := Paired.cons rfl rel
  have num : (Value.ref (h1.objs.size + 1) :: us ++ []).length = ps.length := by
    rw [List.append_nil, ← rel2.length]; exact F1.len _ _ _ _ want1
  have small : us.length ≤ sizeLine := by rw [← Paired.length rel, sizeLine_eq]; omega
  have bnd := hb ⟨(h1.push (PySem.W.kdv_tup us)).push (PySem.HandSPX.excO C h1.objs.size), g1, d1, t1, o1⟩ (Value.ref (h1.objs.size + 1) :: us) I2.kIn num
  rw [List.append_nil] at bnd
  have go := F1.run _ X.stack _ _ ⟨Value.ref (h1.objs.size + 1) :: us, []⟩ (Value.ref (h1.objs.size + 1) :: us) _ _ (fun _ _ _ => False) (hr.make C us []) (I2.env0.make C us []) bnd rel2 want1
  refine wpAny_call (PySem.HandSPX.call_own F.excBase_ValueError (fun Y => PySem.HandSPX.refsVE_contains Y bm ve) (I1.kIn _ _ lk) (PySem.W.looks_findIn I1.kIn iC) (fun self => PySem.W.bind_fn I1.kIn self tI) small (codeAny_mono go ?_))
  intro res s2 z
  match res, s2, z with
  | .error er, s2, z => exact hx pins σ _ _ er s2 I2 z
  | .ok (.ret u), ⟨h2, g2, d2, t2, o2⟩, ⟨v, H2, z1, z2, z3, z4, rv, ev, d, fs, ea, ed, nd, q⟩ =>
    subst ev
    obtain ⟨t0, G, J, y1, y2, y3, y4⟩ := mk_end0 (d2 := d2) (t2 := t2) I1 above old z3 z4 z1 z2 ea ed nd
    refine ⟨rv, ⟨h1.objs.size + 1, _, _, ⟨G, g2, d2, t2, o2⟩, _, .ref C, some d, rfl, J, y1, y2, y3, ⟨rfl, rfl, ?_⟩, rfl, rfl, y4, rfl, z2, raises_own T.exC T.tyC, q⟩, ?_⟩
    · intro vs hv; cases hv; rfl
    · intro a oe vs ea2 hg2 hd2
      cases ea2
      have y5 : h2.get? (h1.objs.size + 1) = some oe := hg2
      rw [y3] at y5
      cases y5; cases hd2
      show (4 : Nat) < 6
      decide
/-- from the finer to the plainer -/
theorem pmk_of {t : L2.St → Hp → XK → Prop} (h : L2N.PMk X e t) : L2.PMk X e t := fun pins s σ H Q I q => thn (h pins s σ H Q I q) (by
  rintro u s1 ⟨a, oe, vs, sI, H', cls, d, q1, q2, q3, q4, q5, q6, q7⟩
  exact ⟨a, oe, vs, sI, H', cls, d, q1, q2, q3, q4, q5, q6.zc, q7⟩)
theorem cx_of {P : Program} {w : World} {outer : List Env} {H : Hp} {s : Shared} {E : XK} {u : Value} {s' : Shared} (h : L2N.CX P w outer H s E u s') : L2.CX P w outer H s E u s' := by
  obtain ⟨a, B, H', cls, d, q1, q2, q3⟩ := h
  exact ⟨a, B, H', cls, d, q1, L2H.flyingZ_imp (fun _ z => L2N.Zn.zc z) q2, q3⟩
theorem passN (tk : L2.Takes X W) (σ : L2.St) {E : XK} (hW : ∀ cls d H, E cls d H → W cls d σ H) : PassesAt (L2N.CX X.prog X.w) X σ E := fun _ _ _ e s' I c => tk e s' (L2.XE.of_call I (fun _ _ _ h => hW _ _ _ h) (cx_of c))
end
/-- a def's promise with a plainer wish about errors -/
theorem exc_imp {P : Program} {w : World} {K : PySem.W.Frag} {mg : Str → Option Value} {b0 : Heap} {CX CX' : CXT} {k : Nat} {f : Addr} {ps : List Str} {sp : Sp} (h : ∀ outer H s E e s', CX outer H s E e s' → CX' outer H s E e s')
    (D : Has P w K mg b0 CX k f ps sp) : Has P w K mg b0 CX' k f ps sp := by
  obtain ⟨⟨fd, F, b⟩, kp⟩ := D
  refine ⟨⟨fd, ⟨F.len, fun A outer s H args us vs Q E hr e0 bn r q => codeAny_mono (F.run A outer s H args us vs Q E hr e0 bn r q) ?_⟩, b⟩, kp⟩
  intro res s' z
  match res, z with
  | .error e, z => exact h _ _ _ _ _ _ z
  | .ok (.ret u), z => exact z
theorem has_plain {P : Program} {w : World} {K : PySem.W.Frag} {mg : Str → Option Value} {b0 : Heap} {k : Nat} {f : Addr} {ps : List Str} {sp : Sp} (D : Has P w K mg b0 (L2N.CX P w) k f ps sp) : Has P w K mg b0 (L2.CX P w) k f ps sp := exc_imp (fun _ _ _ _ _ _ => cx_of) D
/-- a def that may raise, its errors' contexts None -/
theorem Fun.okN {P : Program} {w : World} {K : PySem.W.Frag} {mg : Str → Option Value} {b0 : Heap} {x qual : Str} {st : Stmt} {f : Addr} {fd : FuncData} {N ps : List Str} {k : Nat} {sp : Sp} (F : L2.Fun K x qual st f fd) (S : FnScope N ps (defScope st)) (len : ∀ vs H Q E, sp vs H Q E → vs.length = ps.length)
    (hb : ∀ (cdv : Value) (A : Around) (outer : List Env) (s : Shared) (H : Hp) (vs : List V) (Q : VK) (E : XK), Room k (A.deeper (envOfC qual (defScope st) s.heap.objs.size f cdv)) → sp vs H Q E →
      ∃ t, PSs (cxOf (L2N.CX P w) P w K mg b0 N qual (defScope st) f cdv A outer s H E) (defBody st) t ∧ t { nx := fun _ H' => Q .non H', rt := Q } (L2.start N vs) H) : FnOk P w K mg b0 (L2N.CX P w) (k + 1) f fd ps sp := by
  obtain ⟨oc, od, kV, doc, pm, an, cdv, ct, osl, rfl, lk, hcd⟩ := F.ex
  exact fn_of lk hcd S len (fun A outer s H vs Q E hr q => hb cdv A outer s H vs Q E hr q)
end B

set_option Elab.async false
set_option linter.all false
set_option maxRecDepth 100000
set_option maxHeartbeats 4000000
/-! enumerate over a tuple; an own error without __init__, no argument. -/
namespace B
open PySem PySem.Spec PyProof.Rows L2

theorem enum_newT (l : Addr) (items : Array Value) (n : Nat) (dct : Option Addr) (sl : Array (Option Value)) :
    Meets (Builtin.«enumerate.__new__» ⟨[.type "enumerate", .ref l], []⟩) (fun _ R s => s.heap.get? l = some { cls := .type "tuple", dict := dct, data := .seq items n, slots := sl } ∧
      R (.ok (.ret (.ref (s.heap.push { cls := .type "tuple_iterator", data := .fields #[.ref l, .int 0 0] }).objs.size)))
        { s with heap := (s.heap.push { cls := .type "tuple_iterator", data := .fields #[.ref l, .int 0 0] }).push { cls := .type "enumerate", data := .fields #[.none, .bool false, .ref s.heap.objs.size, rawInt 0, .none, .none] } }) := by
  refine .of_wp fun prog w A R s h => ?_
  obtain ⟨hp, g, d, tk, os⟩ := s
  obtain ⟨hl, h⟩ := h
  have hsub := sub_enumerate
  have hL : Heap.IsTuple (Shared.heap ⟨hp, g, d, tk, os⟩) l items := ⟨_, hl, rfl, n, rfl⟩
  wp_walk using AutoSeq1.wpAny_loadPart' hl
  refine wpAny_stack_any fun st => wpAny_pure ?_
  split
  · rename_i c _ _ _ _ _
    cases (c == Value.type "enumerate") <;>
      (wp_walk using AutoSeq1.wpAny_loadPart' hl, wpAny_pyIter_tuple hL
       exact ⟨_, rfl, h⟩)
  · wp_walk using AutoSeq1.wpAny_loadPart' hl, wpAny_pyIter_tuple hL
    exact ⟨_, rfl, h⟩
theorem call_enumT {prog : Program} {w : World} {A : Around} {E : Value → Shared → Prop} {s : Shared} {l : Addr} {items : Array Value} {Q : Value → Shared → Prop} (hL : s.heap.IsTuple l items)
    (h : ∀ h', IsEnum h' (s.heap.objs.size + 1) s.heap.objs.size 0 .none → h'.IsTupleIter s.heap.objs.size l 0 → h'.objs.size = s.heap.objs.size + 2 → (∀ b o, s.heap.get? b = some o → h'.get? b = some o) →
      Q (.ref (s.heap.objs.size + 1)) { s with heap := h' }) : wpAny (model prog w) A (call (.type "enumerate") [.ref l]) Q E s := by
  obtain ⟨⟨c, dct, dt, sl⟩, hl, hc, n, hd⟩ := hL
  have e1 : c = .type "tuple" := hc
  have e2 : dt = .seq items n := hd
  subst e1 e2
  refine callType_new F.called_enumerate (by decide) (F.typeCall_enumerate_1 _) (F.newCall_enumerate_1 _) (fun obj => F.args_object_init_2 obj _) F.entry_enumerate_new (enum_newT l items n dct sl) ⟨hl, ?_⟩
  have hz : (s.heap.push { cls := .type "tuple_iterator", data := .fields #[.ref l, .int 0 0] }).objs.size = s.heap.objs.size + 1 := Heap.size_push ..
  show _ ∧ _
  rw [hz]
  have he := Heap.get?_push_size (s.heap.push { cls := .type "tuple_iterator", data := .fields #[.ref l, .int 0 0] })
    (o := { cls := .type "enumerate", data := .fields #[.none, .bool false, .ref s.heap.objs.size, rawInt 0, .none, .none] }) rfl
  rw [hz] at he
  exact ⟨⟨_, he, rfl⟩, h _ he ⟨_, Heap.get?_push_of_some _ (Heap.get?_push_size _ rfl), rfl, rfl⟩ (by rw [Heap.size_push, hz]) fun b o x => Heap.get?_push_of_some _ (Heap.get?_push_of_some _ x)⟩

/-- the tuple at a as it stands at each turn, each item in a new pair -/
def ItU (K : PySem.W.Frag) (a : Addr) : It where
  go := fun i H => ∃ (xs : List V) (x : V), SqT K H a xs ∧ xs[i]? = some x
  yld := fun i H v H' => ∃ T x, v = .ref T ∧ H T = none ∧ H' = upd H T (.tup [.int (i : Nat), x]) ∧ ∀ xs, SqT K H a xs → xs[i]? = some x
  stop := fun i H => ∃ xs : List V, SqT K H a xs ∧ xs.length = i
theorem two_mem {b e it : Addr} (h : b ∈ [e, it]) : b = e ∨ b = it := by simpa using h
theorem turnU {P : Program} {w : World} {K : PySem.W.Frag} {elts : List Expr} {kk : Nat} {tpos : Pos} (a e it : Addr) :
    Turn P w K (.Tuple elts kk tpos) (ItU K a) [e, it] e (fun i h => (∃ old, IsEnum h e it ((i : Nat) : Int) old) ∧ h.IsTupleIter it a i ∧ e ≠ it) where
  mem := List.mem_cons_self
  obj := by
    rintro i h ⟨⟨old, he⟩, ⟨o, ho, hc, hd⟩, _⟩ b hb
    rcases two_mem hb with rfl | rfl
    · exact ⟨_, he, fun v q => nomatch q⟩
    · exact ⟨o, ho, fun v q => by rw [hd] at q; cases q⟩
  keep := by
    rintro i h h' ⟨⟨old, he⟩, hi, hne⟩ k
    exact ⟨⟨old, k e (by simp) _ he⟩, hi.at fun o q => k it (by simp) o q, hne⟩
  item := by
    rintro X rfl rfl rfl hc i pins s σ H E I hf ⟨⟨old, he⟩, hit, hne⟩ ⟨xs, x, hq, hx⟩
    obtain ⟨its, rv, p, hz⟩ := I.tuple hq
    obtain ⟨u, hu, ru⟩ := rv.get hx
    have le : e < s.heap.objs.size := Heap.lt_size he
    have li : it < s.heap.objs.size := by obtain ⟨_, q, _⟩ := hit; exact Heap.lt_size q
    have nea : a ≠ it := fun z => by
      obtain ⟨o1, h1, h2, _⟩ := p
      obtain ⟨o2, h3, h4, _⟩ := hit
      rw [z, h3] at h1; cases h1
      rw [h4] at h2
      injection h2 with h5
      exact absurd h5 (by decide)
    have D : Draws X.prog X.w X.A.in1 it [it, a] its.toArray.size (fun i v => its.toArray[i]? = some v) (fun i h => h.IsTupleIter it a i ∧ h.IsTuple a its.toArray) := Draws.tuple (A := X.A.in1) (show X.A.in1.handled = none from I.ok.hd hc) it a nea its.toArray
    have lt : i < its.toArray.size := by
      have q := (List.getElem?_eq_some_iff.mp hu).1
      simpa using q
    have nef : e ∉ [it, a] := fun z => by
      rcases two_mem z with q | q
      · exact hne q
      · obtain ⟨o1, h1, h2, _⟩ := p
        rw [← q, he] at h1; cases h1
        injection h2 with h5
        exact absurd h5 (by decide)
    refine wpAny_pyNext_enum_itemD D he ⟨hit, p⟩ lt hne nef fun y h' tk hy ho hit' hT hsz hk => ?_
    have ey : y = u := by
      rw [List.getElem?_toArray, hu] at hy
      exact (Option.some.inj hy).symm
    subst ey
    refine ⟨_, rfl, wpAny_letOwnedTupleGo_enum (s := { s with heap := h', toks := tk + 1 }) ho fun h2 he2 sb => ?_⟩
    have hT2 := (sb.2 _ (Nat.ne_of_gt le)).trans hT
    have new : ObjOk X.prog X.w (upd H s.heap.objs.size (.tup [.int (i : Nat), x])) h2 s.heap.objs.size (.tup [.int (i : Nat), x]) :=
      ⟨by show 2 ≤ sizeLine; decide, [.int i tk, y], .cons ⟨_, rfl⟩ (.cons ru .nil), ⟨_, hT2, rfl, _, rfl⟩⟩
    have I1 : Inv X pins σ (upd H s.heap.objs.size (.tup [.int (i : Nat), x])) { s with heap := h2, toks := tk + 1 } :=
      I.turnedNew (ch := [e, it]) (fun b ob hb q => by
        have n1 : b ≠ e := fun z => hb (by simp [z])
        have n2 : b ≠ it := fun z => hb (by simp [z])
        exact (sb.2 b n1).trans (hk b ob n1 n2 q)) hf (Nat.le_refl _) new
    refine ⟨.ref s.heap.objs.size, _, I1, rfl, ⟨_, x, rfl, I.hok.fresh (Nat.le_refl _), rfl, fun ys hy' => by rw [I.tuple_inj hy' hq]; exact hx⟩, ⟨⟨y, ?_⟩, ?_, hne⟩, fun b hb => ?_⟩
    · have e1 : ((i + 1 : Nat) : Int) = (i : Int) + 1 := by omega
      rw [e1]; exact he2
    · exact hit'.1.at fun o q => (sb.2 it (Ne.symm hne)).trans q
    · have lb : b < s.heap.objs.size := by
        rcases two_mem hb with rfl | rfl
        · exact le
        · exact li
      rw [upd_ne (Nat.ne_of_lt lb)]
      exact (hf b hb).1
  done := by
    rintro X rfl rfl rfl hc i pins s σ H E I hf ⟨⟨old, he⟩, hit, hne⟩ ⟨xs, hq, hx⟩
    obtain ⟨its, rv, p, hz⟩ := I.tuple hq
    obtain ⟨f0, f1, f2, f3, f4, f5⟩ := hf it (by simp)
    have nea : a ≠ it := fun z => by
      obtain ⟨o1, h1, h2, _⟩ := p
      obtain ⟨o2, h3, h4, _⟩ := hit
      rw [z, h3] at h1; cases h1
      rw [h4] at h2
      injection h2 with h5
      exact absurd h5 (by decide)
    have hl := rv.length
    have D : Draws X.prog X.w X.A.in1 it [it, a] its.toArray.size (fun i v => its.toArray[i]? = some v) (fun i h => h.IsTupleIter it a i ∧ h.IsTuple a its.toArray) := Draws.tuple (A := X.A.in1) (show X.A.in1.handled = none from I.ok.hd hc) it a nea its.toArray
    have ei : i = its.toArray.size := by rw [List.size_toArray, ← hl]; exact hx.symm
    exact wpAny_pyNext_enum_endD D he ⟨ei ▸ hit, p⟩ fun h' eb => ⟨rfl, I.turned (t' := s.toks) (fun b o hb q => eb b o hb q) f0 f1 f3 f4 f5⟩
  self := fun A i s Q E st h => let ⟨⟨_, he⟩, _⟩ := st; wpAny_pyIter_enum he h
theorem walkU {K : PySem.W.Frag} {a : Addr} {xs : List V} : Walk (ItU K a) xs.length (fun H => SqT K H a xs) (YPair (fun i => some (.int (i : Nat))) (fun i => xs[i]?)) := by
  refine ⟨fun i _ hi q => ⟨xs, xs[i], q, by simp [hi]⟩, fun _ q => ⟨xs, q, rfl⟩, fun i H v H' _ q y => ?_⟩
  obtain ⟨T, x, h1, h2, h3, h4⟩ := y
  exact ⟨T, .int (i : Nat), x, h1, h2, h3, rfl, h4 xs q⟩
def iEnumU (K : PySem.W.Frag) (ta : TA) : TI := fun σ H R => ta σ H fun vs H1 => ∃ a xs, vs = [.ref a] ∧ SqT K H1 a xs ∧ R (ItU K a) H1
theorem pi_enumU {X : Cx} {e : Expr} {ta : TA} {p pos tpos : Pos} {elts : List Expr} {kk : Nat} (hg : Gl X "enumerate") (hm : X.mg "enumerate" = none) (ha : PA X [e] ta) (hs : starEach [e] X.env = [(false, eval e X.env)] := by rfl) :
    PI X (.Tuple elts kk tpos) (.Call (.Name "enumerate" p) [e] [] pos) (iEnumU X.K ta) := by
  constructor
  intro pins s σ H R I h
  refine Call_ (ld_blt I hg hm boot_enumerate (PyProof.Rows.callWith_type1 (thn (ha.run pos pins s σ H _ I h) ?_) hs rfl))
  rintro us s1 ⟨vs, H1, I1, r1, a, xs, rfl, hq, q⟩
  obtain ⟨u, rfl, ru⟩ := vals1 r1
  cases ru
  obtain ⟨its, rv, p', hz⟩ := I1.tuple hq
  refine call_enumT p' fun h' he hit hsz hk => wpAny_pyIter_enum he ?_
  have I2 : Inv X pins σ H1 { s1 with heap := h' } := I1.kept (t' := s1.toks) hk
  refine ⟨s1.heap.objs.size + 1, [s1.heap.objs.size + 1, s1.heap.objs.size], _, _, H1, rfl, I2, turnU a (s1.heap.objs.size + 1) s1.heap.objs.size, ⟨⟨.none, he⟩, hit, Nat.succ_ne_self _⟩, ?_, q⟩
  intro b hb
  have hle : s1.heap.objs.size ≤ b := by
    rcases two_mem hb with rfl | rfl
    · exact Nat.le_succ _
    · exact Nat.le_refl _
  exact I1.fpOk hle (I1.hok.fresh hle)

/-- X(), an own error without an __init__ -/
theorem pmk5_own0 {X : Cx} {C : Addr} {x : Str} {p pos : Pos} (F : PySem.W.excIn X.K C He.veBase "ValueError.__new__" = true ∧ PySem.W.keepIn X.K (.ref C) = true ∧ PySem.W.subIn X.K (.ref C) (.type "BaseException") = some true ∧ PySem.W.typeIn X.K (.ref C) = some (.type "type"))
    (gC : X.mg x = some (.ref C)) (hg : Gl X x := by rfl) (hdb : (x == ("__debug__" : Str)) = false := by decide) : L2H.PMk5 X (.Call (.Name x p) [] [] pos) (fun _ H Q => Q (.ref C) none H) := by
  intro pins s σ H Q I h
  obtain ⟨q, kC, sC, tC⟩ := F
  refine wpAny_Call_Name_kw (ld_glob I hg gC (PySem.W.callWith_K0 I.kIn kC ?_) hdb)
  obtain ⟨bm, N, nm, qn, bs, hdct, sn, sub, ab, col, dd, k0, k1, k2, k3, k5, mN, hC, hN, hni, T⟩ := exc_obj I.kIn q
  refine wpAny_call_exc_subT PySem.F.excBase_ValueError T hC hN hni (fun h' e hm => ?_) (by show 0 ≤ sizeLine; exact Nat.zero_le _)
  exact L2H.mk_of5 I hm (raises_own sC tC) h (I.hok.gone hm.new)
end B

set_option Elab.async false
set_option linter.all false
set_option maxRecDepth 100000
set_option maxHeartbeats 4000000
/-! Calls whose errors are wished for at the caller's slots; a class held by a name; own == and !=; list(d.values()). -/
namespace B
open PySem PySem.Spec PyProof.Rows L2

section
variable {X : Cx} {CX : CXT} {k j : Nat} {f C g p0 : Addr} {ps : List Str} {sp : Sp} {E : L2.St → XK} {E0 : XK} {x m : Str} {p pos apos : Pos} {e o : Expr} {es : List Expr} {t : TA} {ta : TE} {pins : List (Addr × Obj)} {σ : L2.St} {H : Hp} {s : Shared} {Q : VK} {us : List Value} {vs : List V} {mc : Value}
theorem codeAt (D : Has X.prog X.w X.K X.mg X.base CX k f ps sp) {A : Around} (hA : A.frames = X.A.frames) (hr : Room k A) (hx : ∀ e s', CX X.stack H s E0 e s' → X.xe e s') (I : Inv X pins σ H s) (r : Vals vs us) (h : sp vs H Q E0) :
    codeAny (model X.prog X.w) A (.call (.ref f) ⟨us, []⟩) (fun z s' => match z with | .ok (.ret v) => EP X pins σ Q v s' | .ok _ => False | .error e => X.xe e s') s := by
  obtain ⟨⟨fd, F, b⟩, _⟩ := D
  have n1 : us.length = ps.length := (r.length).symm.trans (F.len _ _ _ _ h)
  have bnd := b s us I.kIn (by rw [List.append_nil]; exact n1)
  rw [List.append_nil] at bnd
  have e0 := I.env0
  refine codeAny_mono (F.run A X.stack s H ⟨us, []⟩ us vs Q E0 hr ⟨by rw [hA]; exact e0.frames, e0.mod, e0.bs, e0.bsz, e0.funs, e0.frf, e0.hok, e0.bare⟩ bnd r h) (fun res s' z => ?_)
  match res, z with
  | .error e, z => exact hx e s' z
  | .ok (.ret u), z => exact I.after z
theorem runAt (D : Has X.prog X.w X.K X.mg X.base CX k f ps sp) (hr : Room k X.A) (hx : PassesAt CX X σ E0) (I : Inv X pins σ H s) (r : Vals vs us) (h : sp vs H Q E0) : wpAny (model X.prog X.w) X.A (call (.ref f) us) (EP X pins σ Q) X.xe s := by
  refine wpAny_call (codeAny_mono (codeAt D rfl hr (fun e s' z => hx pins H s e s' I z) I r h) fun res s' z => ?_)
  match res, z with
  | .error e, z => exact z
  | .ok (.ret u), z => exact z
/-- f(..), its errors wished for at the slots -/
theorem pcS (D : Has X.prog X.w X.K X.mg X.base CX k f ps sp) (hm : X.mg x = some (.ref f)) (hr : Room j X.A) (hx : ∀ σ, PassesAt CX X σ (E σ)) (ha : PA X (e :: es) t) (hj : k ≤ j := by decide) (hg : Gl X x := by rfl)
    (hdb : (x == ("__debug__" : Str)) = false := by decide) (he : starEach (e :: es) X.env = (false, eval e X.env) :: starEach es X.env := by rfl) (hpl : (backTo pos (starEach es X.env)).any (·.1) = false := by rfl) :
    PE X (.Call (.Name x p) (e :: es) [] pos) (tCallS sp E t) := by
  obtain ⟨⟨fd, F, b⟩, kp⟩ := D
  exact pe_callS F (hr.mono hj) hg hm kp b hx ha hdb he hpl

/-! ### a class is called -/
structure Kls (X : Cx) (CX : CXT) (k : Nat) (C f : Addr) (ps : List Str) (sp : Sp) : Prop where
  isMk : Mk X.K C f
  init : Has X.prog X.w X.K X.mg X.base CX k f ps sp
theorem mkAt (M : Kls X CX k C f ps sp) (hr : Room (k + 1) X.A) (hx : PassesAt CX X σ E0) (I : Inv X pins σ H s) (r : Vals vs us)
    (h : ∀ x dx, H x = none → H dx = none → dx ≠ x → sp (.ref x :: vs) (upd (upd H dx (.own x)) x (.ins C dx [])) (fun v H2 => v = .non ∧ Q (.ref x) H2) E0) :
    wpAny (model X.prog X.w) X.A (call (.ref C) us) (EP X pins σ Q) X.xe s := by
  have want := h (s.heap.objs.size + 1) s.heap.objs.size (I.hok.fresh (Nat.le_succ _)) (I.hok.fresh (Nat.le_refl _)) (Nat.ne_of_lt (Nat.lt_succ_self _))
  have I2 := Inv.made (C := C) I
  have e1 := I2.env0.make C us []
  refine wpAny_call (make_map (f := f) I.kIn M.isMk.makes M.isMk.init (beq_iff_eq.mp M.isMk.fn) (codeAny_mono (codeAt (us := .ref (s.heap.objs.size + 1) :: us) (vs := .ref (s.heap.objs.size + 1) :: vs) M.init (e1.frames.trans I2.env0.frames.symm) (hr.make C us []) (fun e s' z => hx pins _ _ e s' I2 z) I2 (.cons rfl r) want) ?_))
  intro res s' z
  match res, z with
  | .error e, z => exact z
  | .ok (.ret u), ⟨v, H', I3, rv, ev, q⟩ =>
    subst ev
    exact ⟨rv, V.ref (s.heap.objs.size + 1), H', I3, rfl, q⟩
def tMakeS (C : Addr) (sp : Sp) (E : L2.St → XK) (t : TA) : TE := fun σ H Q => t σ H fun vs H1 => ∀ x dx, H1 x = none → H1 dx = none → dx ≠ x → sp (.ref x :: vs) (upd (upd H1 dx (.own x)) x (.ins C dx [])) (fun v H2 => v = .non ∧ Q (.ref x) H2) (E σ)
/-- C(..) -/
theorem pmS (M : Kls X CX k C f ps sp) (hm : X.mg x = some (.ref C)) (hr : Room j X.A) (hx : ∀ σ, PassesAt CX X σ (E σ)) (ha : PA X (e :: es) t) (hj : k + 1 ≤ j := by decide) (hg : Gl X x := by rfl)
    (hdb : (x == ("__debug__" : Str)) = false := by decide) (he : starEach (e :: es) X.env = (false, eval e X.env) :: starEach es X.env := by rfl) (hpl : (backTo pos (starEach es X.env)).any (·.1) = false := by rfl) :
    PE X (.Call (.Name x p) (e :: es) [] pos) (tMakeS C sp E t) := by
  constructor
  intro pins s σ H Q I h
  refine wpAny_Call_Name_kw (ld_glob I hg hm (PySem.W.callWith_K (h₀ := X.base) I.ok.mod.kin M.isMk.kp (thn (ha.run pos pins s σ H _ I h) ?_) he hpl) hdb)
  rintro us s1 ⟨vs, H1, I1, r, q⟩
  exact ⟨I1.kIn, mkAt M (hr.mono hj) (hx σ) I1 r q⟩
/-- the same by a name of the def's own that holds the class -/
def tMakeL (i : Nat) (C : Addr) (sp : Sp) (E : L2.St → XK) (t : TA) : TE := fun σ H Q => σ[i]? = some (some (.ref C)) ∧ tMakeS C sp E t σ H Q
theorem pmL {i : Nat} (M : Kls X CX k C f ps sp) (hN : X.N[i]? = some x) (hr : Room j X.A) (hx : ∀ σ, PassesAt CX X σ (E σ)) (ha : PA X (e :: es) t) (hj : k + 1 ≤ j := by decide)
    (hv : Vis X.env.scope x := by first | exact Or.inl rfl | exact Or.inr (Or.inl rfl) | exact Or.inr (Or.inr rfl))
    (hdb : (x == ("__debug__" : Str)) = false := by decide) (hcd : (x == ("__classdict__" : Str)) = false := by decide) (he : starEach (e :: es) X.env = (false, eval e X.env) :: starEach es X.env := by rfl) (hpl : (backTo pos (starEach es X.env)).any (·.1) = false := by rfl) :
    PE X (.Call (.Name x p) (e :: es) [] pos) (tMakeL i C sp E t) := by
  constructor
  rintro pins s σ H Q I ⟨hs, h⟩
  refine wpAny_Call_Name_kw (thn ((pe_var (pos := p) hN hv hdb hcd).run pins s σ H (fun v H1 => v = .ref C ∧ H1 = H) I ⟨.ref C, hs, rfl, rfl⟩) ?_)
  rintro u s1 ⟨v, H1, I1, r1, rfl, rfl⟩
  cases r1
  refine PySem.W.callWith_K (h₀ := X.base) I.ok.mod.kin M.isMk.kp (thn (ha.run pos pins s1 σ _ _ I1 h) ?_) he hpl
  rintro us s2 ⟨vs, H2, I2, r, q⟩
  exact ⟨I2.kIn, mkAt M (hr.mono hj) (hx σ) I2 r q⟩

/-! ### methods -/
def tMethT (C : Addr) (m : Str) (sp : Sp) (E : L2.St → XK) (ta : TE) (t : TA) : TE := fun σ H Q => ta σ H fun x H1 => ∃ a dx fs, x = .ref a ∧ H1 a = some (.ins C dx fs) ∧ fs.lookup m = none ∧ t σ H1 fun vs H2 => sp (x :: vs) H2 Q (E σ)
/-- o.m(..) -/
theorem pmtS {pl : Sem Bool} (he : PE X o ta) (c : Cls X.K C) (hm : Meth X.K C m f) (D : Has X.prog X.w X.K X.mg X.base CX k f ps sp) (hr : Room j X.A) (hx : ∀ σ, PassesAt CX X σ (E σ)) (ha : PA X (e :: es) t) (hj : k ≤ j := by decide)
    (hst : starEach (e :: es) X.env = (false, eval e X.env) :: starEach es X.env := by rfl) (hpl : (backTo pos (starEach es X.env)).any (·.1) = false := by rfl)
    (ht : eval (.Call (.Attribute o m apos) (e :: es) [] pos) X.env = (do
      let ov ← eval o X.env
      standAt apos.atName
      let (f, first) ← holding [ov] (getMethod ov m pl)
      callWith pos f first (backTo pos (starEach (e :: es) X.env)) (backToKw pos (keywordEach [] X.env))) := by rfl) :
    PE X (.Call (.Attribute o m apos) (e :: es) [] pos) (tMethT C m sp E ta t) := by
  constructor
  intro pins s σ H Q I h
  refine PySem.W.methodCall_KW (pl := pl) (thn (he.run pins s σ H _ I h) ?_) ht
  rintro u s1 ⟨y, H1, I1, ry, a, dx, fs, rfl, ea, l, q⟩
  cases ry
  refine getmeth_ok I1 ea c hm l (PySem.W.callWith_K (first := [.ref a]) (h₀ := X.base) I.ok.mod.kin hm.kp (thn (ha.run pos pins s1 σ H1 _ I1 q) ?_) hst hpl)
  rintro us s2 ⟨vs, H2, I2, r, q2⟩
  exact ⟨I2.kIn, runAt (us := .ref a :: us) (vs := .ref a :: vs) D (hr.mono hj) (hx σ) I2 (.cons rfl r) q2⟩
def tCMethT (C : Addr) (sp : Sp) (E : L2.St → XK) (ta : TE) (t : TA) : TE := fun σ H Q => ta σ H fun x H1 => x = .ref C ∧ t σ H1 fun vs H2 => sp (.ref C :: vs) H2 Q (E σ)
/-- C.m(..), m a classmethod -/
theorem pcmS {pl : Sem Bool} (he : PE X o ta) (c : ClX.CRead X.K C mc ∧ ClX.CMet X.K C mc m p0 g) (D : Has X.prog X.w X.K X.mg X.base CX k g ps sp) (hr : Room j X.A) (hx : ∀ σ, PassesAt CX X σ (E σ)) (ha : PA X (e :: es) t) (hj : k ≤ j := by decide)
    (hst : starEach (e :: es) X.env = (false, eval e X.env) :: starEach es X.env := by rfl) (hpl : (backTo pos (starEach es X.env)).any (·.1) = false := by rfl)
    (ht : eval (.Call (.Attribute o m apos) (e :: es) [] pos) X.env = (do
      let ov ← eval o X.env
      standAt apos.atName
      let (f, first) ← holding [ov] (getMethod ov m pl)
      callWith pos f first (backTo pos (starEach (e :: es) X.env)) (backToKw pos (keywordEach [] X.env))) := by rfl) :
    PE X (.Call (.Attribute o m apos) (e :: es) [] pos) (tCMethT C sp E ta t) := by
  obtain ⟨cr, cm⟩ := c
  constructor
  intro pins s σ H Q I h
  refine PySem.W.methodCall_KW (pl := pl) (thn (he.run pins s σ H _ I h) ?_) ht
  rintro u s1 ⟨y, H1, I1, ry, rfl, q⟩
  cases ry
  refine ClX.getmethcm_ok I1 cr cm fun s2 I2 => ?_
  refine ClX.callwith_cm I2 (ClX.base_none I1 (Nat.le_refl _)) cm.fi (thn (ha.run pos _ s2 σ H1 _ I2 q) ?_) hst hpl
  rintro us s3 ⟨vs, H2, I3, rv, q2⟩
  refine ⟨⟨ClX.pin_at I3, I3.kIn⟩, ?_⟩
  have z : wpAny (model X.prog X.w) X.A (call (.ref s1.heap.objs.size) us) (EP X _ σ Q) X.xe s3 := wpAny_call (PySem.W.method_call (ClX.pin_at I3) (codeAt (us := .ref C :: us) (vs := .ref C :: vs) D rfl (hr.mono hj) (fun e s' z => hx σ _ _ _ e s' I3 z) I3 (.cons rfl rv) q2))
  exact thn z fun _ _ y => ClX.unpinE y
end

/-! ### own == and != -/
section
variable {X : Cx} {CX : CXT} {k j : Nat} {f C : Addr} {ps : List Str} {sp : Sp}
/-- x == y, x an instance of the class at C: its own __eq__ is asked -/
def rEqO (K : PySem.W.Frag) (C : Addr) (sp : Sp) : R2 := fun x y H Q => ∃ a dx fs t, x = .ref a ∧ H a = some (.ins C dx fs) ∧ TyX K H y t ∧ PySem.W.notFirst K C t = true ∧ sp [x, y] H (fun v H' => ∃ b, v = .bl b ∧ Q v H') E0
def rNeO (K : PySem.W.Frag) (C : Addr) (sp : Sp) : R2 := fun x y H Q => ∃ a dx fs t, x = .ref a ∧ H a = some (.ins C dx fs) ∧ TyX K H y t ∧ PySem.W.notFirst K C t = true ∧ sp [x, y] H (fun v H' => ∃ b, v = .bl b ∧ Q (.bl (!b)) H') E0
theorem op_eqO (T : EqF X.K C f) (D : Has X.prog X.w X.K X.mg X.base CX0 k f ps sp) (hr : Room k X.A) : OpR X (compareOp .Eq) (rEqO X.K C sp) := by
  rintro pins s σ H x y v u Q I rx ry ⟨a, dx, fs, t, rfl, ha, ty, nf, h⟩
  cases rx
  obtain ⟨mA, J, _⟩ := ins_get I.hok ha
  obtain ⟨od, J, _⟩ := J.look
  obtain ⟨Pt, Z, pt, _⟩ := kit_of I ry ty
  obtain ⟨m, hF⟩ := I.fr
  show wpAny _ _ (richCompare .Eq _ _) _ _ _
  refine PySem.W.cmp_K (op := .Eq) (tb := t) hr.units0 hF I.ok.mod.kin J (Z.ty _ _ I.kIn pt) nf T.eq T.fn ?_
  refine thn (runAt (us := [.ref a, u]) (vs := [.ref a, y]) D hr (fun _ _ _ _ _ _ z => z.elim) I (.cons rfl (.cons ry .nil)) h) ?_
  rintro w' s' ⟨z, H', I', rz, b, rfl, q⟩
  cases rz
  exact ⟨.bl b, H', I', rfl, q⟩
theorem op_neO (T : EqF X.K C f) (D : Has X.prog X.w X.K X.mg X.base CX0 k f ps sp) (hr : Room (k + 1) X.A) : OpR X (compareOp .NotEq) (rNeO X.K C sp) := by
  rintro pins s σ H x y v u Q I rx ry ⟨a, dx, fs, t, rfl, ha, ty, nf, h⟩
  cases rx
  obtain ⟨mA, J, _⟩ := ins_get I.hok ha
  obtain ⟨od, J, _⟩ := J.look
  obtain ⟨Pt, Z, pt, _⟩ := kit_of I ry ty
  have LT := Z.ty (model X.prog X.w) _ I.kIn pt
  have hu := hr.units0
  have hu1 : X.A.units + 1 < cLine := by have := hr.un; omega
  have KX := I.kIn
  have fin : codeAny (model X.prog X.w) X.A.in1 (.call (.ref f) ⟨[.ref a, u], []⟩) (fun z s' => match z with | .ok (.ret v) => EP X pins σ (fun v H' => ∃ b, v = .bl b ∧ Q (.bl (!b)) H') v s' | .ok _ => False | .error e => X.xe e s') s :=
    codeAt (us := [.ref a, u]) (vs := [.ref a, y]) D rfl hr.in1 (fun _ _ z => z.elim) I (.cons rfl (.cons ry .nil)) h
  have call1 : wpAny (model X.prog X.w) X.A.in1 (call (.ref f) [.ref a, u]) (fun v s' => ∃ b, v = .bool b ∧ EP X pins σ Q (.bool (!b)) s') X.xe s := by
    refine wpAny_call (codeAny_mono fin fun res s' z => ?_)
    match res, z with
    | .error e, z => exact z
    | .ok (.ret v), z =>
      obtain ⟨v', H', I', rv, b, ev, q⟩ := z
      subst ev; cases rv
      exact ⟨b, rfl, .bl (!b), H', I', rfl, q⟩
  have hi : X.A.in1.units < cLine := hu1
  have entry : wpAny (model X.prog X.w) X.A.in1 (Builtin.«object.__ne__» ⟨[.ref a, u], []⟩) (fun r s' => ∃ b, r = .done (.ret (.bool b)) ∧ EP X pins σ Q (.bool b) s') X.xe s := by
    have go : wpAny (model X.prog X.w) X.A.in1 (callSpecialIfBound? (.ref a) "__eq__" [u]) (fun r s' => ∃ b, r = some (.bool b) ∧ EP X pins σ Q (.bool (!b)) s') X.xe s :=
      PySem.W.ifBound_K KX J T.eq T.fn (thn call1 fun r s' z => by
        obtain ⟨b, e, q⟩ := z
        exact ⟨b, by rw [e], q⟩)
    unfold Builtin.«object.__ne__»
    repeat (first
      | with_reducible refine wpAny_cRoomFor hi ?_
      | (refine wpAny_bind (m := callSpecialIfBound? (.ref a) (Str.ofString "__eq__") [u]) (thn go ?_))
      | wp_step)
    rintro r s' ⟨b, rfl, q⟩
    refine wpAny_bind (m := truthy (.bool b)) (wpAny_truthy_bool ?_)
    exact wpAny_pure ⟨_, rfl, q⟩
  have ne1 : wpAny (model X.prog X.w) X.A (callSpecialIfBound? (.ref a) "__ne__" [u]) (fun r s' => ∃ b, r = some (.bool b) ∧ EP X pins σ Q (.bool b) s') X.xe s := by
    simp only [callSpecialIfBound?, bindSpecialIfBound?]
    refine wpAny_holding (wpAny_bind (wpAny_bind (wpAny_bind (J.type.here ((PySem.W.looks_findIn KX T.ne).here ?_)))))
    simp only [F.cmp_object.ne.bind]
    refine wpAny_bind (wpAny_askSetting (wpAny_ite ?_))
    have one : wpAny (model X.prog X.w) X.A (call (.builtin "object.__ne__") ([.ref a] ++ [u])) (fun r s' => ∃ b, r = .bool b ∧ EP X pins σ Q (.bool b) s') X.xe s :=
      wpAny_call (codeAny_call_builtin F.cmp_object.ne.plain F.cmpEntry_ne (PySem.W.check_slot F.cmpKind_ne F.cmpSplit_ne (show PySem.W.Looks (model X.prog X.w) s.heap (isInstance (.ref a) (.type "object")) true from J.type.andThen (PySem.W.looks_mroIn KX T.ob)) (F.cmpArgs_ne _ _) (wpAny_mono entry (fun r s' z => by
        obtain ⟨b, rfl, q⟩ := z
        exact ⟨b, rfl, q⟩) fun _ _ e => e)))
    have fin2 : wpAny (model X.prog X.w) X.A (call (.builtin "object.__ne__") ([.ref a] ++ [u]) >>= fun v => pure (some v)) (fun r s' => ∃ b, r = some (.bool b) ∧ EP X pins σ Q (.bool b) s') X.xe s :=
      wpAny_bind (thn one fun r s' z => by
        obtain ⟨b, rfl, q⟩ := z
        exact wpAny_pure ⟨b, rfl, q⟩)
    split
    · exact wpAny_bind (wpAny_pure (wpAny_pure fin2))
    · exact wpAny_tryCatch (wpAny_bind (wpAny_pure (wpAny_pure fin2)))
  have one : wpAny (model X.prog X.w) X.A (tryCompare (.ref a) "__ne__" u) (fun r s' => ∃ b, r = some (.bool b) ∧ EP X pins σ Q (.bool b) s') X.xe s := by
    unfold tryCompare
    refine wpAny_bind (thn ne1 fun r s' z => ?_)
    obtain ⟨b, rfl, q⟩ := z
    exact wpAny_pure ⟨b, rfl, q⟩
  show wpAny _ _ (richCompare .NotEq _ _) _ _ _
  unfold richCompare
  simp only [oneThing_ref]
  refine wpAny_holding (wpAny_bind (wpAny_cRoomFor hu ?_))
  refine wpAny_bind (J.type.here (wpAny_bind (LT.here ?_)))
  split
  · rename_i q
    have e : PySem.W.subIn X.K t (.ref C) = some false := by
      rcases Bool.or_eq_true_iff.mp nf with e | e
      · rw [beq_iff_eq.mp e] at q; simp at q
      · exact beq_iff_eq.mp e
    refine wpAny_bind ((PySem.W.looks_subIn KX e).here ?_)
    simp only [Bool.false_eq_true, if_false]
    refine wpAny_bind (thn one fun r s' z => ?_)
    obtain ⟨b, rfl, hq⟩ := z
    exact wpAny_pure hq
  · refine wpAny_bind (wpAny_pure ?_)
    simp only [Bool.false_eq_true, if_false]
    refine wpAny_bind (thn one fun r s' z => ?_)
    obtain ⟨b, rfl, hq⟩ := z
    exact wpAny_pure hq
end

/-! ### list(d.values()) -/
def tListVals (te : TE) : TE := fun σ H Q => te σ H fun x H1 => ∃ (d : Addr) (kvs : List (Key × V)), x = .ref d ∧ H1 d = some (.dK kvs) ∧ ∀ p, H1 p = none → Q (.ref p) (upd H1 p (.lst (kvs.map (·.2))))
theorem kv_vals {kvs : List (Key × V)} {vs : List (Key × Value)} (kv : KV kvs vs) : Vals (kvs.map (·.2)) (vs.map (·.2)) := by
  induction kv with
  | nil => exact .nil
  | cons r _ ih => exact .cons r.2 ih
section
variable {X : Cx} {e : Expr} {te : TE} {p apos cpos pos : Pos}
theorem pe_listVals (hc : X.calm = true) (he : PE X e te) (hm : X.mg "list" = none) (hg : Gl X "list" := by rfl) (hv : bootBuiltins "list" = some (.type "list") := by decide +kernel) (hbase : attributeBase e "values" X.env (eval e X.env) = eval e X.env := by rfl) (hline : (apos.endLine == cpos.line) = true := by rfl)
    (hs : starEach [.Call (.Attribute e "values" apos) [] [] cpos] X.env = (false, eval (.Call (.Attribute e "values" apos) [] [] cpos) X.env) :: starEach [] X.env := by rfl) :
    PE X (.Call (.Name "list" p) [.Call (.Attribute e "values" apos) [] [] cpos] [] pos) (tListVals te) := by
  refine ⟨fun pins s σ H Q I hq => ?_⟩
  refine wpAny_Call_Name_kw (ld_blt I hg hm hv (PyProof.Rows.callWith_type1 ?_ hs rfl))
  rw [hs]
  show wpAny _ _ (spliced ((false, eval (.Call (.Attribute e "values" apos) [] [] cpos) X.env) :: backTo pos (starEach [] X.env))) _ _ s
  refine Calls.spliced_cons ?_
  refine wpAny_Call_method (T := "dict") (id := "dict.values") hbase rfl hline F.plainAttrs_dict F.slot_dict_values F.type_dict_values (thn (he.run pins s σ H _ I hq) fun u s1 ⟨x, H1, I1, rx, d, kvs, ex, hd, q⟩ => ?_)
  subst ex
  obtain rfl : u = Value.ref d := rx
  obtain ⟨hz, hs0, vs, kv, hdo⟩ := I1.hok d _ hd
  obtain ⟨ep, hat⟩ := hdo.dictAt
  have lk : kvs.length = vs.length := Paired.length kv
  have I2 : Inv X pins σ H1 { s1 with heap := s1.heap.push { cls := .type "dict_values", data := .fields #[.ref d] } } := I1.kept (t' := s1.toks) fun b ob q => Heap.get?_push_of_some _ q
  refine ⟨hdo.typeIs, hdo.mapOf.noDict, ?_⟩
  show wpAny _ _ (callWith cpos (.builtin "dict.values") [.ref d] [] []) _ X.xe s1
  refine method_meetsIn F.slot_dict_values F.entry_dict_values rfl (PySem.evalArgs_none ⟨rfl, hdo.typeIs, F.args_dict_values_1 _, _, meets_dict_values (mixKind X.prog X.w) d hs0, ⟨vs, hdo⟩, ?_⟩)
  refine Calls.spliced_nil ?_
  refine PySem.W.kdl_call (PySem.W.kdl_values (kvs := vs) (ep := ep)) (I1.ok.hd hc) ⟨⟨_, Heap.get?_push_size _ rfl, rfl, rfl⟩, hat.push _⟩ (by omega) fun h' tk acc c hk hS it => ?_
  have ev : acc.toList = vs.map (·.2) := PySem.W.kdl_vals_eq acc.toList (by rw [Array.length_toList]; exact it.1) fun j v z => it.2 j v (by rw [← Array.getElem?_toList]; exact z)
  have new := I2.hok.fresh (Nat.le_refl _)
  refine ⟨.ref _, _, Inv.laid (o := .lst (kvs.map (·.2))) (t' := tk) I2 hk (Nat.le_refl _) ?_, rfl, q _ new⟩
  refine ⟨by rw [List.length_map]; omega, acc.toList, c, by rw [ev]; exact kv_vals kv, ?_⟩
  rw [Array.toArray_toList]
  exact hS
end
end B

set_option Elab.async false
set_option linter.all false
set_option maxRecDepth 100000
set_option maxHeartbeats 4000000
/-! A caught error handed to a def: what class it has, what fields; such a def's promise. -/
namespace B
open PySem PySem.Spec PyProof.Rows L2

section
variable {P : Program} {w : World} {A : Around} {E : Value → Shared → Prop} {s : Shared} {K : PySem.W.Frag} {x D : Addr} {ox : Obj} {od : Option Obj}
theorem find_cls (T : ExcC K D) : PySem.W.findObj K D od "__class__" = some (.bind (.builtin "getset_descriptor.__get__") (.builtin "object.__class__")) := by
  have c := T.hd
  have h : (PySem.W.clsIn K D).isSome = true := by
    obtain ⟨_, e, _⟩ := PySem.W.any_some c
    rw [e]; rfl
  cases od with
  | none => exact PySem.W.findObj_dataN h T.ha T.hn T.ht
  | some o => exact PySem.W.findObj_data h T.ha T.hn T.ht
/-- e.__class__, whether or not e has fields -/
theorem exc_class {Q : Option Value → Shared → Prop} (T : ExcC K D) (KI : K.In s.heap) (I : PySem.W.InstAt s.heap x ox D od) (h : Q (some (.ref D)) { s with toks := s.toks + 1 }) :
    wpAny (model P w) A (getAttr? (.ref x) "__class__") Q E s := by
  have ty := I.type (M := model P w)
  have ga := PySem.W.looks_findIn (M := model P w) KI T.hg
  have gt := PySem.W.looks_findIn (M := model P w) KI T.hk
  have fd := PySem.W.looks_find (M := model P w) KI I (find_cls T)
  have ins : PySem.W.Looks (model P w) s.heap (isInstance (.ref x) (.type "BaseException")) true := ty.andThen (PySem.W.looks_subIn KI T.hs)
  have no : (Value.builtin "BaseException.__getattribute__" == Value.builtin "object.__getattribute__") = false := by decide +kernel
  have no2 : (onTheHeap (Value.ref D) && Value.builtin "BaseException.__getattribute__" == Value.builtin "object.__getattribute__") = false := by rw [no]; rfl
  have no3 : (false && onTheHeap (Value.builtin "BaseException.__getattribute__")) = false := rfl
  obtain ⟨hh, gg, dd, tt, oo⟩ := s
  unfold getAttr? getAttrBy? getAttrBy
  refine wpAny_bind (wpAny_mkText (wpAny_bind (wpAny_attempt (wpAny_holding
    (wpAny_bind (ty.at (wpAny_bind (ga.at ?_))))))))
  show wpAny _ _ (if (onTheHeap (Value.ref D) && Value.builtin "BaseException.__getattribute__" == Value.builtin "object.__getattribute__") = true then _
    else _) _ _ _
  rw [no2, if_neg Bool.false_ne_true]
  unfold getAttrByItsOwn hookBefore
  refine wpAny_bind (by
    rw [if_pos (show onTheHeap (Value.ref D) = true from rfl)]
    refine gt.at ?_
    refine wpAny_bind (wpAny_attempt (wpAny_holding (by
      unfold callGetattribute
      rw [no3, if_neg Bool.false_ne_true]
      unfold boundAndCalled
      rw [PySem.F.excAttr_ValueError.ga.bind (.ref x)]
      refine wpAny_bind (wpAny_pure (wpAny_call (f := .builtin "BaseException.__getattribute__") (pos := [.ref x, .str "__class__" tt]) (codeAny_call_builtin PySem.F.excAttr_ValueError.ga.plain
        PySem.F.entry_bexc_ga ?_)))
      refine @PySem.W.check_slot (model P w) _ _ ⟨hh, gg, dd, tt + 1, oo⟩ "BaseException.__getattribute__" "BaseException" "__getattribute__" (.ref x)
        [.str "__class__" tt] [] _ (by decide +kernel) (by decide +kernel) ins (PySem.F.args_bexc_ga _ _) ?_
      unfold Builtin.«object.__getattribute__»
      refine wpAny_bind (wpAny_of_eq (a := ((Value.ref x : Value), [Value.str "__class__" tt]))
        (by first | rfl | (simp only [slotArgs]; rfl)) ?_)
      refine wpAny_bind (wpAny_pure (wpAny_bind (ty.at (wpAny_bind (fd.at ?_)))))
      show wpAny _ _ (holding [Value.builtin "object.__class__"]
        (call (.builtin "getset_descriptor.__get__") [.builtin "object.__class__", .ref x, .ref D]) >>= PySem.ret) _ _ _
      refine wpAny_bind (wpAny_holding (wpAny_call
        (PySem.W.class_get (s := ⟨hh, gg, dd, tt + 1, oo⟩) (ox := ox) (od := od) KI I T.hm ?_)))
      refine wpAny_pure (show wpAny _ _ (handedOut (.ref D)) _ _ _ from ?_)
      rw [PySem.W.handedOut_of (v := .ref D) rfl]
      first
        | exact wpAny_pure (wpAny_pure h)
        | exact wpAny_pure h
        | exact wpAny_pure (wpAny_bind (wpAny_pure (wpAny_pure h)))))))
end

/-- isinstance(e, c), e an error that is pinned -/
def rIsX (K : PySem.W.Frag) (a : Addr) (cls : Value) (d : Option Addr) : List V → Hp → VK → Prop := fun xs H Q => ∃ (D : Addr) (c : V) (cv : Value) (b : Bool), cls = .ref D ∧ ExcC K D ∧ xs = [.ref a, c] ∧ (∀ u, RelV c u → u = cv) ∧ PySem.W.kitOne K (.ref D) cv = some b ∧
  (d = none ∨ ∃ dd fs, d = some dd ∧ H dd = some (.xd fs)) ∧ Q (.bl b) H
theorem kit_exc {K : PySem.W.Frag} {a D : Addr} {oe : Obj} {od : Option Obj} (T : ExcC K D) : PySem.W.KitX K (.ref a) (.ref D) (fun h => PySem.W.InstAt h a oe D od) where
  ty := fun _ _ _ I => I.type
  it := fun M h k I => by
    obtain ⟨_, e, _⟩ := PySem.W.any_some T.hd
    unfold PySem.W.clsIn at e
    split at e
    · rename_i ho
      intro A' Q' E' s' kk q
      unfold isType loadHead
      exact wpAny_bind (wpAny_loadPart (kk _ _ (k _ _ ho)) (wpAny_pure q))
    · cases e
  ne := (PySem.W.handS_kitx_exc (x := a) (ox := oe) T.hg T.hk T.hs T.hd T.ha T.hn T.ht T.hm).ne
  ca := fun k I q => exc_class T k I q
section
variable {X : Cx} {a : Addr} {oe : Obj} {cls : Value} {d : Option Addr}
theorem inst_pin {pins : List (Addr × Obj)} {σ : L2.St} {H : Hp} {s : Shared} {D : Addr} (hp : (a, oe) ∈ X.pn) (hz : Zc (.ref D) d oe) (hf : ∃ vs, oe.data = .fields vs) (I : Inv X pins σ H s) (hd : d = none ∨ ∃ dd fs, d = some dd ∧ H dd = some (.xd fs)) : ∃ od, PySem.W.InstAt s.heap a oe D od := by
  obtain ⟨at_, _⟩ := I.pin (a, oe) (List.mem_append_left _ hp)
  obtain ⟨vs, dv⟩ := hf
  have nc : PySem.W.notCls oe = true := by unfold PySem.W.notCls; rw [dv]
  rcases hd with e | ⟨dd, fs, e, hx⟩
  · subst e
    exact ⟨none, at_, hz.1, nc, by rw [hz.2]; trivial⟩
  · subst e
    obtain ⟨mA, ns, _⟩ := I.hok dd _ hx
    obtain ⟨od, ho, _⟩ := lookIn_ns ns
    exact ⟨some od, at_, hz.1, nc, by rw [hz.2]; exact ho⟩
theorem call_isX (hp : (a, oe) ∈ X.pn) (hz : Zc cls d oe) (hf : ∃ vs, oe.data = .fields vs) : CallR X (.builtin "isinstance") (rIsX X.K a cls d) := by
  intro pins s σ H xs us Q I r h
  obtain ⟨D, c, cv, b, ec, T, rfl, hcv, e, hd, q⟩ := h
  subst ec
  cases r with
  | cons rx rr => cases rr with
    | cons rt rr =>
      cases rr
      cases rx
      have e2 := hcv _ rt
      subst e2
      obtain ⟨od, J⟩ := inst_pin hp hz hf I hd
      exact PySem.W.kia_one (kit_exc T) I.kIn J e (fun z => nomatch z) fun tk => ⟨.bl b, H, I.kept (t' := tk) fun _ _ z => z, rfl, q⟩
/-- e.f, e an error that is pinned -/
def tFldX (K : PySem.W.Frag) (a : Addr) (cls : Value) (d : Option Addr) (n : Str) (te : TE) : TE := fun σ H Q => te σ H fun x H1 => x = .ref a ∧ ∃ (C dd : Addr) (fs : List (Str × V)) (v : V), cls = .ref C ∧ XfC K C ∧ PySem.W.findIn K (.ref C) n = some none ∧ d = some dd ∧ H1 dd = some (.xd fs) ∧ fs.lookup n = some v ∧ Q v H1
theorem pe_fldX {e : Expr} {te : TE} {pos : Pos} {n : Str} (hp : (a, oe) ∈ X.pn) (hz : Zc cls d oe) (hf : ∃ vs, oe.data = .fields vs) (he : PE X e te) (hb : attributeBase e n X.env (eval e X.env) = eval e X.env := by rfl) : PE X (.Attribute e n pos) (tFldX X.K a cls d n te) := by
  constructor
  intro pins s σ H Q I h
  refine attr_of hb (thn (he.run pins s σ H _ I h) ?_)
  rintro u s1 ⟨y, H1, I1, ry, rfl, C, dd, fs, v, ec, T, no, ed, hx, l, q⟩
  cases ry
  subst ec ed
  obtain ⟨at_, _⟩ := I1.pin (a, oe) (List.mem_append_left _ hp)
  obtain ⟨vs, dv⟩ := hf
  obtain ⟨mA, ns, rel⟩ := I1.hok dd _ hx
  obtain ⟨od, ho, hl⟩ := lookIn_ns ns
  obtain ⟨u, hu, ru⟩ := RelO.some_of (v := v) (o := mA n) (by rw [← l]; exact rel n)
  have J : PySem.W.InstAt s1.heap a oe C (some od) := ⟨at_, hz.1, by unfold PySem.W.notCls; rw [dv], by rw [hz.2]; exact ho⟩
  exact HandSPX.exc_get I1.kIn J T.ga T.gg T.exC (PySem.W.findObj_own T.hdC no rfl (by rw [hl, hu])) (handed_of ru) ⟨v, H1, I1.tok _, ru, q⟩
end

/-! ### a def that is handed the caught error -/
/-- what it promises, of the error's class and fields -/
abbrev SpE := Value → Option Addr → Addr → Hp → VK → Prop
structure FnE (P : Program) (w : World) (K : PySem.W.Frag) (mg : Str → Option Value) (b0 : Heap) (k : Nat) (f : Addr) (fd : FuncData) (x : Str) (sp : SpE) : Prop where
  run : ∀ (A : Around) (outer : List Env) (s : Shared) (H : Hp) (args : Args) (Q : VK) (a : Addr) (oe : Obj) (cls : Value) (d : Option Addr), L2H.RoomH k A → L2H.PinOk outer H s (a, oe) → Zc cls d oe → (∃ vs, oe.data = .fields vs) → Env0 P w K mg b0 A outer s H → BindsTo s fd args [(x, .ref a)] → sp cls d a H Q →
    codeAny (model P w) A (.call (.ref f) args) (CR CX0 outer P w H s Q E0) s
theorem fnE_of {P : Program} {w : World} {K : PySem.W.Frag} {mg : Str → Option Value} {b0 : Heap} {k : Nat} {f : Addr} {name qual x : Str} {st : Stmt} {fd : FuncData} {N : List Str} {sp : SpE} (F : L2.Fun K name qual st f fd) (S : FnScope N [x] (defScope st))
    (hb : ∀ (cdv : Value) (A : Around) (outer : List Env) (s : Shared) (H : Hp) (Q : VK) (a : Addr) (oe : Obj) (cls : Value) (d : Option Addr), Zc cls d oe → (∃ vs, oe.data = .fields vs) → L2H.RoomH k (A.deeper (envOfC qual (defScope st) s.heap.objs.size f cdv)) → sp cls d a H Q →
      ∃ t, PSs (L2H.cxH CX0 P w K mg b0 N qual (defScope st) f cdv A outer s H E0 (a, oe)) (defBody st) t ∧ t { nx := fun _ H' => Q .non H', rt := Q } (L2.start N [.ref a]) H) : FnE P w K mg b0 (k + 1) f fd x sp := by
  obtain ⟨oc, od, kV, doc, pm, an, cdv, ct, osl, rfl, lk, hcd⟩ := F.ex
  constructor
  intro A outer s H args Q a oe cls d hr hpin hz hf e0 hbd hsp
  have KI : K.In s.heap := e0.mod.kin.keeps fun b o e => (e0.bs b o e).1
  have nl : s.heap.NoLimit := e0.mod.nolimit.keeps fun b o e => (e0.bs b o e).1
  have kinds : ∀ y ∈ [x].zip [Value.ref a], (defScope st).names.lookup y.1 = some .local ∨ ((defScope st).names.lookup y.1 = some .cell ∧ ((cellsFrom (s.heap.objs.size + 1) (defScope st).names []).lookup y.1).isSome = true) := by
    rintro ⟨n, v⟩ hy
    rcases S.par n (List.of_mem_zip hy).1 with q | q
    · exact .inl q
    · exact .inr ⟨q, PySem.W.cellsFrom_some _ _ _ (.inl q)⟩
  refine codeAny_call_function hr.depth (KI _ _ lk) rfl S.co S.gen rfl (PySem.W.codeRec_of KI hcd) (hbd _ _ _ _ ?_)
  refine wpAny_newFunctionEnv_cells S.kind kinds ?_
  rintro env he s1 xx
  subst he
  refine ⟨nl.keeps xx.toInCall.keep, codeAny_func ?_⟩
  obtain ⟨t, ht, hq⟩ := hb cdv A outer s H Q a oe cls d hz hf (hr.deeper _) hsp
  have I : Inv (L2H.cxH CX0 P w K mg b0 N qual (defScope st) f cdv A outer s H E0 (a, oe)) [] (L2.start N [.ref a]) H s1 := L2H.inv_startH S hpin e0 rfl (.cons rfl .nil) xx
  refine wpAny_mono (ht.run [] s1 (L2.start N [.ref a]) H _ I hq) (fun fl s' hs => ?_) fun e s' hs => hs
  cases fl with
  | ret u => obtain ⟨v, σ', H', J, rv, q⟩ := hs; exact ⟨v, H', J.os, J.bare, J.base, J.hok, rv, q⟩
  | next => obtain ⟨σ', H', J, q⟩ := hs; exact ⟨.non, H', J.os, J.bare, J.base, J.hok, rfl, q⟩
  | brk => obtain ⟨_, _, _, q⟩ := hs; exact False.elim q
  | cont => obtain ⟨_, _, _, q⟩ := hs; exact False.elim q
structure HasE (P : Program) (w : World) (K : PySem.W.Frag) (mg : Str → Option Value) (b0 : Heap) (k : Nat) (f : Addr) (x : Str) (sp : SpE) : Prop where
  ex : ∃ fd, FnE P w K mg b0 k f fd x sp ∧ Binds K fd [x] []
  kp : PySem.W.keepIn K (.ref f) = true
/-- f(e) in the suite that caught e -/
def tCallX (a : Addr) (cls : Value) (d : Option Addr) (sp : SpE) (t : TA) : TE := fun σ H Q => t σ H fun vs H1 => vs = [.ref a] ∧ sp cls d a H1 Q
section
variable {X : Cx} {a f : Addr} {oe : Obj} {cls : Value} {d : Option Addr} {k j : Nat} {x y : Str} {sp : SpE} {p pos : Pos} {e : Expr} {es : List Expr} {t : TA}
theorem pcE (D : HasE X.prog X.w X.K X.mg X.base k f y sp) (hm : X.mg x = some (.ref f)) (hr : L2H.RoomH j X.A) (hp : (a, oe) ∈ X.pn) (hz : Zc cls d oe) (hf : ∃ vs, oe.data = .fields vs) (ha : PA X (e :: es) t) (hj : k ≤ j := by decide) (hg : Gl X x := by rfl)
    (hdb : (x == ("__debug__" : Str)) = false := by decide) (he : starEach (e :: es) X.env = (false, eval e X.env) :: starEach es X.env := by rfl) (hpl : (backTo pos (starEach es X.env)).any (·.1) = false := by rfl) : PE X (.Call (.Name x p) (e :: es) [] pos) (tCallX a cls d sp t) := by
  obtain ⟨⟨fd, F, b⟩, kp⟩ := D
  constructor
  intro pins s σ H Q I h
  refine wpAny_Call_Name_kw (ld_glob I hg hm (PySem.W.callWith_K (h₀ := X.base) I.ok.mod.kin kp (thn (ha.run pos pins s σ H _ I h) ?_) he hpl) hdb)
  rintro us s1 ⟨vs, H1, I1, r, rfl, q⟩
  cases r with
  | cons r1 r2 =>
    cases r1; cases r2
    have bd := b s1 [.ref a] I1.kIn rfl
    obtain ⟨p1, p2, p3, p4, p5⟩ := I1.pin (a, oe) (List.mem_append_left _ hp)
    have hpin : L2H.PinOk X.stack H1 s1 (a, oe) := ⟨p1, p2, fun hm => (List.mem_cons.mp (I1.stkSub a hm)).elim p3 p4, p5⟩
    refine ⟨I1.kIn, wpAny_call (codeAny_mono (F.run X.A X.stack s1 H1 ⟨[.ref a], []⟩ Q a oe cls d (hr.mono hj) hpin hz hf I1.env0 bd q) fun r s' z => ?_)⟩
    match r, z with
    | .ok (.ret u), z => exact I1.after z
end
end B

set_option Elab.async false
set_option linter.all false
set_option maxRecDepth 100000
set_option maxHeartbeats 4000000
/-! Walks over a list or a tuple, comprehensions that leave all else as it was. -/
namespace B
open PySem PySem.Spec PyProof.Rows L2

/-- still there at a -/
def Sat (a : Addr) (H H' : Hp) : Prop := ∀ o, H a = some o → H' a = some o
section
variable {K : PySem.W.Frag} {H H' : Hp} {a : Addr} {xs : List V}
theorem Sat.rd {u : HO} (s : Sat a H H') (h : Rd H a u) : Rd H' a u := by
  rcases h with h | ⟨o, h⟩
  · exact .inl (s _ h)
  · exact .inr ⟨o, s _ h⟩
theorem Sat.l (s : Sat a H H') (h : SqL K H a xs) : SqL K H' a xs := h.elim (fun z => .inl (s.rd z)) .inr
theorem Sat.t (s : Sat a H H') (h : SqT K H a xs) : SqT K H' a xs := h.elim (fun z => .inl (s.rd z)) .inr
theorem Sat.sq (s : Sat a H H') (h : Sq K H a xs) : Sq K H' a xs := h.elim (fun z => .inl (s.l z)) fun z => .inr (s.t z)
theorem Same.sat (s : Same H H') : Sat a H H' := fun o e => s a o e
end
/-- the i-th thing is such, the heap as it was -/
def YI (Z : Nat → V → Prop) : Nat → Hp → V → Hp → Prop := fun i H x H' => H' = H ∧ Z i x
def iSq (K : PySem.W.Frag) (ta : TE) : TI := fun σ H R => ta σ H fun x H1 => ∃ a xs H0, x = .ref a ∧ Sq K H0 a xs ∧ Sat a H0 H1 ∧ ∀ J G, Walk J xs.length G (YI fun i x => xs[i]? = some x) → (∀ H', Sat a H0 H' → G H') → R J H1
def iESq (K : PySem.W.Frag) (ta : TA) : TI := fun σ H R => ta σ H fun vs H1 => ∃ a xs H0, vs = [.ref a] ∧ Sq K H0 a xs ∧ Sat a H0 H1 ∧ ∀ J G, Walk J xs.length G (YPair (fun i => some (.int (i : Nat))) (fun i => xs[i]?)) → (∀ H', Sat a H0 H' → G H') → R J H1
/-- a value that is there: its walk -/
theorem walk_sq {X : Cx} {pins : List (Addr × Obj)} {σ : L2.St} {H : Hp} {s : Shared} {tg : Expr} {R : It → Hp → Prop} {E : Value → Shared → Prop} {a : Addr} {xs : List V} {H0 : Hp} (I : Inv X pins σ H s) (h0 : Sq X.K H0 a xs) (st : Sat a H0 H)
    (k : ∀ J G, Walk J xs.length G (YI fun i x => xs[i]? = some x) → (∀ H', Sat a H0 H' → G H') → R J H) : wpAny (model X.prog X.w) X.A (pyIter (.ref a)) (PIE X pins σ tg R) E s := by
  rcases h0 with hq | hq
  · obtain ⟨its, rv, p, hz⟩ := I.list (st.l hq)
    refine wpAny_pyIter_list p.isList ⟨s.heap.objs.size, [s.heap.objs.size], _, _, H, rfl, I.kept (t' := s.toks) fun b o e => Heap.get?_push_of_some _ e, turn_list a _, ⟨_, Heap.get?_push_size _ rfl, rfl, rfl⟩, ?_, k _ _ walk_list fun H' q => q.l hq⟩
    intro b hb
    rw [List.mem_singleton.mp hb]
    exact I.fpOk (Nat.le_refl _) (I.hok.fresh (Nat.le_refl _))
  · obtain ⟨its, rv, p, hz⟩ := I.tuple (st.t hq)
    refine wpAny_pyIter_tuple (show s.heap.IsTuple a its.toArray from p) ⟨s.heap.objs.size, [s.heap.objs.size], _, _, H, rfl, I.kept (t' := s.toks) fun b o e => Heap.get?_push_of_some _ e, turn_tuple a _, ⟨_, Heap.get?_push_size _ rfl, rfl, rfl⟩, ?_, k _ _ walk_tup fun H' q => q.t hq⟩
    intro b hb
    rw [List.mem_singleton.mp hb]
    exact I.fpOk (Nat.le_refl _) (I.hok.fresh (Nat.le_refl _))
section
variable {X : Cx} {tg iter e : Expr} {te : TE} {ta : TA} {p pos tpos : Pos} {elts : List Expr} {kk : Nat}
theorem pi_sq (he : PE X iter te) : PI X tg iter (iSq X.K te) := by
  constructor
  intro pins s σ H R I h
  refine thn (he.run pins s σ H _ I h) ?_
  rintro u s1 ⟨x, H1, I1, r, a, xs, H0, rfl, hq, st, q⟩
  cases r
  exact walk_sq I1 hq st q
theorem pi_esq (hm : X.mg "enumerate" = none) (ha : PA X [e] ta) (hg : Gl X "enumerate" := by rfl) (hs : starEach [e] X.env = [(false, eval e X.env)] := by rfl) : PI X (.Tuple elts kk tpos) (.Call (.Name "enumerate" p) [e] [] pos) (iESq X.K ta) := by
  constructor
  intro pins s σ H R I h
  refine Call_ (ld_blt I hg hm boot_enumerate (PyProof.Rows.callWith_type1 (thn (ha.run pos pins s σ H _ I h) ?_) hs rfl))
  rintro us s1 ⟨vs, H1, I1, r1, a, xs, H0, rfl, hq, st, q⟩
  obtain ⟨u, rfl, ru⟩ := vals1 r1
  cases ru
  have foot : ∀ b, b ∈ [s1.heap.objs.size + 1, s1.heap.objs.size] → s1.heap.objs.size ≤ b := by
    intro b hb
    rcases two_mem hb with rfl | rfl
    · exact Nat.le_succ _
    · exact Nat.le_refl _
  rcases hq with hq | hq
  · obtain ⟨its, rv, p', hz⟩ := I1.list (st.l hq)
    refine call_enumerate_list p'.isList fun h' he hit hsz hk => wpAny_pyIter_enum he ?_
    exact ⟨s1.heap.objs.size + 1, [s1.heap.objs.size + 1, s1.heap.objs.size], _, _, H1, rfl, I1.kept (t' := s1.toks) hk, turn_enum a (s1.heap.objs.size + 1) s1.heap.objs.size, ⟨⟨.none, he⟩, hit, Nat.succ_ne_self _⟩,
      fun b hb => I1.fpOk (foot b hb) (I1.hok.fresh (foot b hb)), q _ _ walk_enum fun H' z => z.l hq⟩
  · obtain ⟨its, rv, p', hz⟩ := I1.tuple (st.t hq)
    refine call_enumT p' fun h' he hit hsz hk => wpAny_pyIter_enum he ?_
    exact ⟨s1.heap.objs.size + 1, [s1.heap.objs.size + 1, s1.heap.objs.size], _, _, H1, rfl, I1.kept (t' := s1.toks) hk, turnU a (s1.heap.objs.size + 1) s1.heap.objs.size, ⟨⟨.none, he⟩, hit, Nat.succ_ne_self _⟩,
      fun b hb => I1.fpOk (foot b hb) (I1.hok.fresh (foot b hb)), q _ _ walkU fun H' z => z.t hq⟩
end
section
variable {K : PySem.W.Frag} {te : TE} {ta : TA} {g : TG} {tb : TS} {D : Ends} {σ : L2.St} {H : Hp} {a : Addr} {xs : List V}
/-- for .. in l -/
theorem for_sq {H0 : Hp} (ha : Vl te σ H (.ref a)) (hq : Sq K H0 a xs) (st : Sat a H0 H) (Pv : Nat → L2.St → Hp → Prop) (h0 : Pv 0 σ H) (hk : ∀ i σ' H', i ≤ xs.length → Pv i σ' H' → Sat a H0 H')
    (hs : ∀ i x σ' H', i < xs.length → Pv i σ' H' → xs[i]? = some x → g x σ' H' fun σ2 H2 => tb { D with nx := Pv (i + 1), ct := Pv (i + 1), bk := D.nx } σ2 H2) (hd : ∀ σ' H', Pv xs.length σ' H' → D.nx σ' H') : tFor (iSq K te) g tb D σ H :=
  ha _ ⟨a, xs, H0, rfl, hq, st, fun J G w hG => for_it w Pv h0 (fun i σ' H' hi p => hG H' (hk i σ' H' hi p)) (fun i x σ' H1 H2 hi p y => by
    obtain ⟨rfl, y⟩ := y
    exact hs i x σ' H2 hi p y) hd⟩
/-- for at, .. in enumerate(l) -/
theorem for_esq {H0 : Hp} (ha : ∀ Q, Q [.ref a] H → ta σ H Q) (hq : Sq K H0 a xs) (st : Sat a H0 H) (Pv : Nat → L2.St → Hp → Prop) (h0 : Pv 0 σ H) (hk : ∀ i σ' H', i ≤ xs.length → Pv i σ' H' → Sat a H0 H')
    (hs : ∀ i x T σ' H', i < xs.length → Pv i σ' H' → xs[i]? = some x → H' T = none → g (.ref T) σ' (upd H' T (.tup [.int (i : Nat), x])) fun σ2 H2 => tb { D with nx := Pv (i + 1), ct := Pv (i + 1), bk := D.nx } σ2 H2) (hd : ∀ σ' H', Pv xs.length σ' H' → D.nx σ' H') : tFor (iESq K ta) g tb D σ H :=
  ha _ ⟨a, xs, H0, rfl, hq, st, fun J G w hG => for_it w Pv h0 (fun i σ' H' hi p => hG H' (hk i σ' H' hi p)) (fun i x σ' H1 H2 hi p y => by
    obtain ⟨T, x1, x2, rfl, hT, rfl, e1, e2⟩ := y
    cases e1
    exact hs i x2 T σ' H1 hi p e2 hT) hd⟩
theorem forS {N Bk Ct : L2.St → Hp → Prop} {Rt : VK} {H0 : Hp} (ha : Vl te σ H (.ref a)) (hq : Sq K H0 a xs) (st : Sat a H0 H) (Pv : Nat → L2.St → Hp → Prop) (h0 : Pv 0 σ H) (hk : ∀ i σ' H', i ≤ xs.length → Pv i σ' H' → Sat a H0 H')
    (hs : ∀ i x σ' H', i < xs.length → Pv i σ' H' → xs[i]? = some x → g x σ' H' fun σ2 H2 => tb ⟨Pv (i + 1), Rt, N, Pv (i + 1)⟩ σ2 H2) (hd : ∀ σ' H', Pv xs.length σ' H' → N σ' H') : tFor (iSq K te) g tb ⟨N, Rt, Bk, Ct⟩ σ H := for_sq ha hq st Pv h0 hk hs hd
theorem forE {N Bk Ct : L2.St → Hp → Prop} {Rt : VK} {H0 : Hp} (ha : ∀ Q, Q [.ref a] H → ta σ H Q) (hq : Sq K H0 a xs) (st : Sat a H0 H) (Pv : Nat → L2.St → Hp → Prop) (h0 : Pv 0 σ H) (hk : ∀ i σ' H', i ≤ xs.length → Pv i σ' H' → Sat a H0 H')
    (hs : ∀ i x T σ' H', i < xs.length → Pv i σ' H' → xs[i]? = some x → H' T = none → g (.ref T) σ' (upd H' T (.tup [.int (i : Nat), x])) fun σ2 H2 => tb ⟨Pv (i + 1), Rt, N, Pv (i + 1)⟩ σ2 H2) (hd : ∀ σ' H', Pv xs.length σ' H' → N σ' H') : tFor (iESq K ta) g tb ⟨N, Rt, Bk, Ct⟩ σ H := for_esq ha hq st Pv h0 hk hs hd
/-- a comprehension that writes nothing but its own list -/
theorem lc_gr {J : It} {n : Nat} {G : Hp → Prop} {Z : Nat → V → Prop} {F : Hp} {tt : TT} {vs : List Nat} {N : Addr} {Q : VK} (w : Walk J n G (YI Z)) (s : Same F H) (hN : H N = none) (P : Nat → List V → Hp → Prop)
    (hG : ∀ H', Same H H' → G H') (h0 : P 0 [] F) (hn : n ≤ sizeLine)
    (hs : ∀ i x acc F' H' (Y : VK) (Nn : Hp → Prop), i < n → Z i x → P i acc F' → Gr [] F H F' H' → (∀ y F4 H4, Gr [] F' H' F4 H4 → P (i + 1) (acc ++ [y]) F4 → Y y H4) → (∀ F4 H4, Gr [] F' H' F4 H4 → P (i + 1) acc F4 → Nn H4) →
      g x (wipe σ vs) H' fun σ2 H2 => wipe σ2 vs = wipe σ vs ∧ tt σ2 H2 fun b H3 => if b = true then te σ2 H3 Y else Nn H3)
    (hd : ∀ acc F' H', Gr [] F H F' H' → H' N = some (.lst acc) → F' N = none → acc.length ≤ n → P n acc F' → Q (.ref N) H') :
    ∃ W : Nat → Nat → Hp → Prop, (∃ m, W 0 m (upd H N (.lst []))) ∧ ∀ i m H, W i m H → (J.stop i H ∧ Q (.ref N) H) ∨ (J.go i H ∧ ∃ Nx : Hp → Prop, (∀ H', Nx H' → ∃ m', m' < m ∧ W (i + 1) m' H') ∧
      ∀ x H', J.yld i H x H' → g x (wipe σ vs) H' fun σ2 H2 => wipe σ2 vs = wipe σ vs ∧ tt σ2 H2 fun b H3 => if b = true then te σ2 H3 fun y H4 => ∃ acc, H4 N = some (.lst acc) ∧ acc.length < sizeLine ∧ Nx (upd H4 N (.lst (acc ++ [y]))) else Nx H3) := by
  have x0 : Gr [] F H F (upd H N (.lst [])) := (Gr.refl s).own hN
  refine lc_it w (fun i H' => ∃ acc F', Gr [] F H F' H' ∧ H' N = some (.lst acc) ∧ F' N = none ∧ acc.length ≤ i ∧ P i acc F') ⟨[], F, x0, upd_same, s.free hN, Nat.le_refl _, h0⟩ ?_ ?_ ?_
  · rintro i H' _ ⟨acc, F', x, _⟩
    exact hG H' x.same
  · rintro i x H1 H2 hi ⟨acc, F', x1, e1, e2, e3, p⟩ ⟨rfl, z⟩
    refine hs i x acc F' H2 _ _ hi z p x1 ?_ ?_
    · rintro y F4 H4 gr p4
      have en := gr.hh N _ (fun q => nomatch q) e1
      have ef := gr.offF e1 e2
      refine ⟨acc, en, by omega, acc ++ [y], F4, (x1.trans gr).put ef (.inr hN), upd_same, ef, ?_, p4⟩
      rw [List.length_append]; exact Nat.succ_le_succ e3
    · rintro F4 H4 gr p4
      exact ⟨acc, F4, x1.trans gr, gr.hh N _ (fun q => nomatch q) e1, gr.offF e1 e2, Nat.le_succ_of_le e3, p4⟩
  · rintro H' ⟨acc, F', x1, e1, e2, e3, p⟩
    exact hd acc F' H' x1 e1 e2 e3 p
/-- .. over a list or a tuple -/
theorem lc_sq {ta' : TE} {F : Hp} {tt : TT} {vs : List Nat} {Q : VK} (ha : Vl ta' σ H (.ref a)) (hq : Sq K H a xs) (s : Same F H) (P : Nat → List V → Hp → Prop) (h0 : P 0 [] F) (hn : xs.length ≤ sizeLine)
    (hs : ∀ i x acc F' H' (Y : VK) (Nn : Hp → Prop), i < xs.length → xs[i]? = some x → P i acc F' → Gr [] F H F' H' → (∀ y F4 H4, Gr [] F' H' F4 H4 → P (i + 1) (acc ++ [y]) F4 → Y y H4) → (∀ F4 H4, Gr [] F' H' F4 H4 → P (i + 1) acc F4 → Nn H4) →
      g x (wipe σ vs) H' fun σ2 H2 => wipe σ2 vs = wipe σ vs ∧ tt σ2 H2 fun b H3 => if b = true then te σ2 H3 Y else Nn H3)
    (hd : ∀ N acc F' H', H N = none → Gr [] F H F' H' → H' N = some (.lst acc) → F' N = none → acc.length ≤ xs.length → P xs.length acc F' → Q (.ref N) H') : tLc (iSq K ta') g tt te vs σ H Q :=
  ha _ ⟨a, xs, H, rfl, hq, fun o e => e, fun J G w hG N hN => lc_gr w s hN P (fun H2 q => hG H2 fun o e => q a o e) h0 hn hs fun acc F' H' x e1 e2 e3 p => hd N acc F' H' hN x e1 e2 e3 p⟩
end
/-- of a list made here: what tuple(..) makes of it -/
theorem tupl_of {X : Cx} {H : Hp} {p : Addr} {ys : List V} {Q : VK} (h : H p = some (.lst ys)) (q : ∀ l, H l = none → Q (.ref l) (upd H l (.tup ys))) :
    ∃ p' ys', [V.ref p] = [V.ref p'] ∧ ((SqL X.K H p' ys' ∧ ∀ l, H l = none → Q (.ref l) (upd H l (.tup ys'))) ∨ (SqT X.K H p' ys' ∧ Q (.ref p') H)) := ⟨p, ys, rfl, .inl ⟨Evl.sq_of h, q⟩⟩
end B

set_option Elab.async false
set_option linter.all false
set_option maxRecDepth 100000
set_option maxHeartbeats 4000000
/-! Data: what a piece of the program makes of data, told of data alone. -/
namespace B
open PySem PySem.Spec PyProof.Rows L2

/-- a new list of data -/
def Lp (K : PySem.W.Frag) (F : Hp) (v : V) (ds : List PyData) : Prop := ∃ a xs, v = .ref a ∧ F a = some (.lst xs) ∧ DpAll K F xs ds
/-- a test, a value, arguments: told by the part that stays as it is -/
def Ag (t : TT) (σ : L2.St) (F H : Hp) (b : Bool) : Prop := ∀ Q : Bool → Hp → Prop, (∀ F2 H2, Gr [] F H F2 H2 → Q b H2) → t σ H Q
def Vp (t : TE) (σ : L2.St) (F H : Hp) (P : V → Hp → Prop) : Prop := ∀ Q : VK, (∀ v F2 H2, Gr [] F H F2 H2 → P v F2 → Q v H2) → t σ H Q
abbrev Vg (K : PySem.W.Frag) (t : TE) (σ : L2.St) (F H : Hp) (d : PyData) : Prop := Vp t σ F H fun v F2 => Dp K F2 v d
def Lg (K : PySem.W.Frag) (t : TA) (σ : L2.St) (F H : Hp) (ds : List PyData) : Prop := ∀ Q : List V → Hp → Prop, (∀ vs F2 H2, Gr [] F H F2 H2 → DpAll K F2 vs ds → Q vs H2) → t σ H Q
/-- told at every later heap -/
def Ev (F H : Hp) (p : Hp → Hp → Prop) : Prop := ∀ F2 H2, Gr [] F H F2 H2 → p F2 H2
section
variable {K : PySem.W.Frag} {t u : TT} {te ta tb : TE} {tl : TA} {σ : L2.St} {F H : Hp} {a b : Bool} {v : V} {d e c : PyData} {ds es : List PyData} {i : Nat} {P P' : V → Hp → Prop}
theorem Lp.dp (h : Lp K F v ds) : Dp K F v (.list ds) := by
  obtain ⟨a, xs, rfl, q, p⟩ := h
  exact Dp.newL q p
theorem Lp.mono {F' : Hp} (s : Same F F') (h : Lp K F v ds) : Lp K F' v ds := by
  obtain ⟨a, xs, e, q, p⟩ := h
  exact ⟨a, xs, e, s a _ q, DpAll.mono s p⟩
theorem vp_imp (h : Vp te σ F H P) (k : ∀ v F2 H2, Gr [] F H F2 H2 → P v F2 → P' v F2) : Vp te σ F H P' := fun Q q => h Q fun v F2 H2 g p => q v F2 H2 g (k v F2 H2 g p)
theorem vp_of (s : Same F H) (h : Vl te σ H v) (p : P v F) : Vp te σ F H P := fun Q q => h Q (q v F H (Gr.refl s) p)
theorem vp_var (s : Same F H) (h : σ[i]? = some (some v)) (p : P v F) : Vp (tVar i) σ F H P := vp_of s (vl_var h) p
theorem vp_c (s : Same F H) (p : P v F) : Vp (tC v) σ F H P := vp_of s vl_c p
theorem vg_int (s : Same F H) {n : Int} : Vg K (tC (.int n)) σ F H (.int n) := vp_c s (.int n)
theorem vg_str (s : Same F H) {n : Str} : Vg K (tC (.str n)) σ F H (.str n) := vp_c s (.str n)
theorem vg_bl (s : Same F H) {n : Bool} : Vg K (tC (.bl n)) σ F H (.bool n) := vp_c s (.bl n)
theorem vg_non (s : Same F H) : Vg K (tC .non) σ F H .none := vp_c s .non
theorem vg_cong (h : Vg K te σ F H d) (x : d = e) : Vg K te σ F H e := x ▸ h
theorem vg_l (h : Vp te σ F H fun v F2 => Lp K F2 v ds) : Vg K te σ F H (.list ds) := vp_imp h fun _ _ _ _ p => p.dp
theorem lg_nil (s : Same F H) : Lg K tNil σ F H [] := fun Q q => q [] F H (Gr.refl s) .nil
theorem lg_cons (h : Vg K te σ F H d) (r : Ev F H fun F2 H2 => Lg K tl σ F2 H2 ds) : Lg K (tCons te tl) σ F H (d :: ds) := fun Q q => h _ fun v F2 H2 g p => r F2 H2 g _ fun vs F3 H3 g3 p3 => q _ F3 H3 (g.trans g3) (.cons (Dp.mono g3.ff p) p3)
theorem lg_one (s : Same F H) (h : Vg K te σ F H d) : Lg K (tCons te tNil) σ F H [d] := lg_cons h fun _ _ g => lg_nil g.fh
theorem lg_cong (h : Lg K tl σ F H ds) (x : ds = es) : Lg K tl σ F H es := x ▸ h
theorem vg_tup (h : Lg K tl σ F H ds) (hl : ds.length ≤ sizeLine) : Vg K (tTup tl) σ F H (.tuple ds) := fun Q q => h _ fun vs F2 H2 g p => ⟨by rw [p.length]; exact hl, fun a na => q _ _ _ (g.new na) (Dp.newT upd_same (DpAll.mono (Evl.Ex.new (g.freshF na)) p))⟩
theorem vl_lst (h : Lg K tl σ F H ds) (hl : ds.length ≤ sizeLine) : Vp (tLst tl) σ F H fun v F2 => Lp K F2 v ds := fun Q q => h _ fun vs F2 H2 g p => ⟨by rw [p.length]; exact hl, fun a na => q _ _ _ (g.new na) ⟨a, vs, rfl, upd_same, DpAll.mono (Evl.Ex.new (g.freshF na)) p⟩⟩
theorem vg_lst (h : Lg K tl σ F H ds) (hl : ds.length ≤ sizeLine) : Vg K (tLst tl) σ F H (.list ds) := vg_l (vl_lst h hl)
/-! operators -/
theorem vp_op {r : R2} {P1 P2 : V → Hp → Prop} (ha : Vp ta σ F H P1) (hb : Ev F H fun F2 H2 => Vp tb σ F2 H2 P2) (hm : ∀ x F2 F3, Same F2 F3 → P1 x F2 → P1 x F3) (hr : ∀ x y F3 H3 (Q : VK), Gr [] F H F3 H3 → P1 x F3 → P2 y F3 → (∀ v F4 H4, Gr [] F3 H3 F4 H4 → P v F4 → Q v H4) → r x y H3 Q) : Vp (tOp r ta tb) σ F H P :=
  fun Q q => ha _ fun x F2 H2 g p => hb F2 H2 g _ fun y F3 H3 g3 p3 => hr x y F3 H3 Q (g.trans g3) (hm x _ _ g3.ff p) p3 fun v F4 H4 g4 p4 => q v F4 H4 ((g.trans g3).trans g4) p4
theorem vg_op {r : R2} (ha : Vg K ta σ F H d) (hb : Ev F H fun F2 H2 => Vg K tb σ F2 H2 e) (hr : ∀ x y F3 H3 (Q : VK), Gr [] F H F3 H3 → Dp K F3 x d → Dp K F3 y e → (∀ v F4 H4, Gr [] F3 H3 F4 H4 → P v F4 → Q v H4) → r x y H3 Q) : Vp (tOp r ta tb) σ F H P := vp_op ha hb (fun _ _ _ s p => Dp.mono s p) hr
theorem vg_I0 {g : Int → Int → Int} {m n : Int} (ha : Vg K ta σ F H (.int m)) (hb : Ev F H fun F2 H2 => Vg K tb σ F2 H2 (.int n)) : Vg K (tOp (rI0 fun i j => .int (g i j)) ta tb) σ F H (.int (g m n)) := vg_op ha hb fun x y F3 H3 Q gg p q k => by
  cases p; cases q; exact ⟨m, n, rfl, rfl, k _ F3 H3 (Gr.refl gg.fh) (.int _)⟩
theorem vg_B0 {g : Int → Int → Bool} {m n : Int} (ha : Vg K ta σ F H (.int m)) (hb : Ev F H fun F2 H2 => Vg K tb σ F2 H2 (.int n)) : Vg K (tOp (rI0 fun i j => .bl (g i j)) ta tb) σ F H (.bool (g m n)) := vg_op ha hb fun x y F3 H3 Q gg p q k => by
  cases p; cases q; exact ⟨m, n, rfl, rfl, k _ F3 H3 (Gr.refl gg.fh) (.bl _)⟩
theorem vg_I {cc : Int → Int → Prop} {g : Int → Int → Int} {m n : Int} (ha : Vg K ta σ F H (.int m)) (hb : Ev F H fun F2 H2 => Vg K tb σ F2 H2 (.int n)) (h : cc m n) : Vg K (tOp (rI cc fun i j => .int (g i j)) ta tb) σ F H (.int (g m n)) := vg_op ha hb fun x y F3 H3 Q gg p q k => by
  cases p; cases q; exact ⟨m, n, rfl, rfl, h, k _ F3 H3 (Gr.refl gg.fh) (.int _)⟩
theorem vg_eqD (ha : Vg K ta σ F H d) (hb : Ev F H fun F2 H2 => Vg K tb σ F2 H2 e) (s1 : SeqAt.shaped d = true) (s2 : SeqAt.shaped e = true) : Vg K (tOp (rEqD K) ta tb) σ F H (.bool (PyData.eqv d e)) := vg_op ha hb fun x y F3 H3 Q gg p q k =>
  ⟨d, e, Dp.mono gg.fh p, Dp.mono gg.fh q, s1, s2, k _ F3 H3 (Gr.refl gg.fh) (.bl _)⟩
theorem vg_neD (ha : Vg K ta σ F H d) (hb : Ev F H fun F2 H2 => Vg K tb σ F2 H2 e) (s1 : SeqAt.shaped d = true) (s2 : SeqAt.shaped e = true) : Vg K (tOp (rNeD K) ta tb) σ F H (.bool (!PyData.eqv d e)) := vg_op ha hb fun x y F3 H3 Q gg p q k =>
  ⟨d, e, Dp.mono gg.fh p, Dp.mono gg.fh q, s1, s2, k _ F3 H3 (Gr.refl gg.fh) (.bl _)⟩
theorem vg_inD (ha : Vg K ta σ F H d) (hb : Ev F H fun F2 H2 => Vg K tb σ F2 H2 (.list ds)) (s1 : SeqAt.shaped d = true) (s2 : SeqAt.shaped (.list ds) = true) : Vg K (tOp (rInD K) ta tb) σ F H (.bool (ds.any fun z => PyData.eqv z d)) := vg_op ha hb fun x y F3 H3 Q gg p q k =>
  ⟨d, ds, Dp.mono gg.fh p, Dp.mono gg.fh q, s1, s2, k _ F3 H3 (Gr.refl gg.fh) (.bl _)⟩
theorem vg_notInD (ha : Vg K ta σ F H d) (hb : Ev F H fun F2 H2 => Vg K tb σ F2 H2 (.list ds)) (s1 : SeqAt.shaped d = true) (s2 : SeqAt.shaped (.list ds) = true) : Vg K (tOp (rNotInD K) ta tb) σ F H (.bool (!ds.any fun z => PyData.eqv z d)) := vg_op ha hb fun x y F3 H3 Q gg p q k =>
  ⟨d, ds, Dp.mono gg.fh p, Dp.mono gg.fh q, s1, s2, k _ F3 H3 (Gr.refl gg.fh) (.bl _)⟩
theorem vg_cat {m n : Str} (ha : Vg K ta σ F H (.str m)) (hb : Ev F H fun F2 H2 => Vg K tb σ F2 H2 (.str n)) (hl : m.length + n.length ≤ sizeLine) :
    Vg K (tOp (fun x y H Q => ∃ i j, x = .str i ∧ y = .str j ∧ i.length + j.length ≤ sizeLine ∧ Q (.str (i ++ j)) H) ta tb) σ F H (.str (m ++ n)) := vg_op ha hb fun x y F3 H3 Q gg p q k => by
  cases p; cases q; exact ⟨m, n, rfl, rfl, hl, k _ F3 H3 (Gr.refl gg.fh) (.str _)⟩
theorem vl_catL (ha : Vp ta σ F H fun v F2 => Lp K F2 v ds) (hb : Ev F H fun F2 H2 => Vp tb σ F2 H2 fun v F3 => Lp K F3 v es) (hl : ds.length + es.length ≤ sizeLine) : Vp (tOp rCat ta tb) σ F H fun v F2 => Lp K F2 v (ds ++ es) :=
  vp_op ha hb (fun _ _ _ s p => Lp.mono s p) fun x y F3 H3 Q gg p q k => by
    obtain ⟨l, xs, rfl, e1, p1⟩ := p
    obtain ⟨m, ys, rfl, e2, p2⟩ := q
    refine ⟨l, m, xs, ys, rfl, rfl, gg.fh _ _ e1, gg.fh _ _ e2, by rw [p1.length, p2.length]; exact hl, fun n hn => ?_⟩
    have gn := (Gr.refl (M := []) gg.fh).new (o := .lst (xs ++ ys)) hn
    exact k _ _ _ gn ⟨n, _, rfl, upd_same, DpAll.mono gn.ff (p1.append p2)⟩
/-! tests -/
theorem ag_an (s : Same F H) (h : An t σ H b) : Ag t σ F H b := fun Q q => h Q (q F H (Gr.refl s))
theorem ag_not (h : Ag t σ F H b) : Ag (tNot t) σ F H (!b) := fun Q q => h _ q
theorem ag_or (h : Ag t σ F H a) (h2 : a = false → Ev F H fun F2 H2 => Ag u σ F2 H2 b) : Ag (tOr t u) σ F H (a || b) := fun Q q => h _ fun F2 H2 g => by
  cases a with
  | true => rw [if_pos rfl]; exact q F2 H2 g
  | false => rw [if_neg Bool.false_ne_true]; exact h2 rfl F2 H2 g Q fun F3 H3 g3 => q F3 H3 (g.trans g3)
theorem ag_and (h : Ag t σ F H a) (h2 : a = true → Ev F H fun F2 H2 => Ag u σ F2 H2 b) : Ag (tAnd t u) σ F H (a && b) := fun Q q => h _ fun F2 H2 g => by
  cases a with
  | true => rw [if_pos rfl]; exact h2 rfl F2 H2 g Q fun F3 H3 g3 => q F3 H3 (g.trans g3)
  | false => rw [if_neg Bool.false_ne_true]; exact q F2 H2 g
theorem ag_cong (h : Ag t σ F H a) (e : a = b) : Ag t σ F H b := e ▸ h
theorem ag_val (h : Vg K te σ F H (.bool b)) : Ag (tB te) σ F H b := fun Q q => h _ fun v F2 H2 g p => by cases p; exact ⟨b, rfl, q F2 H2 g⟩
theorem ag_test (h : Vg K te σ F H (.bool b)) : Ag (tTest te) σ F H b := fun Q q => h _ fun v F2 H2 g p => by cases p; exact ⟨b, rfl, q F2 H2 g⟩
theorem vg_andV (ha : Vg K ta σ F H (.bool a)) (hb : a = true → Ev F H fun F2 H2 => Vg K tb σ F2 H2 (.bool b)) : Vg K (tAndV ta tb) σ F H (.bool (a && b)) := fun Q q => ha _ fun v F2 H2 g p => by
  cases p
  refine ⟨a, rfl, ?_⟩
  cases a with
  | true => rw [if_pos rfl]; exact hb rfl F2 H2 g Q fun v F3 H3 g3 => q v F3 H3 (g.trans g3)
  | false => rw [if_neg Bool.false_ne_true]; exact q _ F2 H2 g (.bl _)
theorem vg_orV (ha : Vg K ta σ F H (.bool a)) (hb : a = false → Ev F H fun F2 H2 => Vg K tb σ F2 H2 (.bool b)) : Vg K (tOrV ta tb) σ F H (.bool (a || b)) := fun Q q => ha _ fun v F2 H2 g p => by
  cases p
  refine ⟨a, rfl, ?_⟩
  cases a with
  | false => rw [if_neg Bool.false_ne_true]; exact hb rfl F2 H2 g Q fun v F3 H3 g3 => q v F3 H3 (g.trans g3)
  | true => rw [if_pos rfl]; exact q _ F2 H2 g (.bl _)
theorem vg_notV (ha : Vg K ta σ F H (.bool a)) : Vg K (tNotV ta) σ F H (.bool (!a)) := fun Q q => ha _ fun v F2 H2 g p => by cases p; exact ⟨a, rfl, q _ F2 H2 g (.bl _)⟩
/-! calls -/
theorem vp_call {sp : Sp} {E : XK} (h : Lg K tl σ F H ds) (k : ∀ vs F2 H2 (Q : VK), Gr [] F H F2 H2 → DpAll K F2 vs ds → (∀ v F3 H3, Gr [] F2 H2 F3 H3 → P v F3 → Q v H3) → sp vs H2 Q E) : Vp (tCall sp [] E tl) σ F H P := fun Q q => h _ fun vs F2 H2 g p => by
  rw [List.append_nil]
  exact k vs F2 H2 Q g p fun v F3 H3 g3 => q v F3 H3 (g.trans g3)
theorem vp_cb {r : List V → Hp → VK → Prop} (h : Lg K tl σ F H ds) (k : ∀ vs F2 H2 (Q : VK), Gr [] F H F2 H2 → DpAll K F2 vs ds → (∀ v F3 H3, Gr [] F2 H2 F3 H3 → P v F3 → Q v H3) → r vs H2 Q) : Vp (tCB r tl) σ F H P := fun Q q => h _ fun vs F2 H2 g p => k vs F2 H2 Q g p fun v F3 H3 g3 => q v F3 H3 (g.trans g3)
/-! slices, items -/
theorem vg_ixL {x : PyData} {n : Nat} (ha : Vg K ta σ F H (.list ds)) (hb : Ev F H fun F2 H2 => Vg K tb σ F2 H2 (.int (n : Int))) (h : ds[n]? = some x) : Vg K (tOp (rIx K) ta tb) σ F H x := vg_op ha hb fun y z F3 H3 Q gg p q k => by
  obtain ⟨a, xs, rfl, s, dp⟩ := p.lst_of
  cases q
  obtain ⟨v, e1, e2⟩ := dp.at h
  exact .inl ⟨a, xs, _, v, rfl, rfl, gg.fh.seq s, atI_nat e1, k v F3 H3 (Gr.refl gg.fh) e2⟩
theorem vg_ixT {x : PyData} {n : Nat} (ha : Vg K ta σ F H (.tuple ds)) (hb : Ev F H fun F2 H2 => Vg K tb σ F2 H2 (.int (n : Int))) (h : ds[n]? = some x) : Vg K (tOp (rIx K) ta tb) σ F H x := vg_op ha hb fun y z F3 H3 Q gg p q k => by
  obtain ⟨a, xs, rfl, s, dp⟩ := p.tup_of
  cases q
  obtain ⟨v, e1, e2⟩ := dp.at h
  exact .inr (.inl ⟨a, xs, _, v, rfl, rfl, Same.sqt gg.fh s, atI_nat e1, k v F3 H3 (Gr.refl gg.fh) e2⟩)
theorem vg_ixS {x : Str} {n c : Nat} (ha : Vg K ta σ F H (.str x)) (hb : Ev F H fun F2 H2 => Vg K tb σ F2 H2 (.int (n : Int))) (hl : x.length ≤ sizeLine) (h : x.cps.toList[n]? = some c) : Vg K (tOp (rIx K) ta tb) σ F H (.str ⟨#[c]⟩) := vg_op ha hb fun y z F3 H3 Q gg p q k => by
  cases p; cases q
  exact .inr (.inr ⟨x, _, c, rfl, rfl, hl, atI_nat h, k _ F3 H3 (Gr.refl gg.fh) (.str _)⟩)
end
section
variable {K : PySem.W.Frag} {t : TT} {te : TE} {t1 t2 : TS} {N Bk Ct : L2.St → Hp → Prop} {Rt : VK} {σ : L2.St} {F H : Hp} {b : Bool} {d : PyData} {ds : List PyData} {i : Nat} {P : V → Hp → Prop}
/-! statements -/
theorem asgG {g : TG} (h : te σ H fun x H1 => g x σ H1 N) : tAsg te g ⟨N, Rt, Bk, Ct⟩ σ H := h
theorem gn {v : V} {Q : L2.St → Hp → Prop} (h : Q (σ.set i (some v)) H) : gName i v σ H Q := h
theorem if_ag (h : Ag t σ F H b) (y : b = true → Ev F H fun _ H2 => t1 ⟨N, Rt, Bk, Ct⟩ σ H2) (n : b = false → Ev F H fun _ H2 => t2 ⟨N, Rt, Bk, Ct⟩ σ H2) : tIfS t t1 t2 ⟨N, Rt, Bk, Ct⟩ σ H := h _ fun F2 H2 g => by
  cases b with
  | true => rw [if_pos rfl]; exact y rfl F2 H2 g
  | false => rw [if_neg Bool.false_ne_true]; exact n rfl F2 H2 g
theorem if_ag1 (h : Ag t σ F H b) (y : b = true → Ev F H fun _ H2 => t1 ⟨N, Rt, Bk, Ct⟩ σ H2) (n : b = false → Ev F H fun _ H2 => N σ H2) : tIfS t t1 tNext ⟨N, Rt, Bk, Ct⟩ σ H := if_ag h y n
theorem asgP (h : Vp te σ F H P) (q : ∀ v F2 H2, Gr [] F H F2 H2 → P v F2 → N (σ.set i (some v)) H2) : tAsg te (gName i) ⟨N, Rt, Bk, Ct⟩ σ H := h _ q
theorem retP (h : Vp te σ F H P) (q : ∀ v F2 H2, Gr [] F H F2 H2 → P v F2 → Rt v H2) : tRet te ⟨N, Rt, Bk, Ct⟩ σ H := h _ q
theorem drpP (h : Vp te σ F H P) (q : ∀ v F2 H2, Gr [] F H F2 H2 → P v F2 → N σ H2) : tDrop te ⟨N, Rt, Bk, Ct⟩ σ H := h _ q
end
end B

set_option Elab.async false
set_option linter.all false
set_option maxRecDepth 100000
set_option maxHeartbeats 4000000
/-! Comprehensions, tuple(..), list(..), fields: told of data. -/
namespace B
open PySem PySem.Spec PyProof.Rows L2
/-- a new tuple of data -/
def Tp (K : PySem.W.Frag) (F : Hp) (v : V) (ds : List PyData) : Prop := ∃ a xs, v = .ref a ∧ F a = some (.tup xs) ∧ DpAll K F xs ds
/-- a list or a tuple of data -/
def Qp (K : PySem.W.Frag) (F : Hp) (v : V) (ds : List PyData) : Prop := ∃ a xs, v = .ref a ∧ Sq K F a xs ∧ DpAll K F xs ds
section
variable {K : PySem.W.Frag} {te ta tb : TE} {tt : TT} {g : TG} {tl : TA} {σ : L2.St} {F H F' : Hp} {v : V} {ds es : List PyData} {i : Nat} {P : V → Hp → Prop} {α : Type} {as : List α} {D : α → PyData}
theorem Tp.mono (s : Same F F') (h : Tp K F v ds) : Tp K F' v ds := by
  obtain ⟨a, xs, e, q, p⟩ := h
  exact ⟨a, xs, e, s a _ q, DpAll.mono s p⟩
theorem Tp.dp (h : Tp K F v ds) : Dp K F v (.tuple ds) := by
  obtain ⟨a, xs, rfl, q, p⟩ := h
  exact Dp.newT q p
theorem Qp.mono (s : Same F F') (h : Qp K F v ds) : Qp K F' v ds := by
  obtain ⟨a, xs, e, q, p⟩ := h
  exact ⟨a, xs, e, Sq.mono s q, DpAll.mono s p⟩
theorem qp_l (h : Dp K F v (.list ds)) : Qp K F v ds := by
  obtain ⟨a, xs, e, s, p⟩ := h.lst_of
  exact ⟨a, xs, e, .inl s, p⟩
theorem qp_t (h : Dp K F v (.tuple ds)) : Qp K F v ds := by
  obtain ⟨a, xs, e, s, p⟩ := h.tup_of
  exact ⟨a, xs, e, .inr s, p⟩
theorem Lp.qp (h : Lp K F v ds) : Qp K F v ds := qp_l h.dp
theorem Tp.qp (h : Tp K F v ds) : Qp K F v ds := qp_t h.dp
theorem dpAll_map {xs : List V} {x : V} (h : DpAll K F xs (as.map D)) (e : xs[i]? = some x) : ∃ a, as[i]? = some a ∧ Dp K F x (D a) := by
  obtain ⟨d, h1, h2⟩ := h.get e
  rw [List.getElem?_map, Option.map_eq_some_iff] at h1
  obtain ⟨a, h3, rfl⟩ := h1
  exact ⟨a, h3, h2⟩
theorem take_add {ls : List α} {i : Nat} {p : α} (h : ls[i]? = some p) : ls.take (i + 1) = ls.take i ++ [p] := by rw [List.take_add_one, h]; rfl
/-- [e for x in l if c], l a value whose items are data -/
theorem vl_lcV {vs : List Nat} {a0 : Addr} {xs : List V} (f : α → Option PyData) (ha : Vl ta σ H (.ref a0)) (hq : Sq K H a0 xs) (s : Same F H) (hd : DpAll K F xs (as.map D)) (hn : as.length ≤ sizeLine)
    (hs : ∀ (i : Nat) (a : α) x F2 H2 (Y : VK) (Nn : Hp → Prop), as[i]? = some a → Gr [] F H F2 H2 → Dp K F2 x (D a) → (∀ y e F4 H4, f a = some e → Gr [] F2 H2 F4 H4 → Dp K F4 y e → Y y H4) → (∀ F4 H4, f a = none → Gr [] F2 H2 F4 H4 → Nn H4) →
      g x (wipe σ vs) H2 fun σ2 H3 => wipe σ2 vs = wipe σ vs ∧ tt σ2 H3 fun b H4 => if b = true then te σ2 H4 Y else Nn H4) :
    Vp (tLc (iSq K ta) g tt te vs) σ F H (fun v F2 => Lp K F2 v (as.filterMap f)) := fun Q q => by
  have hl : xs.length = as.length := by rw [hd.length, List.length_map]
  refine ha _ ⟨a0, xs, H, rfl, hq, fun o z => z, fun J G w hG N hN => ?_⟩
  refine lc_gr (F := F) w s hN (fun i acc F' => DpAll K F' acc ((as.take i).filterMap f)) (fun H2 z => hG H2 fun o u => z a0 o u) .nil (by rw [hl]; exact hn) ?_ ?_
  · intro i x acc F2 H2 Y Nn hi ex pd g2 kY kN
    obtain ⟨b, e1, dx⟩ := dpAll_map (DpAll.mono g2.ff hd) ex
    refine hs i b x F2 H2 Y Nn e1 g2 dx (fun y e F4 H4 ef g4 dy => kY y F4 H4 g4 ?_) (fun F4 H4 ef g4 => kN F4 H4 g4 ?_)
    · rw [take_add e1, List.filterMap_append]
      have e9 : [b].filterMap f = [e] := by rw [List.filterMap_cons, ef]; rfl
      rw [e9]; exact (DpAll.mono g4.ff pd).snoc dy
    · rw [take_add e1, List.filterMap_append]
      have e9 : [b].filterMap f = [] := by rw [List.filterMap_cons, ef]; rfl
      rw [e9, List.append_nil]; exact DpAll.mono g4.ff pd
  · intro acc F2 H2 g2 eN fN lN pd
    rw [hl, List.take_length] at pd
    exact q _ _ _ (g2.still eN hN fN) ⟨N, acc, rfl, upd_same, DpAll.mono (Evl.Ex.new fN) pd⟩
/-- .. l any piece that comes to a list or tuple of data -/
theorem vl_lc {vs : List Nat} (f : α → Option PyData) (ha : Vp ta σ F H fun v F2 => Qp K F2 v (as.map D)) (hn : as.length ≤ sizeLine)
    (hs : ∀ (i : Nat) (a : α) x F2 H2 (Y : VK) (Nn : Hp → Prop), as[i]? = some a → Gr [] F H F2 H2 → Dp K F2 x (D a) → (∀ y e F4 H4, f a = some e → Gr [] F2 H2 F4 H4 → Dp K F4 y e → Y y H4) → (∀ F4 H4, f a = none → Gr [] F2 H2 F4 H4 → Nn H4) →
      g x (wipe σ vs) H2 fun σ2 H3 => wipe σ2 vs = wipe σ vs ∧ tt σ2 H3 fun b H4 => if b = true then te σ2 H4 Y else Nn H4) :
    Vp (tLc (iSq K ta) g tt te vs) σ F H fun v F2 => Lp K F2 v (as.filterMap f) := fun Q q => ha _ fun v F1 H1 g1 ⟨a, xs, e, hq, hd⟩ => by
  have z := vl_lcV (ta := fun _ H Q => Q (.ref a) H) (g := g) (te := te) (tt := tt) (vs := vs) (σ := σ) f (fun Q q => q) (Sq.mono g1.fh hq) g1.fh hd hn fun i b x F2 H2 Y Nn e2 g2 => hs i b x F2 H2 Y Nn e2 (g1.trans g2)
  subst e
  exact z Q fun v F2 H2 g2 => q v F2 H2 (g1.trans g2)
theorem fm_map (f : α → PyData) : ∀ as : List α, as.filterMap (fun a => some (f a)) = as.map f
  | [] => rfl
  | a :: r => by rw [List.filterMap_cons, List.map_cons, fm_map f r]
/-- [e for x in l] -/
theorem vl_lcM {vs : List Nat} (f : α → PyData) (ha : Vp ta σ F H fun v F2 => Qp K F2 v (as.map D)) (hn : as.length ≤ sizeLine)
    (hs : ∀ (i : Nat) (a : α) x F2 H2 (Y : VK), as[i]? = some a → Gr [] F H F2 H2 → Dp K F2 x (D a) → (∀ y F4 H4, Gr [] F2 H2 F4 H4 → Dp K F4 y (f a) → Y y H4) → g x (wipe σ vs) H2 fun σ2 H3 => wipe σ2 vs = wipe σ vs ∧ te σ2 H3 Y) :
    Vp (tLc (iSq K ta) g tYes te vs) σ F H fun v F2 => Lp K F2 v (as.map f) := by
  have z := vl_lc (g := g) (te := te) (tt := tYes) (vs := vs) (fun a => some (f a)) ha hn fun i a x F2 H2 Y Nn e g2 dx kY kN => hs i a x F2 H2 Y e g2 dx fun y F4 H4 => kY y _ F4 H4 rfl
  rw [fm_map] at z
  exact z
theorem vl_lcVM {vs : List Nat} {a0 : Addr} {xs : List V} (f : α → PyData) (ha : Vl ta σ H (.ref a0)) (hq : Sq K H a0 xs) (s : Same F H) (hd : DpAll K F xs (as.map D)) (hn : as.length ≤ sizeLine)
    (hs : ∀ (i : Nat) (a : α) x F2 H2 (Y : VK), as[i]? = some a → Gr [] F H F2 H2 → Dp K F2 x (D a) → (∀ y F4 H4, Gr [] F2 H2 F4 H4 → Dp K F4 y (f a) → Y y H4) → g x (wipe σ vs) H2 fun σ2 H3 => wipe σ2 vs = wipe σ vs ∧ te σ2 H3 Y) :
    Vp (tLc (iSq K ta) g tYes te vs) σ F H fun v F2 => Lp K F2 v (as.map f) := by
  have z := vl_lcV (g := g) (te := te) (tt := tYes) (vs := vs) (fun a => some (f a)) ha hq s hd hn fun i a x F2 H2 Y Nn e g2 dx kY kN => hs i a x F2 H2 Y e g2 dx fun y F4 H4 => kY y _ F4 H4 rfl
  rw [fm_map] at z
  exact z
/-- [e for c in x if ..], x a text -/
theorem lcStr {vs : List Nat} {x : Str} {Q : VK} (ha : Vl ta σ H (.str x)) (s : Same F H) (hn : x.length ≤ sizeLine) (P : Nat → List V → Hp → Prop) (h0 : P 0 [] F)
    (hs : ∀ (i c : Nat) acc F' H' (Y : VK) (Nn : Hp → Prop), x.cps.toList[i]? = some c → P i acc F' → Gr [] F H F' H' → (∀ y F4 H4, Gr [] F' H' F4 H4 → P (i + 1) (acc ++ [y]) F4 → Y y H4) → (∀ F4 H4, Gr [] F' H' F4 H4 → P (i + 1) acc F4 → Nn H4) →
      g (.str ⟨#[c]⟩) (wipe σ vs) H' fun σ2 H2 => wipe σ2 vs = wipe σ vs ∧ tt σ2 H2 fun b H3 => if b = true then te σ2 H3 Y else Nn H3)
    (hd : ∀ N acc F' H', H N = none → Gr [] F H F' H' → H' N = some (.lst acc) → F' N = none → P x.length acc F' → Q (.ref N) H') : tLc (iStr ta) g tt te vs σ H Q :=
  ha _ ⟨x, rfl, fun N hN => lc_gr (F := F) (n := x.cps.size) (Z := fun i v => ∃ c, x.cps[i]? = some c ∧ v = .str ⟨#[c]⟩) walk_str s hN P (fun _ _ => trivial) h0 hn (fun i y acc F2 H2 Y Nn hi z p gg kY kN => by
    obtain ⟨c, hc, rfl⟩ := z
    exact hs i c acc F2 H2 Y Nn (by rw [Array.getElem?_toList]; exact hc) p gg kY kN) fun acc F2 H2 gg eN fN _ p => hd N acc F2 H2 hN gg eN fN p⟩
/-- [e for k in range(n)] -/
theorem vl_lcRng {vs : List Nat} {n : Nat} (f : Nat → PyData) (ha : ∀ Q : List V → Hp → Prop, Q [.int (n : Nat)] H → tl σ H Q) (s : Same F H) (hn : n ≤ 1000000)
    (hs : ∀ (k : Nat) F2 H2 (Y : VK), k < n → Gr [] F H F2 H2 → (∀ y F4 H4, Gr [] F2 H2 F4 H4 → Dp K F4 y (f k) → Y y H4) → g (.int (k : Nat)) (wipe σ vs) H2 fun σ2 H3 => wipe σ2 vs = wipe σ vs ∧ te σ2 H3 Y) :
    Vp (tLc (iRng1 tl) g tYes te vs) σ F H fun v F2 => Lp K F2 v ((List.range n).map f) := fun Q q => by
  have nz : n ≤ sizeLine := Nat.le_trans hn (by decide)
  refine ha _ ⟨(n : Nat), rfl, by omega, by omega, fun N hN => ?_⟩
  rw [show ((n : Nat) : Int).toNat = n from Int.toNat_natCast n]
  refine lc_gr (F := F) (n := n) (Z := fun i v => v = .int ((0 : Int) + (i : Nat))) walk_range s hN (fun i acc F' => DpAll K F' acc ((List.range i).map f)) (fun _ _ => trivial) .nil nz ?_ ?_
  · rintro i y acc F2 H2 Y Nn hi rfl pd g2 kY kN
    rw [Int.zero_add]
    exact hs i F2 H2 Y hi g2 fun y F4 H4 g4 dy => kY y F4 H4 g4 (by
      rw [List.range_succ, List.map_append]
      exact (DpAll.mono g4.ff pd).snoc dy)
  · intro acc F2 H2 g2 eN fN lN pd
    exact q _ _ _ (g2.still eN hN fN) ⟨N, acc, rfl, upd_same, DpAll.mono (Evl.Ex.new fN) pd⟩
theorem yes {Y : VK} {Nn : Hp → Prop} (h : te σ H Y) : tYes σ H fun b H3 => if b = true then te σ H3 Y else Nn H3 := h
theorem cb1 {r : List V → Hp → VK → Prop} {Q : VK} (h : te σ H fun v H1 => r [v] H1 Q) : tCB r (tCons te tNil) σ H Q := h
theorem cl1 {sp : Sp} {E : XK} {Q : VK} (h : te σ H fun v H1 => sp [v] H1 Q E) : tCall sp [] E (tCons te tNil) σ H Q := h
/-- tuple(l), l new -/
theorem vt_tuple (h : Vp te σ F H fun v F2 => Lp K F2 v ds) : Vp (tCB (fun xs H Q => ∃ p ys, xs = [.ref p] ∧ ((SqL K H p ys ∧ ∀ l, H l = none → Q (.ref l) (upd H l (.tup ys))) ∨ (SqT K H p ys ∧ Q (.ref p) H))) (tCons te tNil)) σ F H fun v F2 => Tp K F2 v ds :=
  fun Q q => h _ fun v F2 H2 g p => by
    obtain ⟨a, xs, rfl, e, dp⟩ := p
    refine ⟨a, xs, rfl, .inl ⟨Evl.sq_of (g.fh _ _ e), fun l hl => ?_⟩⟩
    exact q _ _ _ (g.new hl) ⟨l, xs, rfl, upd_same, DpAll.mono (Evl.Ex.new (g.freshF hl)) dp⟩
/-- tuple(x), any x -/
theorem vg_tupleOf (h : Vp te σ F H fun v F2 => Qp K F2 v ds) : Vg K (tCB (fun xs H Q => ∃ p ys, xs = [.ref p] ∧ ((SqL K H p ys ∧ ∀ l, H l = none → Q (.ref l) (upd H l (.tup ys))) ∨ (SqT K H p ys ∧ Q (.ref p) H))) (tCons te tNil)) σ F H (.tuple ds) :=
  fun Q q => h _ fun v F2 H2 g p => by
    obtain ⟨a, xs, rfl, s, dp⟩ := p
    rcases s with s | s
    · refine ⟨a, xs, rfl, .inl ⟨g.fh.seq s, fun l hl => ?_⟩⟩
      exact q _ _ _ (g.new hl) (Dp.newT upd_same (DpAll.mono (Evl.Ex.new (g.freshF hl)) dp))
    · exact ⟨a, xs, rfl, .inr ⟨Same.sqt g.fh s, q _ _ _ g (.tup s dp)⟩⟩
/-- list(x): a new one, that may be written -/
theorem list_own {Q : VK} (h : Vp te σ F H fun v F2 => Qp K F2 v ds) (q : ∀ l xs F2 H2, Gr [] F H F2 H2 → H2 l = none → DpAll K F2 xs ds → Q (.ref l) (upd H2 l (.lst xs))) :
    tCB (fun xs H Q => ∃ p ys, xs = [.ref p] ∧ (SqL K H p ys ∨ SqT K H p ys) ∧ ∀ l, H l = none → Q (.ref l) (upd H l (.lst ys))) (tCons te tNil) σ H Q := h _ fun v F2 H2 g p => by
  obtain ⟨a, xs, rfl, s, dp⟩ := p
  exact ⟨a, xs, rfl, Sq.mono g.fh s, fun l hl => q l xs F2 H2 g hl dp⟩
/-- list(x), not written any more -/
theorem vl_listOf (h : Vp te σ F H fun v F2 => Qp K F2 v ds) : Vp (tCB (fun xs H Q => ∃ p ys, xs = [.ref p] ∧ (SqL K H p ys ∨ SqT K H p ys) ∧ ∀ l, H l = none → Q (.ref l) (upd H l (.lst ys))) (tCons te tNil)) σ F H fun v F2 => Lp K F2 v ds :=
  fun Q q => list_own h fun l xs F2 H2 g hl dp => q _ _ _ (g.new hl) ⟨l, xs, rfl, upd_same, DpAll.mono (Evl.Ex.new (g.freshF hl)) dp⟩
/-- self.f = e -/
theorem fldP {N Bk Ct : L2.St → Hp → Prop} {Rt : VK} {j : Nat} {a C : Addr} {f : Str} (h : Vp te σ F H P) (hj : σ[j]? = some (some (.ref a))) (c : Cls K C) (n : NoAttr K C f)
    (k : ∀ v F2 H2, Gr [] F H F2 H2 → P v F2 → ∃ dx fs, H2 a = some (.ins C dx fs) ∧ fs.length < 1000 ∧ N σ (upd H2 a (.ins C dx (putF f v fs)))) : sFld K (tVar j) te f ⟨N, Rt, Bk, Ct⟩ σ H := h _ fun v F2 H2 g p => by
  obtain ⟨dx, fs, e, l, z⟩ := k v F2 H2 g p
  exact ⟨_, hj, a, C, dx, fs, rfl, e, c, n, l, z⟩
/-- e.f, e in the part that stays -/
theorem vp_fld {j : Nat} {a C dx : Addr} {f : Str} {fs : List (Str × V)} {x : V} (s : Same F H) (hj : σ[j]? = some (some (.ref a))) (e : F a = some (.ins C dx fs)) (c : Cls K C) (n : NoAttr K C f) (l : fs.lookup f = some x) (p : P x F) : Vp (tFld K (tVar j) f) σ F H P :=
  fun Q q => ⟨_, hj, a, C, dx, fs, x, rfl, s _ _ e, c, n, l, q x F H (Gr.refl s) p⟩
end
/-- a list or tuple, where nothing but instances is written -/
theorem sq_off {K : PySem.W.Frag} {M : List Addr} {F H F1 H1 : Hp} {l : Addr} {xs : List V} (g : Gr M F H F1 H1) (hM : ∀ b ∈ M, ∃ C dx fs, H b = some (.ins C dx fs)) (hq : Sq K H l xs) : Sq K H1 l xs := by
  have rd : ∀ {u : HO}, (∀ C dx fs, u ≠ .ins C dx fs) → Rd H l u → Rd H1 l u := fun {u} nu h => by
    have go : ∀ o, (∀ C dx fs, o ≠ .ins C dx fs) → H l = some o → H1 l = some o := fun o no e => g.hh l o (fun z => by
      obtain ⟨C, dx, fs, e2⟩ := hM l z
      rw [e] at e2; cases e2
      exact no _ _ _ rfl) e
    rcases h with h | ⟨o, h⟩
    · exact .inl (go _ nu h)
    · exact .inr ⟨o, go _ (fun _ _ _ z => nomatch z) h⟩
  rcases hq with (h | h) | (h | h)
  · exact .inl (.inl (rd (fun _ _ _ z => nomatch z) h))
  · exact .inl (.inr h)
  · exact .inr (.inl (rd (fun _ _ _ z => nomatch z) h))
  · exact .inr (.inr h)
end B

set_option Elab.async false
set_option linter.all false
set_option maxRecDepth 100000
set_option maxHeartbeats 4000000
/-! except (C1, C2): .., where nothing else can fly. -/
namespace B
open PySem PySem.Spec PyProof.Rows L2 L2H
theorem fly_keep {base h h' : Heap} {l : List Env} {e : Addr} {Z : Obj → Prop} (x : HandSPX.FlyingZ base l e Z h) (k : ∀ b o, h.get? b = some o → h'.get? b = some o) : HandSPX.FlyingZ base l e Z h' := by
  obtain ⟨f1, f2, f3, oe, vs, T, oT, ts, f4, f5, f6, f7, f8, f9, f10, f11, f12⟩ := x
  exact ⟨fun b o q => k b o (f1 b o q), f2, Heap.FunFrames.of_keeps (fun b o q _ => ⟨o, k b o q, rfl⟩) f3, oe, vs, T, oT, ts, k _ _ f4, f5, f6, f7, f8, f9, k _ _ f10, f11, f12⟩
def wTup (K : PySem.W.Frag) (cs : List Value) (ts : Addr → Value → Option Addr → TS) (D : Ends) : WX := fun cls d σ H => PySem.W.exmAny K cls cs = some true ∧ ∀ a, H a = none → ts a cls d D σ H
section
variable {X : Cx} {x1 x2 : Str} {C1 C2 : Addr} {body suite : List Stmt} {b₀ : Stmt} {p1 p2 tp pos pos' : Pos} {kk : Nat} {tb : WX → TS} {ts : Addr → Value → Option Addr → TS} {Wout : WX}
theorem ps_tryT (hs : X.stack = X.env :: X.outer) (hf : X.env.frame = some X.env.locals) (m1 : X.mg x1 = some (.ref C1)) (m2 : X.mg x2 = some (.ref C2)) (l1 : Gl X x1) (l2 : Gl X x2) (d1 : (x1 == ("__debug__" : Str)) = false) (d2 : (x2 == ("__debug__" : Str)) = false)
    (hpa : ∀ hd : Option Value, PassesOwnAt (model X.prog X.w) (X.A.mark hd) X.A X.env X.xe) (tk : L2.Takes X Wout) (hb : ∀ (W : WX) (pn : List (Addr × Obj)) (xe : Value → Shared → Prop), L2N.Takes (X.tr pn xe) W → PassesOwn (model X.prog X.w) X.A X.env xe → PSs (X.tr pn xe) body (tb W))
    (hsu : ∀ (a : Addr) (oe : Obj) (cls : Value) (d : Option Addr) (pn : List (Addr × Obj)), L2N.Zn cls d oe → (∃ vs, oe.data = .fields vs) → L2.Takes (suiteX X a ((a, oe) :: pn)) Wout → HotC (suiteX X a ((a, oe) :: pn)) → PSs (suiteX X a ((a, oe) :: pn)) (b₀ :: suite) (ts a cls d)) :
    PS X (.Try body [.ExceptHandler (some (.Tuple [.Name x1 p1, .Name x2 p2] kk tp)) none (b₀ :: suite) pos'] [] [] pos) (fun D σ H => tb (wTup X.K [.ref C1, .ref C2] ts D) D σ H) := by
  constructor
  intro pins s σ H D I h
  have okX := I.ok
  have frs_ : X.A.frames = some (X.env :: X.outer) := okX.frames.trans (congrArg some hs)
  refine wpAny_Try_except (wpAny_mono ((hb (wTup X.K [.ref C1, .ref C2] ts D) (X.pn ++ pins) (fun e z1 => wpAny (model X.prog X.w) X.A (noteFrame e X.env) (fun _ z2 => wpAny (model X.prog X.w) X.A (setFlight e none) (fun _ z3 =>
    wpAny (model X.prog X.w) X.A (handleBy e X.env [.ExceptHandler (some (.Tuple [.Name x1 p1, .Name x2 p2] kk tp)) none (b₀ :: suite) pos']) (SP X pins D) X.xe z3) X.xe z2) X.xe z1) ?_ PassesOwn.looking).run [] s σ H D (I.toTry _) h) ?_ (fun _ _ z => z))
  · rintro u s' ⟨a, B, sI, pins', σ', H', cls, d, rfl, J', nb, up, sky, na, os, ag, hm, hyes⟩
    have J : Inv X pins σ' H' sI := J'.ofTry okX
    show wpAny (model X.prog X.w) X.A (noteFrame (.ref a) X.env) _ _ _
    refine L2N.Sky.land L2N.Zn.steady frs_ hf (show Sky B (X.env :: X.outer) a (L2N.Zn cls d) X.env.locals s'.heap by rw [← hs]; exact sky) fun h3 fl3 up3 => ?_
    have J3 : Inv X pins σ' H' { s' with heap := h3 } := J.landed nb fl3.1 (up.trans up3) os ag
    obtain ⟨oe3, vs3, he3, hz3, hd3⟩ := fl3.there
    have off : a ∉ frs (X.env :: X.outer) := fun q => by
      obtain ⟨_, o', e', no⟩ := fl3.2.2.1.mem q
      rw [he3] at e'; cases e'
      exact no _ hd3
    have nL : a ≠ X.env.locals := fun z => off (List.mem_filterMap.mpr ⟨X.env, List.mem_cons_self, by rw [hf, z]⟩)
    have nF : a ∉ X.fs := fun q => by
      obtain ⟨e, q1, q2⟩ := List.mem_filterMap.mp q
      exact off (List.mem_filterMap.mpr ⟨e, List.mem_cons_of_mem _ q1, q2⟩)
    have S3 := J3.suite he3 hd3 na nL nF
    have LT : PySem.W.Looks (model X.prog X.w) h3 (typeOf (.ref a)) cls := fun A Q E s k q => wpAny_typeOf_ref (k _ _ he3) (by rw [hz3.1]; exact q)
    refine wpAny_handleBy_cons (codeAny_handlers_test (wpAny_Tuple (wpAny_items_cons (ld_glob (X := X.suite a ((a, oe3) :: (X.pn ++ pins))) S3 l1 m1 (wpAny_items_cons (ld_glob (X := X.suite a ((a, oe3) :: (X.pn ++ pins))) S3 l2 m2 (wpAny_items_nil ⟨show 2 ≤ sizeLine by decide, ?_⟩) d2)) d1)))) (by intro q; cases q)
    have kp : ∀ q o, h3.get? q = some o → (h3.push { cls := .type "tuple", data := .seq [Value.ref C1, .ref C2].toArray }).get? q = some o := fun _ _ z => Heap.get?_push_of_some _ z
    have K5 := J3.kept (t' := s'.toks) (h' := h3.push { cls := .type "tuple", data := .seq [Value.ref C1, .ref C2].toArray }) kp
    have LM := PySem.W.exm_tup2 (M := model X.prog X.w) (K5.kIn) (LT.keeps kp) (Heap.get?_push_size h3 rfl) hm
    refine LM.here (codeAny_handlers_suite (HandSPX.lands_againZ (fly_keep fl3 kp) fun h4 fl4 up4 => ?_))
    have upP : h3.UpToSlots (h3.push { cls := .type "tuple", data := .seq [Value.ref C1, .ref C2].toArray }) := fun b o q _ => ⟨o.slots, kp b o q⟩
    have J4 : Inv X pins σ' H' { s' with heap := h4 } := J.landed nb fl4.1 (((up.trans up3).trans upP).trans up4) os ag
    obtain ⟨oe4, vs4, he4, hz4, hd4⟩ := fl4.there
    have S4 := J4.suite he4 hd4 na nL nF
    have tkS : L2.Takes (suiteX X a ((a, oe4) :: (X.pn ++ pins))) Wout := by
      rintro u2 s2 ⟨a2, B2, sI2, pn2, σ2, H2, cls2, d2, e2, I2, nb2, up2, sky2, na2, os2, ag2, w2⟩
      exact tk u2 s2 ⟨a2, B2, sI2, pins, σ2, H2, cls2, d2, e2, unsuiteX I2 okX, nb2, up2, sky2, na2, os2, ag2, w2⟩
    have hot : HotC (suiteX X a ((a, oe4) :: (X.pn ++ pins))) := ⟨(a, oe4), ⟨rfl, vs4, hd4, hz4.2.2 vs4 hd4⟩, List.mem_cons_self⟩
    refine wpAny_mono ((hsu a oe4 cls d (X.pn ++ pins) hz4 ⟨_, hd4⟩ tkS hot).run [] _ _ H' _ (suiteX_of S4) (hyes a na)) ?_ (fun e6 s6 z => hpa (some (.ref a)) e6 s6 z)
    intro f s6 hsp
    cases f with
    | next => obtain ⟨σ6, H6, S6, q6⟩ := hsp; exact ⟨_, _, unsuiteX S6 okX, q6⟩
    | brk => obtain ⟨σ6, H6, S6, q6⟩ := hsp; exact ⟨_, _, unsuiteX S6 okX, q6⟩
    | cont => obtain ⟨σ6, H6, S6, q6⟩ := hsp; exact ⟨_, _, unsuiteX S6 okX, q6⟩
    | ret u => obtain ⟨v6, σ6, H6, S6, r6, q6⟩ := hsp; exact ⟨_, _, _, unsuiteX S6 okX, r6, q6⟩
  · intro f s1 hsp
    cases f with
    | next => obtain ⟨σ', H', J', q⟩ := hsp; exact wpAny_execs_nil ⟨σ', H', J'.ofTry okX, q⟩
    | brk => obtain ⟨σ', H', J', q⟩ := hsp; exact ⟨σ', H', J'.ofTry okX, q⟩
    | cont => obtain ⟨σ', H', J', q⟩ := hsp; exact ⟨σ', H', J'.ofTry okX, q⟩
    | ret u => obtain ⟨v, σ', H', J', r, q⟩ := hsp; exact ⟨v, σ', H', J'.ofTry okX, r, q⟩
end
end B

set_option Elab.async false
set_option linter.all false
set_option maxRecDepth 100000
set_option maxHeartbeats 4000000
/-! A for over data; texts. -/
namespace B
open PySem PySem.Spec PyProof.Rows L2
section
variable {K : PySem.W.Frag} {te ta tb : TE} {g : TG} {t : TS} {σ : L2.St} {F H : Hp} {α : Type} {as : List α} {D : α → PyData} {N Bk Ct : L2.St → Hp → Prop} {Rt : VK}
/-- for .. in l, l data; M what may be written on the way -/
theorem forD (M : List Addr) (ha : Vp te σ F H fun v F2 => Qp K F2 v (as.map D)) (Pv : Nat → L2.St → Hp → Hp → Prop) (h0 : ∀ F1 H1, Gr [] F H F1 H1 → Pv 0 σ F1 H1)
    (hs : ∀ (i : Nat) (a : α) x F1 H1 σ' F' H', Gr [] F H F1 H1 → as[i]? = some a → Gr M F1 H1 F' H' → Pv i σ' F' H' → Dp K F' x (D a) → g x σ' H' fun σ2 H2 => t ⟨fun σ3 H3 => ∃ F3, Gr M F1 H1 F3 H3 ∧ Pv (i + 1) σ3 F3 H3, Rt, N, fun σ3 H3 => ∃ F3, Gr M F1 H1 F3 H3 ∧ Pv (i + 1) σ3 F3 H3⟩ σ2 H2)
    (hd : ∀ F1 H1 σ' F' H', Gr [] F H F1 H1 → Gr M F1 H1 F' H' → Pv as.length σ' F' H' → N σ' H') : tFor (iSq K te) g t ⟨N, Rt, Bk, Ct⟩ σ H := ha _ fun v F1 H1 g1 p => by
  obtain ⟨a, xs, e, hq, dp⟩ := p
  have hl : xs.length = as.length := by rw [dp.length, List.length_map]
  have sat : ∀ {F' H' : Hp}, Gr M F1 H1 F' H' → Sat a F1 H' := fun y o z => y.fh a o (y.ff a o z)
  refine ⟨a, xs, F1, e, hq, fun o z => g1.fh a o z, fun J G w hG => ?_⟩
  refine for_it (D := ⟨N, Rt, Bk, Ct⟩) w (fun i σ' H' => ∃ F', Gr M F1 H1 F' H' ∧ Pv i σ' F' H') ⟨F1, Gr.refl g1.fh, h0 F1 H1 g1⟩ (fun i σ' H' hi q => hG H' (sat q.choose_spec.1)) ?_ ?_
  · rintro i x σ' H2 H' hi ⟨F', y, pv⟩ ⟨rfl, ex⟩
    obtain ⟨b, e1, dx⟩ := dpAll_map (DpAll.mono y.ff dp) ex
    exact hs i b x F1 H1 σ' F' H' g1 e1 y pv dx
  · rintro σ' H' ⟨F', y, pv⟩
    rw [hl] at pv
    exact hd F1 H1 σ' F' H' g1 y pv
/-! texts -/
theorem vl_split {x y : Str} (ha : Vg K ta σ F H (.str x)) (hb : Ev F H fun F2 H2 => Vg K tb σ F2 H2 (.str y)) (hy : (y.length == 0) = false) (hl : x.length + 2 ≤ sizeLine) :
    Vp (tM1 (fun x xs H Q => ∃ a b, x = .str a ∧ xs = [.str b] ∧ (b.length == 0) = false ∧ a.length + 2 ≤ sizeLine ∧ rNewStrs (Txt.split a b) H Q) ta tb) σ F H fun v F2 => Lp K F2 v ((Txt.split x y).map .str) := fun Q q => ha _ fun v F2 H2 g2 p => by
  cases p
  refine ⟨⟨_, rfl⟩, hb F2 H2 g2 _ fun u F3 H3 g3 p => ?_⟩
  cases p
  refine ⟨x, y, rfl, rfl, hy, hl, fun a na => q _ _ _ ((g2.trans g3).new na) ⟨a, _, rfl, upd_same, DpAll.strs _⟩⟩
theorem vt_part {x y : Str} (ha : Vg K ta σ F H (.str x)) (hb : Ev F H fun F2 H2 => Vg K tb σ F2 H2 (.str y)) (hy : (y.length == 0) = false) (hl : x.length ≤ sizeLine) :
    Vp (tM1 (fun x xs H Q => ∃ a b, x = .str a ∧ xs = [.str b] ∧ (b.length == 0) = false ∧ a.length ≤ sizeLine ∧ ∀ p, H p = none → Q (.ref p) (upd H p (.tup [.str (Txt.partition a b).1, .str (Txt.partition a b).2.1, .str (Txt.partition a b).2.2]))) ta tb) σ F H
      fun v F2 => ∃ a, v = .ref a ∧ F2 a = some (.tup [.str (Txt.partition x y).1, .str (Txt.partition x y).2.1, .str (Txt.partition x y).2.2]) := fun Q q => ha _ fun v F2 H2 g2 p => by
  cases p
  refine ⟨⟨_, rfl⟩, hb F2 H2 g2 _ fun u F3 H3 g3 p => ?_⟩
  cases p
  exact ⟨x, y, rfl, rfl, hy, hl, fun a na => q _ _ _ ((g2.trans g3).new na) ⟨a, rfl, upd_same⟩⟩
theorem vg_join {x : Str} {ys : List Str} (ha : Vg K ta σ F H (.str x)) (hb : Ev F H fun F2 H2 => Vp tb σ F2 H2 fun v F3 => Lp K F3 v (ys.map .str)) (hl : (ys.map (·.length)).sum + ys.length * x.length ≤ 16777216) :
    Vg K (tM1 (fun x xs H Q => ∃ a p, ∃ ys : List Str, x = .str a ∧ xs = [.ref p] ∧ (SqL K H p (ys.map V.str) ∨ SqT K H p (ys.map V.str)) ∧ (ys.map (·.length)).sum + ys.length * a.length ≤ 16777216 ∧ Q (.str (Txt.join a ys)) H) ta tb) σ F H (.str (Txt.join x ys)) := fun Q q => ha _ fun v F2 H2 g2 p => by
  cases p
  refine ⟨⟨_, rfl⟩, hb F2 H2 g2 _ fun u F3 H3 g3 p => ?_⟩
  obtain ⟨a, xs, rfl, e, dp⟩ := p
  rw [dp.strs_of] at e
  exact ⟨x, a, ys, rfl, rfl, .inl (Evl.sq_of (g3.fh _ _ e)), hl, q _ F3 H3 (g2.trans g3) (.str _)⟩
end
open TL
theorem spl_len (S : List Nat) : ∀ (l : List Nat) (k : Nat) (acc : List Nat), ∀ w ∈ spl S k acc l, w.length ≤ acc.length + l.length
  | [], k, acc, w, hw => by
    rw [spl_nil] at hw
    rw [List.mem_singleton.mp hw]; exact Nat.le_refl _
  | c :: r, 0, acc, w, hw => by
    by_cases h : pre S (c :: r) = true
    · rw [spl_hit h] at hw
      rcases List.mem_cons.mp hw with rfl | hw
      · exact Nat.le_add_right _ _
      · have := spl_len S r (S.length - 1) [] w hw
        simp only [List.length_nil, List.length_cons] at this ⊢; omega
    · rw [spl_miss (by simpa using h)] at hw
      have := spl_len S r 0 (acc ++ [c]) w hw
      simp only [List.length_append, List.length_cons, List.length_nil] at this ⊢; omega
  | c :: r, k + 1, acc, w, hw => by
    have := spl_len S r k acc w hw
    simp only [List.length_cons]; omega
theorem split_word {x y : Str} (hy : tl y ≠ []) (hk : ¬ Builtin.Str.strKind x < Builtin.Str.strKind y) {w : Str} (h : w ∈ Txt.split x y) : w.length ≤ x.length := by
  have e := split_spl x y hy hk
  have m : tl w ∈ spl (tl y) 0 [] (tl x) := by rw [← e]; exact List.mem_map_of_mem h
  have := spl_len (tl y) (tl x) 0 [] _ m
  rw [len_tl w, len_tl x]; simpa using this
/-- one sign s: what split and partition find -/
theorem par_spl (s : Nat) : ∀ (l acc : List Nat), (par [s] acc l = none → spl [s] 0 acc l = [acc ++ l]) ∧ (∀ a b, par [s] acc l = some (a, b) → spl [s] 0 acc l = a :: spl [s] 0 [] b)
  | [], acc => ⟨fun _ => by rw [spl_nil, List.append_nil], fun a b h => by cases h⟩
  | c :: r, acc => by
    have ih := par_spl s r (acc ++ [c])
    by_cases h : pre [s] (c :: r) = true
    · rw [par_hit h, spl_hit h]
      refine ⟨fun z => (nomatch z), fun a b z => ?_⟩
      have z := Option.some.inj z
      have e1 : acc = a := congrArg Prod.fst z
      have e2 : r = b := congrArg Prod.snd z
      rw [← e1, ← e2]; rfl
    · have h : pre [s] (c :: r) = false := by simpa using h
      rw [par_miss h, spl_miss h]
      exact ⟨fun z => by rw [ih.1 z, List.append_assoc]; rfl, ih.2⟩
theorem spl_two (s : Nat) : ∀ (l acc : List Nat), s ∈ l → 2 ≤ (spl [s] 0 acc l).length
  | [], _, h => by cases h
  | c :: r, acc, h => by
    by_cases e : pre [s] (c :: r) = true
    · rw [spl_hit e]
      have : 1 ≤ (spl [s] ([s].length - 1) [] r).length := by
        show 1 ≤ (spl [s] 0 [] r).length
        cases r with
        | nil => rw [spl_nil]; exact Nat.le_refl _
        | cons c2 r2 =>
          by_cases e2 : pre [s] (c2 :: r2) = true
          · rw [spl_hit e2]; exact Nat.succ_le_succ (Nat.zero_le _)
          · cases hx : spl [s] 0 [] (c2 :: r2) with
            | nil =>
              exfalso
              have z := (par_spl s (c2 :: r2) [])
              cases hp : par [s] [] (c2 :: r2) with
              | none => rw [z.1 hp] at hx; cases hx
              | some q => rw [z.2 q.1 q.2 hp] at hx; cases hx
            | cons _ _ => exact Nat.succ_le_succ (Nat.zero_le _)
      rw [List.length_cons]; omega
    · have e' : pre [s] (c :: r) = false := by simpa using e
      rw [spl_miss e']
      have ne : c ≠ s := fun z => by
        subst z
        exact e (by simp [pre])
      rcases List.mem_cons.mp h with rfl | h
      · exact absurd rfl ne
      · exact spl_two s r _ h
end B

set_option Elab.async false
set_option linter.all false
set_option maxRecDepth 100000
set_option maxHeartbeats 4000000
/-! Printed by gen.py: the text by places, slots, the facts of the top by names. -/
namespace K93
open PySem PySem.Spec PyProof.Rows L2 B
def top (i : Nat) : Stmt := PySem.Challenge.pw_learntbyasking_k93_signatures_kept.main.body.getD i (.Pass ⟨0, 0, 0, 0⟩)
abbrev s_BadLetter_init : Stmt := inClass (top 2) 0
abbrev s_NoLetter_init : Stmt := inClass (top 4) 0
abbrev s_BadText_init : Stmt := inClass (top 5) 0
abbrev s_BadGauge_init : Stmt := inClass (top 6) 0
abbrev s_is_name : Stmt := top 13
abbrev s_letter_entries : Stmt := top 14
abbrev s_Signature_init : Stmt := inClass (top 15) 0
abbrev s_Signature_eq : Stmt := inClass (top 15) 1
abbrev s_Signature_of_words : Stmt := inClass (top 15) 2
abbrev s_Signature_is_words : Stmt := inClass (top 15) 3
abbrev s_Signature_arity : Stmt := inClass (top 15) 4
abbrev s_Signature_position : Stmt := inClass (top 15) 5
abbrev s_Signature_entries : Stmt := inClass (top 15) 6
abbrev s_signature_text : Stmt := top 18
abbrev s_read_signature : Stmt := top 19
abbrev s__law_cells : Stmt := top 21
abbrev s__law_draw : Stmt := top 22
abbrev s__law_pick : Stmt := top 23
abbrev s__law_same : Stmt := top 24
abbrev s__law_called : Stmt := top 25
abbrev s__law_alphabet : Stmt := top 26
abbrev s__law_is_name : Stmt := top 27
abbrev s__law_fault : Stmt := top 28
abbrev s__law_facing : Stmt := top 29
abbrev s__law_worded : Stmt := top 30
abbrev s__law_named : Stmt := top 31
abbrev s__law_face : Stmt := top 32
abbrev s__law_asked : Stmt := top 33
abbrev s__law_fields : Stmt := top 34
abbrev s__law_variants : Stmt := top 35
abbrev s__law_made : Stmt := top 36
abbrev s__law_letters_told : Stmt := top 37
abbrev s__law_texts : Stmt := top 38
abbrev s_law : Stmt := top 39
-- slots: 0 self, 1 at
abbrev n_BadLetter_init : List Str := ["self", "at"]
theorem sc_BadLetter_init : FnScope n_BadLetter_init ["self", "at"] (defScope s_BadLetter_init) := ⟨rfl, rfl, rfl, by decide +kernel, rfl, by decide +kernel, by decide +kernel⟩
-- slots: 0 self, 1 name
abbrev n_NoLetter_init : List Str := ["self", "name"]
theorem sc_NoLetter_init : FnScope n_NoLetter_init ["self", "name"] (defScope s_NoLetter_init) := ⟨rfl, rfl, rfl, by decide +kernel, rfl, by decide +kernel, by decide +kernel⟩
-- slots: 0 self, 1 line
abbrev n_BadText_init : List Str := ["self", "line"]
theorem sc_BadText_init : FnScope n_BadText_init ["self", "line"] (defScope s_BadText_init) := ⟨rfl, rfl, rfl, by decide +kernel, rfl, by decide +kernel, by decide +kernel⟩
-- slots: 0 self, 1 at
abbrev n_BadGauge_init : List Str := ["self", "at"]
theorem sc_BadGauge_init : FnScope n_BadGauge_init ["self", "at"] (defScope s_BadGauge_init) := ⟨rfl, rfl, rfl, by decide +kernel, rfl, by decide +kernel, by decide +kernel⟩
-- slots: 0 thing, 1 char
abbrev n_is_name : List Str := ["thing", "char"]
theorem sc_is_name : FnScope n_is_name ["thing"] (defScope s_is_name) := ⟨rfl, rfl, rfl, by decide +kernel, rfl, by decide +kernel, by decide +kernel⟩
-- slots: 0 rooms, 1 arity
abbrev n_letter_entries : List Str := ["rooms", "arity"]
theorem sc_letter_entries : FnScope n_letter_entries ["rooms", "arity"] (defScope s_letter_entries) := ⟨rfl, rfl, rfl, by decide +kernel, rfl, by decide +kernel, by decide +kernel⟩
-- slots: 0 self, 1 letters, 2 arities, 3 places, 4 at, 5 name, 6 arity, 7 _+
abbrev n_Signature_init : List Str := ["self", "letters", "arities", "places", "at", "name", "arity", "_"]
theorem sc_Signature_init : FnScope n_Signature_init ["self", "letters"] (defScope s_Signature_init) := ⟨rfl, rfl, rfl, by decide +kernel, rfl, by decide +kernel, by decide +kernel⟩
-- slots: 0 self, 1 other
abbrev n_Signature_eq : List Str := ["self", "other"]
theorem sc_Signature_eq : FnScope n_Signature_eq ["self", "other"] (defScope s_Signature_eq) := ⟨rfl, rfl, rfl, by decide +kernel, rfl, by decide +kernel, by decide +kernel⟩
-- slots: 0 cls, 1 names, 2 seen, 3 at, 4 name
abbrev n_Signature_of_words : List Str := ["cls", "names", "seen", "at", "name"]
theorem sc_Signature_of_words : FnScope n_Signature_of_words ["cls", "names"] (defScope s_Signature_of_words) := ⟨rfl, rfl, rfl, by decide +kernel, rfl, by decide +kernel, by decide +kernel⟩
-- slots: 0 self, 1 constants, 2 _, 3 arity
abbrev n_Signature_is_words : List Str := ["self", "constants", "_", "arity"]
theorem sc_Signature_is_words : FnScope n_Signature_is_words ["self"] (defScope s_Signature_is_words) := ⟨rfl, rfl, rfl, by decide +kernel, rfl, by decide +kernel, by decide +kernel⟩
-- slots: 0 self, 1 name
abbrev n_Signature_arity : List Str := ["self", "name"]
theorem sc_Signature_arity : FnScope n_Signature_arity ["self", "name"] (defScope s_Signature_arity) := ⟨rfl, rfl, rfl, by decide +kernel, rfl, by decide +kernel, by decide +kernel⟩
-- slots: 0 self, 1 name
abbrev n_Signature_position : List Str := ["self", "name"]
theorem sc_Signature_position : FnScope n_Signature_position ["self", "name"] (defScope s_Signature_position) := ⟨rfl, rfl, rfl, by decide +kernel, rfl, by decide +kernel, by decide +kernel⟩
-- slots: 0 self, 1 rooms, 2 total, 3 _, 4 arity
abbrev n_Signature_entries : List Str := ["self", "rooms", "total", "_", "arity"]
theorem sc_Signature_entries : FnScope n_Signature_entries ["self", "rooms"] (defScope s_Signature_entries) := ⟨rfl, rfl, rfl, by decide +kernel, rfl, by decide +kernel, by decide +kernel⟩
-- slots: 0 signature, 1 name+, 2 arity+
abbrev n_signature_text : List Str := ["signature", "name", "arity"]
theorem sc_signature_text : FnScope n_signature_text ["signature"] (defScope s_signature_text) := ⟨rfl, rfl, rfl, by decide +kernel, rfl, by decide +kernel, by decide +kernel⟩
-- slots: 0 text, 1 letters, 2 word, 3 name, 4 _, 5 arity
abbrev n_read_signature : List Str := ["text", "letters", "word", "name", "_", "arity"]
theorem sc_read_signature : FnScope n_read_signature ["text"] (defScope s_read_signature) := ⟨rfl, rfl, rfl, by decide +kernel, rfl, by decide +kernel, by decide +kernel⟩
-- slots: 0 script, 1 cell, 2 cells, 3 seed
abbrev n__law_cells : List Str := ["script", "cell", "cells", "seed"]
theorem sc__law_cells : FnScope n__law_cells ["script"] (defScope s__law_cells) := ⟨rfl, rfl, rfl, by decide +kernel, rfl, by decide +kernel, by decide +kernel⟩
-- slots: 0 pool, 1 many, 2 mixed, 3 cell
abbrev n__law_draw : List Str := ["pool", "many", "mixed", "cell"]
theorem sc__law_draw : FnScope n__law_draw ["pool", "many"] (defScope s__law_draw) := ⟨rfl, rfl, rfl, by decide +kernel, rfl, by decide +kernel, by decide +kernel⟩
-- slots: 0 pool, 1 things
abbrev n__law_pick : List Str := ["pool", "things"]
theorem sc__law_pick : FnScope n__law_pick ["pool", "things"] (defScope s__law_pick) := ⟨rfl, rfl, rfl, by decide +kernel, rfl, by decide +kernel, by decide +kernel⟩
-- slots: 0 told, 1 due
abbrev n__law_same : List Str := ["told", "due"]
theorem sc__law_same : FnScope n__law_same ["told", "due"] (defScope s__law_same) := ⟨rfl, rfl, rfl, by decide +kernel, rfl, by decide +kernel, by decide +kernel⟩
-- slots: 0 pool, 1 names, 2 signs, 3 old, 4 at, 5 name, 6 k
abbrev n__law_called : List Str := ["pool", "names", "signs", "old", "at", "name", "k"]
theorem sc__law_called : FnScope n__law_called ["pool", "names"] (defScope s__law_called) := ⟨rfl, rfl, rfl, by decide +kernel, rfl, by decide +kernel, by decide +kernel⟩
-- slots: 0 pool, 1 letters, 2 shape, 3 menu, 4 many, 5 k, 6 name, 7 arity, 8 at, 9 row+
abbrev n__law_alphabet : List Str := ["pool", "letters", "shape", "menu", "many", "k", "name", "arity", "at", "row"]
theorem sc__law_alphabet : FnScope n__law_alphabet ["pool"] (defScope s__law_alphabet) := ⟨rfl, rfl, rfl, by decide +kernel, rfl, by decide +kernel, by decide +kernel⟩
-- slots: 0 name, 1 small*, 2 sign+
abbrev n__law_is_name : List Str := ["name", "small", "sign"]
theorem sc__law_is_name : FnScope n__law_is_name ["name"] (defScope s__law_is_name) := ⟨rfl, rfl, rfl, by decide +kernel, rfl, by decide +kernel, by decide +kernel⟩
-- slots: 0 letters, 1 names, 2 at, 3 name, 4 arity, 5 row+
abbrev n__law_fault : List Str := ["letters", "names", "at", "name", "arity", "row"]
theorem sc__law_fault : FnScope n__law_fault ["letters"] (defScope s__law_fault) := ⟨rfl, rfl, rfl, by decide +kernel, rfl, by decide +kernel, by decide +kernel⟩
-- slots: 0 letters*, 1 fault, 2 counts, 3 words, 4 row+, 5 arity+
abbrev n__law_facing : List Str := ["letters", "fault", "counts", "words", "row", "arity"]
theorem sc__law_facing : FnScope n__law_facing ["letters"] (defScope s__law_facing) := ⟨rfl, rfl, rfl, by decide +kernel, rfl, by decide +kernel, by decide +kernel⟩
-- slots: 0 names, 1 known, 2 at, 3 name+
abbrev n__law_worded : List Str := ["names", "known", "at", "name"]
theorem sc__law_worded : FnScope n__law_worded ["names"] (defScope s__law_worded) := ⟨rfl, rfl, rfl, by decide +kernel, rfl, by decide +kernel, by decide +kernel⟩
-- slots: 0 e, 1 found
abbrev n__law_named : List Str := ["e", "found"]
theorem sc__law_named : FnScope n__law_named ["e"] (defScope s__law_named) := ⟨rfl, rfl, rfl, by decide +kernel, rfl, by decide +kernel, by decide +kernel⟩
-- slots: 0 sig, 1 handed
abbrev n__law_face : List Str := ["sig", "handed"]
theorem sc__law_face : FnScope n__law_face ["sig", "handed"] (defScope s__law_face) := ⟨rfl, rfl, rfl, by decide +kernel, rfl, by decide +kernel, by decide +kernel⟩
-- slots: 0 deed, 1 sig, 2 thing, 3 handed, 4 e
abbrev n__law_asked : List Str := ["deed", "sig", "thing", "handed", "e"]
theorem sc__law_asked : FnScope n__law_asked ["deed", "sig", "thing"] (defScope s__law_asked) := ⟨rfl, rfl, rfl, by decide +kernel, rfl, by decide +kernel, by decide +kernel⟩
-- slots: 0 pool, 1 sig, 2 letters, 3 names, 4 size*, 5 due, 6 fresh, 7 name, 8 at, 9 deed, 10 row+
abbrev n__law_fields : List Str := ["pool", "sig", "letters", "names", "size", "due", "fresh", "name", "at", "deed", "row"]
theorem sc__law_fields : FnScope n__law_fields ["pool", "sig", "letters"] (defScope s__law_fields) := ⟨rfl, rfl, rfl, by decide +kernel, rfl, by decide +kernel, by decide +kernel⟩
-- slots: 0 pool, 1 letters, 2 at, 3 name, 4 arity*, 5 rows, 6 sign, 7 other, 8 k, 9 wide, 10 row+
abbrev n__law_variants : List Str := ["pool", "letters", "at", "name", "arity", "rows", "sign", "other", "k", "wide", "row"]
theorem sc__law_variants : FnScope n__law_variants ["pool", "letters"] (defScope s__law_variants) := ⟨rfl, rfl, rfl, by decide +kernel, rfl, by decide +kernel, by decide +kernel⟩
-- slots: 0 sig, 1 letters, 2 rows, 3 row, 4 due, 5 other, 6 alike, 7 names, 8 deed, 9 one+
abbrev n__law_made : List Str := ["sig", "letters", "rows", "row", "due", "other", "alike", "names", "deed", "one"]
theorem sc__law_made : FnScope n__law_made ["sig", "letters", "rows"] (defScope s__law_made) := ⟨rfl, rfl, rfl, by decide +kernel, rfl, by decide +kernel, by decide +kernel⟩
-- slots: 0 text, 1 letters, 2 word, 3 cut
abbrev n__law_letters_told : List Str := ["text", "letters", "word", "cut"]
theorem sc__law_letters_told : FnScope n__law_letters_told ["text"] (defScope s__law_letters_told) := ⟨rfl, rfl, rfl, by decide +kernel, rfl, by decide +kernel, by decide +kernel⟩
-- slots: 0 sig, 1 letters, 2 text, 3 bent, 4 sign, 5 old, 6 new, 7 word, 8 k, 9 wide, 10 other, 11 due, 12 name+, 13 arity+
abbrev n__law_texts : List Str := ["sig", "letters", "text", "bent", "sign", "old", "new", "word", "k", "wide", "other", "due", "name", "arity"]
theorem sc__law_texts : FnScope n__law_texts ["sig", "letters"] (defScope s__law_texts) := ⟨rfl, rfl, rfl, by decide +kernel, rfl, by decide +kernel, by decide +kernel⟩
-- slots: 0 script, 1 pool, 2 letters, 3 sig
abbrev n_law : List Str := ["script", "pool", "letters", "sig"]
theorem sc_law : FnScope n_law ["script"] (defScope s_law) := ⟨rfl, rfl, rfl, by decide +kernel, rfl, by decide +kernel, by decide +kernel⟩
def fx : List Fx := [
  .he (.glo "AskError"),
  .he (.glo "BadLetter"),
  .he (.glo "NoConstant"),
  .he (.glo "NoLetter"),
  .he (.glo "BadText"),
  .he (.glo "BadGauge"),
  .he (.glo "is_name"),
  .he (.glo "letter_entries"),
  .he (.glo "Signature"),
  .he (.glo "signature_text"),
  .he (.glo "read_signature"),
  .he (.glo "_law_cells"),
  .he (.glo "_law_draw"),
  .he (.glo "_law_pick"),
  .he (.glo "_law_same"),
  .he (.glo "_law_called"),
  .he (.glo "_law_alphabet"),
  .he (.glo "_law_is_name"),
  .he (.glo "_law_fault"),
  .he (.glo "_law_facing"),
  .he (.glo "_law_worded"),
  .he (.glo "_law_named"),
  .he (.glo "_law_face"),
  .he (.glo "_law_asked"),
  .he (.glo "_law_fields"),
  .he (.glo "_law_variants"),
  .he (.glo "_law_made"),
  .he (.glo "_law_letters_told"),
  .he (.glo "_law_texts"),
  .he (.glo "law"),
  .he (.str "START" "start"),
  .he (.str "SMALL" "abcdefghijklmnopqrstuvwxyz"),
  .he (.str "DIGITS" "0123456789"),
  .he (.int "MOST_LETTERS" 12),
  .he (.int "LONGEST_NAME" 8),
  .tup "ARITIES" [.str "0", .str "1", .str "2"],
  .he (.free "ValueError"),
  .he (.free "all"),
  .he (.free "classmethod"),
  .he (.free "enumerate"),
  .he (.free "int"),
  .he (.free "isinstance"),
  .he (.free "len"),
  .he (.free "list"),
  .he (.free "property"),
  .he (.free "range"),
  .he (.free "repr"),
  .he (.free "str"),
  .he (.free "sum"),
  .he (.free "tuple"),
  .he (.exc "AskError"),
  .exq "AskError",
  .err "BadLetter" "at",
  .exq "BadLetter",
  .he (.exc "NoConstant"),
  .exq "NoConstant",
  .err "NoLetter" "name",
  .exq "NoLetter",
  .err "BadText" "line",
  .exq "BadText",
  .err "BadGauge" "at",
  .exq "BadGauge",
  .he (.cls "Signature"),
  .he (.mkr "Signature"),
  .ins "Signature",
  .he (.noat "Signature" "letters"),
  .he (.noat "Signature" "names"),
  .he (.noat "Signature" "arities"),
  .he (.noat "Signature" "places"),
  .eqs "Signature",
  .cm "Signature" "of_words",
  .prop "Signature" "is_words",
  .he (.meth "Signature" "arity"),
  .he (.meth "Signature" "position"),
  .he (.meth "Signature" "entries"),
  .exm "BadLetter" "AskError" true,
  .exm "NoConstant" "AskError" true,
  .exm "NoLetter" "AskError" true,
  .exm "BadText" "AskError" true,
  .exa "BadLetter" ["BadLetter", "NoConstant"] true,
  .exa "NoConstant" ["BadLetter", "NoConstant"] true,
  .kit "BadLetter" "BadLetter" true,
  .kit "BadLetter" "NoConstant" false,
  .kit "BadLetter" "NoLetter" false,
  .kit "BadLetter" "BadText" false,
  .kit "BadLetter" "BadGauge" false,
  .kity "BadLetter" "ValueError" true,
  .kit "NoConstant" "BadLetter" false,
  .kit "NoConstant" "NoConstant" true,
  .kit "NoConstant" "NoLetter" false,
  .kit "NoConstant" "BadText" false,
  .kit "NoConstant" "BadGauge" false,
  .kity "NoConstant" "ValueError" true,
  .kit "NoLetter" "BadLetter" false,
  .kit "NoLetter" "NoConstant" false,
  .kit "NoLetter" "NoLetter" true,
  .kit "NoLetter" "BadText" false,
  .kit "NoLetter" "BadGauge" false,
  .kity "NoLetter" "ValueError" true,
  .kit "BadText" "BadLetter" false,
  .kit "BadText" "NoConstant" false,
  .kit "BadText" "NoLetter" false,
  .kit "BadText" "BadText" true,
  .kit "BadText" "BadGauge" false,
  .kity "BadText" "ValueError" true,
  .kit "Signature" "Signature" true,
  .tyk "tuple" "Signature" false,
  .tyk "list" "Signature" false,
  .tyk "int" "Signature" false,
  .nf "Signature" "tuple",
  .nf "Signature" "list",
  .nf "Signature" "int"]
def fn : List He5.DefA := [
  ⟨fun K => He.ma K (He.ga K "BadLetter") "__init__", "__init__", "BadLetter.__init__", defArgs s_BadLetter_init, defBody s_BadLetter_init, defScope s_BadLetter_init, [], []⟩,
  ⟨fun K => He.ma K (He.ga K "NoLetter") "__init__", "__init__", "NoLetter.__init__", defArgs s_NoLetter_init, defBody s_NoLetter_init, defScope s_NoLetter_init, [], []⟩,
  ⟨fun K => He.ma K (He.ga K "BadText") "__init__", "__init__", "BadText.__init__", defArgs s_BadText_init, defBody s_BadText_init, defScope s_BadText_init, [], []⟩,
  ⟨fun K => He.ma K (He.ga K "BadGauge") "__init__", "__init__", "BadGauge.__init__", defArgs s_BadGauge_init, defBody s_BadGauge_init, defScope s_BadGauge_init, [], []⟩,
  ⟨fun K => He.ga K "is_name", "is_name", "is_name", defArgs s_is_name, defBody s_is_name, defScope s_is_name, [], []⟩,
  ⟨fun K => He.ga K "letter_entries", "letter_entries", "letter_entries", defArgs s_letter_entries, defBody s_letter_entries, defScope s_letter_entries, [], []⟩,
  ⟨fun K => He.ma K (He.ga K "Signature") "__init__", "__init__", "Signature.__init__", defArgs s_Signature_init, defBody s_Signature_init, defScope s_Signature_init, [], []⟩,
  ⟨fun K => He.ma K (He.ga K "Signature") "__eq__", "__eq__", "Signature.__eq__", defArgs s_Signature_eq, defBody s_Signature_eq, defScope s_Signature_eq, [], []⟩,
  ⟨fun K => He5.wf K (He.ga K "Signature") "classmethod" "of_words", "of_words", "Signature.of_words", defArgs s_Signature_of_words, defBody s_Signature_of_words, defScope s_Signature_of_words, [], []⟩,
  ⟨fun K => pf K (He.ga K "Signature") "is_words", "is_words", "Signature.is_words", defArgs s_Signature_is_words, defBody s_Signature_is_words, defScope s_Signature_is_words, [], []⟩,
  ⟨fun K => He.ma K (He.ga K "Signature") "arity", "arity", "Signature.arity", defArgs s_Signature_arity, defBody s_Signature_arity, defScope s_Signature_arity, [], []⟩,
  ⟨fun K => He.ma K (He.ga K "Signature") "position", "position", "Signature.position", defArgs s_Signature_position, defBody s_Signature_position, defScope s_Signature_position, [], []⟩,
  ⟨fun K => He.ma K (He.ga K "Signature") "entries", "entries", "Signature.entries", defArgs s_Signature_entries, defBody s_Signature_entries, defScope s_Signature_entries, [], []⟩,
  ⟨fun K => He.ga K "signature_text", "signature_text", "signature_text", defArgs s_signature_text, defBody s_signature_text, defScope s_signature_text, [], []⟩,
  ⟨fun K => He.ga K "read_signature", "read_signature", "read_signature", defArgs s_read_signature, defBody s_read_signature, defScope s_read_signature, [], []⟩,
  ⟨fun K => He.ga K "_law_cells", "_law_cells", "_law_cells", defArgs s__law_cells, defBody s__law_cells, defScope s__law_cells, [], []⟩,
  ⟨fun K => He.ga K "_law_draw", "_law_draw", "_law_draw", defArgs s__law_draw, defBody s__law_draw, defScope s__law_draw, [], []⟩,
  ⟨fun K => He.ga K "_law_pick", "_law_pick", "_law_pick", defArgs s__law_pick, defBody s__law_pick, defScope s__law_pick, [], []⟩,
  ⟨fun K => He.ga K "_law_same", "_law_same", "_law_same", defArgs s__law_same, defBody s__law_same, defScope s__law_same, [], []⟩,
  ⟨fun K => He.ga K "_law_called", "_law_called", "_law_called", defArgs s__law_called, defBody s__law_called, defScope s__law_called, [], []⟩,
  ⟨fun K => He.ga K "_law_alphabet", "_law_alphabet", "_law_alphabet", defArgs s__law_alphabet, defBody s__law_alphabet, defScope s__law_alphabet, [], []⟩,
  ⟨fun K => He.ga K "_law_is_name", "_law_is_name", "_law_is_name", defArgs s__law_is_name, defBody s__law_is_name, defScope s__law_is_name, [], []⟩,
  ⟨fun K => He.ga K "_law_fault", "_law_fault", "_law_fault", defArgs s__law_fault, defBody s__law_fault, defScope s__law_fault, [], []⟩,
  ⟨fun K => He.ga K "_law_facing", "_law_facing", "_law_facing", defArgs s__law_facing, defBody s__law_facing, defScope s__law_facing, [], []⟩,
  ⟨fun K => He.ga K "_law_worded", "_law_worded", "_law_worded", defArgs s__law_worded, defBody s__law_worded, defScope s__law_worded, [], []⟩,
  ⟨fun K => He.ga K "_law_named", "_law_named", "_law_named", defArgs s__law_named, defBody s__law_named, defScope s__law_named, [], []⟩,
  ⟨fun K => He.ga K "_law_face", "_law_face", "_law_face", defArgs s__law_face, defBody s__law_face, defScope s__law_face, [], []⟩,
  ⟨fun K => He.ga K "_law_asked", "_law_asked", "_law_asked", defArgs s__law_asked, defBody s__law_asked, defScope s__law_asked, [], []⟩,
  ⟨fun K => He.ga K "_law_fields", "_law_fields", "_law_fields", defArgs s__law_fields, defBody s__law_fields, defScope s__law_fields, [], []⟩,
  ⟨fun K => He.ga K "_law_variants", "_law_variants", "_law_variants", defArgs s__law_variants, defBody s__law_variants, defScope s__law_variants, [], []⟩,
  ⟨fun K => He.ga K "_law_made", "_law_made", "_law_made", defArgs s__law_made, defBody s__law_made, defScope s__law_made, [], []⟩,
  ⟨fun K => He.ga K "_law_letters_told", "_law_letters_told", "_law_letters_told", defArgs s__law_letters_told, defBody s__law_letters_told, defScope s__law_letters_told, [], []⟩,
  ⟨fun K => He.ga K "_law_texts", "_law_texts", "_law_texts", defArgs s__law_texts, defBody s__law_texts, defScope s__law_texts, [], []⟩,
  ⟨fun K => He.ga K "law", "law", "law", defArgs s_law, defBody s_law, defScope s_law, [], []⟩]
/-- what the top has left -/
structure Txt (K : PySem.W.Frag) (mg : Str → Option Value) : Prop where
  c : SaysM fx fn K
  g : ∃ h : Heap, K.In h ∧ h.Ns mainGlobals mg
section
variable {K : PySem.W.Frag} {mg : Str → Option Value}
noncomputable def Txt.h (T : Txt K mg) : Heap := T.g.choose
theorem Txt.kin (T : Txt K mg) : K.In T.h := T.g.choose_spec.1
theorem Txt.ns (T : Txt K mg) : T.h.Ns mainGlobals mg := T.g.choose_spec.2
theorem Txt.g_AskError (T : Txt K mg) : mg "AskError" = some (.ref (He.ga K "AskError")) := He.glo_ok T.kin T.ns (T.c.fact (f := .he (.glo "AskError")) 0)
theorem Txt.g_BadLetter (T : Txt K mg) : mg "BadLetter" = some (.ref (He.ga K "BadLetter")) := He.glo_ok T.kin T.ns (T.c.fact (f := .he (.glo "BadLetter")) 1)
theorem Txt.g_NoConstant (T : Txt K mg) : mg "NoConstant" = some (.ref (He.ga K "NoConstant")) := He.glo_ok T.kin T.ns (T.c.fact (f := .he (.glo "NoConstant")) 2)
theorem Txt.g_NoLetter (T : Txt K mg) : mg "NoLetter" = some (.ref (He.ga K "NoLetter")) := He.glo_ok T.kin T.ns (T.c.fact (f := .he (.glo "NoLetter")) 3)
theorem Txt.g_BadText (T : Txt K mg) : mg "BadText" = some (.ref (He.ga K "BadText")) := He.glo_ok T.kin T.ns (T.c.fact (f := .he (.glo "BadText")) 4)
theorem Txt.g_BadGauge (T : Txt K mg) : mg "BadGauge" = some (.ref (He.ga K "BadGauge")) := He.glo_ok T.kin T.ns (T.c.fact (f := .he (.glo "BadGauge")) 5)
theorem Txt.g_is_name (T : Txt K mg) : mg "is_name" = some (.ref (He.ga K "is_name")) := He.glo_ok T.kin T.ns (T.c.fact (f := .he (.glo "is_name")) 6)
theorem Txt.g_letter_entries (T : Txt K mg) : mg "letter_entries" = some (.ref (He.ga K "letter_entries")) := He.glo_ok T.kin T.ns (T.c.fact (f := .he (.glo "letter_entries")) 7)
theorem Txt.g_Signature (T : Txt K mg) : mg "Signature" = some (.ref (He.ga K "Signature")) := He.glo_ok T.kin T.ns (T.c.fact (f := .he (.glo "Signature")) 8)
theorem Txt.g_signature_text (T : Txt K mg) : mg "signature_text" = some (.ref (He.ga K "signature_text")) := He.glo_ok T.kin T.ns (T.c.fact (f := .he (.glo "signature_text")) 9)
theorem Txt.g_read_signature (T : Txt K mg) : mg "read_signature" = some (.ref (He.ga K "read_signature")) := He.glo_ok T.kin T.ns (T.c.fact (f := .he (.glo "read_signature")) 10)
theorem Txt.g__law_cells (T : Txt K mg) : mg "_law_cells" = some (.ref (He.ga K "_law_cells")) := He.glo_ok T.kin T.ns (T.c.fact (f := .he (.glo "_law_cells")) 11)
theorem Txt.g__law_draw (T : Txt K mg) : mg "_law_draw" = some (.ref (He.ga K "_law_draw")) := He.glo_ok T.kin T.ns (T.c.fact (f := .he (.glo "_law_draw")) 12)
theorem Txt.g__law_pick (T : Txt K mg) : mg "_law_pick" = some (.ref (He.ga K "_law_pick")) := He.glo_ok T.kin T.ns (T.c.fact (f := .he (.glo "_law_pick")) 13)
theorem Txt.g__law_same (T : Txt K mg) : mg "_law_same" = some (.ref (He.ga K "_law_same")) := He.glo_ok T.kin T.ns (T.c.fact (f := .he (.glo "_law_same")) 14)
theorem Txt.g__law_called (T : Txt K mg) : mg "_law_called" = some (.ref (He.ga K "_law_called")) := He.glo_ok T.kin T.ns (T.c.fact (f := .he (.glo "_law_called")) 15)
theorem Txt.g__law_alphabet (T : Txt K mg) : mg "_law_alphabet" = some (.ref (He.ga K "_law_alphabet")) := He.glo_ok T.kin T.ns (T.c.fact (f := .he (.glo "_law_alphabet")) 16)
theorem Txt.g__law_is_name (T : Txt K mg) : mg "_law_is_name" = some (.ref (He.ga K "_law_is_name")) := He.glo_ok T.kin T.ns (T.c.fact (f := .he (.glo "_law_is_name")) 17)
theorem Txt.g__law_fault (T : Txt K mg) : mg "_law_fault" = some (.ref (He.ga K "_law_fault")) := He.glo_ok T.kin T.ns (T.c.fact (f := .he (.glo "_law_fault")) 18)
theorem Txt.g__law_facing (T : Txt K mg) : mg "_law_facing" = some (.ref (He.ga K "_law_facing")) := He.glo_ok T.kin T.ns (T.c.fact (f := .he (.glo "_law_facing")) 19)
theorem Txt.g__law_worded (T : Txt K mg) : mg "_law_worded" = some (.ref (He.ga K "_law_worded")) := He.glo_ok T.kin T.ns (T.c.fact (f := .he (.glo "_law_worded")) 20)
theorem Txt.g__law_named (T : Txt K mg) : mg "_law_named" = some (.ref (He.ga K "_law_named")) := He.glo_ok T.kin T.ns (T.c.fact (f := .he (.glo "_law_named")) 21)
theorem Txt.g__law_face (T : Txt K mg) : mg "_law_face" = some (.ref (He.ga K "_law_face")) := He.glo_ok T.kin T.ns (T.c.fact (f := .he (.glo "_law_face")) 22)
theorem Txt.g__law_asked (T : Txt K mg) : mg "_law_asked" = some (.ref (He.ga K "_law_asked")) := He.glo_ok T.kin T.ns (T.c.fact (f := .he (.glo "_law_asked")) 23)
theorem Txt.g__law_fields (T : Txt K mg) : mg "_law_fields" = some (.ref (He.ga K "_law_fields")) := He.glo_ok T.kin T.ns (T.c.fact (f := .he (.glo "_law_fields")) 24)
theorem Txt.g__law_variants (T : Txt K mg) : mg "_law_variants" = some (.ref (He.ga K "_law_variants")) := He.glo_ok T.kin T.ns (T.c.fact (f := .he (.glo "_law_variants")) 25)
theorem Txt.g__law_made (T : Txt K mg) : mg "_law_made" = some (.ref (He.ga K "_law_made")) := He.glo_ok T.kin T.ns (T.c.fact (f := .he (.glo "_law_made")) 26)
theorem Txt.g__law_letters_told (T : Txt K mg) : mg "_law_letters_told" = some (.ref (He.ga K "_law_letters_told")) := He.glo_ok T.kin T.ns (T.c.fact (f := .he (.glo "_law_letters_told")) 27)
theorem Txt.g__law_texts (T : Txt K mg) : mg "_law_texts" = some (.ref (He.ga K "_law_texts")) := He.glo_ok T.kin T.ns (T.c.fact (f := .he (.glo "_law_texts")) 28)
theorem Txt.g_law (T : Txt K mg) : mg "law" = some (.ref (He.ga K "law")) := He.glo_ok T.kin T.ns (T.c.fact (f := .he (.glo "law")) 29)
theorem Txt.c_START (T : Txt K mg) : ∃ t, mg "START" = some (.str "start" t) := He.str_ok T.kin T.ns (T.c.fact (f := .he (.str "START" "start")) 30)
theorem Txt.c_SMALL (T : Txt K mg) : ∃ t, mg "SMALL" = some (.str "abcdefghijklmnopqrstuvwxyz" t) := He.str_ok T.kin T.ns (T.c.fact (f := .he (.str "SMALL" "abcdefghijklmnopqrstuvwxyz")) 31)
theorem Txt.c_DIGITS (T : Txt K mg) : ∃ t, mg "DIGITS" = some (.str "0123456789" t) := He.str_ok T.kin T.ns (T.c.fact (f := .he (.str "DIGITS" "0123456789")) 32)
theorem Txt.c_MOST_LETTERS (T : Txt K mg) : ∃ t, mg "MOST_LETTERS" = some (.int 12 t) := He.int_ok T.kin T.ns (T.c.fact (f := .he (.int "MOST_LETTERS" 12)) 33)
theorem Txt.c_LONGEST_NAME (T : Txt K mg) : ∃ t, mg "LONGEST_NAME" = some (.int 8 t) := He.int_ok T.kin T.ns (T.c.fact (f := .he (.int "LONGEST_NAME" 8)) 34)
theorem Txt.t_ARITIES (T : Txt K mg) : (∀ H, SqT K H (He.ga K "ARITIES") [.str "0", .str "1", .str "2"]) ∧ mg "ARITIES" = some (.ref (He.ga K "ARITIES")) := ⟨fun H => He.tupB_ok (He.ba (T.c.fact (f := .tup "ARITIES" [.str "0", .str "1", .str "2"]) 35)).1 H, He.glo_ok (x := "ARITIES") T.kin T.ns (He.ba (T.c.fact (f := .tup "ARITIES" [.str "0", .str "1", .str "2"]) 35)).2⟩
theorem Txt.n_ValueError (T : Txt K mg) : mg "ValueError" = none := He.free_ok T.kin T.ns (T.c.fact (f := .he (.free "ValueError")) 36)
theorem Txt.n_all (T : Txt K mg) : mg "all" = none := He.free_ok T.kin T.ns (T.c.fact (f := .he (.free "all")) 37)
theorem Txt.n_classmethod (T : Txt K mg) : mg "classmethod" = none := He.free_ok T.kin T.ns (T.c.fact (f := .he (.free "classmethod")) 38)
theorem Txt.n_enumerate (T : Txt K mg) : mg "enumerate" = none := He.free_ok T.kin T.ns (T.c.fact (f := .he (.free "enumerate")) 39)
theorem Txt.n_int (T : Txt K mg) : mg "int" = none := He.free_ok T.kin T.ns (T.c.fact (f := .he (.free "int")) 40)
theorem Txt.n_isinstance (T : Txt K mg) : mg "isinstance" = none := He.free_ok T.kin T.ns (T.c.fact (f := .he (.free "isinstance")) 41)
theorem Txt.n_len (T : Txt K mg) : mg "len" = none := He.free_ok T.kin T.ns (T.c.fact (f := .he (.free "len")) 42)
theorem Txt.n_list (T : Txt K mg) : mg "list" = none := He.free_ok T.kin T.ns (T.c.fact (f := .he (.free "list")) 43)
theorem Txt.n_property (T : Txt K mg) : mg "property" = none := He.free_ok T.kin T.ns (T.c.fact (f := .he (.free "property")) 44)
theorem Txt.n_range (T : Txt K mg) : mg "range" = none := He.free_ok T.kin T.ns (T.c.fact (f := .he (.free "range")) 45)
theorem Txt.n_repr (T : Txt K mg) : mg "repr" = none := He.free_ok T.kin T.ns (T.c.fact (f := .he (.free "repr")) 46)
theorem Txt.n_str (T : Txt K mg) : mg "str" = none := He.free_ok T.kin T.ns (T.c.fact (f := .he (.free "str")) 47)
theorem Txt.n_sum (T : Txt K mg) : mg "sum" = none := He.free_ok T.kin T.ns (T.c.fact (f := .he (.free "sum")) 48)
theorem Txt.n_tuple (T : Txt K mg) : mg "tuple" = none := He.free_ok T.kin T.ns (T.c.fact (f := .he (.free "tuple")) 49)
theorem Txt.ex_AskError (T : Txt K mg) : PySem.W.excIn K (He.ga K "AskError") He.veBase "ValueError.__new__" = true ∧ PySem.W.keepIn K (.ref (He.ga K "AskError")) = true ∧ PySem.W.subIn K (.ref (He.ga K "AskError")) (.type "BaseException") = some true ∧ PySem.W.typeIn K (.ref (He.ga K "AskError")) = some (.type "type") := He.exc_ok (T.c.fact (f := .he (.exc "AskError")) 50)
theorem Txt.xq_AskError (T : Txt K mg) : XfC K (He.ga K "AskError") ∧ ExcC K (He.ga K "AskError") := exq_ok (T.c.fact (f := .exq "AskError") 51)
theorem Txt.er_BadLetter (T : Txt K mg) : ErrF K (He.ga K "BadLetter") (He.ma K (He.ga K "BadLetter") "__init__") "at" := err_ok (T.c.fact (f := .err "BadLetter" "at") 52)
theorem Txt.xq_BadLetter (T : Txt K mg) : XfC K (He.ga K "BadLetter") ∧ ExcC K (He.ga K "BadLetter") := exq_ok (T.c.fact (f := .exq "BadLetter") 53)
theorem Txt.ex_NoConstant (T : Txt K mg) : PySem.W.excIn K (He.ga K "NoConstant") He.veBase "ValueError.__new__" = true ∧ PySem.W.keepIn K (.ref (He.ga K "NoConstant")) = true ∧ PySem.W.subIn K (.ref (He.ga K "NoConstant")) (.type "BaseException") = some true ∧ PySem.W.typeIn K (.ref (He.ga K "NoConstant")) = some (.type "type") := He.exc_ok (T.c.fact (f := .he (.exc "NoConstant")) 54)
theorem Txt.xq_NoConstant (T : Txt K mg) : XfC K (He.ga K "NoConstant") ∧ ExcC K (He.ga K "NoConstant") := exq_ok (T.c.fact (f := .exq "NoConstant") 55)
theorem Txt.er_NoLetter (T : Txt K mg) : ErrF K (He.ga K "NoLetter") (He.ma K (He.ga K "NoLetter") "__init__") "name" := err_ok (T.c.fact (f := .err "NoLetter" "name") 56)
theorem Txt.xq_NoLetter (T : Txt K mg) : XfC K (He.ga K "NoLetter") ∧ ExcC K (He.ga K "NoLetter") := exq_ok (T.c.fact (f := .exq "NoLetter") 57)
theorem Txt.er_BadText (T : Txt K mg) : ErrF K (He.ga K "BadText") (He.ma K (He.ga K "BadText") "__init__") "line" := err_ok (T.c.fact (f := .err "BadText" "line") 58)
theorem Txt.xq_BadText (T : Txt K mg) : XfC K (He.ga K "BadText") ∧ ExcC K (He.ga K "BadText") := exq_ok (T.c.fact (f := .exq "BadText") 59)
theorem Txt.er_BadGauge (T : Txt K mg) : ErrF K (He.ga K "BadGauge") (He.ma K (He.ga K "BadGauge") "__init__") "at" := err_ok (T.c.fact (f := .err "BadGauge" "at") 60)
theorem Txt.xq_BadGauge (T : Txt K mg) : XfC K (He.ga K "BadGauge") ∧ ExcC K (He.ga K "BadGauge") := exq_ok (T.c.fact (f := .exq "BadGauge") 61)
theorem Txt.cl_Signature (T : Txt K mg) : Cls K (He.ga K "Signature") := He.cls_ok (T.c.fact (f := .he (.cls "Signature")) 62)
theorem Txt.mk_Signature (T : Txt K mg) : Mk K (He.ga K "Signature") (He.ma K (He.ga K "Signature") "__init__") := He.mkr_ok (T.c.fact (f := .he (.mkr "Signature")) 63)
theorem Txt.ins_Signature (T : Txt K mg) : InsF K (He.ga K "Signature") := ins_ok (T.c.fact (f := .ins "Signature") 64)
theorem Txt.no_Signature_letters (T : Txt K mg) : NoAttr K (He.ga K "Signature") "letters" := He.noat_ok (T.c.fact (f := .he (.noat "Signature" "letters")) 65)
theorem Txt.no_Signature_names (T : Txt K mg) : NoAttr K (He.ga K "Signature") "names" := He.noat_ok (T.c.fact (f := .he (.noat "Signature" "names")) 66)
theorem Txt.no_Signature_arities (T : Txt K mg) : NoAttr K (He.ga K "Signature") "arities" := He.noat_ok (T.c.fact (f := .he (.noat "Signature" "arities")) 67)
theorem Txt.no_Signature_places (T : Txt K mg) : NoAttr K (He.ga K "Signature") "places" := He.noat_ok (T.c.fact (f := .he (.noat "Signature" "places")) 68)
theorem Txt.eq_Signature (T : Txt K mg) : EqF K (He.ga K "Signature") (He.ma K (He.ga K "Signature") "__eq__") := eqs_ok (T.c.fact (f := .eqs "Signature") 69)
theorem Txt.cm_Signature_of_words (T : Txt K mg) : ClX.CRead K (He.ga K "Signature") (.type "type") ∧ ClX.CMet K (He.ga K "Signature") (.type "type") "of_words" (He.ma K (He.ga K "Signature") "of_words") (He5.wf K (He.ga K "Signature") "classmethod" "of_words") := cm_ok (T.c.fact (f := .cm "Signature" "of_words") 70)
theorem Txt.pr_Signature_is_words (T : Txt K mg) : PropOf K (He.ga K "Signature") "is_words" (He.ma K (He.ga K "Signature") "is_words") (pf K (He.ga K "Signature") "is_words") := prop_ok (T.c.fact (f := .prop "Signature" "is_words") 71)
theorem Txt.m_Signature_arity (T : Txt K mg) : Meth K (He.ga K "Signature") "arity" (He.ma K (He.ga K "Signature") "arity") := He.meth_ok (T.c.fact (f := .he (.meth "Signature" "arity")) 72)
theorem Txt.m_Signature_position (T : Txt K mg) : Meth K (He.ga K "Signature") "position" (He.ma K (He.ga K "Signature") "position") := He.meth_ok (T.c.fact (f := .he (.meth "Signature" "position")) 73)
theorem Txt.m_Signature_entries (T : Txt K mg) : Meth K (He.ga K "Signature") "entries" (He.ma K (He.ga K "Signature") "entries") := He.meth_ok (T.c.fact (f := .he (.meth "Signature" "entries")) 74)
theorem Txt.exm_BadLetter_AskError (T : Txt K mg) : PySem.W.exmOne K (.ref (He.ga K "BadLetter")) (.ref (He.ga K "AskError")) = some true := of_decide_eq_true (T.c.fact (f := .exm "BadLetter" "AskError" true) 75)
theorem Txt.exm_NoConstant_AskError (T : Txt K mg) : PySem.W.exmOne K (.ref (He.ga K "NoConstant")) (.ref (He.ga K "AskError")) = some true := of_decide_eq_true (T.c.fact (f := .exm "NoConstant" "AskError" true) 76)
theorem Txt.exm_NoLetter_AskError (T : Txt K mg) : PySem.W.exmOne K (.ref (He.ga K "NoLetter")) (.ref (He.ga K "AskError")) = some true := of_decide_eq_true (T.c.fact (f := .exm "NoLetter" "AskError" true) 77)
theorem Txt.exm_BadText_AskError (T : Txt K mg) : PySem.W.exmOne K (.ref (He.ga K "BadText")) (.ref (He.ga K "AskError")) = some true := of_decide_eq_true (T.c.fact (f := .exm "BadText" "AskError" true) 78)
theorem Txt.exa_BadLetter_BadLetter_NoConstant (T : Txt K mg) : PySem.W.exmAny K (.ref (He.ga K "BadLetter")) [Value.ref (He.ga K "BadLetter"), Value.ref (He.ga K "NoConstant")] = some true := of_decide_eq_true (T.c.fact (f := .exa "BadLetter" ["BadLetter", "NoConstant"] true) 79)
theorem Txt.exa_NoConstant_BadLetter_NoConstant (T : Txt K mg) : PySem.W.exmAny K (.ref (He.ga K "NoConstant")) [Value.ref (He.ga K "BadLetter"), Value.ref (He.ga K "NoConstant")] = some true := of_decide_eq_true (T.c.fact (f := .exa "NoConstant" ["BadLetter", "NoConstant"] true) 80)
theorem Txt.kit_BadLetter_BadLetter (T : Txt K mg) : PySem.W.kitOne K (.ref (He.ga K "BadLetter")) (.ref (He.ga K "BadLetter")) = some true := of_decide_eq_true (T.c.fact (f := .kit "BadLetter" "BadLetter" true) 81)
theorem Txt.kit_BadLetter_NoConstant (T : Txt K mg) : PySem.W.kitOne K (.ref (He.ga K "BadLetter")) (.ref (He.ga K "NoConstant")) = some false := of_decide_eq_true (T.c.fact (f := .kit "BadLetter" "NoConstant" false) 82)
theorem Txt.kit_BadLetter_NoLetter (T : Txt K mg) : PySem.W.kitOne K (.ref (He.ga K "BadLetter")) (.ref (He.ga K "NoLetter")) = some false := of_decide_eq_true (T.c.fact (f := .kit "BadLetter" "NoLetter" false) 83)
theorem Txt.kit_BadLetter_BadText (T : Txt K mg) : PySem.W.kitOne K (.ref (He.ga K "BadLetter")) (.ref (He.ga K "BadText")) = some false := of_decide_eq_true (T.c.fact (f := .kit "BadLetter" "BadText" false) 84)
theorem Txt.kit_BadLetter_BadGauge (T : Txt K mg) : PySem.W.kitOne K (.ref (He.ga K "BadLetter")) (.ref (He.ga K "BadGauge")) = some false := of_decide_eq_true (T.c.fact (f := .kit "BadLetter" "BadGauge" false) 85)
theorem Txt.kity_BadLetter_ValueError (T : Txt K mg) : PySem.W.kitOne K (.ref (He.ga K "BadLetter")) (.type "ValueError") = some true := of_decide_eq_true (T.c.fact (f := .kity "BadLetter" "ValueError" true) 86)
theorem Txt.kit_NoConstant_BadLetter (T : Txt K mg) : PySem.W.kitOne K (.ref (He.ga K "NoConstant")) (.ref (He.ga K "BadLetter")) = some false := of_decide_eq_true (T.c.fact (f := .kit "NoConstant" "BadLetter" false) 87)
theorem Txt.kit_NoConstant_NoConstant (T : Txt K mg) : PySem.W.kitOne K (.ref (He.ga K "NoConstant")) (.ref (He.ga K "NoConstant")) = some true := of_decide_eq_true (T.c.fact (f := .kit "NoConstant" "NoConstant" true) 88)
theorem Txt.kit_NoConstant_NoLetter (T : Txt K mg) : PySem.W.kitOne K (.ref (He.ga K "NoConstant")) (.ref (He.ga K "NoLetter")) = some false := of_decide_eq_true (T.c.fact (f := .kit "NoConstant" "NoLetter" false) 89)
theorem Txt.kit_NoConstant_BadText (T : Txt K mg) : PySem.W.kitOne K (.ref (He.ga K "NoConstant")) (.ref (He.ga K "BadText")) = some false := of_decide_eq_true (T.c.fact (f := .kit "NoConstant" "BadText" false) 90)
theorem Txt.kit_NoConstant_BadGauge (T : Txt K mg) : PySem.W.kitOne K (.ref (He.ga K "NoConstant")) (.ref (He.ga K "BadGauge")) = some false := of_decide_eq_true (T.c.fact (f := .kit "NoConstant" "BadGauge" false) 91)
theorem Txt.kity_NoConstant_ValueError (T : Txt K mg) : PySem.W.kitOne K (.ref (He.ga K "NoConstant")) (.type "ValueError") = some true := of_decide_eq_true (T.c.fact (f := .kity "NoConstant" "ValueError" true) 92)
theorem Txt.kit_NoLetter_BadLetter (T : Txt K mg) : PySem.W.kitOne K (.ref (He.ga K "NoLetter")) (.ref (He.ga K "BadLetter")) = some false := of_decide_eq_true (T.c.fact (f := .kit "NoLetter" "BadLetter" false) 93)
theorem Txt.kit_NoLetter_NoConstant (T : Txt K mg) : PySem.W.kitOne K (.ref (He.ga K "NoLetter")) (.ref (He.ga K "NoConstant")) = some false := of_decide_eq_true (T.c.fact (f := .kit "NoLetter" "NoConstant" false) 94)
theorem Txt.kit_NoLetter_NoLetter (T : Txt K mg) : PySem.W.kitOne K (.ref (He.ga K "NoLetter")) (.ref (He.ga K "NoLetter")) = some true := of_decide_eq_true (T.c.fact (f := .kit "NoLetter" "NoLetter" true) 95)
theorem Txt.kit_NoLetter_BadText (T : Txt K mg) : PySem.W.kitOne K (.ref (He.ga K "NoLetter")) (.ref (He.ga K "BadText")) = some false := of_decide_eq_true (T.c.fact (f := .kit "NoLetter" "BadText" false) 96)
theorem Txt.kit_NoLetter_BadGauge (T : Txt K mg) : PySem.W.kitOne K (.ref (He.ga K "NoLetter")) (.ref (He.ga K "BadGauge")) = some false := of_decide_eq_true (T.c.fact (f := .kit "NoLetter" "BadGauge" false) 97)
theorem Txt.kity_NoLetter_ValueError (T : Txt K mg) : PySem.W.kitOne K (.ref (He.ga K "NoLetter")) (.type "ValueError") = some true := of_decide_eq_true (T.c.fact (f := .kity "NoLetter" "ValueError" true) 98)
theorem Txt.kit_BadText_BadLetter (T : Txt K mg) : PySem.W.kitOne K (.ref (He.ga K "BadText")) (.ref (He.ga K "BadLetter")) = some false := of_decide_eq_true (T.c.fact (f := .kit "BadText" "BadLetter" false) 99)
theorem Txt.kit_BadText_NoConstant (T : Txt K mg) : PySem.W.kitOne K (.ref (He.ga K "BadText")) (.ref (He.ga K "NoConstant")) = some false := of_decide_eq_true (T.c.fact (f := .kit "BadText" "NoConstant" false) 100)
theorem Txt.kit_BadText_NoLetter (T : Txt K mg) : PySem.W.kitOne K (.ref (He.ga K "BadText")) (.ref (He.ga K "NoLetter")) = some false := of_decide_eq_true (T.c.fact (f := .kit "BadText" "NoLetter" false) 101)
theorem Txt.kit_BadText_BadText (T : Txt K mg) : PySem.W.kitOne K (.ref (He.ga K "BadText")) (.ref (He.ga K "BadText")) = some true := of_decide_eq_true (T.c.fact (f := .kit "BadText" "BadText" true) 102)
theorem Txt.kit_BadText_BadGauge (T : Txt K mg) : PySem.W.kitOne K (.ref (He.ga K "BadText")) (.ref (He.ga K "BadGauge")) = some false := of_decide_eq_true (T.c.fact (f := .kit "BadText" "BadGauge" false) 103)
theorem Txt.kity_BadText_ValueError (T : Txt K mg) : PySem.W.kitOne K (.ref (He.ga K "BadText")) (.type "ValueError") = some true := of_decide_eq_true (T.c.fact (f := .kity "BadText" "ValueError" true) 104)
theorem Txt.kit_Signature_Signature (T : Txt K mg) : PySem.W.kitOne K (.ref (He.ga K "Signature")) (.ref (He.ga K "Signature")) = some true := of_decide_eq_true (T.c.fact (f := .kit "Signature" "Signature" true) 105)
theorem Txt.tyk_tuple_Signature (T : Txt K mg) : PySem.W.kitOne K (.type "tuple") (.ref (He.ga K "Signature")) = some false := of_decide_eq_true (T.c.fact (f := .tyk "tuple" "Signature" false) 106)
theorem Txt.tyk_list_Signature (T : Txt K mg) : PySem.W.kitOne K (.type "list") (.ref (He.ga K "Signature")) = some false := of_decide_eq_true (T.c.fact (f := .tyk "list" "Signature" false) 107)
theorem Txt.tyk_int_Signature (T : Txt K mg) : PySem.W.kitOne K (.type "int") (.ref (He.ga K "Signature")) = some false := of_decide_eq_true (T.c.fact (f := .tyk "int" "Signature" false) 108)
theorem Txt.nf_Signature_tuple (T : Txt K mg) : PySem.W.notFirst K (He.ga K "Signature") (.type "tuple") = true := T.c.fact (f := .nf "Signature" "tuple") 109
theorem Txt.nf_Signature_list (T : Txt K mg) : PySem.W.notFirst K (He.ga K "Signature") (.type "list") = true := T.c.fact (f := .nf "Signature" "list") 110
theorem Txt.nf_Signature_int (T : Txt K mg) : PySem.W.notFirst K (He.ga K "Signature") (.type "int") = true := T.c.fact (f := .nf "Signature" "int") 111
variable {P : Program} {w : World} {b0 : Heap} {CX : CXT} {k : Nat} {sp : Sp}
theorem Txt.h_BadLetter_init (T : Txt K mg) (H : ∀ fd, L2.Fun K "__init__" "BadLetter.__init__" s_BadLetter_init (He.ma K (He.ga K "BadLetter") "__init__") fd → FnOk P w K mg b0 CX k (He.ma K (He.ga K "BadLetter") "__init__") fd ["self", "at"] sp) : Has P w K mg b0 CX k (He.ma K (He.ga K "BadLetter") "__init__") ["self", "at"] sp := by
  obtain ⟨fd, F⟩ := T.c.def_ 0
  exact ⟨⟨fd, H fd (He5.fun_of F), (He5.fun_of (st := s_BadLetter_init) F).binds fun _ _ _ _ _ _ us hl => match us, hl with | [_, _], _ => rfl⟩, F.kp⟩
theorem Txt.hG_BadLetter_init (T : Txt K mg) (H : ∀ fd, L2.Fun K "__init__" "BadLetter.__init__" s_BadLetter_init (He.ma K (He.ga K "BadLetter") "__init__") fd → FnG P w K mg b0 CX k (He.ma K (He.ga K "BadLetter") "__init__") fd ["self", "at"] sp) : HasG P w K mg b0 CX k (He.ma K (He.ga K "BadLetter") "__init__") ["self", "at"] sp := by
  obtain ⟨fd, F⟩ := T.c.def_ 0
  exact ⟨⟨fd, H fd (He5.fun_of F), (He5.fun_of (st := s_BadLetter_init) F).binds fun _ _ _ _ _ _ us hl => match us, hl with | [_, _], _ => rfl⟩, F.kp⟩
theorem Txt.h_NoLetter_init (T : Txt K mg) (H : ∀ fd, L2.Fun K "__init__" "NoLetter.__init__" s_NoLetter_init (He.ma K (He.ga K "NoLetter") "__init__") fd → FnOk P w K mg b0 CX k (He.ma K (He.ga K "NoLetter") "__init__") fd ["self", "name"] sp) : Has P w K mg b0 CX k (He.ma K (He.ga K "NoLetter") "__init__") ["self", "name"] sp := by
  obtain ⟨fd, F⟩ := T.c.def_ 1
  exact ⟨⟨fd, H fd (He5.fun_of F), (He5.fun_of (st := s_NoLetter_init) F).binds fun _ _ _ _ _ _ us hl => match us, hl with | [_, _], _ => rfl⟩, F.kp⟩
theorem Txt.hG_NoLetter_init (T : Txt K mg) (H : ∀ fd, L2.Fun K "__init__" "NoLetter.__init__" s_NoLetter_init (He.ma K (He.ga K "NoLetter") "__init__") fd → FnG P w K mg b0 CX k (He.ma K (He.ga K "NoLetter") "__init__") fd ["self", "name"] sp) : HasG P w K mg b0 CX k (He.ma K (He.ga K "NoLetter") "__init__") ["self", "name"] sp := by
  obtain ⟨fd, F⟩ := T.c.def_ 1
  exact ⟨⟨fd, H fd (He5.fun_of F), (He5.fun_of (st := s_NoLetter_init) F).binds fun _ _ _ _ _ _ us hl => match us, hl with | [_, _], _ => rfl⟩, F.kp⟩
theorem Txt.h_BadText_init (T : Txt K mg) (H : ∀ fd, L2.Fun K "__init__" "BadText.__init__" s_BadText_init (He.ma K (He.ga K "BadText") "__init__") fd → FnOk P w K mg b0 CX k (He.ma K (He.ga K "BadText") "__init__") fd ["self", "line"] sp) : Has P w K mg b0 CX k (He.ma K (He.ga K "BadText") "__init__") ["self", "line"] sp := by
  obtain ⟨fd, F⟩ := T.c.def_ 2
  exact ⟨⟨fd, H fd (He5.fun_of F), (He5.fun_of (st := s_BadText_init) F).binds fun _ _ _ _ _ _ us hl => match us, hl with | [_, _], _ => rfl⟩, F.kp⟩
theorem Txt.hG_BadText_init (T : Txt K mg) (H : ∀ fd, L2.Fun K "__init__" "BadText.__init__" s_BadText_init (He.ma K (He.ga K "BadText") "__init__") fd → FnG P w K mg b0 CX k (He.ma K (He.ga K "BadText") "__init__") fd ["self", "line"] sp) : HasG P w K mg b0 CX k (He.ma K (He.ga K "BadText") "__init__") ["self", "line"] sp := by
  obtain ⟨fd, F⟩ := T.c.def_ 2
  exact ⟨⟨fd, H fd (He5.fun_of F), (He5.fun_of (st := s_BadText_init) F).binds fun _ _ _ _ _ _ us hl => match us, hl with | [_, _], _ => rfl⟩, F.kp⟩
theorem Txt.h_BadGauge_init (T : Txt K mg) (H : ∀ fd, L2.Fun K "__init__" "BadGauge.__init__" s_BadGauge_init (He.ma K (He.ga K "BadGauge") "__init__") fd → FnOk P w K mg b0 CX k (He.ma K (He.ga K "BadGauge") "__init__") fd ["self", "at"] sp) : Has P w K mg b0 CX k (He.ma K (He.ga K "BadGauge") "__init__") ["self", "at"] sp := by
  obtain ⟨fd, F⟩ := T.c.def_ 3
  exact ⟨⟨fd, H fd (He5.fun_of F), (He5.fun_of (st := s_BadGauge_init) F).binds fun _ _ _ _ _ _ us hl => match us, hl with | [_, _], _ => rfl⟩, F.kp⟩
theorem Txt.hG_BadGauge_init (T : Txt K mg) (H : ∀ fd, L2.Fun K "__init__" "BadGauge.__init__" s_BadGauge_init (He.ma K (He.ga K "BadGauge") "__init__") fd → FnG P w K mg b0 CX k (He.ma K (He.ga K "BadGauge") "__init__") fd ["self", "at"] sp) : HasG P w K mg b0 CX k (He.ma K (He.ga K "BadGauge") "__init__") ["self", "at"] sp := by
  obtain ⟨fd, F⟩ := T.c.def_ 3
  exact ⟨⟨fd, H fd (He5.fun_of F), (He5.fun_of (st := s_BadGauge_init) F).binds fun _ _ _ _ _ _ us hl => match us, hl with | [_, _], _ => rfl⟩, F.kp⟩
theorem Txt.h_is_name (T : Txt K mg) (H : ∀ fd, L2.Fun K "is_name" "is_name" s_is_name (He.ga K "is_name") fd → FnOk P w K mg b0 CX k (He.ga K "is_name") fd ["thing"] sp) : Has P w K mg b0 CX k (He.ga K "is_name") ["thing"] sp := by
  obtain ⟨fd, F⟩ := T.c.def_ 4
  exact ⟨⟨fd, H fd (He5.fun_of F), (He5.fun_of (st := s_is_name) F).binds fun _ _ _ _ _ _ us hl => match us, hl with | [_], _ => rfl⟩, F.kp⟩
theorem Txt.hG_is_name (T : Txt K mg) (H : ∀ fd, L2.Fun K "is_name" "is_name" s_is_name (He.ga K "is_name") fd → FnG P w K mg b0 CX k (He.ga K "is_name") fd ["thing"] sp) : HasG P w K mg b0 CX k (He.ga K "is_name") ["thing"] sp := by
  obtain ⟨fd, F⟩ := T.c.def_ 4
  exact ⟨⟨fd, H fd (He5.fun_of F), (He5.fun_of (st := s_is_name) F).binds fun _ _ _ _ _ _ us hl => match us, hl with | [_], _ => rfl⟩, F.kp⟩
theorem Txt.h_letter_entries (T : Txt K mg) (H : ∀ fd, L2.Fun K "letter_entries" "letter_entries" s_letter_entries (He.ga K "letter_entries") fd → FnOk P w K mg b0 CX k (He.ga K "letter_entries") fd ["rooms", "arity"] sp) : Has P w K mg b0 CX k (He.ga K "letter_entries") ["rooms", "arity"] sp := by
  obtain ⟨fd, F⟩ := T.c.def_ 5
  exact ⟨⟨fd, H fd (He5.fun_of F), (He5.fun_of (st := s_letter_entries) F).binds fun _ _ _ _ _ _ us hl => match us, hl with | [_, _], _ => rfl⟩, F.kp⟩
theorem Txt.hG_letter_entries (T : Txt K mg) (H : ∀ fd, L2.Fun K "letter_entries" "letter_entries" s_letter_entries (He.ga K "letter_entries") fd → FnG P w K mg b0 CX k (He.ga K "letter_entries") fd ["rooms", "arity"] sp) : HasG P w K mg b0 CX k (He.ga K "letter_entries") ["rooms", "arity"] sp := by
  obtain ⟨fd, F⟩ := T.c.def_ 5
  exact ⟨⟨fd, H fd (He5.fun_of F), (He5.fun_of (st := s_letter_entries) F).binds fun _ _ _ _ _ _ us hl => match us, hl with | [_, _], _ => rfl⟩, F.kp⟩
theorem Txt.h_Signature_init (T : Txt K mg) (H : ∀ fd, L2.Fun K "__init__" "Signature.__init__" s_Signature_init (He.ma K (He.ga K "Signature") "__init__") fd → FnOk P w K mg b0 CX k (He.ma K (He.ga K "Signature") "__init__") fd ["self", "letters"] sp) : Has P w K mg b0 CX k (He.ma K (He.ga K "Signature") "__init__") ["self", "letters"] sp := by
  obtain ⟨fd, F⟩ := T.c.def_ 6
  exact ⟨⟨fd, H fd (He5.fun_of F), (He5.fun_of (st := s_Signature_init) F).binds fun _ _ _ _ _ _ us hl => match us, hl with | [_, _], _ => rfl⟩, F.kp⟩
theorem Txt.hG_Signature_init (T : Txt K mg) (H : ∀ fd, L2.Fun K "__init__" "Signature.__init__" s_Signature_init (He.ma K (He.ga K "Signature") "__init__") fd → FnG P w K mg b0 CX k (He.ma K (He.ga K "Signature") "__init__") fd ["self", "letters"] sp) : HasG P w K mg b0 CX k (He.ma K (He.ga K "Signature") "__init__") ["self", "letters"] sp := by
  obtain ⟨fd, F⟩ := T.c.def_ 6
  exact ⟨⟨fd, H fd (He5.fun_of F), (He5.fun_of (st := s_Signature_init) F).binds fun _ _ _ _ _ _ us hl => match us, hl with | [_, _], _ => rfl⟩, F.kp⟩
theorem Txt.h_Signature_eq (T : Txt K mg) (H : ∀ fd, L2.Fun K "__eq__" "Signature.__eq__" s_Signature_eq (He.ma K (He.ga K "Signature") "__eq__") fd → FnOk P w K mg b0 CX k (He.ma K (He.ga K "Signature") "__eq__") fd ["self", "other"] sp) : Has P w K mg b0 CX k (He.ma K (He.ga K "Signature") "__eq__") ["self", "other"] sp := by
  obtain ⟨fd, F⟩ := T.c.def_ 7
  exact ⟨⟨fd, H fd (He5.fun_of F), (He5.fun_of (st := s_Signature_eq) F).binds fun _ _ _ _ _ _ us hl => match us, hl with | [_, _], _ => rfl⟩, F.kp⟩
theorem Txt.hG_Signature_eq (T : Txt K mg) (H : ∀ fd, L2.Fun K "__eq__" "Signature.__eq__" s_Signature_eq (He.ma K (He.ga K "Signature") "__eq__") fd → FnG P w K mg b0 CX k (He.ma K (He.ga K "Signature") "__eq__") fd ["self", "other"] sp) : HasG P w K mg b0 CX k (He.ma K (He.ga K "Signature") "__eq__") ["self", "other"] sp := by
  obtain ⟨fd, F⟩ := T.c.def_ 7
  exact ⟨⟨fd, H fd (He5.fun_of F), (He5.fun_of (st := s_Signature_eq) F).binds fun _ _ _ _ _ _ us hl => match us, hl with | [_, _], _ => rfl⟩, F.kp⟩
theorem Txt.h_Signature_of_words (T : Txt K mg) (H : ∀ fd, L2.Fun K "of_words" "Signature.of_words" s_Signature_of_words (He5.wf K (He.ga K "Signature") "classmethod" "of_words") fd → FnOk P w K mg b0 CX k (He5.wf K (He.ga K "Signature") "classmethod" "of_words") fd ["cls", "names"] sp) : Has P w K mg b0 CX k (He5.wf K (He.ga K "Signature") "classmethod" "of_words") ["cls", "names"] sp := by
  obtain ⟨fd, F⟩ := T.c.def_ 8
  exact ⟨⟨fd, H fd (He5.fun_of F), (He5.fun_of (st := s_Signature_of_words) F).binds fun _ _ _ _ _ _ us hl => match us, hl with | [_, _], _ => rfl⟩, F.kp⟩
theorem Txt.hG_Signature_of_words (T : Txt K mg) (H : ∀ fd, L2.Fun K "of_words" "Signature.of_words" s_Signature_of_words (He5.wf K (He.ga K "Signature") "classmethod" "of_words") fd → FnG P w K mg b0 CX k (He5.wf K (He.ga K "Signature") "classmethod" "of_words") fd ["cls", "names"] sp) : HasG P w K mg b0 CX k (He5.wf K (He.ga K "Signature") "classmethod" "of_words") ["cls", "names"] sp := by
  obtain ⟨fd, F⟩ := T.c.def_ 8
  exact ⟨⟨fd, H fd (He5.fun_of F), (He5.fun_of (st := s_Signature_of_words) F).binds fun _ _ _ _ _ _ us hl => match us, hl with | [_, _], _ => rfl⟩, F.kp⟩
theorem Txt.h_Signature_is_words (T : Txt K mg) (H : ∀ fd, L2.Fun K "is_words" "Signature.is_words" s_Signature_is_words (pf K (He.ga K "Signature") "is_words") fd → FnOk P w K mg b0 CX k (pf K (He.ga K "Signature") "is_words") fd ["self"] sp) : Has P w K mg b0 CX k (pf K (He.ga K "Signature") "is_words") ["self"] sp := by
  obtain ⟨fd, F⟩ := T.c.def_ 9
  exact ⟨⟨fd, H fd (He5.fun_of F), (He5.fun_of (st := s_Signature_is_words) F).binds fun _ _ _ _ _ _ us hl => match us, hl with | [_], _ => rfl⟩, F.kp⟩
theorem Txt.hG_Signature_is_words (T : Txt K mg) (H : ∀ fd, L2.Fun K "is_words" "Signature.is_words" s_Signature_is_words (pf K (He.ga K "Signature") "is_words") fd → FnG P w K mg b0 CX k (pf K (He.ga K "Signature") "is_words") fd ["self"] sp) : HasG P w K mg b0 CX k (pf K (He.ga K "Signature") "is_words") ["self"] sp := by
  obtain ⟨fd, F⟩ := T.c.def_ 9
  exact ⟨⟨fd, H fd (He5.fun_of F), (He5.fun_of (st := s_Signature_is_words) F).binds fun _ _ _ _ _ _ us hl => match us, hl with | [_], _ => rfl⟩, F.kp⟩
theorem Txt.h_Signature_arity (T : Txt K mg) (H : ∀ fd, L2.Fun K "arity" "Signature.arity" s_Signature_arity (He.ma K (He.ga K "Signature") "arity") fd → FnOk P w K mg b0 CX k (He.ma K (He.ga K "Signature") "arity") fd ["self", "name"] sp) : Has P w K mg b0 CX k (He.ma K (He.ga K "Signature") "arity") ["self", "name"] sp := by
  obtain ⟨fd, F⟩ := T.c.def_ 10
  exact ⟨⟨fd, H fd (He5.fun_of F), (He5.fun_of (st := s_Signature_arity) F).binds fun _ _ _ _ _ _ us hl => match us, hl with | [_, _], _ => rfl⟩, F.kp⟩
theorem Txt.hG_Signature_arity (T : Txt K mg) (H : ∀ fd, L2.Fun K "arity" "Signature.arity" s_Signature_arity (He.ma K (He.ga K "Signature") "arity") fd → FnG P w K mg b0 CX k (He.ma K (He.ga K "Signature") "arity") fd ["self", "name"] sp) : HasG P w K mg b0 CX k (He.ma K (He.ga K "Signature") "arity") ["self", "name"] sp := by
  obtain ⟨fd, F⟩ := T.c.def_ 10
  exact ⟨⟨fd, H fd (He5.fun_of F), (He5.fun_of (st := s_Signature_arity) F).binds fun _ _ _ _ _ _ us hl => match us, hl with | [_, _], _ => rfl⟩, F.kp⟩
theorem Txt.h_Signature_position (T : Txt K mg) (H : ∀ fd, L2.Fun K "position" "Signature.position" s_Signature_position (He.ma K (He.ga K "Signature") "position") fd → FnOk P w K mg b0 CX k (He.ma K (He.ga K "Signature") "position") fd ["self", "name"] sp) : Has P w K mg b0 CX k (He.ma K (He.ga K "Signature") "position") ["self", "name"] sp := by
  obtain ⟨fd, F⟩ := T.c.def_ 11
  exact ⟨⟨fd, H fd (He5.fun_of F), (He5.fun_of (st := s_Signature_position) F).binds fun _ _ _ _ _ _ us hl => match us, hl with | [_, _], _ => rfl⟩, F.kp⟩
theorem Txt.hG_Signature_position (T : Txt K mg) (H : ∀ fd, L2.Fun K "position" "Signature.position" s_Signature_position (He.ma K (He.ga K "Signature") "position") fd → FnG P w K mg b0 CX k (He.ma K (He.ga K "Signature") "position") fd ["self", "name"] sp) : HasG P w K mg b0 CX k (He.ma K (He.ga K "Signature") "position") ["self", "name"] sp := by
  obtain ⟨fd, F⟩ := T.c.def_ 11
  exact ⟨⟨fd, H fd (He5.fun_of F), (He5.fun_of (st := s_Signature_position) F).binds fun _ _ _ _ _ _ us hl => match us, hl with | [_, _], _ => rfl⟩, F.kp⟩
theorem Txt.h_Signature_entries (T : Txt K mg) (H : ∀ fd, L2.Fun K "entries" "Signature.entries" s_Signature_entries (He.ma K (He.ga K "Signature") "entries") fd → FnOk P w K mg b0 CX k (He.ma K (He.ga K "Signature") "entries") fd ["self", "rooms"] sp) : Has P w K mg b0 CX k (He.ma K (He.ga K "Signature") "entries") ["self", "rooms"] sp := by
  obtain ⟨fd, F⟩ := T.c.def_ 12
  exact ⟨⟨fd, H fd (He5.fun_of F), (He5.fun_of (st := s_Signature_entries) F).binds fun _ _ _ _ _ _ us hl => match us, hl with | [_, _], _ => rfl⟩, F.kp⟩
theorem Txt.hG_Signature_entries (T : Txt K mg) (H : ∀ fd, L2.Fun K "entries" "Signature.entries" s_Signature_entries (He.ma K (He.ga K "Signature") "entries") fd → FnG P w K mg b0 CX k (He.ma K (He.ga K "Signature") "entries") fd ["self", "rooms"] sp) : HasG P w K mg b0 CX k (He.ma K (He.ga K "Signature") "entries") ["self", "rooms"] sp := by
  obtain ⟨fd, F⟩ := T.c.def_ 12
  exact ⟨⟨fd, H fd (He5.fun_of F), (He5.fun_of (st := s_Signature_entries) F).binds fun _ _ _ _ _ _ us hl => match us, hl with | [_, _], _ => rfl⟩, F.kp⟩
theorem Txt.h_signature_text (T : Txt K mg) (H : ∀ fd, L2.Fun K "signature_text" "signature_text" s_signature_text (He.ga K "signature_text") fd → FnOk P w K mg b0 CX k (He.ga K "signature_text") fd ["signature"] sp) : Has P w K mg b0 CX k (He.ga K "signature_text") ["signature"] sp := by
  obtain ⟨fd, F⟩ := T.c.def_ 13
  exact ⟨⟨fd, H fd (He5.fun_of F), (He5.fun_of (st := s_signature_text) F).binds fun _ _ _ _ _ _ us hl => match us, hl with | [_], _ => rfl⟩, F.kp⟩
theorem Txt.hG_signature_text (T : Txt K mg) (H : ∀ fd, L2.Fun K "signature_text" "signature_text" s_signature_text (He.ga K "signature_text") fd → FnG P w K mg b0 CX k (He.ga K "signature_text") fd ["signature"] sp) : HasG P w K mg b0 CX k (He.ga K "signature_text") ["signature"] sp := by
  obtain ⟨fd, F⟩ := T.c.def_ 13
  exact ⟨⟨fd, H fd (He5.fun_of F), (He5.fun_of (st := s_signature_text) F).binds fun _ _ _ _ _ _ us hl => match us, hl with | [_], _ => rfl⟩, F.kp⟩
theorem Txt.h_read_signature (T : Txt K mg) (H : ∀ fd, L2.Fun K "read_signature" "read_signature" s_read_signature (He.ga K "read_signature") fd → FnOk P w K mg b0 CX k (He.ga K "read_signature") fd ["text"] sp) : Has P w K mg b0 CX k (He.ga K "read_signature") ["text"] sp := by
  obtain ⟨fd, F⟩ := T.c.def_ 14
  exact ⟨⟨fd, H fd (He5.fun_of F), (He5.fun_of (st := s_read_signature) F).binds fun _ _ _ _ _ _ us hl => match us, hl with | [_], _ => rfl⟩, F.kp⟩
theorem Txt.hG_read_signature (T : Txt K mg) (H : ∀ fd, L2.Fun K "read_signature" "read_signature" s_read_signature (He.ga K "read_signature") fd → FnG P w K mg b0 CX k (He.ga K "read_signature") fd ["text"] sp) : HasG P w K mg b0 CX k (He.ga K "read_signature") ["text"] sp := by
  obtain ⟨fd, F⟩ := T.c.def_ 14
  exact ⟨⟨fd, H fd (He5.fun_of F), (He5.fun_of (st := s_read_signature) F).binds fun _ _ _ _ _ _ us hl => match us, hl with | [_], _ => rfl⟩, F.kp⟩
theorem Txt.h__law_cells (T : Txt K mg) (H : ∀ fd, L2.Fun K "_law_cells" "_law_cells" s__law_cells (He.ga K "_law_cells") fd → FnOk P w K mg b0 CX k (He.ga K "_law_cells") fd ["script"] sp) : Has P w K mg b0 CX k (He.ga K "_law_cells") ["script"] sp := by
  obtain ⟨fd, F⟩ := T.c.def_ 15
  exact ⟨⟨fd, H fd (He5.fun_of F), (He5.fun_of (st := s__law_cells) F).binds fun _ _ _ _ _ _ us hl => match us, hl with | [_], _ => rfl⟩, F.kp⟩
theorem Txt.hG__law_cells (T : Txt K mg) (H : ∀ fd, L2.Fun K "_law_cells" "_law_cells" s__law_cells (He.ga K "_law_cells") fd → FnG P w K mg b0 CX k (He.ga K "_law_cells") fd ["script"] sp) : HasG P w K mg b0 CX k (He.ga K "_law_cells") ["script"] sp := by
  obtain ⟨fd, F⟩ := T.c.def_ 15
  exact ⟨⟨fd, H fd (He5.fun_of F), (He5.fun_of (st := s__law_cells) F).binds fun _ _ _ _ _ _ us hl => match us, hl with | [_], _ => rfl⟩, F.kp⟩
theorem Txt.h__law_draw (T : Txt K mg) (H : ∀ fd, L2.Fun K "_law_draw" "_law_draw" s__law_draw (He.ga K "_law_draw") fd → FnOk P w K mg b0 CX k (He.ga K "_law_draw") fd ["pool", "many"] sp) : Has P w K mg b0 CX k (He.ga K "_law_draw") ["pool", "many"] sp := by
  obtain ⟨fd, F⟩ := T.c.def_ 16
  exact ⟨⟨fd, H fd (He5.fun_of F), (He5.fun_of (st := s__law_draw) F).binds fun _ _ _ _ _ _ us hl => match us, hl with | [_, _], _ => rfl⟩, F.kp⟩
theorem Txt.hG__law_draw (T : Txt K mg) (H : ∀ fd, L2.Fun K "_law_draw" "_law_draw" s__law_draw (He.ga K "_law_draw") fd → FnG P w K mg b0 CX k (He.ga K "_law_draw") fd ["pool", "many"] sp) : HasG P w K mg b0 CX k (He.ga K "_law_draw") ["pool", "many"] sp := by
  obtain ⟨fd, F⟩ := T.c.def_ 16
  exact ⟨⟨fd, H fd (He5.fun_of F), (He5.fun_of (st := s__law_draw) F).binds fun _ _ _ _ _ _ us hl => match us, hl with | [_, _], _ => rfl⟩, F.kp⟩
theorem Txt.h__law_pick (T : Txt K mg) (H : ∀ fd, L2.Fun K "_law_pick" "_law_pick" s__law_pick (He.ga K "_law_pick") fd → FnOk P w K mg b0 CX k (He.ga K "_law_pick") fd ["pool", "things"] sp) : Has P w K mg b0 CX k (He.ga K "_law_pick") ["pool", "things"] sp := by
  obtain ⟨fd, F⟩ := T.c.def_ 17
  exact ⟨⟨fd, H fd (He5.fun_of F), (He5.fun_of (st := s__law_pick) F).binds fun _ _ _ _ _ _ us hl => match us, hl with | [_, _], _ => rfl⟩, F.kp⟩
theorem Txt.hG__law_pick (T : Txt K mg) (H : ∀ fd, L2.Fun K "_law_pick" "_law_pick" s__law_pick (He.ga K "_law_pick") fd → FnG P w K mg b0 CX k (He.ga K "_law_pick") fd ["pool", "things"] sp) : HasG P w K mg b0 CX k (He.ga K "_law_pick") ["pool", "things"] sp := by
  obtain ⟨fd, F⟩ := T.c.def_ 17
  exact ⟨⟨fd, H fd (He5.fun_of F), (He5.fun_of (st := s__law_pick) F).binds fun _ _ _ _ _ _ us hl => match us, hl with | [_, _], _ => rfl⟩, F.kp⟩
theorem Txt.h__law_same (T : Txt K mg) (H : ∀ fd, L2.Fun K "_law_same" "_law_same" s__law_same (He.ga K "_law_same") fd → FnOk P w K mg b0 CX k (He.ga K "_law_same") fd ["told", "due"] sp) : Has P w K mg b0 CX k (He.ga K "_law_same") ["told", "due"] sp := by
  obtain ⟨fd, F⟩ := T.c.def_ 18
  exact ⟨⟨fd, H fd (He5.fun_of F), (He5.fun_of (st := s__law_same) F).binds fun _ _ _ _ _ _ us hl => match us, hl with | [_, _], _ => rfl⟩, F.kp⟩
theorem Txt.hG__law_same (T : Txt K mg) (H : ∀ fd, L2.Fun K "_law_same" "_law_same" s__law_same (He.ga K "_law_same") fd → FnG P w K mg b0 CX k (He.ga K "_law_same") fd ["told", "due"] sp) : HasG P w K mg b0 CX k (He.ga K "_law_same") ["told", "due"] sp := by
  obtain ⟨fd, F⟩ := T.c.def_ 18
  exact ⟨⟨fd, H fd (He5.fun_of F), (He5.fun_of (st := s__law_same) F).binds fun _ _ _ _ _ _ us hl => match us, hl with | [_, _], _ => rfl⟩, F.kp⟩
theorem Txt.h__law_called (T : Txt K mg) (H : ∀ fd, L2.Fun K "_law_called" "_law_called" s__law_called (He.ga K "_law_called") fd → FnOk P w K mg b0 CX k (He.ga K "_law_called") fd ["pool", "names"] sp) : Has P w K mg b0 CX k (He.ga K "_law_called") ["pool", "names"] sp := by
  obtain ⟨fd, F⟩ := T.c.def_ 19
  exact ⟨⟨fd, H fd (He5.fun_of F), (He5.fun_of (st := s__law_called) F).binds fun _ _ _ _ _ _ us hl => match us, hl with | [_, _], _ => rfl⟩, F.kp⟩
theorem Txt.hG__law_called (T : Txt K mg) (H : ∀ fd, L2.Fun K "_law_called" "_law_called" s__law_called (He.ga K "_law_called") fd → FnG P w K mg b0 CX k (He.ga K "_law_called") fd ["pool", "names"] sp) : HasG P w K mg b0 CX k (He.ga K "_law_called") ["pool", "names"] sp := by
  obtain ⟨fd, F⟩ := T.c.def_ 19
  exact ⟨⟨fd, H fd (He5.fun_of F), (He5.fun_of (st := s__law_called) F).binds fun _ _ _ _ _ _ us hl => match us, hl with | [_, _], _ => rfl⟩, F.kp⟩
theorem Txt.h__law_alphabet (T : Txt K mg) (H : ∀ fd, L2.Fun K "_law_alphabet" "_law_alphabet" s__law_alphabet (He.ga K "_law_alphabet") fd → FnOk P w K mg b0 CX k (He.ga K "_law_alphabet") fd ["pool"] sp) : Has P w K mg b0 CX k (He.ga K "_law_alphabet") ["pool"] sp := by
  obtain ⟨fd, F⟩ := T.c.def_ 20
  exact ⟨⟨fd, H fd (He5.fun_of F), (He5.fun_of (st := s__law_alphabet) F).binds fun _ _ _ _ _ _ us hl => match us, hl with | [_], _ => rfl⟩, F.kp⟩
theorem Txt.hG__law_alphabet (T : Txt K mg) (H : ∀ fd, L2.Fun K "_law_alphabet" "_law_alphabet" s__law_alphabet (He.ga K "_law_alphabet") fd → FnG P w K mg b0 CX k (He.ga K "_law_alphabet") fd ["pool"] sp) : HasG P w K mg b0 CX k (He.ga K "_law_alphabet") ["pool"] sp := by
  obtain ⟨fd, F⟩ := T.c.def_ 20
  exact ⟨⟨fd, H fd (He5.fun_of F), (He5.fun_of (st := s__law_alphabet) F).binds fun _ _ _ _ _ _ us hl => match us, hl with | [_], _ => rfl⟩, F.kp⟩
theorem Txt.h__law_is_name (T : Txt K mg) (H : ∀ fd, L2.Fun K "_law_is_name" "_law_is_name" s__law_is_name (He.ga K "_law_is_name") fd → FnOk P w K mg b0 CX k (He.ga K "_law_is_name") fd ["name"] sp) : Has P w K mg b0 CX k (He.ga K "_law_is_name") ["name"] sp := by
  obtain ⟨fd, F⟩ := T.c.def_ 21
  exact ⟨⟨fd, H fd (He5.fun_of F), (He5.fun_of (st := s__law_is_name) F).binds fun _ _ _ _ _ _ us hl => match us, hl with | [_], _ => rfl⟩, F.kp⟩
theorem Txt.hG__law_is_name (T : Txt K mg) (H : ∀ fd, L2.Fun K "_law_is_name" "_law_is_name" s__law_is_name (He.ga K "_law_is_name") fd → FnG P w K mg b0 CX k (He.ga K "_law_is_name") fd ["name"] sp) : HasG P w K mg b0 CX k (He.ga K "_law_is_name") ["name"] sp := by
  obtain ⟨fd, F⟩ := T.c.def_ 21
  exact ⟨⟨fd, H fd (He5.fun_of F), (He5.fun_of (st := s__law_is_name) F).binds fun _ _ _ _ _ _ us hl => match us, hl with | [_], _ => rfl⟩, F.kp⟩
theorem Txt.h__law_fault (T : Txt K mg) (H : ∀ fd, L2.Fun K "_law_fault" "_law_fault" s__law_fault (He.ga K "_law_fault") fd → FnOk P w K mg b0 CX k (He.ga K "_law_fault") fd ["letters"] sp) : Has P w K mg b0 CX k (He.ga K "_law_fault") ["letters"] sp := by
  obtain ⟨fd, F⟩ := T.c.def_ 22
  exact ⟨⟨fd, H fd (He5.fun_of F), (He5.fun_of (st := s__law_fault) F).binds fun _ _ _ _ _ _ us hl => match us, hl with | [_], _ => rfl⟩, F.kp⟩
theorem Txt.hG__law_fault (T : Txt K mg) (H : ∀ fd, L2.Fun K "_law_fault" "_law_fault" s__law_fault (He.ga K "_law_fault") fd → FnG P w K mg b0 CX k (He.ga K "_law_fault") fd ["letters"] sp) : HasG P w K mg b0 CX k (He.ga K "_law_fault") ["letters"] sp := by
  obtain ⟨fd, F⟩ := T.c.def_ 22
  exact ⟨⟨fd, H fd (He5.fun_of F), (He5.fun_of (st := s__law_fault) F).binds fun _ _ _ _ _ _ us hl => match us, hl with | [_], _ => rfl⟩, F.kp⟩
theorem Txt.h__law_facing (T : Txt K mg) (H : ∀ fd, L2.Fun K "_law_facing" "_law_facing" s__law_facing (He.ga K "_law_facing") fd → FnOk P w K mg b0 CX k (He.ga K "_law_facing") fd ["letters"] sp) : Has P w K mg b0 CX k (He.ga K "_law_facing") ["letters"] sp := by
  obtain ⟨fd, F⟩ := T.c.def_ 23
  exact ⟨⟨fd, H fd (He5.fun_of F), (He5.fun_of (st := s__law_facing) F).binds fun _ _ _ _ _ _ us hl => match us, hl with | [_], _ => rfl⟩, F.kp⟩
theorem Txt.hG__law_facing (T : Txt K mg) (H : ∀ fd, L2.Fun K "_law_facing" "_law_facing" s__law_facing (He.ga K "_law_facing") fd → FnG P w K mg b0 CX k (He.ga K "_law_facing") fd ["letters"] sp) : HasG P w K mg b0 CX k (He.ga K "_law_facing") ["letters"] sp := by
  obtain ⟨fd, F⟩ := T.c.def_ 23
  exact ⟨⟨fd, H fd (He5.fun_of F), (He5.fun_of (st := s__law_facing) F).binds fun _ _ _ _ _ _ us hl => match us, hl with | [_], _ => rfl⟩, F.kp⟩
theorem Txt.h__law_worded (T : Txt K mg) (H : ∀ fd, L2.Fun K "_law_worded" "_law_worded" s__law_worded (He.ga K "_law_worded") fd → FnOk P w K mg b0 CX k (He.ga K "_law_worded") fd ["names"] sp) : Has P w K mg b0 CX k (He.ga K "_law_worded") ["names"] sp := by
  obtain ⟨fd, F⟩ := T.c.def_ 24
  exact ⟨⟨fd, H fd (He5.fun_of F), (He5.fun_of (st := s__law_worded) F).binds fun _ _ _ _ _ _ us hl => match us, hl with | [_], _ => rfl⟩, F.kp⟩
theorem Txt.hG__law_worded (T : Txt K mg) (H : ∀ fd, L2.Fun K "_law_worded" "_law_worded" s__law_worded (He.ga K "_law_worded") fd → FnG P w K mg b0 CX k (He.ga K "_law_worded") fd ["names"] sp) : HasG P w K mg b0 CX k (He.ga K "_law_worded") ["names"] sp := by
  obtain ⟨fd, F⟩ := T.c.def_ 24
  exact ⟨⟨fd, H fd (He5.fun_of F), (He5.fun_of (st := s__law_worded) F).binds fun _ _ _ _ _ _ us hl => match us, hl with | [_], _ => rfl⟩, F.kp⟩
theorem Txt.h__law_named (T : Txt K mg) (H : ∀ fd, L2.Fun K "_law_named" "_law_named" s__law_named (He.ga K "_law_named") fd → FnOk P w K mg b0 CX k (He.ga K "_law_named") fd ["e"] sp) : Has P w K mg b0 CX k (He.ga K "_law_named") ["e"] sp := by
  obtain ⟨fd, F⟩ := T.c.def_ 25
  exact ⟨⟨fd, H fd (He5.fun_of F), (He5.fun_of (st := s__law_named) F).binds fun _ _ _ _ _ _ us hl => match us, hl with | [_], _ => rfl⟩, F.kp⟩
theorem Txt.hG__law_named (T : Txt K mg) (H : ∀ fd, L2.Fun K "_law_named" "_law_named" s__law_named (He.ga K "_law_named") fd → FnG P w K mg b0 CX k (He.ga K "_law_named") fd ["e"] sp) : HasG P w K mg b0 CX k (He.ga K "_law_named") ["e"] sp := by
  obtain ⟨fd, F⟩ := T.c.def_ 25
  exact ⟨⟨fd, H fd (He5.fun_of F), (He5.fun_of (st := s__law_named) F).binds fun _ _ _ _ _ _ us hl => match us, hl with | [_], _ => rfl⟩, F.kp⟩
theorem Txt.h__law_face (T : Txt K mg) (H : ∀ fd, L2.Fun K "_law_face" "_law_face" s__law_face (He.ga K "_law_face") fd → FnOk P w K mg b0 CX k (He.ga K "_law_face") fd ["sig", "handed"] sp) : Has P w K mg b0 CX k (He.ga K "_law_face") ["sig", "handed"] sp := by
  obtain ⟨fd, F⟩ := T.c.def_ 26
  exact ⟨⟨fd, H fd (He5.fun_of F), (He5.fun_of (st := s__law_face) F).binds fun _ _ _ _ _ _ us hl => match us, hl with | [_, _], _ => rfl⟩, F.kp⟩
theorem Txt.hG__law_face (T : Txt K mg) (H : ∀ fd, L2.Fun K "_law_face" "_law_face" s__law_face (He.ga K "_law_face") fd → FnG P w K mg b0 CX k (He.ga K "_law_face") fd ["sig", "handed"] sp) : HasG P w K mg b0 CX k (He.ga K "_law_face") ["sig", "handed"] sp := by
  obtain ⟨fd, F⟩ := T.c.def_ 26
  exact ⟨⟨fd, H fd (He5.fun_of F), (He5.fun_of (st := s__law_face) F).binds fun _ _ _ _ _ _ us hl => match us, hl with | [_, _], _ => rfl⟩, F.kp⟩
theorem Txt.h__law_asked (T : Txt K mg) (H : ∀ fd, L2.Fun K "_law_asked" "_law_asked" s__law_asked (He.ga K "_law_asked") fd → FnOk P w K mg b0 CX k (He.ga K "_law_asked") fd ["deed", "sig", "thing"] sp) : Has P w K mg b0 CX k (He.ga K "_law_asked") ["deed", "sig", "thing"] sp := by
  obtain ⟨fd, F⟩ := T.c.def_ 27
  exact ⟨⟨fd, H fd (He5.fun_of F), (He5.fun_of (st := s__law_asked) F).binds fun _ _ _ _ _ _ us hl => match us, hl with | [_, _, _], _ => rfl⟩, F.kp⟩
theorem Txt.hG__law_asked (T : Txt K mg) (H : ∀ fd, L2.Fun K "_law_asked" "_law_asked" s__law_asked (He.ga K "_law_asked") fd → FnG P w K mg b0 CX k (He.ga K "_law_asked") fd ["deed", "sig", "thing"] sp) : HasG P w K mg b0 CX k (He.ga K "_law_asked") ["deed", "sig", "thing"] sp := by
  obtain ⟨fd, F⟩ := T.c.def_ 27
  exact ⟨⟨fd, H fd (He5.fun_of F), (He5.fun_of (st := s__law_asked) F).binds fun _ _ _ _ _ _ us hl => match us, hl with | [_, _, _], _ => rfl⟩, F.kp⟩
theorem Txt.h__law_fields (T : Txt K mg) (H : ∀ fd, L2.Fun K "_law_fields" "_law_fields" s__law_fields (He.ga K "_law_fields") fd → FnOk P w K mg b0 CX k (He.ga K "_law_fields") fd ["pool", "sig", "letters"] sp) : Has P w K mg b0 CX k (He.ga K "_law_fields") ["pool", "sig", "letters"] sp := by
  obtain ⟨fd, F⟩ := T.c.def_ 28
  exact ⟨⟨fd, H fd (He5.fun_of F), (He5.fun_of (st := s__law_fields) F).binds fun _ _ _ _ _ _ us hl => match us, hl with | [_, _, _], _ => rfl⟩, F.kp⟩
theorem Txt.hG__law_fields (T : Txt K mg) (H : ∀ fd, L2.Fun K "_law_fields" "_law_fields" s__law_fields (He.ga K "_law_fields") fd → FnG P w K mg b0 CX k (He.ga K "_law_fields") fd ["pool", "sig", "letters"] sp) : HasG P w K mg b0 CX k (He.ga K "_law_fields") ["pool", "sig", "letters"] sp := by
  obtain ⟨fd, F⟩ := T.c.def_ 28
  exact ⟨⟨fd, H fd (He5.fun_of F), (He5.fun_of (st := s__law_fields) F).binds fun _ _ _ _ _ _ us hl => match us, hl with | [_, _, _], _ => rfl⟩, F.kp⟩
theorem Txt.h__law_variants (T : Txt K mg) (H : ∀ fd, L2.Fun K "_law_variants" "_law_variants" s__law_variants (He.ga K "_law_variants") fd → FnOk P w K mg b0 CX k (He.ga K "_law_variants") fd ["pool", "letters"] sp) : Has P w K mg b0 CX k (He.ga K "_law_variants") ["pool", "letters"] sp := by
  obtain ⟨fd, F⟩ := T.c.def_ 29
  exact ⟨⟨fd, H fd (He5.fun_of F), (He5.fun_of (st := s__law_variants) F).binds fun _ _ _ _ _ _ us hl => match us, hl with | [_, _], _ => rfl⟩, F.kp⟩
theorem Txt.hG__law_variants (T : Txt K mg) (H : ∀ fd, L2.Fun K "_law_variants" "_law_variants" s__law_variants (He.ga K "_law_variants") fd → FnG P w K mg b0 CX k (He.ga K "_law_variants") fd ["pool", "letters"] sp) : HasG P w K mg b0 CX k (He.ga K "_law_variants") ["pool", "letters"] sp := by
  obtain ⟨fd, F⟩ := T.c.def_ 29
  exact ⟨⟨fd, H fd (He5.fun_of F), (He5.fun_of (st := s__law_variants) F).binds fun _ _ _ _ _ _ us hl => match us, hl with | [_, _], _ => rfl⟩, F.kp⟩
theorem Txt.h__law_made (T : Txt K mg) (H : ∀ fd, L2.Fun K "_law_made" "_law_made" s__law_made (He.ga K "_law_made") fd → FnOk P w K mg b0 CX k (He.ga K "_law_made") fd ["sig", "letters", "rows"] sp) : Has P w K mg b0 CX k (He.ga K "_law_made") ["sig", "letters", "rows"] sp := by
  obtain ⟨fd, F⟩ := T.c.def_ 30
  exact ⟨⟨fd, H fd (He5.fun_of F), (He5.fun_of (st := s__law_made) F).binds fun _ _ _ _ _ _ us hl => match us, hl with | [_, _, _], _ => rfl⟩, F.kp⟩
theorem Txt.hG__law_made (T : Txt K mg) (H : ∀ fd, L2.Fun K "_law_made" "_law_made" s__law_made (He.ga K "_law_made") fd → FnG P w K mg b0 CX k (He.ga K "_law_made") fd ["sig", "letters", "rows"] sp) : HasG P w K mg b0 CX k (He.ga K "_law_made") ["sig", "letters", "rows"] sp := by
  obtain ⟨fd, F⟩ := T.c.def_ 30
  exact ⟨⟨fd, H fd (He5.fun_of F), (He5.fun_of (st := s__law_made) F).binds fun _ _ _ _ _ _ us hl => match us, hl with | [_, _, _], _ => rfl⟩, F.kp⟩
theorem Txt.h__law_letters_told (T : Txt K mg) (H : ∀ fd, L2.Fun K "_law_letters_told" "_law_letters_told" s__law_letters_told (He.ga K "_law_letters_told") fd → FnOk P w K mg b0 CX k (He.ga K "_law_letters_told") fd ["text"] sp) : Has P w K mg b0 CX k (He.ga K "_law_letters_told") ["text"] sp := by
  obtain ⟨fd, F⟩ := T.c.def_ 31
  exact ⟨⟨fd, H fd (He5.fun_of F), (He5.fun_of (st := s__law_letters_told) F).binds fun _ _ _ _ _ _ us hl => match us, hl with | [_], _ => rfl⟩, F.kp⟩
theorem Txt.hG__law_letters_told (T : Txt K mg) (H : ∀ fd, L2.Fun K "_law_letters_told" "_law_letters_told" s__law_letters_told (He.ga K "_law_letters_told") fd → FnG P w K mg b0 CX k (He.ga K "_law_letters_told") fd ["text"] sp) : HasG P w K mg b0 CX k (He.ga K "_law_letters_told") ["text"] sp := by
  obtain ⟨fd, F⟩ := T.c.def_ 31
  exact ⟨⟨fd, H fd (He5.fun_of F), (He5.fun_of (st := s__law_letters_told) F).binds fun _ _ _ _ _ _ us hl => match us, hl with | [_], _ => rfl⟩, F.kp⟩
theorem Txt.h__law_texts (T : Txt K mg) (H : ∀ fd, L2.Fun K "_law_texts" "_law_texts" s__law_texts (He.ga K "_law_texts") fd → FnOk P w K mg b0 CX k (He.ga K "_law_texts") fd ["sig", "letters"] sp) : Has P w K mg b0 CX k (He.ga K "_law_texts") ["sig", "letters"] sp := by
  obtain ⟨fd, F⟩ := T.c.def_ 32
  exact ⟨⟨fd, H fd (He5.fun_of F), (He5.fun_of (st := s__law_texts) F).binds fun _ _ _ _ _ _ us hl => match us, hl with | [_, _], _ => rfl⟩, F.kp⟩
theorem Txt.hG__law_texts (T : Txt K mg) (H : ∀ fd, L2.Fun K "_law_texts" "_law_texts" s__law_texts (He.ga K "_law_texts") fd → FnG P w K mg b0 CX k (He.ga K "_law_texts") fd ["sig", "letters"] sp) : HasG P w K mg b0 CX k (He.ga K "_law_texts") ["sig", "letters"] sp := by
  obtain ⟨fd, F⟩ := T.c.def_ 32
  exact ⟨⟨fd, H fd (He5.fun_of F), (He5.fun_of (st := s__law_texts) F).binds fun _ _ _ _ _ _ us hl => match us, hl with | [_, _], _ => rfl⟩, F.kp⟩
theorem Txt.h_law (T : Txt K mg) (H : ∀ fd, L2.Fun K "law" "law" s_law (He.ga K "law") fd → FnOk P w K mg b0 CX k (He.ga K "law") fd ["script"] sp) : Has P w K mg b0 CX k (He.ga K "law") ["script"] sp := by
  obtain ⟨fd, F⟩ := T.c.def_ 33
  exact ⟨⟨fd, H fd (He5.fun_of F), (He5.fun_of (st := s_law) F).binds fun _ _ _ _ _ _ us hl => match us, hl with | [_], _ => rfl⟩, F.kp⟩
theorem Txt.hG_law (T : Txt K mg) (H : ∀ fd, L2.Fun K "law" "law" s_law (He.ga K "law") fd → FnG P w K mg b0 CX k (He.ga K "law") fd ["script"] sp) : HasG P w K mg b0 CX k (He.ga K "law") ["script"] sp := by
  obtain ⟨fd, F⟩ := T.c.def_ 33
  exact ⟨⟨fd, H fd (He5.fun_of F), (He5.fun_of (st := s_law) F).binds fun _ _ _ _ _ _ us hl => match us, hl with | [_], _ => rfl⟩, F.kp⟩
end
def names0 : List Str := ["AskError", "BadLetter", "NoConstant", "NoLetter", "BadText", "BadGauge", "START", "SMALL", "DIGITS", "MOST_LETTERS", "LONGEST_NAME", "is_name", "letter_entries", "Signature", "ARITIES", "signature_text", "read_signature", "_law_cells", "_law_draw", "_law_pick", "_law_same", "_law_called", "_law_alphabet", "_law_is_name", "_law_fault", "_law_facing", "_law_worded", "_law_named", "_law_face", "_law_asked"]
def names1 : List Str := ["_law_fields", "_law_variants", "_law_made", "_law_letters_told", "_law_texts"]
def names : List Str := names0 ++ names1
def lawAt : Nat := 39
end K93

set_option Elab.async false
set_option linter.all false
set_option maxRecDepth 100000
set_option maxHeartbeats 0
namespace K93
open PySem PySem.W PySem.Calls PyProof.Rows
abbrev R : OpenRow := OpenLaw.row PySem.Challenge.rw_learntbyasking_k93_signatures_kept
abbrev hk : PySem.W.Hook := B.hookM 6 fx fn
def ob (s : PySem.W.SharedT) : He.AlD := B.obsMG 6 fx fn (HandSHeadRun.getT s)
theorem ob_eq (s : PySem.W.SharedT) : ob s = hk.obs s.abs := B.obsMG_eq (HandSHeadRun.getT_eq s)
theorem run (w : World) : HandSHeadRun.RunEq R (PySem.W.view R.prog [lawAt]) hk ob 6000 names w := by
  intro os
  kernel_rfl
end K93

set_option Elab.async false
set_option linter.all false
set_option maxRecDepth 100000
set_option maxHeartbeats 4000000
namespace K93
open PySem PySem.Spec PyProof.Rows L2 B

def small : Str := "abcdefghijklmnopqrstuvwxyz"
def digits : Str := "0123456789"
def inS (c : Nat) : Bool := decide (c ∈ small.cps.toList)
def inD (c : Nat) : Bool := decide (c ∈ digits.cps.toList)
def head (s : Str) : Bool := match s.cps.toList with
  | c :: _ => inS c
  | [] => false
def rest (l : List Nat) : Bool := l.all fun c => inS c || inD c
/-- a name -/
def isName (s : Str) : Bool := decide (1 ≤ s.length ∧ s.length ≤ 8) && (head s && rest s.cps.toList)
section
variable {P : Program} {w : World} {K : PySem.W.Frag} {mg : Str → Option Value} {b0 : Heap}
/-- is_name(thing), thing a text -/
def spIsName : Sp := fun vs H Q _ => ∃ s : Str, vs = [.str s] ∧ s.length ≤ 10000 ∧ Q (.bl (isName s)) H
theorem ok_is_name (T : Txt K mg) : Has P w K mg b0 CX0 1 (He.ga K "is_name") ["thing"] spIsName := by
  refine T.h_is_name fun fd F => F.ok sc_is_name (fun vs H Q E h => ?_) (fun cdv A outer s H vs Q E hr h => ?_)
  · obtain ⟨s, rfl, _⟩ := h; rfl
  · obtain ⟨x, rfl, hl, q⟩ := h
    refine ⟨_, pss_cons (ps_if (pt_not (pt_val (pe_callB call_isi (by rfl) T.n_isinstance (by decide +kernel) (pa_cons (pv 0) (pa_cons (gTy (n := "str") T.n_str) pa_nil))))) (pss_one (ps_ret pe_bl)) pss_nil)
      (pss_cons (ps_if (PW.pt (pw_or (pt_not (pt_chain op_le op_le pe_int (pe_callB call_len (by rfl) T.n_len PySem.boot_len (pa_cons (pv 0) pa_nil)) (gI T.c_LONGEST_NAME)))
          (pw_or1 (pt_cmpR op_notIn_sign (pe_item_str (pv 0) pe_int (fun _ _ => rfl)) (gS (z := small) T.c_SMALL) rfl)))) (pss_one (ps_ret pe_bl)) pss_nil)
      (pss_cons (ps_for PassesOwn.never rfl (pi_str (pv 0)) (pg_name (i := 1) sc_is_name.nd rfl (Or.inl rfl))
        (pss_one (ps_if (PW.pt (pw_and (pt_cmpR op_notIn_sign (pv 1) (gS (z := small) T.c_SMALL) rfl) (pw_and1 (pt_cmpR op_notIn_sign (pv 1) (gS (z := digits) T.c_DIGITS) rfl)))) (pss_one (ps_ret pe_bl)) pss_nil)))
      (pss_one (ps_ret pe_bl)))), ?_⟩
    refine at_ (σ' := [some (V.str x), none]) rfl ?_
    refine sq (if_no1 (an_not (an_isStr (vl_var rfl))) ?_)
    -- 1 <= len(thing) <= 8, thing[0] in SMALL
    have lz : x.length ≤ sizeLine := Nat.le_trans hl (by decide)
    refine sq ?_
    refine if_1 (b := !(decide (1 ≤ x.length ∧ x.length ≤ 8) && head x)) (an_cong (a := !decide (1 ≤ x.length ∧ x.length ≤ 8) || !head x) (an_or (an_not (an_test fun Q q => ?_)) fun ha => an_test fun Q q => ?_) (by rw [Bool.not_and])) (fun e => ?_) (fun e => ?_)
    · refine ⟨_, rfl, _, x.length, rfl, ⟨lz, rfl⟩, _, _, rfl, rfl, _, rfl, ?_⟩
      by_cases c : (1 : Int) ≤ (x.length : Int)
      · rw [decide_eq_true c, if_pos rfl]
        refine ⟨_, _, rfl, rfl, ?_⟩
        have e : decide ((x.length : Int) ≤ 8) = decide (1 ≤ x.length ∧ x.length ≤ 8) := by
          apply decide_eq_decide.mpr; omega
        show Q (.bl (decide ((x.length : Int) ≤ 8))) H
        rw [e]; exact q
      · rw [decide_eq_false c, if_neg Bool.false_ne_true]
        have e : decide (1 ≤ x.length ∧ x.length ≤ 8) = false := decide_eq_false (by omega)
        rw [e] at q; exact q
    · have ha : 1 ≤ x.length ∧ x.length ≤ 8 := by simpa using ha
      obtain ⟨c, hc⟩ : ∃ c, x.cps[0]? = some c := ⟨x.cps[0]'ha.1, Array.getElem?_eq_getElem ha.1⟩
      refine ⟨_, rfl, x, 0, c, rfl, rfl, by omega, by omega, by omega, hc, c, small, rfl, rfl, ?_⟩
      have e : head x = decide (c ∈ small.cps.toList) := by
        have h1 := cps_get hc
        unfold head
        cases hx : x.cps.toList with
        | nil => rw [hx] at h1; cases h1
        | cons d r => rw [hx] at h1; cases h1; rfl
      rw [← e]; exact q
    · have e2 : isName x = false := by
        unfold isName
        rw [← Bool.and_assoc]
        have e3 : (decide (1 ≤ x.length ∧ x.length ≤ 8) && head x) = false := notT e
        rw [e3]; rfl
      rw [e2] at q; exact q
    · have e3 : (decide (1 ≤ x.length ∧ x.length ≤ 8) && head x) = true := notF e
      have e4 : isName x = rest x.cps.toList := by
        unfold isName
        rw [← Bool.and_assoc, e3]; rfl
      rw [e4] at q
      refine ⟨_, rfl, x, rfl, for_it walk_str (fun i σ H' => H' = H ∧ (∃ v, σ = [some (V.str x), v]) ∧ rest (x.cps.toList.take i) = true) ⟨rfl, ⟨_, rfl⟩, rfl⟩ (fun _ _ _ _ _ => trivial) ?_ ?_⟩
      · rintro i y σ H1 H2 hi ⟨rfl, ⟨v, rfl⟩, hr⟩ ⟨rfl, c, hc, rfl⟩
        refine at_ (σ' := [some (V.str x), some (V.str ⟨#[c]⟩)]) rfl ?_
        have hc' := cps_get hc
        refine if_1 (b := !(inS c || inD c)) (an_cong (a := !inS c && !inD c) (an_and (an_test fun Q q => ⟨_, rfl, c, small, rfl, rfl, q⟩) fun _ => an_test fun Q q => ⟨_, rfl, c, digits, rfl, rfl, q⟩) (by rw [Bool.not_or])) (fun e => ?_) (fun e => ?_)
        · have e5 : rest x.cps.toList = false := by
            unfold rest
            rw [List.all_eq_false]
            exact ⟨c, List.mem_of_getElem? hc', by rw [notT e]; exact Bool.false_ne_true⟩
          rw [e5] at q; exact q
        · refine ⟨rfl, ⟨_, rfl⟩, ?_⟩
          unfold rest at hr ⊢
          have e6 := notF e
          rw [List.take_add_one, List.all_append, hr, hc']
          simpa using e6
      · rintro σ H1 ⟨rfl, ⟨v, rfl⟩, hr⟩
        have e : x.cps.toList.take x.cps.size = x.cps.toList := List.take_of_length_le (by rw [Array.length_toList]; exact Nat.le_refl _)
        rw [e] at hr
        rw [hr] at q; exact q
end
end K93

set_option Elab.async false
set_option linter.all false
set_option maxRecDepth 100000
set_option maxHeartbeats 4000000
namespace B
open PySem PySem.Spec PyProof.Rows L2
theorem _root_.L2.Room.un1 {k : Nat} {A : Around} (r : Room k A) : A.units + 1 < cLine := by have := r.un; omega
theorem _root_.L2.Room.un64 {k : Nat} {A : Around} (r : Room k A) : A.units + 64 < cLine := by have := r.un; omega
theorem _root_.L2.Room.un65 {k : Nat} {A : Around} (r : Room k A) : A.units + 65 < cLine := by have := r.un; omega
section
variable {X : Cx} {C fI : Addr} {n f x : Str} {j : Nat} {e : Expr} {es : List Expr} {ta : TA} {p pos : Pos}
/-- C(..), an own error of one field -/
theorem pmk_err (T : ErrF X.K C fI f) (D : Has X.prog X.w X.K X.mg X.base CX0 1 fI ["self", x] (spErr C f)) (hm : X.mg n = some (.ref C)) (hr : Room j X.A) (ha : PA X (e :: es) ta) (hj : 2 ≤ j := by decide) (hg : Gl X n := by rfl)
    (hdb : (n == ("__debug__" : Str)) = false := by decide) (he : starEach (e :: es) X.env = (false, eval e X.env) :: starEach es X.env := by rfl) (hpl : (backTo pos (starEach es X.env)).any (·.1) = false := by rfl) : L2H.PMk5 X (.Call (.Name n p) (e :: es) [] pos) (tMkO C (spErr C f) [] ta) := by
  obtain ⟨⟨fd, F, b⟩, kp⟩ := D
  exact pmk5_calm T.oex T.init T.fn F (hr.mono hj) b (fun _ _ _ _ _ _ _ z => z.elim) hg hm ha hdb he hpl
end
theorem noX {X : Cx} {E : XK} : Passes CX0 X E := fun _ _ _ _ _ _ _ z => z.elim
theorem noXA {X : Cx} {σ : L2.St} {E : XK} : PassesAt CX0 X σ E := fun _ _ _ _ _ _ z => z.elim
/-- a thing made here: what was done to it may be forgotten -/
theorem Gr.made {M : List Addr} {F H F' H' : Hp} {x dx : Addr} {o u : HO} (s : Same F H) (g : Gr [x] F (upd (upd H dx o) x u) F' H') (hx : H x = none) (hd : H dx = none) : Gr M F H F' H' := by
  have g0 : Gr [] F H F (upd (upd H dx o) x u) := by
    by_cases e : x = dx
    · subst e
      have e2 : upd (upd H x o) x u = upd H x u := by funext b; by_cases hb : b = x <;> simp [upd, hb]
      rw [e2]; exact (Gr.refl s).own hx
    · exact ((Gr.refl s).own hd).own (by rw [upd_ne e]; exact hx)
  refine ⟨g0.ff.trans g.ff, g.fh, fun b w n e => g.hh b w (fun z => ?_) (g0.hh b w (fun q => nomatch q) e), fun b e => g.al b (g0.al b e), fun b e n => g.nf b (g0.al b e) (g0.nf b e n)⟩
  rw [List.mem_singleton.mp z, hx] at e; cases e
theorem inV_int (n : Int) (xs : List Int) : inV (.int n) (xs.map V.int) = decide (n ∈ xs) := by
  unfold inV
  induction xs with
  | nil => rfl
  | cons x xs ih =>
    rw [List.map_cons, List.any_cons, ih]
    show ((x == n) || decide (n ∈ xs)) = _
    by_cases h : x = n
    · subst h; simp
    · have h2 : (x == n) = false := beq_eq_false_iff_ne.mpr h
      have h3 : ¬ n = x := fun e => h e.symm
      simp [h2, h3]
theorem inV_str (n : Str) (xs : List Str) : inV (.str n) (xs.map V.str) = decide (n ∈ xs) := by
  unfold inV
  induction xs with
  | nil => rfl
  | cons x xs ih =>
    rw [List.map_cons, List.any_cons, ih]
    show ((x == n) || decide (n ∈ xs)) = _
    by_cases h : x = n
    · subst h; simp
    · have h2 : (x == n) = false := beq_eq_false_iff_ne.mpr h
      have h3 : ¬ n = x := fun e => h e.symm
      simp [h2, h3]
theorem flat_ints (xs : List Int) : (xs.map V.int).all flatV = true := by rw [List.all_map, List.all_eq_true]; intro _ _; rfl
theorem flat_strs (xs : List Str) : (xs.map V.str).all flatV = true := by rw [List.all_map, List.all_eq_true]; intro _ _; rfl
section
variable {K : PySem.W.Frag} {ta tb : TE} {σ : L2.St} {F H : Hp} {neg : Bool}
theorem vg_inInts {n : Int} {xs : List Int} (ha : Vg K ta σ F H (.int n)) (hb : Ev F H fun F2 H2 => Vp tb σ F2 H2 fun v F3 => ∃ a, v = .ref a ∧ Sq K F3 a (xs.map V.int)) : Vg K (tOp (rIn K neg) ta tb) σ F H (.bool (if neg then !decide (n ∈ xs) else decide (n ∈ xs))) :=
  vp_op ha hb (fun _ _ _ s p => Dp.mono s p) fun x y F3 H3 Q g p q k => by
    obtain ⟨a, rfl, hq⟩ := q
    cases p
    refine ⟨a, _, rfl, Sq.mono g.fh hq, rfl, flat_ints xs, ?_⟩
    rw [inV_int]
    exact k _ F3 H3 (Gr.refl g.fh) (.bl _)
theorem vg_inStrs {n : Str} {xs : List Str} (ha : Vg K ta σ F H (.str n)) (hb : Ev F H fun F2 H2 => Vp tb σ F2 H2 fun v F3 => ∃ a, v = .ref a ∧ Sq K F3 a (xs.map V.str)) : Vg K (tOp (rIn K neg) ta tb) σ F H (.bool (if neg then !decide (n ∈ xs) else decide (n ∈ xs))) :=
  vp_op ha hb (fun _ _ _ s p => Dp.mono s p) fun x y F3 H3 Q g p q k => by
    obtain ⟨a, rfl, hq⟩ := q
    cases p
    refine ⟨a, _, rfl, Sq.mono g.fh hq, rfl, flat_strs xs, ?_⟩
    rw [inV_str]
    exact k _ F3 H3 (Gr.refl g.fh) (.bl _)
theorem sq_intsT {v : V} {xs : List Int} (h : Dp K F v (.tuple (xs.map .int))) : ∃ a, v = .ref a ∧ Sq K F a (xs.map V.int) := by
  obtain ⟨a, ys, e, s, p⟩ := h.tup_of
  rw [p.ints_of] at s
  exact ⟨a, e, .inr s⟩
theorem sq_intsL {v : V} {xs : List Int} (h : Dp K F v (.list (xs.map .int))) : ∃ a, v = .ref a ∧ Sq K F a (xs.map V.int) := by
  obtain ⟨a, ys, e, s, p⟩ := h.lst_of
  rw [p.ints_of] at s
  exact ⟨a, e, .inl s⟩
theorem sq_strsL {v : V} {xs : List Str} (h : Dp K F v (.list (xs.map .str))) : ∃ a, v = .ref a ∧ Sq K F a (xs.map V.str) := by
  obtain ⟨a, ys, e, s, p⟩ := h.lst_of
  rw [p.strs_of] at s
  exact ⟨a, e, .inl s⟩
end
end B
namespace K93
open PySem PySem.Spec PyProof.Rows L2 B

/-! ### letters -/
abbrev Lt := Str × Int
def ltD (p : Lt) : PyData := .tuple [.str p.1, .int p.2]
abbrev nms (ls : List Lt) : List Str := ls.map (·.1)
def arOk (n : Int) : Bool := decide (n ∈ [0, 1, 2])
def badL (seen : List Str) (i : Nat) (p : Lt) : Bool := decide ((i : Int) = 12) || (!isName p.1 || (decide (p.1 ∈ seen) || !arOk p.2))
def badAt (seen : List Str) (i : Nat) : List Lt → Option Nat
  | [] => none
  | p :: r => if badL seen i p = true then some i else badAt (seen ++ [p.1]) (i + 1) r
def hasC (ls : List Lt) : Bool := decide ((0 : Int) ∈ ls.map (·.2))
/-- what a signature of the letters comes to: none, BadLetter(n), NoConstant -/
def verdict (ls : List Lt) : Option (Option Nat) := match badAt [] 0 ls with
  | some n => some (some n)
  | none => if hasC ls = true then none else some none
def OkLs (ls : List Lt) : Prop := ls.length ≤ 1000 ∧ ∀ p ∈ ls, p.1.length ≤ 10000
def arK (ls : List Lt) : List (Key × V) := ls.map fun p => (.inr p.1, .int p.2)
def plK (i : Nat) : List Lt → List (Key × V)
  | [] => []
  | p :: r => (.inr p.1, .int (i : Nat)) :: plK (i + 1) r
theorem plK_snoc (p : Lt) : ∀ (ls : List Lt) (i : Nat), plK i (ls ++ [p]) = plK i ls ++ [(.inr p.1, .int ((i + ls.length : Nat) : Int))]
  | [], i => rfl
  | q :: r, i => by
    show (_ :: plK (i + 1) (r ++ [p])) = _
    rw [plK_snoc p r (i + 1)]
    show _ = _ :: (plK (i + 1) r ++ _)
    rw [List.length_cons, Nat.add_right_comm i 1, Nat.add_assoc i r.length 1]
theorem arK_snoc (p : Lt) (ls : List Lt) : arK (ls ++ [p]) = arK ls ++ [(.inr p.1, .int p.2)] := List.map_append
theorem arK_has (x : Str) : ∀ ls : List Lt, (valV (arK ls) (.inr x : Key)).isSome = decide (x ∈ nms ls)
  | [] => rfl
  | p :: r => by
    have ih := arK_has x r
    by_cases h : p.1 = x
    · have e : valV (arK (p :: r)) (.inr x : Key) = some (.int p.2) := valV_pos (p := ((Sum.inr p.1 : Key), V.int p.2)) (congrArg Sum.inr h)
      rw [e]; simp [nms, h]
    · have e : valV (arK (p :: r)) (.inr x : Key) = valV (arK r) (.inr x) := valV_neg (p := ((Sum.inr p.1 : Key), V.int p.2)) (fun z => h (Sum.inr.inj z))
      have h2 : ¬ x = p.1 := fun z => h z.symm
      rw [e, ih]; simp [nms, h2]
theorem plK_has (x : Str) : ∀ (ls : List Lt) (i : Nat), (valV (plK i ls) (.inr x : Key)).isSome = decide (x ∈ nms ls)
  | [], _ => rfl
  | p :: r, i => by
    have ih := plK_has x r (i + 1)
    by_cases h : p.1 = x
    · have e : valV (plK i (p :: r)) (.inr x : Key) = some (.int (i : Nat)) := valV_pos (p := ((Sum.inr p.1 : Key), V.int (i : Nat))) (congrArg Sum.inr h)
      rw [e]; simp [nms, h]
    · have e : valV (plK i (p :: r)) (.inr x : Key) = valV (plK (i + 1) r) (.inr x) := valV_neg (p := ((Sum.inr p.1 : Key), V.int (i : Nat))) (fun z => h (Sum.inr.inj z))
      have h2 : ¬ x = p.1 := fun z => h z.symm
      rw [e, ih]; simp [nms, h2]
theorem plK_length : ∀ (ls : List Lt) (i : Nat), (plK i ls).length = ls.length
  | [], _ => rfl
  | _ :: r, i => by show (plK (i + 1) r).length + 1 = _; rw [plK_length r (i + 1)]; rfl
section
variable {K : PySem.W.Frag} {F H : Hp}
theorem lt_of {v : V} {p : Lt} (h : Dp K F v (ltD p)) : ∃ t, v = .ref t ∧ SqT K F t [.str p.1, .int p.2] := by
  obtain ⟨t, xs, e, s, q⟩ := Dp.tup_of (show Dp K F v (.tuple [.str p.1, .int p.2]) from h)
  cases q with
  | cons q1 q => cases q with
    | cons q2 q => cases q; cases q1; cases q2; exact ⟨t, e, s⟩
theorem lts_at {xs : List V} {ls : List Lt} {i : Nat} {x : V} (h : DpAll K F xs (ls.map ltD)) (e : xs[i]? = some x) : ∃ p t, ls[i]? = some p ∧ x = .ref t ∧ SqT K F t [.str p.1, .int p.2] := by
  obtain ⟨d, h1, h2⟩ := h.get e
  rw [List.getElem?_map, Option.map_eq_some_iff] at h1
  obtain ⟨p, h3, rfl⟩ := h1
  obtain ⟨t, h4, h5⟩ := lt_of h2
  exact ⟨p, t, h3, h4, h5⟩
theorem lts_len {xs : List V} {ls : List Lt} (h : DpAll K F xs (ls.map ltD)) : xs.length = ls.length := by rw [h.length, List.length_map]
end
theorem take_snoc {α : Type} {ls : List α} {i : Nat} {p : α} (h : ls[i]? = some p) : ls.take (i + 1) = ls.take i ++ [p] := by rw [List.take_add_one, h]; rfl
theorem drop_cons {α : Type} {ls : List α} {i : Nat} {p : α} (h : ls[i]? = some p) : ls.drop i = p :: ls.drop (i + 1) := by
  obtain ⟨hi, e⟩ := List.getElem?_eq_some_iff.mp h
  rw [List.drop_eq_getElem_cons hi, e]
/-- the fields of a signature -/
def SigP (K : PySem.W.Frag) (F : Hp) (fs : List (Str × V)) (ls : List Lt) : Prop := ∃ t n a p xs, fs = ([("letters", .ref t), ("names", .ref n), ("arities", .ref a), ("places", .ref p)] : List (Str × V)) ∧ F t = some (.tup xs) ∧ DpAll K F xs (ls.map ltD) ∧
  F n = some (.tup ((nms ls).map V.str)) ∧ F a = some (.dK (arK ls)) ∧ F p = some (.dK (plK 0 ls))
def spInit (K : PySem.W.Frag) : Sp := fun vs H Q E => ∃ F x l dx xs ls, vs = [.ref x, .ref l] ∧ Same F H ∧ H x = some (.ins (He.ga K "Signature") dx []) ∧ F x = none ∧ Sq K H l xs ∧ DpAll K F xs (ls.map ltD) ∧ OkLs ls ∧
  (verdict ls = none → ∀ fs F' H', Gr [x] F H F' H' → F' x = none → H' x = some (.ins (He.ga K "Signature") dx fs) → SigP K F' fs ls → Q .non H') ∧
  (∀ n, verdict ls = some (some n) → ∀ d F' H', Gr [] F H F' H' → H' d = some (.xd [("at", .int (n : Nat))]) → E (.ref (He.ga K "BadLetter")) (some d) H') ∧
  (verdict ls = some none → ∀ F' H', Gr [] F H F' H' → E (.ref (He.ga K "NoConstant")) none H')
theorem et_BadLetter : ErrT s_BadLetter_init "at" "at" := ⟨sc_BadLetter_init, ⟨_, _, _, _, rfl⟩, rfl, rfl, by decide, by decide⟩
theorem et_NoLetter : ErrT s_NoLetter_init "name" "name" := ⟨sc_NoLetter_init, ⟨_, _, _, _, rfl⟩, rfl, rfl, by decide, by decide⟩
theorem et_BadText : ErrT s_BadText_init "line" "line" := ⟨sc_BadText_init, ⟨_, _, _, _, rfl⟩, rfl, rfl, by decide, by decide⟩
section
variable {P : Program} {w : World} {K : PySem.W.Frag} {mg : Str → Option Value} {b0 : Heap}
theorem i_BadLetter (T : Txt K mg) : Has P w K mg b0 CX0 1 (He.ma K (He.ga K "BadLetter") "__init__") ["self", "at"] (spErr (He.ga K "BadLetter") "at") := T.h_BadLetter_init fun fd F => err_fn T.er_BadLetter et_BadLetter F
theorem i_NoLetter (T : Txt K mg) : Has P w K mg b0 CX0 1 (He.ma K (He.ga K "NoLetter") "__init__") ["self", "name"] (spErr (He.ga K "NoLetter") "name") := T.h_NoLetter_init fun fd F => err_fn T.er_NoLetter et_NoLetter F
theorem i_BadText (T : Txt K mg) : Has P w K mg b0 CX0 1 (He.ma K (He.ga K "BadText") "__init__") ["self", "line"] (spErr (He.ga K "BadText") "line") := T.h_BadText_init fun fd F => err_fn T.er_BadText et_BadText F
/-- is_name told of data -/
theorem vg_isName {tl : TA} {σ : L2.St} {F H : Hp} {x : Str} (h : Lg K tl σ F H [.str x]) (hl : x.length ≤ 10000) : Vg K (tCall spIsName [] E0 tl) σ F H (.bool (isName x)) := vp_call h fun vs F2 H2 Q g p k => by
  cases p with
  | cons p1 p2 => cases p1; cases p2; exact ⟨x, rfl, hl, k _ F2 H2 (Gr.refl g.fh) (.bl _)⟩
end
end K93

set_option Elab.async false
set_option linter.all false
set_option maxRecDepth 100000
set_option maxHeartbeats 4000000
namespace K93
open PySem PySem.Spec PyProof.Rows L2 B
section
variable {P : Program} {w : World} {K : PySem.W.Frag} {mg : Str → Option Value} {b0 : Heap}
theorem ok_init (T : Txt K mg) : Has P w K mg b0 (L2N.CX P w) 3 (He.ma K (He.ga K "Signature") "__init__") ["self", "letters"] (spInit K) := by
  refine T.h_Signature_init fun fd F => Fun.okN F sc_Signature_init (fun vs H Q E h => ?_) (fun cdv A outer s H vs Q E hr h => ?_)
  · obtain ⟨_, _, _, _, _, _, rfl, _⟩ := h; rfl
  · obtain ⟨F0, x, l, dx, xs, ls, rfl, s0, hx, fx, hq, hd, ok, kOk, kBad, kNo⟩ := h
    have S := sc_Signature_init
    refine ⟨_, pss_cons (ps_set (i := 2) S.nd rfl (Or.inl rfl) pe_dnewK) (pss_cons (ps_set (i := 3) S.nd rfl (Or.inl rfl) pe_dnewK)
      (pss_cons (ps_for (passes_of rfl) rfl (pi_esq T.n_enumerate (pa_cons (pv 1) pa_nil)) (pg_tup rfl (pgs_cons (pg_name (i := 4) S.nd rfl (Or.inl rfl)) (pgs_cons (pg_tup rfl (pgs_cons (pg_name (i := 5) S.nd rfl (Or.inl rfl)) (pgs_cons (pg_name (i := 6) S.nd rfl (Or.inl rfl)) pgs_nil))) pgs_nil)))
        (pss_cons (ps_if (PW.pt (pw_or (pt_cmpR op_eq (pv 4) (gI T.c_MOST_LETTERS) rfl) (pw_or (pt_not (pt_val (pc (E := E0) (ok_is_name T) T.g_is_name hr noX (pa_cons (pv 5) pa_nil))))
            (pw_or (pt_cmp (pc_din hr.un1 (pv 5) (pv 2))) (pw_or1 (pt_cmpR op_notIn_seq (pv 6) (pe_tup (pa_cons pe_int (pa_cons pe_int (pa_cons pe_int pa_nil)))) rfl))))))
          (pss_one (L2N.ps_raise rfl (L2N.takes_of rfl rfl rfl rfl) (pmk_err T.er_BadLetter (i_BadLetter T) T.g_BadLetter hr (pa_cons (pv 4) pa_nil)).pmk)) pss_nil)
          (pss_cons (ps_dput hr.un1 (pv 2) (pv 5) (pv 6) rfl) (pss_one (ps_dput hr.un1 (pv 3) (pv 5) (pv 4) rfl)))))
      (pss_cons (ps_if (pt_cmpR op_notIn_seq pe_int (pe_listVals rfl (pv 2) T.n_list) rfl) (pss_one (L2N.ps_raise rfl (L2N.takes_of rfl rfl rfl rfl) (pmk5_own0 T.ex_NoConstant T.g_NoConstant).pmk)) pss_nil)
      (pss_cons (ps_fld (pv 0) (pe_callTy call_tuple_of rfl T.n_tuple (by decide +kernel) (pa_cons (pe_lc (own := [("name", 5), ("arity", 6)]) (g := gTup K 2 (gCons (gName 5) (gCons (gName 6) gNil))) rfl S.nd (pi_sq (pv 1)) (blkOk_by (N := n_Signature_init) (sc := defScope s_Signature_init) (by decide +kernel))
          (fun _ _ _ _ _ => pg_tup rfl (pgs_cons (pg_name (i := 5) S.nd rfl (Or.inl rfl)) (pgs_cons (pg_name (i := 6) S.nd rfl (Or.inl rfl)) pgs_nil))) (fun _ _ _ _ _ => pts_nil) (fun _ _ _ _ _ => pe_tup (pa_cons (pv 5) (pa_cons (pv 6) pa_nil)))) pa_nil)) rfl)
      (pss_cons (ps_fld (pv 0) (pe_callTy call_tuple_of rfl T.n_tuple (by decide +kernel) (pa_cons (pe_lc (own := [("name", 5), ("_", 7)]) (g := gTup K 2 (gCons (gName 5) (gCons (gName 7) gNil))) rfl S.nd (pi_sq (pv 1)) (blkOk_by (N := n_Signature_init) (sc := defScope s_Signature_init) (by decide +kernel))
          (fun _ _ _ _ _ => pg_tup rfl (pgs_cons (pg_name (i := 5) S.nd rfl (Or.inl rfl)) (pgs_cons (pg_name (i := 7) S.nd rfl (Or.inl rfl)) pgs_nil))) (fun _ _ _ _ _ => pts_nil) (fun _ _ _ _ _ => pv 5)) pa_nil)) rfl)
      (pss_cons (ps_fld (pv 0) (pv 2) rfl) (pss_one (ps_fld (pv 0) (pv 3) rfl)))))))), ?_⟩
    refine at_ (σ' := [some (V.ref x), some (V.ref l), none, none, none, none, none, none]) rfl ?_
    refine sq (asg fun a na => ?_)
    refine at_ (σ' := [some (V.ref x), some (V.ref l), some (V.ref a), none, none, none, none, none]) rfl ?_
    refine sq (asg fun p np => ?_)
    refine at_ (σ' := [some (V.ref x), some (V.ref l), some (V.ref a), some (V.ref p), none, none, none, none]) rfl ?_
    have x0 : Gr [] F0 H F0 (upd (upd H a (.dK [])) p (.dK [])) := ((Gr.refl s0).own na).own np
    have pa : p ≠ a := fun e => by rw [e, upd_same] at np; cases np
    have nP : H p = none := by rw [upd_ne pa] at np; exact np
    have off : ∀ {F1 H1 : Hp}, Gr [] F0 H F1 H1 → Sq K H1 l xs := fun g => Sat.sq (fun o e => g.hh l o (fun q => nomatch q) e) hq
    have llen := lts_len hd
    have sat : ∀ {F1 H1 : Hp}, Gr [] F0 H F1 H1 → Sat l H H1 := fun g o e => g.hh l o (fun q => nomatch q) e
    refine sq (for_esq (fun Q q => ⟨_, rfl, q⟩) hq (sat x0) (fun i σ' H' => ∃ F', Gr [] F0 H F' H' ∧ H' a = some (.dK (arK (ls.take i))) ∧ H' p = some (.dK (plK 0 (ls.take i))) ∧ F' a = none ∧ F' p = none ∧
      (∃ v4 v5 v6, σ' = [some (V.ref x), some (V.ref l), some (V.ref a), some (V.ref p), v4, v5, v6, none]) ∧ badAt [] 0 ls = badAt (nms (ls.take i)) i (ls.drop i))
      ⟨F0, x0, by rw [upd_ne (fun e => pa e.symm), upd_same]; rfl, by rw [upd_same]; rfl, s0.free na, s0.free nP, ⟨_, _, _, rfl⟩, rfl⟩ ?_ ?_ ?_)
    · rintro i σ' H' _ ⟨F', g, _⟩
      exact sat g
    · rintro i y t0 σ' H' hi ⟨F', g, ea, ep, fa, fp, ⟨v4, v5, v6, rfl⟩, hb⟩ ey hT
      obtain ⟨q, t, e1, rfl, st⟩ := lts_at hd ey
      have gT := g.own (o := .tup [.int (i : Nat), .ref t]) hT
      have ea2 := (updF (o := .tup [.int (i : Nat), .ref t]) hT (some_ne ea)).trans ea
      have ep2 := (updF (o := .tup [.int (i : Nat), .ref t]) hT (some_ne ep)).trans ep
      have hmem : q ∈ ls := List.mem_of_getElem? e1
      have hlen : i < ls.length := (List.getElem?_eq_some_iff.mp e1).1
      have seen : decide (q.1 ∈ nms (ls.take i)) = (valV (arK (ls.take i)) (.inr q.1 : Key)).isSome := (arK_has _ _).symm
      refine ⟨t0, [.int (i : Nat), .ref t], rfl, Evl.st_of upd_same, rfl, _, _, rfl, _, _, rfl, t, [.str q.1, .int q.2], rfl, Same.sqt (gT.ff.trans gT.fh) st, rfl, _, _, rfl, _, _, rfl, rfl, rfl, ?_⟩
      refine at_ (σ' := [some (V.ref x), some (V.ref l), some (V.ref a), some (V.ref p), some (V.int (i : Nat)), some (V.str q.1), some (V.int q.2), none]) rfl ?_
      refine sq (if_ag1 (F := F') (b := badL (nms (ls.take i)) i q) ?_ ?_ ?_)
      · refine ag_or (ag_an gT.fh (an_test (vl_eqI (vl_var rfl) vl_c))) fun _ F2 H2 g2 => ?_
        refine ag_or (ag_not (ag_val (K := K) (vg_isName (lg_one g2.fh (vp_var g2.fh rfl (.str _))) (ok.2 q hmem)))) fun _ F3 H3 g3 => ?_
        refine ag_or (ag_an g3.fh fun Q z => ⟨.str q.1, rfl, .ref a, rfl, a, _, rfl, DGet.k (k := .inr q.1) ((g2.trans g3).hh a _ (fun z => nomatch z) ea2), _, rfl, by rw [← seen]; exact z⟩) fun _ F4 H4 g4 => ?_
        exact ag_test (vg_cong (vg_inInts (neg := true) (xs := [0, 1, 2]) (vp_var g4.fh rfl (.int _)) fun F5 H5 g5 => vp_imp (vg_tup (lg_cons (vg_int g5.fh) fun _ _ g6 => lg_cons (vg_int g6.fh) fun _ _ g7 => lg_one g7.fh (vg_int g7.fh)) (by decide)) fun _ _ _ _ p => sq_intsT p) rfl)
      · intro e F2 H2 g2
        have hv : verdict ls = some (some i) := by
          unfold verdict
          rw [hb, drop_cons e1, badAt, if_pos e]
        exact ⟨_, rfl, err_out fun d nd => kBad i hv d F2 _ ((gT.trans g2).own nd) upd_same⟩
      · intro e F2 H2 g2
        have ea3 := g2.hh a _ (fun z => nomatch z) ea2
        have ep3 := g2.hh p _ (fun z => nomatch z) ep2
        have fa3 := g2.offF ea2 fa
        have fp3 := g2.offF ep2 fp
        have new : q.1 ∉ nms (ls.take i) := fun z => by
          unfold badL at e
          rw [decide_eq_true z] at e
          simp at e
        have n1 : valV (arK (ls.take i)) (.inr q.1 : Key) = none := by
          have := arK_has q.1 (ls.take i)
          rw [decide_eq_false new] at this
          exact Option.isSome_eq_false_iff.mp this |> fun z => by simpa using z
        have n2 : valV (plK 0 (ls.take i)) (.inr q.1 : Key) = none := by
          have := plK_has q.1 (ls.take i) 0
          rw [decide_eq_false new] at this
          exact Option.isSome_eq_false_iff.mp this |> fun z => by simpa using z
        have b1 : (arK (ls.take i)).length < sizeLine := by
          have := ok.1
          have h2 : (arK (ls.take i)).length = (ls.take i).length := List.length_map ..
          rw [h2, List.length_take]
          exact Nat.lt_of_lt_of_le (by omega : min i ls.length < 1001) (by decide)
        have b2 : (plK 0 (ls.take i)).length < sizeLine := by
          have := ok.1
          rw [plK_length, List.length_take]
          exact Nat.lt_of_lt_of_le (by omega : min i ls.length < 1001) (by decide)
        refine sq ⟨_, rfl, _, rfl, _, rfl, a, _, rfl, DPut.k (k := .inr q.1) ea3 b1, ?_⟩
        refine ⟨_, rfl, _, rfl, _, rfl, p, _, rfl, DPut.k (k := .inr q.1) ((upd_ne pa).trans ep3) b2, ?_⟩
        refine ⟨F2, ((gT.trans g2).put fa3 (.inr na)).put fp3 (.inr nP), ?_, ?_, fa3, fp3, ⟨_, _, _, rfl⟩, ?_⟩
        · rw [upd_ne (fun z => pa z.symm), upd_same, putK_new _ n1, take_snoc e1, arK_snoc]
        · rw [upd_same, putK_new _ n2, take_snoc e1, plK_snoc, List.length_take, Nat.min_eq_left (Nat.le_of_lt hlen), Nat.zero_add]
        · rw [hb, drop_cons e1, badAt, if_neg (by rw [e]; exact Bool.false_ne_true), take_snoc e1, show nms (ls.take i ++ [q]) = nms (ls.take i) ++ [q.1] from List.map_append]
    · rintro σ' H' ⟨F', g, ea, ep, fa, fp, ⟨v4, v5, v6, rfl⟩, hb⟩
      have hb2 : badAt [] 0 ls = none := by
        rw [hb, llen, List.drop_length]; rfl
      rw [llen, List.take_length] at ea ep
      dsimp only
      have vals : (arK ls).map (·.2) = (ls.map (·.2)).map V.int := by
        show (ls.map _).map _ = _
        rw [List.map_map, List.map_map]; rfl
      refine sq (if_ag1 (F := F') (b := !hasC ls) (ag_test (K := K) (vg_cong (vg_inInts (neg := true) (xs := ls.map (·.2)) (vg_int g.fh) fun F5 H5 g5 => fun Q q => ⟨.ref a, rfl, a, _, rfl, g5.hh a _ (fun z => nomatch z) ea, fun p' np' => by
        have gn := (Gr.refl (M := []) g5.fh).new (o := .lst ((arK ls).map (·.2))) np'
        exact q _ _ _ gn ⟨p', rfl, by rw [← vals]; exact .inl (Evl.sq_of upd_same)⟩⟩) rfl)) ?_ ?_)
      · intro e F2 H2 g2
        have hv : verdict ls = some none := by
          unfold verdict
          rw [hb2, notT e]; rfl
        exact kNo hv F2 H2 (g.trans g2)
      · intro e F2 H2 g2
        have hv : verdict ls = none := by
          unfold verdict
          rw [hb2, notF e]; rfl
        have g3 := g.trans g2
        have ea3 := g2.hh a _ (fun z => nomatch z) ea
        have ep3 := g2.hh p _ (fun z => nomatch z) ep
        have fa3 := g2.offF ea fa
        have fp3 := g2.offF ep fp
        have nsz : ls.length ≤ sizeLine := Nat.le_trans ok.1 (by decide)
        have hd3 : DpAll K F2 xs (ls.map ltD) := DpAll.mono g3.ff hd
        refine sq (fldP (vt_tuple (vl_lcVM (as := ls) (D := ltD) ltD (vl_var rfl) ((sat g3).sq hq) g3.fh hd3 nsz ?_)) rfl T.cl_Signature T.no_Signature_letters ?_)
        · intro i q y F4 H4 Y e1 g4 dy k
          obtain ⟨t, rfl, st⟩ := lt_of dy
          refine ⟨t, _, rfl, Same.sqt g4.fh st, rfl, _, _, rfl, _, _, rfl, rfl, rfl, ?_⟩
          exact (vg_tup (K := K) (ds := [.str q.1, .int q.2]) (lg_cons (vp_var g4.fh rfl (.str _)) fun _ _ g5 => lg_one g5.fh (vp_var g5.fh rfl (.int _))) (show 2 ≤ sizeLine by decide)) Y k
        intro v1 F4 H4 g4 p1
        have hx4 := (g3.trans g4).hh x _ (fun z => nomatch z) hx
        have fx4 := (g3.trans g4).offF hx fx
        refine ⟨dx, [], hx4, by decide, ?_⟩
        have mem : x ∈ [x] := List.mem_singleton.mpr rfl
        have ax : a ≠ x := fun z => by rw [z, hx] at na; cases na
        have px : p ≠ x := fun z => by rw [z, hx] at nP; cases nP
        have h5 : Gr [x] F2 H2 F4 (upd H4 x (.ins (He.ga K "Signature") dx (putF "letters" v1 []))) := g4.zero.put fx4 (.inl mem)
        have g5 := g3.zero.trans h5
        have onl : ∀ b, b ∈ [x] → ∃ C dx fs, H b = some (.ins C dx fs) := fun b hb => by rw [List.mem_singleton.mp hb]; exact ⟨_, _, _, hx⟩
        refine sq (fldP (vt_tuple (vl_lcVM (as := ls) (D := ltD) (fun q => .str q.1) (vl_var rfl) (sq_off g5 onl hq) g5.fh (DpAll.mono g5.ff hd) nsz ?_)) rfl T.cl_Signature T.no_Signature_names ?_)
        · intro i q y F6 H6 Y e1 g6 dy k
          obtain ⟨t, rfl, st⟩ := lt_of dy
          refine ⟨t, _, rfl, Same.sqt g6.fh st, rfl, _, _, rfl, _, _, rfl, rfl, rfl, ?_⟩
          exact (vp_var (P := fun v F => Dp K F v (.str q.1)) g6.fh rfl (.str _)) Y k
        intro v2 F6 H6 g6 p2
        have hx6 := g6.hh x _ (fun z => nomatch z) (upd_same (H := H4) (a := x) (o := .ins (He.ga K "Signature") dx (putF "letters" v1 [])))
        have fx6 := g6.offF (upd_same (H := H4) (a := x) (o := .ins (He.ga K "Signature") dx (putF "letters" v1 []))) fx4
        refine ⟨dx, _, hx6, by show 1 < 1000; decide, ?_⟩
        have h7 : Gr [x] F2 H2 F6 (upd H6 x (.ins (He.ga K "Signature") dx (putF "names" v2 (putF "letters" v1 [])))) := (h5.trans g6.zero).put fx6 (.inl mem)
        refine sq (fldP (P := fun v F => v = .ref a) (vp_var h7.fh rfl rfl) rfl T.cl_Signature T.no_Signature_arities fun v F8 H8 g8 ev => ?_)
        subst ev
        have hx8 := g8.hh x _ (fun z => nomatch z) (upd_same (H := H6) (a := x))
        have fx8 := g8.offF (upd_same (H := H6) (a := x)) fx6
        refine ⟨dx, _, hx8, by show 2 < 1000; decide, ?_⟩
        have h9 : Gr [x] F2 H2 F8 (upd H8 x (.ins (He.ga K "Signature") dx (putF "arities" (.ref a) (putF "names" v2 (putF "letters" v1 []))))) := (h7.trans g8.zero).put fx8 (.inl mem)
        refine fldP (P := fun v F => v = .ref p) (vp_var h9.fh rfl rfl) rfl T.cl_Signature T.no_Signature_places fun v F10 H10 g10 ev => ?_
        subst ev
        have hx10 := g10.hh x _ (fun z => nomatch z) (upd_same (H := H8) (a := x))
        have fx10 := g10.offF (upd_same (H := H8) (a := x)) fx8
        refine ⟨dx, _, hx10, by show 3 < 1000; decide, ?_⟩
        have h11 : Gr [x] F2 H2 F10 (upd H10 x (.ins (He.ga K "Signature") dx (putF "places" (.ref p) (putF "arities" (.ref a) (putF "names" v2 (putF "letters" v1 [])))))) := (h9.trans g10.zero).put fx10 (.inl mem)
        have ea9 := h11.hh a _ (fun z => ax (List.mem_singleton.mp z)) ea3
        have ep9 := h11.hh p _ (fun z => px (List.mem_singleton.mp z)) ep3
        have fa9 := h11.offF ea3 fa3
        have fp9 := h11.offF ep3 fp3
        have w1 := (g3.zero.trans h11).still ea9 na fa9
        have w2 := w1.still ep9 nP (by rw [upd_ne pa]; exact fp9)
        obtain ⟨t, ys, rfl, et, dt⟩ := p1
        obtain ⟨n, zs, rfl, en, dn⟩ := p2
        have up : Same F10 (upd (upd F10 a (.dK (arK ls))) p (.dK (plK 0 ls))) := (Evl.Ex.new fa9).trans (Evl.Ex.new (by rw [upd_ne pa]; exact fp9))
        have s4 : Same F4 F10 := (g6.ff.trans g8.ff).trans g10.ff
        have s6 : Same F6 F10 := g8.ff.trans g10.ff
        have ez : zs = (nms ls).map V.str := by
          have : ls.map (fun q => PyData.str q.1) = (nms ls).map PyData.str := by rw [List.map_map]; rfl
          rw [this] at dn; exact dn.strs_of
        rw [ez] at en
        exact kOk hv _ _ _ w2 (by rw [upd_ne (fun z => px z.symm), upd_ne (fun z => ax z.symm)]; exact fx10) upd_same ⟨t, n, a, p, ys, rfl, up _ _ (s4 _ _ et), DpAll.mono (s4.trans up) dt, up _ _ (s6 _ _ en), by rw [upd_ne (fun z => pa z.symm), upd_same], upd_same⟩
end
end K93

set_option Elab.async false
set_option linter.all false
set_option maxRecDepth 100000
set_option maxHeartbeats 4000000
namespace K93
open PySem PySem.Spec PyProof.Rows L2 B
/-- a signature of the letters, in the part that stays -/
def SigAt (K : PySem.W.Frag) (F : Hp) (v : V) (ls : List Lt) : Prop := ∃ x dx fs, v = .ref x ∧ F x = some (.ins (He.ga K "Signature") dx fs) ∧ SigP K F fs ls ∧ verdict ls = none ∧ OkLs ls
section
variable {K : PySem.W.Frag} {F F' H : Hp} {v : V} {ls : List Lt}
theorem SigP.mono {fs : List (Str × V)} (s : Same F F') (h : SigP K F fs ls) : SigP K F' fs ls := by
  obtain ⟨t, n, a, p, xs, e, h1, h2, h3, h4, h5⟩ := h
  exact ⟨t, n, a, p, xs, e, s _ _ h1, DpAll.mono s h2, s _ _ h3, s _ _ h4, s _ _ h5⟩
theorem SigAt.mono (s : Same F F') (h : SigAt K F v ls) : SigAt K F' v ls := by
  obtain ⟨x, dx, fs, e, h1, h2, h3⟩ := h
  exact ⟨x, dx, fs, e, s _ _ h1, h2.mono s, h3⟩
/-- Signature(l) -/
theorem sig_made {H1 : Hp} {l : Addr} {xs : List V} {Q : VK} {E : XK} (s : Same F H1) (hq : Sq K H1 l xs) (hd : DpAll K F xs (ls.map ltD)) (ok : OkLs ls) (kOk : verdict ls = none → ∀ v F' H', Gr [] F H1 F' H' → SigAt K F' v ls → Q v H')
    (kBad : ∀ n, verdict ls = some (some n) → ∀ d F' H', Gr [] F H1 F' H' → H' d = some (.xd [("at", .int (n : Nat))]) → E (.ref (He.ga K "BadLetter")) (some d) H') (kNo : verdict ls = some none → ∀ F' H', Gr [] F H1 F' H' → E (.ref (He.ga K "NoConstant")) none H') :
    ∀ x dx, H1 x = none → H1 dx = none → dx ≠ x → spInit K (.ref x :: [.ref l]) (upd (upd H1 dx (.own x)) x (.ins (He.ga K "Signature") dx [])) (fun v H2 => v = .non ∧ Q (.ref x) H2) E := by
  intro x dx nx nd ne
  have g0 : Gr [] F H1 F (upd (upd H1 dx (.own x)) x (.ins (He.ga K "Signature") dx [])) := ((Gr.refl s).own nd).own (by rw [upd_ne (fun z => ne z.symm)]; exact nx)
  refine ⟨F, x, l, dx, xs, ls, rfl, g0.fh, upd_same, s.free nx, sq_off g0 (fun _ z => nomatch z) hq, hd, ok, fun hv fs F' H' g fx hx p => ⟨rfl, ?_⟩, fun n hv d F' H' g e => kBad n hv d F' H' (g0.trans g) e, fun hv F' H' g => kNo hv F' H' (g0.trans g)⟩
  have g1 : Gr [] F H1 F' H' := Gr.made s g nx nd
  exact kOk hv (.ref x) _ _ (g1.still hx nx fx) ⟨x, dx, fs, rfl, upd_same, p.mono (Evl.Ex.new fx), hv, ok⟩
end
/-! ### what a signature tells -/
def arOf (ls : List Lt) (x : Str) : Option Int := (ls.find? fun p => decide (p.1 = x)).map (·.2)
def plOf (x : Str) : Nat → List Lt → Option Nat
  | _, [] => none
  | i, p :: r => if p.1 = x then some i else plOf x (i + 1) r
theorem arK_at (x : Str) : ∀ ls : List Lt, valV (arK ls) (.inr x : Key) = (arOf ls x).map V.int
  | [] => rfl
  | p :: r => by
    have ih := arK_at x r
    by_cases h : p.1 = x
    · have e : valV (arK (p :: r)) (.inr x : Key) = some (.int p.2) := valV_pos (p := ((Sum.inr p.1 : Key), V.int p.2)) (congrArg Sum.inr h)
      rw [e]; simp [arOf, h]
    · have e : valV (arK (p :: r)) (.inr x : Key) = valV (arK r) (.inr x) := valV_neg (p := ((Sum.inr p.1 : Key), V.int p.2)) (fun z => h (Sum.inr.inj z))
      rw [e, ih]; simp [arOf, h]
theorem plK_at (x : Str) : ∀ (ls : List Lt) (i : Nat), valV (plK i ls) (.inr x : Key) = (plOf x i ls).map fun n => V.int (n : Nat)
  | [], _ => rfl
  | p :: r, i => by
    have ih := plK_at x r (i + 1)
    by_cases h : p.1 = x
    · have e : valV (plK i (p :: r)) (.inr x : Key) = some (.int (i : Nat)) := valV_pos (p := ((Sum.inr p.1 : Key), V.int (i : Nat))) (congrArg Sum.inr h)
      rw [e]; simp [plOf, h]
    · have e : valV (plK i (p :: r)) (.inr x : Key) = valV (plK (i + 1) r) (.inr x) := valV_neg (p := ((Sum.inr p.1 : Key), V.int (i : Nat))) (fun z => h (Sum.inr.inj z))
      rw [e, ih]; simp [plOf, h]
def spArity (K : PySem.W.Frag) : Sp := fun vs H Q E => ∃ F v ls nm, vs = [v, .str nm] ∧ Same F H ∧ SigAt K F v ls ∧ (∀ n, arOf ls nm = some n → Q (.int n) H) ∧ (arOf ls nm = none → ∀ d F' H', Gr [] F H F' H' → H' d = some (.xd [("name", .str nm)]) → E (.ref (He.ga K "NoLetter")) (some d) H')
def spPos (K : PySem.W.Frag) : Sp := fun vs H Q E => ∃ F v ls nm, vs = [v, .str nm] ∧ Same F H ∧ SigAt K F v ls ∧ (∀ n, plOf nm 0 ls = some n → Q (.int (n : Nat)) H) ∧ (plOf nm 0 ls = none → ∀ d F' H', Gr [] F H F' H' → H' d = some (.xd [("name", .str nm)]) → E (.ref (He.ga K "NoLetter")) (some d) H')
/-- entries of a letter -/
def lent (r a : Int) : Int := if a = 0 then 1 else if a = 1 then r else r * r
def spLent : Sp := fun vs H Q _ => ∃ r a : Int, vs = [.int r, .int a] ∧ 0 ≤ r ∧ r < 1000000 ∧ Q (.int (lent r a)) H
def entr (ls : List Lt) (r : Int) : Int := (ls.map fun p => lent r p.2).sum - 1
def spEntries (K : PySem.W.Frag) : Sp := fun vs H Q _ => ∃ F v ls, ∃ r : Int, vs = [v, .int r] ∧ Same F H ∧ SigAt K F v ls ∧ 0 ≤ r ∧ r < 1000000 ∧ ∀ F' H', Gr [] F H F' H' → Q (.int (entr ls r)) H'
def isWords (ls : List Lt) : Bool := !(ls.any fun p => decide (p.2 = 2)) && decide (((ls.map (·.2)).count 0 : Int) = 1)
def spWordsQ (K : PySem.W.Frag) : Sp := fun vs H Q _ => ∃ F v ls, vs = [v] ∧ Same F H ∧ SigAt K F v ls ∧ ∀ F' H', Gr [] F H F' H' → Q (.bl (isWords ls)) H'
section
variable {P : Program} {w : World} {K : PySem.W.Frag} {mg : Str → Option Value} {b0 : Heap}
theorem ok_arity (T : Txt K mg) : Has P w K mg b0 (L2N.CX P w) 3 (He.ma K (He.ga K "Signature") "arity") ["self", "name"] (spArity K) := by
  refine T.h_Signature_arity fun fd F => Fun.okN F sc_Signature_arity (fun vs H Q E h => ?_) (fun cdv A outer s H vs Q E hr h => ?_)
  · obtain ⟨_, _, _, _, rfl, _⟩ := h; rfl
  · obtain ⟨F0, v, ls, nm, rfl, s0, ⟨x, dx, fs, rfl, hx, ⟨t, n, a, p, xs, rfl, h1, h2, h3, h4, h5⟩, hv, ok⟩, kOk, kNo⟩ := h
    refine ⟨_, pss_cons (ps_if (pt_cmp (pc_dnotin hr.un1 (pv 1) (pe_fld (pv 0) rfl))) (pss_one (L2N.ps_raise rfl (L2N.takes_of rfl rfl rfl rfl) (pmk_err T.er_NoLetter (i_NoLetter T) T.g_NoLetter hr (pa_cons (pv 1) pa_nil)).pmk)) pss_nil)
      (pss_one (ps_ret (pe_dget hr.un1 (pe_fld (pv 0) rfl) (pv 1) (fun _ _ => rfl)))), ?_⟩
    refine at_ (σ' := [some (V.ref x), some (V.str nm)]) rfl ?_
    refine sq (if_1 (b := !(arOf ls nm).isSome) (fun Q z => ?_) (fun e => ?_) (fun e => ?_))
    · refine ⟨_, rfl, _, rfl, x, _, dx, _, _, rfl, s0 _ _ hx, T.cl_Signature, T.no_Signature_arities, rfl, a, _, rfl, DGet.k (k := .inr nm) (s0 _ _ h4), _, rfl, ?_⟩
      rw [arK_at, Option.isSome_map]; exact z
    · have hn : arOf ls nm = none := by
        have := notT e
        simpa using this
      exact ⟨_, rfl, err_out fun d nd => kNo hn d F0 _ ((Gr.refl s0).own nd) upd_same⟩
    · obtain ⟨m, hm⟩ := Option.isSome_iff_exists.mp (notF e)
      refine ⟨_, rfl, x, _, dx, _, _, rfl, s0 _ _ hx, T.cl_Signature, T.no_Signature_arities, rfl, _, rfl, a, .int m, rfl, ?_, kOk m hm⟩
      have z := DGet.k (k := .inr nm) (s0 _ _ h4)
      rw [arK_at, hm] at z; exact z
theorem ok_position (T : Txt K mg) : Has P w K mg b0 (L2N.CX P w) 3 (He.ma K (He.ga K "Signature") "position") ["self", "name"] (spPos K) := by
  refine T.h_Signature_position fun fd F => Fun.okN F sc_Signature_position (fun vs H Q E h => ?_) (fun cdv A outer s H vs Q E hr h => ?_)
  · obtain ⟨_, _, _, _, rfl, _⟩ := h; rfl
  · obtain ⟨F0, v, ls, nm, rfl, s0, ⟨x, dx, fs, rfl, hx, ⟨t, n, a, p, xs, rfl, h1, h2, h3, h4, h5⟩, hv, ok⟩, kOk, kNo⟩ := h
    refine ⟨_, pss_cons (ps_if (pt_cmp (pc_dnotin hr.un1 (pv 1) (pe_fld (pv 0) rfl))) (pss_one (L2N.ps_raise rfl (L2N.takes_of rfl rfl rfl rfl) (pmk_err T.er_NoLetter (i_NoLetter T) T.g_NoLetter hr (pa_cons (pv 1) pa_nil)).pmk)) pss_nil)
      (pss_one (ps_ret (pe_dget hr.un1 (pe_fld (pv 0) rfl) (pv 1) (fun _ _ => rfl)))), ?_⟩
    refine at_ (σ' := [some (V.ref x), some (V.str nm)]) rfl ?_
    refine sq (if_1 (b := !(plOf nm 0 ls).isSome) (fun Q z => ?_) (fun e => ?_) (fun e => ?_))
    · refine ⟨_, rfl, _, rfl, x, _, dx, _, _, rfl, s0 _ _ hx, T.cl_Signature, T.no_Signature_places, rfl, p, _, rfl, DGet.k (k := .inr nm) (s0 _ _ h5), _, rfl, ?_⟩
      rw [plK_at, Option.isSome_map]; exact z
    · have hn : plOf nm 0 ls = none := by
        have := notT e
        simpa using this
      exact ⟨_, rfl, err_out fun d nd => kNo hn d F0 _ ((Gr.refl s0).own nd) upd_same⟩
    · obtain ⟨m, hm⟩ := Option.isSome_iff_exists.mp (notF e)
      refine ⟨_, rfl, x, _, dx, _, _, rfl, s0 _ _ hx, T.cl_Signature, T.no_Signature_places, rfl, _, rfl, p, .int (m : Nat), rfl, ?_, kOk m hm⟩
      have z := DGet.k (k := .inr nm) (s0 _ _ h5)
      rw [plK_at, hm] at z; exact z
theorem ok_lent (T : Txt K mg) : Has P w K mg b0 CX0 1 (He.ga K "letter_entries") ["rooms", "arity"] spLent := by
  refine T.h_letter_entries fun fd F => F.ok sc_letter_entries (fun vs H Q E h => ?_) (fun cdv A outer s H vs Q E hr h => ?_)
  · obtain ⟨_, _, rfl, _⟩ := h; rfl
  · obtain ⟨r, a, rfl, r0, r1, k⟩ := h
    refine ⟨_, pss_cons (ps_if (pt_cmpR op_eq (pv 1) pe_int rfl) (pss_one (ps_ret pe_int)) pss_nil) (pss_cons (ps_if (pt_cmpR op_eq (pv 1) pe_int rfl) (pss_one (ps_ret (pv 0))) pss_nil) (pss_one (ps_ret (pe_op op_mul (pv 0) (pv 0))))), ?_⟩
    refine at_ (σ' := [some (V.int r), some (V.int a)]) rfl ?_
    refine sq (if_1 (an_test (vl_eqI (vl_var rfl) vl_c)) (fun e => ?_) (fun e => sq (if_1 (an_test (vl_eqI (vl_var rfl) vl_c)) (fun e2 => ?_) (fun e2 => ?_))))
    · have e := of_decide_eq_true e
      refine ret ?_
      rw [lent, if_pos e] at k; exact k
    · have e := of_decide_eq_false e
      have e2 := of_decide_eq_true e2
      refine retV (vl_var rfl) ?_
      rw [lent, if_neg e, if_pos e2] at k; exact k
    · have e := of_decide_eq_false e
      have e2 := of_decide_eq_false e2
      refine retV (vl_I (vl_var rfl) (vl_var rfl) (.inl ⟨by omega, by omega⟩)) ?_
      rw [lent, if_neg e, if_neg e2] at k; exact k
end
end K93

set_option Elab.async false
set_option linter.all false
set_option maxRecDepth 100000
set_option maxHeartbeats 4000000
namespace K93
open PySem PySem.Spec PyProof.Rows L2 B
def ltT (ls : List Lt) : PyData := .tuple (ls.map ltD)
/-! what stands in a name -/
theorem rest_asc {x : Str} (h : rest x.cps.toList = true) : Asc x := by
  intro c hc
  have := List.all_eq_true.mp h c hc
  rcases Bool.or_eq_true_iff.mp this with q | q
  · have q := of_decide_eq_true q
    have a : ∀ c ∈ small.cps.toList, c < 128 := by decide +kernel
    exact a c q
  · have q := of_decide_eq_true q
    have a : ∀ c ∈ digits.cps.toList, c < 128 := by decide +kernel
    exact a c q
theorem name_asc {x : Str} (h : isName x = true) : Asc x ∧ x.length ≤ 8 := by
  unfold isName at h
  obtain ⟨h1, h⟩ := He.ba h
  obtain ⟨h2, h3⟩ := He.ba h
  exact ⟨rest_asc h3, (of_decide_eq_true h1).2⟩
/-- letters that may be shown: plain short names, small numbers -/
def FineL (l : Nat) (ls : List Lt) : Prop := ∀ p ∈ ls, Asc p.1 ∧ p.1.length ≤ l ∧ p.2.natAbs < 10 ^ 30
theorem badAt_none {ls : List Lt} : ∀ {seen : List Str} {i : Nat}, badAt seen i ls = none → ∀ p ∈ ls, isName p.1 = true ∧ arOk p.2 = true := by
  induction ls with
  | nil => intro _ _ _ p hp; cases hp
  | cons q r ih =>
    intro seen i h p hp
    unfold badAt at h
    by_cases e : badL seen i q = true
    · rw [if_pos e] at h; cases h
    · rw [if_neg e] at h
      rcases List.mem_cons.mp hp with rfl | hp
      · unfold badL at e
        have e := Bool.not_eq_true _ ▸ e
        simp only [Bool.or_eq_false_iff, Bool.not_eq_false'] at e
        exact ⟨e.2.1, e.2.2.2⟩
      · exact ih h p hp
theorem verdict_bad {ls : List Lt} (h : verdict ls = none) : badAt [] 0 ls = none := by
  unfold verdict at h
  split at h
  · cases h
  · assumption
theorem verdict_fine {ls : List Lt} (h : verdict ls = none) : FineL 8 ls := fun p hp => by
  have z := badAt_none (verdict_bad h) p hp
  have a := name_asc z.1
  refine ⟨a.1, a.2, ?_⟩
  have m := of_decide_eq_true z.2
  simp only [List.mem_cons, List.mem_nil_iff, or_false] at m
  rcases m with m | m | m <;> rw [m] <;> decide
theorem lt_fine {l : Nat} {p : Lt} (h : Asc p.1 ∧ p.1.length ≤ l ∧ p.2.natAbs < 10 ^ 30) : Fine 1 (2 * (10 * l + 33 + 2) + 3) (ltD p) :=
  fine_tup (n := 0) (k := 10 * l + 33) (m := 2) (by
    intro d hd
    rcases List.mem_cons.mp hd with rfl | hd
    · exact (fine_str h.1 h.2.1).mono (Nat.le_refl _) (by omega)
    · rw [List.mem_singleton.mp hd]
      exact (fine_int h.2.2).mono (Nat.le_refl _) (by omega)) (Nat.le_refl 2)
theorem lts_fine {l : Nat} {ls : List Lt} (h : FineL l ls) : ∀ d ∈ ls.map ltD, Fine 1 (2 * (10 * l + 33 + 2) + 3) d := fun d hd => by
  obtain ⟨p, hp, rfl⟩ := List.mem_map.mp hd
  exact lt_fine (h p hp)
theorem ltT_shaped {l : Nat} {ls : List Lt} (h : FineL l ls) : SeqAt.shaped (ltT ls) = true := (fine_tup (lts_fine h) (Nat.le_refl _)).shaped (by decide)
theorem ltL_shaped {l : Nat} {ls : List Lt} (h : FineL l ls) : SeqAt.shaped (.list (ls.map ltD)) = true := (fine_lst (lts_fine h) (Nat.le_refl _)).shaped (by decide)
def spEq (K : PySem.W.Frag) : Sp := fun vs H Q _ => ∃ F x o ls, vs = [x, o] ∧ Same F H ∧ SigAt K F x ls ∧ ((∃ ls2, SigAt K F o ls2 ∧ ∀ F' H', Gr [] F H F' H' → Q (.bl (PyData.eqv (ltT ls) (ltT ls2))) H') ∨
  (∃ t, TyX K H o t ∧ PySem.W.kitOne K t (.ref (He.ga K "Signature")) = some false ∧ ∀ F' H', Gr [] F H F' H' → Q (.bl false) H'))
section
variable {P : Program} {w : World} {K : PySem.W.Frag} {mg : Str → Option Value} {b0 : Heap}
theorem ok_eq (T : Txt K mg) : Has P w K mg b0 CX0 1 (He.ma K (He.ga K "Signature") "__eq__") ["self", "other"] (spEq K) := by
  refine T.h_Signature_eq fun fd F => F.ok sc_Signature_eq (fun vs H Q E h => ?_) (fun cdv A outer s H vs Q E hr h => ?_)
  · obtain ⟨_, _, _, _, rfl, _⟩ := h; rfl
  · obtain ⟨F0, x, o, ls, rfl, s0, ⟨a, dx, fs, rfl, hx, ⟨t, n, ar, p, xs, rfl, h1, h2, h3, h4, h5⟩, hv, ok⟩, k⟩ := h
    refine ⟨_, pss_one (ps_ret (pe_and (pe_callB call_isi rfl T.n_isinstance (by decide +kernel) (pa_cons (pv 1) (pa_cons (gR T.g_Signature) pa_nil))) (pe_one (pe_cmpR (op_eqD hr.un64) (pe_fld (pv 0) rfl) (pe_fld (pv 1) rfl) rfl)))), ?_⟩
    rcases k with ⟨ls2, ⟨b, dx2, fs2, rfl, hx2, ⟨t2, n2, ar2, p2, xs2, rfl, g1, g2, g3, g4, g5⟩, hv2, ok2⟩, k⟩ | ⟨ty, hty, hk, k⟩
    · refine at_ (σ' := [some (V.ref a), some (V.ref b)]) rfl (ret ⟨_, rfl, _, _, _, _, true, rfl, .own _, .base (.ins (s0 _ _ hx2) T.cl_Signature T.ins_Signature.ha T.ins_Signature.hn T.ins_Signature.htk T.ins_Signature.hm), T.kit_Signature_Signature, true, rfl, ?_⟩)
      rw [if_pos rfl]
      refine ⟨_, rfl, a, _, dx, _, _, rfl, s0 _ _ hx, T.cl_Signature, T.no_Signature_letters, rfl, _, rfl, b, _, dx2, _, _, rfl, s0 _ _ hx2, T.cl_Signature, T.no_Signature_letters, rfl, ltT ls, ltT ls2, ?_, ?_, ltT_shaped (verdict_fine hv), ltT_shaped (verdict_fine hv2), k F0 H (Gr.refl s0)⟩
      · exact Dp.mono s0 (Dp.newT h1 h2)
      · exact Dp.mono s0 (Dp.newT g1 g2)
    · refine at_ (σ' := [some (V.ref a), some o]) rfl (ret ⟨_, rfl, _, _, _, _, false, rfl, .own _, hty, hk, false, rfl, ?_⟩)
      rw [if_neg Bool.false_ne_true]
      exact k F0 H (Gr.refl s0)
theorem ok_entries (T : Txt K mg) : Has P w K mg b0 CX0 2 (He.ma K (He.ga K "Signature") "entries") ["self", "rooms"] (spEntries K) := by
  refine T.h_Signature_entries fun fd F => F.ok sc_Signature_entries (fun vs H Q E h => ?_) (fun cdv A outer s H vs Q E hr h => ?_)
  · obtain ⟨_, _, _, _, rfl, _⟩ := h; rfl
  · obtain ⟨F0, _, ls, r, rfl, s0, ⟨a, dx, fs, rfl, hx, ⟨t, n, ar, p, xs, rfl, h1, h2, h3, h4, h5⟩, hv, ok⟩, r0, r1, k⟩ := h
    have S := sc_Signature_entries
    refine ⟨_, pss_cons (ps_set (i := 2) S.nd rfl (Or.inl rfl) pe_int) (pss_cons (ps_for PassesOwn.never rfl (pi_sq (pe_fld (pv 0) rfl)) (pg_tup rfl (pgs_cons (pg_name (i := 3) S.nd rfl (Or.inl rfl)) (pgs_cons (pg_name (i := 4) S.nd rfl (Or.inl rfl)) pgs_nil)))
      (pss_one (ps_set (i := 2) S.nd rfl (Or.inl rfl) (pe_op op_add (pv 2) (pc (E := E0) (ok_lent T) T.g_letter_entries hr noX (pa_cons (pv 1) (pa_cons (pv 4) pa_nil)))))))
      (pss_one (ps_ret (pe_op op_sub (pv 2) pe_int)))), ?_⟩
    refine at_ (σ' := [some (V.ref a), some (V.int r), none, none, none]) rfl (sq (asgV vl_c (sq ?_)))
    refine at_ (σ' := [some (V.ref a), some (V.int r), some (V.int 0), none, none]) rfl ?_
    have len := lts_len h2
    refine for_sq (H0 := H) (fun Q q => ⟨_, rfl, a, _, dx, _, _, rfl, s0 _ _ hx, T.cl_Signature, T.no_Signature_letters, rfl, q⟩) (.inr (Evl.st_of (s0 _ _ h1))) (fun _ e => e) (fun i σ' H' => (∃ F', Gr [] F0 H F' H') ∧ ∃ v3 v4, σ' = [some (V.ref a), some (V.int r), some (V.int (((ls.take i).map fun p => lent r p.2).sum)), v3, v4])
      ⟨⟨F0, Gr.refl s0⟩, none, none, rfl⟩ (fun i σ' H' _ ⟨⟨F', g⟩, _⟩ o e => g.hh _ _ (fun z => nomatch z) e) ?_ ?_
    · rintro i y σ' H' hi ⟨⟨F', g⟩, v3, v4, rfl⟩ ey
      obtain ⟨q, u, e1, rfl, st⟩ := lts_at h2 ey
      refine ⟨u, _, rfl, Same.sqt (g.ff.trans g.fh) st, rfl, _, _, rfl, _, _, rfl, rfl, ?_⟩
      refine at_ (σ' := [some (V.ref a), some (V.int r), some (V.int (((ls.take i).map fun p => lent r p.2).sum)), some (V.str q.1), some (V.int q.2)]) rfl ?_
      refine asgV (vl_I0 (vl_var rfl) (show Vl _ _ _ (V.int (lent r q.2)) from fun Q z => ⟨_, rfl, _, rfl, r, q.2, rfl, r0, r1, z⟩)) ⟨⟨F', g⟩, some (V.str q.1), some (V.int q.2), ?_⟩
      rw [take_snoc e1, List.map_append, List.sum_append]
      simp
    · rintro σ' H' ⟨⟨F', g⟩, v3, v4, rfl⟩
      rw [len, List.take_length]
      exact retV (vl_I0 (vl_var rfl) vl_c) (k F' H' g)
theorem ok_isWords (T : Txt K mg) : Has P w K mg b0 CX0 1 (pf K (He.ga K "Signature") "is_words") ["self"] (spWordsQ K) := by
  refine T.h_Signature_is_words fun fd F => F.ok sc_Signature_is_words (fun vs H Q E h => ?_) (fun cdv A outer s H vs Q E hr h => ?_)
  · obtain ⟨_, _, _, rfl, _⟩ := h; rfl
  · obtain ⟨F0, _, ls, rfl, s0, ⟨a, dx, fs, rfl, hx, ⟨t, n, ar, p, xs, rfl, h1, h2, h3, h4, h5⟩, hv, ok⟩, k⟩ := h
    have S := sc_Signature_is_words
    refine ⟨_, pss_cons (ps_set (i := 1) S.nd rfl (Or.inl rfl) pe_int) (pss_cons (ps_for PassesOwn.never rfl (pi_sq (pe_fld (pv 0) rfl)) (pg_tup rfl (pgs_cons (pg_name (i := 2) S.nd rfl (Or.inl rfl)) (pgs_cons (pg_name (i := 3) S.nd rfl (Or.inl rfl)) pgs_nil)))
      (pss_cons (ps_if (pt_cmpR op_eq (pv 3) pe_int rfl) (pss_one (ps_ret pe_bl)) pss_nil) (pss_one (ps_if (pt_cmpR op_eq (pv 3) pe_int rfl) (pss_one (ps_aug (i := 1) S.nd rfl (Or.inl rfl) pe_int ip_add)) pss_nil))))
      (pss_one (ps_ret (pe_cmpR op_eq (pv 1) pe_int rfl)))), ?_⟩
    refine at_ (σ' := [some (V.ref a), none, none, none]) rfl (sq (asgV vl_c (sq ?_)))
    refine at_ (σ' := [some (V.ref a), some (V.int 0), none, none]) rfl ?_
    have len := lts_len h2
    refine for_sq (H0 := H) (fun Q q => ⟨_, rfl, a, _, dx, _, _, rfl, s0 _ _ hx, T.cl_Signature, T.no_Signature_letters, rfl, q⟩) (.inr (Evl.st_of (s0 _ _ h1))) (fun _ e => e) (fun i σ' H' => (∃ F', Gr [] F0 H F' H') ∧ (∃ v3 v4, σ' = [some (V.ref a), some (V.int ((((ls.take i).map (·.2)).count 0 : Nat) : Int)), v3, v4]) ∧ (ls.take i).any (fun p => decide (p.2 = 2)) = false)
      ⟨⟨F0, Gr.refl s0⟩, ⟨none, none, rfl⟩, rfl⟩ (fun i σ' H' _ ⟨⟨F', g⟩, _⟩ o e => g.hh _ _ (fun z => nomatch z) e) ?_ ?_
    · rintro i y σ' H' hi ⟨⟨F', g⟩, ⟨v3, v4, rfl⟩, h2n⟩ ey
      obtain ⟨q, u, e1, rfl, st⟩ := lts_at h2 ey
      have hq := List.mem_of_getElem? e1
      refine ⟨u, _, rfl, Same.sqt (g.ff.trans g.fh) st, rfl, _, _, rfl, _, _, rfl, rfl, ?_⟩
      refine at_ (σ' := [some (V.ref a), some (V.int ((((ls.take i).map (·.2)).count 0 : Nat) : Int)), some (V.str q.1), some (V.int q.2)]) rfl ?_
      refine sq (if_1 (an_test (vl_eqI (vl_var rfl) vl_c)) (fun e => ?_) (fun e => ?_))
      · have e := of_decide_eq_true e
        have ew : isWords ls = false := by
          unfold isWords
          rw [show (ls.any fun p => decide (p.2 = 2)) = true from List.any_eq_true.mpr ⟨q, hq, decide_eq_true e⟩]; rfl
        have k2 := k F' H' g
        rw [ew] at k2
        exact ret k2
      · have e := of_decide_eq_false e
        have n2 : (ls.take (i + 1)).any (fun p => decide (p.2 = 2)) = false := by
          rw [take_snoc e1, List.any_append, h2n]
          simp [e]
        refine if_1 (an_test (vl_eqI (vl_var rfl) vl_c)) (fun e3 => ?_) (fun e3 => ?_)
        · have e3 := of_decide_eq_true e3
          refine ⟨_, rfl, _, _, rfl, rfl, ⟨F', g⟩, ⟨some (V.str q.1), some (V.int q.2), ?_⟩, n2⟩
          have : ((ls.take (i + 1)).map (·.2)).count 0 = ((ls.take i).map (·.2)).count 0 + 1 := by
            rw [take_snoc e1, List.map_append, List.count_append]
            simp [e3]
          rw [this]; rfl
        · have e3 := of_decide_eq_false e3
          refine ⟨⟨F', g⟩, ⟨some (V.str q.1), some (V.int q.2), ?_⟩, n2⟩
          have : ((ls.take (i + 1)).map (·.2)).count 0 = ((ls.take i).map (·.2)).count 0 := by
            rw [take_snoc e1, List.map_append, List.count_append]
            simp [e3, List.count_cons]
          rw [this]
    · rintro σ' H' ⟨⟨F', g⟩, ⟨v3, v4, rfl⟩, h2n⟩
      rw [len, List.take_length] at h2n ⊢
      have k2 := k F' H' g
      unfold isWords at k2
      rw [h2n] at k2
      exact retV (vl_eqI (vl_var rfl) vl_c) k2
end
end K93

set_option Elab.async false
set_option linter.all false
set_option maxRecDepth 100000
set_option maxHeartbeats 4000000
namespace B
open PySem PySem.Spec PyProof.Rows L2
theorem passNN {X : Cx} {W : WX} (tk : L2N.Takes X W) (σ : L2.St) {E : XK} (hW : ∀ cls d σ H, E cls d H → W cls d σ H) : PassesAt (L2N.CX X.prog X.w) X σ E := fun pins H s e s' I c => L2N.passes_call tk hW pins σ H s e s' I c
theorem strs_at {K : PySem.W.Frag} {F : Hp} {ns : List Str} {i : Nat} {x : V} (e : (ns.map V.str)[i]? = some x) : ∃ n, ns[i]? = some n ∧ x = .str n := by
  rw [List.getElem?_map, Option.map_eq_some_iff] at e
  obtain ⟨n, h, rfl⟩ := e
  exact ⟨n, h, rfl⟩
end B
namespace K93
open PySem PySem.Spec PyProof.Rows L2 B
def badWL (seen : List Str) (i : Nat) (x : Str) : Bool := decide ((i : Int) = 12 - 1) || (!isName x || (decide (x = "start") || decide (x ∈ seen)))
def badW (seen : List Str) (i : Nat) : List Str → Option Nat
  | [] => none
  | x :: r => if badWL seen i x = true then some i else badW (seen ++ [x]) (i + 1) r
def wlt (ns : List Str) : List Lt := ("start", 0) :: ns.map fun x => (x, 1)
def verdictW (ns : List Str) : Option (Option Nat) := match badW [] 0 ns with
  | some n => some (some n)
  | none => verdict (wlt ns)
def seenK (ns : List Str) : List (Key × V) := ns.map fun x => (.inr x, .bl true)
theorem seenK_has (x : Str) : ∀ ns : List Str, (valV (seenK ns) (.inr x : Key)).isSome = decide (x ∈ ns)
  | [] => rfl
  | p :: r => by
    have ih := seenK_has x r
    by_cases h : p = x
    · have e : valV (seenK (p :: r)) (.inr x : Key) = some (.bl true) := valV_pos (p := ((Sum.inr p : Key), V.bl true)) (congrArg Sum.inr h)
      rw [e]; simp [h]
    · have e : valV (seenK (p :: r)) (.inr x : Key) = valV (seenK r) (.inr x) := valV_neg (p := ((Sum.inr p : Key), V.bl true)) (fun z => h (Sum.inr.inj z))
      have h2 : ¬ x = p := fun z => h z.symm
      rw [e, ih]; simp [h2]
def OkNs (ns : List Str) : Prop := ns.length ≤ 900 ∧ ∀ x ∈ ns, x.length ≤ 10000
theorem wlt_ok {ns : List Str} (h : OkNs ns) : OkLs (wlt ns) := by
  refine ⟨by have := h.1; simp [wlt]; omega, fun p hp => ?_⟩
  rcases List.mem_cons.mp hp with rfl | hp
  · decide
  · obtain ⟨x, hx, rfl⟩ := List.mem_map.mp hp
    exact h.2 x hx
def spWords (K : PySem.W.Frag) : Sp := fun vs H Q E => ∃ F l ns, vs = [.ref (He.ga K "Signature"), .ref l] ∧ Same F H ∧ Sq K H l (ns.map V.str) ∧ OkNs ns ∧
  (verdictW ns = none → ∀ v F' H', Gr [] F H F' H' → SigAt K F' v (wlt ns) → Q v H') ∧
  (∀ n, verdictW ns = some (some n) → ∀ d F' H', Gr [] F H F' H' → H' d = some (.xd [("at", .int (n : Nat))]) → E (.ref (He.ga K "BadLetter")) (some d) H') ∧
  (verdictW ns = some none → ∀ F' H', Gr [] F H F' H' → E (.ref (He.ga K "NoConstant")) none H')
section
variable {P : Program} {w : World} {K : PySem.W.Frag} {mg : Str → Option Value} {b0 : Heap}
/-- the class Signature, called -/
theorem kls (T : Txt K mg) : ∀ {X : Cx}, X.prog = P → X.w = w → X.K = K → X.mg = mg → X.base = b0 → Kls X (L2N.CX P w) 3 (He.ga K "Signature") (He.ma K (He.ga K "Signature") "__init__") ["self", "letters"] (spInit K) := by
  intro X h1 h2 h3 h4 h5
  subst h1; subst h2; subst h3; subst h4; subst h5
  exact ⟨T.mk_Signature, ok_init T⟩
theorem ok_of_words (T : Txt K mg) : Has P w K mg b0 (L2N.CX P w) 5 (He5.wf K (He.ga K "Signature") "classmethod" "of_words") ["cls", "names"] (spWords K) := by
  refine T.h_Signature_of_words fun fd F => Fun.okN F sc_Signature_of_words (fun vs H Q E h => ?_) (fun cdv A outer s H vs Q E hr h => ?_)
  · obtain ⟨_, _, _, rfl, _⟩ := h; rfl
  · obtain ⟨F0, l, ns, rfl, s0, hq, ok, kOk, kBad, kNo⟩ := h
    have S := sc_Signature_of_words
    refine ⟨_, pss_cons (ps_set (i := 2) S.nd rfl (Or.inl rfl) pe_dnewK)
      (pss_cons (ps_for (passes_of rfl) rfl (pi_esq T.n_enumerate (pa_cons (pv 1) pa_nil)) (pg_tup rfl (pgs_cons (pg_name (i := 3) S.nd rfl (Or.inl rfl)) (pgs_cons (pg_name (i := 4) S.nd rfl (Or.inl rfl)) pgs_nil)))
        (pss_cons (ps_if (PW.pt (pw_or (pt_cmpR op_eq (pv 3) (pe_op op_sub (gI T.c_MOST_LETTERS) pe_int) rfl) (pw_or (pt_not (pt_val (pc (E := E0) (ok_is_name T) T.g_is_name hr noX (pa_cons (pv 4) pa_nil))))
            (pw_or (pt_cmpR op_eq (pv 4) (gS (z := "start") T.c_START) rfl) (pw_or1 (pt_cmp (pc_din hr.un1 (pv 4) (pv 2))))))))
          (pss_one (L2N.ps_raise rfl (L2N.takes_of rfl rfl rfl rfl) (pmk_err T.er_BadLetter (i_BadLetter T) T.g_BadLetter hr (pa_cons (pv 3) pa_nil)).pmk)) pss_nil)
          (pss_one (ps_dput hr.un1 (pv 2) (pv 4) pe_bl rfl))))
      (pss_one (ps_ret (pmL (i := 0) (E := fun _ => E) (kls T rfl rfl rfl rfl rfl) rfl hr (fun σ => passNN (L2N.takes_of rfl rfl rfl rfl) σ fun _ _ _ _ z => z)
        (pa_cons (pe_op op_cat (pe_lst (pa_cons (pe_tup (pa_cons (gS (z := "start") T.c_START) (pa_cons pe_int pa_nil))) pa_nil))
          (pe_lc (own := [("name", 4)]) (g := gName 4) rfl S.nd (pi_sq (pv 1)) (blkOk_by (N := n_Signature_of_words) (sc := defScope s_Signature_of_words) (by decide +kernel))
            (fun _ _ _ _ _ => pg_name (i := 4) S.nd rfl (Or.inl rfl)) (fun _ _ _ _ _ => pts_nil) (fun _ _ _ _ _ => pe_tup (pa_cons (pv 4) (pa_cons pe_int pa_nil))))) pa_nil))))), ?_⟩
    refine at_ (σ' := [some (V.ref (He.ga K "Signature")), some (V.ref l), none, none, none]) rfl ?_
    refine sq (asg fun a na => ?_)
    refine at_ (σ' := [some (V.ref (He.ga K "Signature")), some (V.ref l), some (V.ref a), none, none]) rfl ?_
    have x0 : Gr [] F0 H F0 (upd H a (.dK [])) := (Gr.refl s0).own na
    have sat : ∀ {F1 H1 : Hp}, Gr [] F0 H F1 H1 → Sat l H H1 := fun g o e => g.hh l o (fun q => nomatch q) e
    have nl : (ns.map V.str).length = ns.length := List.length_map ..
    refine sq (forE (fun Q q => ⟨_, rfl, q⟩) hq (sat x0) (fun i σ' H' => ∃ F', Gr [] F0 H F' H' ∧ H' a = some (.dK (seenK (ns.take i))) ∧ F' a = none ∧
      (∃ v3 v4, σ' = [some (V.ref (He.ga K "Signature")), some (V.ref l), some (V.ref a), v3, v4]) ∧ badW [] 0 ns = badW (ns.take i) i (ns.drop i))
      ⟨F0, x0, by rw [upd_same]; rfl, s0.free na, ⟨_, _, rfl⟩, rfl⟩ ?_ ?_ ?_)
    · rintro i σ' H' _ ⟨F', g, _⟩
      exact sat g
    · rintro i y t0 σ' H' hi ⟨F', g, ea, fa, ⟨v3, v4, rfl⟩, hb⟩ ey hT
      obtain ⟨q, e1, rfl⟩ := strs_at (K := K) (F := F0) ey
      have gT := g.own (o := .tup [.int (i : Nat), .str q]) hT
      have ea2 := (updF (o := .tup [.int (i : Nat), .str q]) hT (some_ne ea)).trans ea
      have hmem : q ∈ ns := List.mem_of_getElem? e1
      have hlen : i < ns.length := (List.getElem?_eq_some_iff.mp e1).1
      have seen : decide (q ∈ ns.take i) = (valV (seenK (ns.take i)) (.inr q : Key)).isSome := (seenK_has _ _).symm
      refine ⟨t0, [.int (i : Nat), .str q], rfl, Evl.st_of upd_same, rfl, _, _, rfl, _, _, rfl, rfl, ?_⟩
      refine at_ (σ' := [some (V.ref (He.ga K "Signature")), some (V.ref l), some (V.ref a), some (V.int (i : Nat)), some (V.str q)]) rfl ?_
      refine sq (if_ag1 (F := F') (b := badWL (ns.take i) i q) ?_ ?_ ?_)
      · refine ag_or (ag_an gT.fh (an_test (vl_eqI (vl_var rfl) (vl_I0 vl_c vl_c)))) fun _ F2 H2 g2 => ?_
        refine ag_or (ag_not (ag_val (K := K) (vg_isName (lg_one g2.fh (vp_var g2.fh rfl (.str _))) (ok.2 q hmem)))) fun _ F3 H3 g3 => ?_
        refine ag_or (ag_an g3.fh (an_test (vl_eqS (vl_var rfl) vl_c))) fun _ F4 H4 g4 => ?_
        exact ag_an g4.fh fun Q z => ⟨.str q, rfl, .ref a, rfl, a, _, rfl, DGet.k (k := .inr q) (((g2.trans g3).trans g4).hh a _ (fun z => nomatch z) ea2), _, rfl, by rw [← seen]; exact z⟩
      · intro e F2 H2 g2
        have hv : verdictW ns = some (some i) := by
          unfold verdictW
          rw [hb, drop_cons e1, badW, if_pos e]
        exact ⟨_, rfl, err_out fun d nd => kBad i hv d F2 _ ((gT.trans g2).own nd) upd_same⟩
      · intro e F2 H2 g2
        have ea3 := g2.hh a _ (fun z => nomatch z) ea2
        have fa3 := g2.offF ea2 fa
        have new : q ∉ ns.take i := fun z => by
          unfold badWL at e
          rw [decide_eq_true z] at e
          simp at e
        have n1 : valV (seenK (ns.take i)) (.inr q : Key) = none := by
          have := seenK_has q (ns.take i)
          rw [decide_eq_false new] at this
          exact Option.isSome_eq_false_iff.mp this |> fun z => by simpa using z
        have b1 : (seenK (ns.take i)).length < sizeLine := by
          have := ok.1
          have h2 : (seenK (ns.take i)).length = (ns.take i).length := List.length_map ..
          rw [h2, List.length_take]
          exact Nat.lt_of_lt_of_le (by omega : min i ns.length < 1001) (by decide)
        refine ⟨_, rfl, _, rfl, a, _, rfl, DPut.k (k := .inr q) ea3 b1, ?_⟩
        refine ⟨F2, (gT.trans g2).put fa3 (.inr na), ?_, fa3, ⟨_, _, rfl⟩, ?_⟩
        · rw [upd_same, putK_new _ n1, take_snoc e1]
          show _ = some (HO.dK ((ns.take i ++ [q]).map _))
          rw [List.map_append]; rfl
        · rw [hb, drop_cons e1, badW, if_neg (by rw [e]; exact Bool.false_ne_true), take_snoc e1]
    · rintro σ' H' ⟨F', g, ea, fa, ⟨v3, v4, rfl⟩, hb⟩
      have hb2 : badW [] 0 ns = none := by
        rw [hb, nl, List.drop_length]; rfl
      have vw : verdictW ns = verdict (wlt ns) := by unfold verdictW; rw [hb2]
      refine ret ⟨rfl, ?_⟩
      have one : 1 ≤ sizeLine := by decide
      have two : 2 ≤ sizeLine := by decide
      have nsz : ns.length ≤ sizeLine := Nat.le_trans ok.1 (by decide)
      have ws : wlt ns = [(("start" : Str), (0 : Int))] ++ ns.map fun x => (x, 1) := rfl
      refine (vl_catL (K := K) (F := F') (ds := [ltD ("start", 0)]) (es := ns.map fun x => ltD (x, 1)) (vl_lst (lg_one g.fh (vg_tup (ds := [.str "start", .int 0]) (lg_cons (vg_str g.fh) fun _ _ g5 => lg_one g5.fh (vg_int g5.fh)) two)) one)
        (fun F2 H2 g2 => vl_lcVM (as := ns) (D := PyData.str) (fun x => ltD (x, 1)) (vl_var rfl) ((sat (g.trans g2)).sq hq) g2.fh (DpAll.strs ns) nsz ?_) ?_) _ fun v F2 H2 g2 p => ?_
      · intro i q y F4 H4 Y e1 g4 dy k
        cases dy
        exact ⟨rfl, (vg_tup (K := K) (ds := [.str q, .int 1]) (lg_cons (vp_var g4.fh rfl (.str _)) fun _ _ g5 => lg_one g5.fh (vg_int g5.fh)) two) Y k⟩
      · rw [List.length_map]
        have := ok.1
        exact Nat.le_trans (show 1 + ns.length ≤ 1000 by omega) (by decide)
      · obtain ⟨l', xs, rfl, e, dp⟩ := p
        have ed : [ltD ("start", 0)] ++ ns.map (fun x => ltD (x, 1)) = (wlt ns).map ltD := by
          show _ = ltD ("start", 0) :: (ns.map _).map ltD
          rw [List.map_map]; rfl
        rw [ed] at dp
        have gg := g.trans g2
        exact sig_made g2.fh (.inl (Evl.sq_of (g2.fh _ _ e))) dp (wlt_ok ok) (fun hv v F3 H3 g3 s => kOk (vw.trans hv) v F3 H3 (gg.trans g3) s) (fun n hv d F3 H3 g3 e => kBad n (vw.trans hv) d F3 H3 (gg.trans g3) e) (fun hv F3 H3 g3 => kNo (vw.trans hv) F3 H3 (gg.trans g3))
end
end K93

set_option Elab.async false
set_option linter.all false
set_option maxRecDepth 100000
set_option maxHeartbeats 4000000
namespace B
open PySem PySem.Spec PyProof.Rows L2
section
variable {K : PySem.W.Frag} {te : TE} {σ : L2.St} {F H : Hp} {ds : List PyData}
theorem vg_lenL (h : Vg K te σ F H (.list ds)) : Vg K (tCB (fun xs H Q => ∃ p ys, xs = [.ref p] ∧ (SqL K H p ys ∨ SqT K H p ys) ∧ Q (.int ys.length) H) (tCons te tNil)) σ F H (.int (ds.length : Nat)) := fun Q q => h _ fun v F2 H2 g p => by
  obtain ⟨a, xs, rfl, s, dp⟩ := p.lst_of
  refine ⟨a, xs, rfl, .inl (g.fh.seq s), ?_⟩
  rw [dp.length]
  exact q _ _ _ g (.int _)
theorem an_inS {ta tb : TE} {x : Str} {xs : List Str} {a : Addr} {neg : Bool} (ha : Vl ta σ H (.str x)) (hb : Vl tb σ H (.ref a)) (e : H a = some (.lst (xs.map V.str))) : An (tTest (tOp (rIn K neg) ta tb)) σ H (if neg then !decide (x ∈ xs) else decide (x ∈ xs)) := fun Q q =>
  ha _ (hb _ ⟨a, _, rfl, .inl (Evl.sq_of e), rfl, flat_strs xs, _, rfl, by rw [inV_str]; exact q⟩)
end
end B
namespace K93
open PySem PySem.Spec PyProof.Rows L2 B
def errD (c : Str) (n : Nat) : PyData := .list [.tuple [.str c, .int (n : Nat)]]
def faultD (ls : List Lt) : PyData := match verdict ls with
  | none => .list []
  | some (some n) => errD "BadLetter" n
  | some none => errD "NoConstant" 0
def toldD (ls : List Lt) : PyData := .tuple [.str "told", .tuple [ltT ls, .tuple ((nms ls).map .str), .bool (isWords ls)]]
def refD (d : PyData) : PyData := .tuple [.str "refused", d]
def facingD (ls : List Lt) : PyData := match verdict ls with
  | none => toldD ls
  | some _ => refD (faultD ls)
def wordedD (ns : List Str) : PyData := match badW [] 0 ns with
  | some n => refD (errD "BadLetter" n)
  | none => facingD (wlt ns)
theorem rest_all (s : Str) : (s.cps.toList.map fun c => inS c || inD c).all id = rest s.cps.toList := by
  unfold rest
  rw [List.all_map]; rfl
theorem sd_mem (c : Nat) : decide (c ∈ (small ++ ("0123456789" : Str)).cps.toList) = (inS c || inD c) := by
  have e : (small ++ ("0123456789" : Str)).cps.toList = small.cps.toList ++ digits.cps.toList := by decide +kernel
  rw [e]
  unfold inS inD
  by_cases h1 : c ∈ small.cps.toList <;> by_cases h2 : c ∈ digits.cps.toList <;> simp [h1, h2]
def spFault (K : PySem.W.Frag) : Sp := fun vs H Q _ => ∃ F v ls, vs = [v] ∧ Same F H ∧ Dp K F v (.list (ls.map ltD)) ∧ OkLs ls ∧ ∀ u F' H', Gr [] F H F' H' → Dp K F' u (faultD ls) → Q u H'
section
variable {P : Program} {w : World} {K : PySem.W.Frag} {mg : Str → Option Value} {b0 : Heap}
theorem ok_lawName (T : Txt K mg) : Has P w K mg b0 CX0 1 (He.ga K "_law_is_name") ["name"] (fun vs H Q _ => ∃ F x, vs = [.str x] ∧ Same F H ∧ x.length ≤ 10000 ∧ ∀ F' H', Gr [] F H F' H' → Q (.bl (isName x)) H') := by
  refine T.h__law_is_name fun fd F => F.ok sc__law_is_name (fun vs H Q E h => ?_) (fun cdv A outer s H vs Q E hr h => ?_)
  · obtain ⟨_, _, rfl, _⟩ := h; rfl
  · obtain ⟨F0, x, rfl, s0, hl, q⟩ := h
    have S := sc__law_is_name
    refine ⟨_, pss_cons (ps_set (i := 1) S.nd rfl (Or.inr rfl) pe_str) (pss_cons (ps_if (PW.pt (pw_or (pt_cmpR op_lt (pe_callB call_len_str rfl T.n_len PySem.boot_len (pa_cons (pv 0) pa_nil)) pe_int rfl) (pw_or (pt_cmpR op_gt (pe_callB call_len_str rfl T.n_len PySem.boot_len (pa_cons (pv 0) pa_nil)) pe_int rfl)
        (pw_or1 (pt_cmpR op_notIn_sign (pe_item_str (pv 0) pe_int (fun _ _ => rfl)) (pv 1) rfl))))) (pss_one (ps_ret pe_bl)) pss_nil)
      (pss_one (ps_ret (pe_callB (cr_all rfl) rfl T.n_all (by decide +kernel) (pa_cons (pe_lc (own := [("sign", 2)]) (g := gName 2) rfl S.nd (pi_str (pv 0)) (blkOk_by (N := n__law_is_name) (sc := defScope s__law_is_name) (by decide +kernel))
        (fun _ _ _ _ _ => pg_name (i := 2) S.nd rfl (Or.inl rfl)) (fun _ _ _ _ _ => pts_nil) (fun _ _ _ _ _ => pe_cmpR op_in_sign (pv 2) (pe_op op_add_str (pv 1) pe_str) rfl)) pa_nil))))), ?_⟩
    refine at_ (σ' := [some (V.str x), none, none]) rfl (sq (asgV vl_c ?_))
    refine at_ (σ' := [some (V.str x), some (V.str small), none]) rfl ?_
    have lz : x.length ≤ sizeLine := Nat.le_trans hl (by decide)
    have len : Vl (tCB (fun xs H Q => ∃ z, xs = [V.str z] ∧ z.length ≤ sizeLine ∧ Q (V.int z.length) H) (tCons (tVar 0) tNil)) [some (V.str x), some (V.str small), none] H (.int (x.length : Nat)) := fun Q q => ⟨_, rfl, x, rfl, lz, q⟩
    refine sq (if_1 (b := !(decide (1 ≤ x.length ∧ x.length ≤ 8) && head x)) (an_cong (a := decide ((x.length : Int) < 1) || (decide ((8 : Int) < x.length) || !head x)) (an_or (an_test (vl_I0 (g := fun i j => .bl (decide (i < j))) len vl_c)) fun h1 => an_or (an_test (vl_I0 (g := fun i j => .bl (decide (j < i))) len vl_c)) fun h2 => an_test fun Q q => ?_) ?_) (fun e => ?_) (fun e => ?_))
    · have h1 := of_decide_eq_false h1
      obtain ⟨c, hc⟩ : ∃ c, x.cps[0]? = some c := ⟨x.cps[0]'(show 0 < x.length by omega), Array.getElem?_eq_getElem _⟩
      refine ⟨_, rfl, x, 0, c, rfl, rfl, by omega, by omega, by omega, hc, _, rfl, c, small, rfl, rfl, ?_⟩
      have e : head x = decide (c ∈ small.cps.toList) := by
        have h1 := cps_get hc
        unfold head
        cases hx : x.cps.toList with
        | nil => rw [hx] at h1; cases h1
        | cons d r => rw [hx] at h1; cases h1; rfl
      rw [← e]; exact q
    · by_cases a : 1 ≤ x.length
      · by_cases b : x.length ≤ 8
        · rw [decide_eq_false (show ¬ (x.length : Int) < 1 by omega), decide_eq_false (show ¬ (8 : Int) < x.length by omega), decide_eq_true (And.intro a b)]; rfl
        · rw [decide_eq_true (show (8 : Int) < x.length by omega), decide_eq_false (show ¬ (1 ≤ x.length ∧ x.length ≤ 8) from fun z => b z.2)]; simp
      · rw [decide_eq_true (show (x.length : Int) < 1 by omega), decide_eq_false (show ¬ (1 ≤ x.length ∧ x.length ≤ 8) from fun z => a z.1)]; rfl
    · have e2 : isName x = false := by
        unfold isName
        rw [← Bool.and_assoc, notT e]; rfl
      have q := q F0 H (Gr.refl s0)
      rw [e2] at q; exact q
    · have e4 : isName x = rest x.cps.toList := by
        unfold isName
        rw [← Bool.and_assoc, notF e]; rfl
      rw [e4] at q
      refine B.ret (cb1 (lcStr (F := F0) (vl_var rfl) s0 lz (fun i acc _ => acc = ((x.cps.toList.take i).map fun c => V.bl (inS c || inD c))) rfl ?_ ?_))
      · rintro i c acc F2 H2 Y Nn hc rfl g kY kN
        refine ⟨rfl, yes ?_⟩
        refine ⟨_, rfl, _, rfl, small, "0123456789", rfl, rfl, (by decide +kernel : small.length + ("0123456789" : Str).length ≤ sizeLine), c, _, rfl, rfl, ?_⟩
        rw [sd_mem]
        refine kY _ F2 H2 (Gr.refl g.fh) ?_
        rw [take_snoc hc, List.map_append]; rfl
      · rintro N acc F2 H2 hN g eN fN rfl
        have e : x.cps.toList.take x.length = x.cps.toList := List.take_of_length_le (by rw [Array.length_toList]; exact Nat.le_refl _)
        rw [e] at eN
        refine ⟨N, x.cps.toList.map fun c => inS c || inD c, rfl, ?_, ?_⟩
        · rw [List.map_map]; exact Evl.sq_of eN
        · rw [rest_all]; exact q F2 H2 g
end
end K93

set_option Elab.async false
set_option linter.all false
set_option maxRecDepth 100000
set_option maxHeartbeats 4000000
namespace B
open PySem PySem.Spec PyProof.Rows L2
/-- range(n) in a for -/
theorem forR {ta : TA} {g : TG} {tb : TS} {N Bk Ct : L2.St → Hp → Prop} {Rt : VK} {σ : L2.St} {H : Hp} {n : Nat} (ha : ∀ Q : List V → Hp → Prop, Q [.int (n : Nat)] H → ta σ H Q) (hn : n ≤ 1000000000) (Pv : Nat → L2.St → Hp → Prop) (h0 : Pv 0 σ H)
    (hs : ∀ (i : Nat) σ' H', i < n → Pv i σ' H' → g (.int (i : Nat)) σ' H' fun σ2 H2 => tb ⟨Pv (i + 1), Rt, N, Pv (i + 1)⟩ σ2 H2) (hd : ∀ σ' H', Pv n σ' H' → N σ' H') : tFor (iRng1 ta) g tb ⟨N, Rt, Bk, Ct⟩ σ H := by
  refine ha _ ⟨(n : Nat), rfl, by omega, by omega, ?_⟩
  rw [show ((n : Nat) : Int).toNat = n from Int.toNat_natCast n]
  refine for_it (D := ⟨N, Rt, Bk, Ct⟩) walk_range Pv h0 (fun _ _ _ _ _ => trivial) ?_ hd
  rintro i x σ' H1 H2 hi p ⟨rfl, rfl⟩
  have e : ((0 : Int) + (i : Nat)) = (i : Nat) := Int.zero_add _
  show g (V.int ((0 : Int) + (i : Nat))) σ' H2 _
  rw [e]
  exact hs i σ' H2 hi p
theorem cl_cong {te : TE} {σ : L2.St} {H : Hp} {t : TA} (h : ∀ Q : List V → Hp → Prop, t σ H Q) : True := trivial
end B
namespace K93
open PySem PySem.Spec PyProof.Rows L2 B
section
variable {P : Program} {w : World} {K : PySem.W.Frag} {mg : Str → Option Value} {b0 : Heap}
/-- _law_is_name told of data -/
theorem vg_lawName {tl : TA} {σ : L2.St} {F H : Hp} {x : Str} (h : Lg K tl σ F H [.str x]) (hl : x.length ≤ 10000) : Vg K (tCall (fun vs H Q _ => ∃ F x, vs = [.str x] ∧ Same F H ∧ x.length ≤ 10000 ∧ ∀ F' H', Gr [] F H F' H' → Q (.bl (isName x)) H') [] E0 tl) σ F H (.bool (isName x)) := vp_call h fun vs F2 H2 Q g p k => by
  cases p with
  | cons p1 p2 => cases p1; cases p2; exact ⟨F2, x, rfl, g.fh, hl, fun F3 H3 g3 => k _ F3 H3 g3 (.bl _)⟩
theorem vg_err {c : Str} {te : TE} {σ : L2.St} {F H : Hp} {n : Int} (s : Same F H) (h : Ev F H fun F2 H2 => Vg K te σ F2 H2 (.int n)) : Vg K (tLst (tCons (tTup (tCons (tC (.str c)) (tCons te tNil))) tNil)) σ F H (.list [.tuple [.str c, .int n]]) :=
  vg_lst (lg_one s (vg_tup (lg_cons (vg_str s) fun F2 H2 g2 => lg_one g2.fh (h F2 H2 g2)) (show 2 ≤ sizeLine by decide))) (show 1 ≤ sizeLine by decide)
theorem ok_fault (T : Txt K mg) : Has P w K mg b0 CX0 2 (He.ga K "_law_fault") ["letters"] (spFault K) := by
  refine T.h__law_fault fun fd F => F.ok sc__law_fault (fun vs H Q E h => ?_) (fun cdv A outer s H vs Q E hr h => ?_)
  · obtain ⟨_, _, _, rfl, _⟩ := h; rfl
  · obtain ⟨F0, v, ls, rfl, s0, hd, ok, k⟩ := h
    have S := sc__law_fault
    obtain ⟨l, xs, rfl, hl, dx⟩ := hd.lst_of
    refine ⟨_, pss_cons (ps_set (i := 1) S.nd rfl (Or.inl rfl) (pe_lst pa_nil)) (pss_cons (ps_for PassesOwn.never rfl (pi_range1 rfl T.n_range (pa_cons (pe_callB call_len_seq rfl T.n_len PySem.boot_len (pa_cons (pv 0) pa_nil)) pa_nil)) (pg_name (i := 2) S.nd rfl (Or.inl rfl))
        (pss_cons (ps_asg (pe_ix ix_seq (pv 0) (pv 2) (fun _ _ => rfl)) (pg_tup rfl (pgs_cons (pg_name (i := 3) S.nd rfl (Or.inl rfl)) (pgs_cons (pg_name (i := 4) S.nd rfl (Or.inl rfl)) pgs_nil))))
        (pss_cons (ps_if (PW.pt (pw_or (pt_cmpR op_eq (pv 2) pe_int rfl) (pw_or (pt_cmpR op_in_seq (pv 3) (pv 1) rfl) (pw_or1 (pt_not (pt_val (pc (E := E0) (ok_lawName T) T.g__law_is_name hr noX (pa_cons (pv 3) pa_nil)))))))) (pss_one (ps_ret (pe_lst (pa_cons (pe_tup (pa_cons pe_str (pa_cons (pv 2) pa_nil))) pa_nil)))) pss_nil)
        (pss_cons (ps_if (pt_cmpR op_notIn_seq (pv 4) (pe_lst (pa_cons pe_int (pa_cons pe_int (pa_cons pe_int pa_nil)))) rfl) (pss_one (ps_ret (pe_lst (pa_cons (pe_tup (pa_cons pe_str (pa_cons (pv 2) pa_nil))) pa_nil)))) pss_nil)
        (pss_one (ps_expr (pe_bm PySem.F.plainAttrs_list PySem.F.slot_list_append PySem.F.type_list_append mt_append (pv 1) (pa_cons (pv 3) pa_nil))))))))
      (pss_cons (ps_if (pt_cmpR op_notIn_seq pe_int (pe_lc (own := [("row", 5)]) (g := gName 5) (te := tOp (rIx K) (tVar 5) (tC (.int 1))) rfl S.nd (pi_sq (pv 0)) (blkOk_by (N := n__law_fault) (sc := defScope s__law_fault) (by decide +kernel))
        (fun _ _ _ _ _ => pg_name (i := 5) S.nd rfl (Or.inl rfl)) (fun _ _ _ _ _ => pts_nil) (fun _ _ _ _ _ => pe_ix ix_seq (pv 5) pe_int (fun _ _ => rfl))) rfl) (pss_one (ps_ret (pe_lst (pa_cons (pe_tup (pa_cons pe_str (pa_cons pe_int pa_nil))) pa_nil)))) pss_nil)
      (pss_one (ps_ret (pe_lst pa_nil))))), ?_⟩
    refine at_ (σ' := [some (V.ref l), none, none, none, none, none]) rfl ?_
    refine sq (asg ⟨show 0 ≤ sizeLine from Nat.zero_le _, fun a na => ?_⟩)
    refine at_ (σ' := [some (V.ref l), some (V.ref a), none, none, none, none]) rfl ?_
    have x0 : Gr [] F0 H F0 (upd H a (.lst [])) := (Gr.refl s0).own na
    have lx : xs.length = ls.length := lts_len dx
    have sqH : ∀ {F1 H1 : Hp}, Gr [] F0 H F1 H1 → SqL K H1 l xs := fun g => g.fh.seq (g.ff.seq hl)
    have nls : ls.length ≤ 1000 := ok.1
    refine sq (forR (n := ls.length) (fun Q q => ⟨_, rfl, l, xs, rfl, .inl (sqH x0), by rw [lx]; exact q⟩) (by omega) (fun i σ' H' => ∃ F', Gr [] F0 H F' H' ∧ H' a = some (.lst ((nms (ls.take i)).map V.str)) ∧ F' a = none ∧
      (∃ v2 v3 v4, σ' = [some (V.ref l), some (V.ref a), v2, v3, v4, none]) ∧ badAt [] 0 ls = badAt (nms (ls.take i)) i (ls.drop i))
      ⟨F0, x0, upd_same, s0.free na, ⟨_, _, _, rfl⟩, rfl⟩ ?_ ?_)
    · rintro i σ' H' hi ⟨F', g, ea, fa, ⟨v2, v3, v4, rfl⟩, hb⟩
      have e1 : ls[i]? = some ls[i] := List.getElem?_eq_getElem hi
      generalize ls[i] = q at e1
      have hmem : q ∈ ls := List.mem_of_getElem? e1
      have exi : xs[i]? = some xs[i] := List.getElem?_eq_getElem (by rw [lx]; exact hi)
      obtain ⟨q', t, e1', ex, st⟩ := lts_at dx exi
      rw [e1] at e1'; cases e1'
      rw [ex] at exi
      refine gn (at_ (σ' := [some (V.ref l), some (V.ref a), some (V.int (i : Nat)), v3, v4, none]) rfl ?_)
      refine sq (asgG ⟨_, rfl, _, rfl, .inl ⟨l, xs, _, .ref t, rfl, rfl, sqH g, atI_nat exi, t, _, rfl, Same.sqt (g.ff.trans g.fh) st, rfl, _, _, rfl, _, _, rfl, rfl, ?_⟩⟩)
      refine at_ (σ' := [some (V.ref l), some (V.ref a), some (V.int (i : Nat)), some (V.str q.1), some (V.int q.2), none]) rfl ?_
      have bad : badL (nms (ls.take i)) i q = ((decide ((i : Int) = 12) || (decide (q.1 ∈ nms (ls.take i)) || !isName q.1)) || !arOk q.2) := by
        unfold badL
        cases decide ((i : Int) = 12) <;> cases isName q.1 <;> cases decide (q.1 ∈ nms (ls.take i)) <;> rfl
      have isBad : badL (nms (ls.take i)) i q = true → faultD ls = errD "BadLetter" i := fun e => by
        unfold faultD verdict
        rw [hb, drop_cons e1, badAt, if_pos e]
      refine sq (if_ag1 (F := F') (b := decide ((i : Int) = 12) || (decide (q.1 ∈ nms (ls.take i)) || !isName q.1)) ?_ ?_ ?_)
      · refine ag_or (ag_an g.fh (an_test (vl_eqI (vl_var rfl) vl_c))) fun _ F2 H2 g2 => ?_
        refine ag_or (ag_an g2.fh (an_inS (neg := false) (vl_var rfl) (vl_var rfl) (g2.hh a _ (fun z => nomatch z) ea))) fun _ F3 H3 g3 => ?_
        exact ag_not (ag_val (K := K) (vg_lawName (lg_one g3.fh (vp_var g3.fh rfl (.str _))) (ok.2 q hmem)))
      · intro e F2 H2 g2
        refine retP (vg_err (K := K) (c := "BadLetter") g2.fh fun F3 H3 g3 => vp_var g3.fh rfl (.int (i : Nat))) fun u F3 H3 g3 du => k u F3 H3 ((g.trans g2).trans g3) ?_
        rw [isBad (by rw [bad, e]; rfl)]; exact du
      · intro e F2 H2 g2
        refine sq (if_ag1 (F := F2) (b := !arOk q.2) (ag_test (K := K) (vg_cong (vg_inInts (neg := true) (xs := [0, 1, 2]) (vp_var g2.fh rfl (.int _)) fun F5 H5 g5 => vp_imp (vg_lst (lg_cons (vg_int g5.fh) fun _ _ g6 => lg_cons (vg_int g6.fh) fun _ _ g7 => lg_one g7.fh (vg_int g7.fh)) (show 3 ≤ sizeLine by decide)) fun _ _ _ _ p => sq_intsL p) rfl)) ?_ ?_)
        · intro e2 F3 H3 g3
          refine retP (vg_err (K := K) (c := "BadLetter") g3.fh fun F4 H4 g4 => vp_var g4.fh rfl (.int (i : Nat))) fun u F4 H4 g4 du => k u F4 H4 (((g.trans g2).trans g3).trans g4) ?_
          rw [isBad (by rw [bad, e, e2]; rfl)]; exact du
        · intro e2 F3 H3 g3
          have ea3 := (g2.trans g3).hh a _ (fun z => nomatch z) ea
          have fa3 := (g2.trans g3).offF ea fa
          refine ⟨_, rfl, .inl ⟨rfl, _, Evl.sq_of ea3⟩, _, rfl, a, _, _, rfl, rfl, ea3, ?_, ?_⟩
          · rw [List.length_map]
            show ((ls.take i).map _).length < _
            rw [List.length_map, List.length_take]
            exact Nat.lt_of_lt_of_le (show min i ls.length < 1001 by omega) (by decide)
          · refine ⟨F3, ((g.trans g2).trans g3).put fa3 (.inr na), ?_, fa3, ⟨_, _, _, rfl⟩, ?_⟩
            · rw [upd_same, take_snoc e1, show nms (ls.take i ++ [q]) = nms (ls.take i) ++ [q.1] from List.map_append, List.map_append]; rfl
            · rw [hb, drop_cons e1, badAt, if_neg (by rw [bad, e, e2]; exact Bool.false_ne_true), take_snoc e1, show nms (ls.take i ++ [q]) = nms (ls.take i) ++ [q.1] from List.map_append]
    · rintro σ' H' ⟨F', g, ea, fa, ⟨v2, v3, v4, rfl⟩, hb⟩
      have hb2 : badAt [] 0 ls = none := by rw [hb, List.drop_length]; rfl
      have dx' : DpAll K F' xs (ls.map ltD) := DpAll.mono g.ff dx
      refine sq (if_ag1 (F := F') (b := !hasC ls) (ag_test (K := K) (vg_cong (vg_inInts (neg := true) (xs := ls.map (·.2)) (vg_int g.fh) fun F5 H5 g5 => vp_imp (vl_lcM (as := ls) (D := ltD) (fun q => .int q.2) (vp_var g5.fh rfl ⟨l, xs, rfl, .inl (g5.ff.seq (g.ff.seq hl)), DpAll.mono g5.ff dx'⟩) (Nat.le_trans nls (by decide)) ?_) fun v F6 H6 g6 p => ?_) rfl)) ?_ ?_)
      · intro i q x F6 H6 Y e1 g6 dq kY
        obtain ⟨t, rfl, st⟩ := lt_of dq
        exact ⟨rfl, _, rfl, .inr (.inl ⟨t, _, _, .int q.2, rfl, rfl, Same.sqt g6.fh st, rfl, kY _ F6 H6 (Gr.refl g6.fh) (.int _)⟩)⟩
      · have : ls.map (fun q => PyData.int q.2) = (ls.map (·.2)).map .int := by rw [List.map_map]; rfl
        rw [this] at p
        exact sq_intsL p.dp
      · intro e F2 H2 g2
        refine retP (vg_err (K := K) (c := "NoConstant") g2.fh fun F4 H4 g4 => vg_int (n := 0) g4.fh) fun u F4 H4 g4 du => k u F4 H4 ((g.trans g2).trans g4) ?_
        unfold faultD verdict
        rw [hb2, notT e]; exact du
      · intro e F2 H2 g2
        refine retP (vg_lst (K := K) (lg_nil g2.fh) (Nat.zero_le _)) fun u F4 H4 g4 du => k u F4 H4 ((g.trans g2).trans g4) ?_
        unfold faultD verdict
        rw [hb2, notF e]; exact du
end
end K93

set_option Elab.async false
set_option linter.all false
set_option maxRecDepth 100000
set_option maxHeartbeats 4000000
namespace K93
open PySem PySem.Spec PyProof.Rows L2 B
/-- a def that makes data of one list of letters -/
def spData (K : PySem.W.Frag) (f : List Lt → PyData) : Sp := fun vs H Q _ => ∃ F v ls, vs = [v] ∧ Same F H ∧ Dp K F v (.list (ls.map ltD)) ∧ OkLs ls ∧ ∀ u F' H', Gr [] F H F' H' → Dp K F' u (f ls) → Q u H'
def spDataN (K : PySem.W.Frag) (f : List Str → PyData) : Sp := fun vs H Q _ => ∃ F v ns, vs = [v] ∧ Same F H ∧ Dp K F v (.list (ns.map .str)) ∧ OkNs ns ∧ ∀ u F' H', Gr [] F H F' H' → Dp K F' u (f ns) → Q u H'
theorem fault_shaped (ls : List Lt) : SeqAt.shaped (faultD ls) = true := by
  have a : ∀ c : Str, Asc c → ∀ n : Nat, SeqAt.shaped (errD c n) = true := fun c hc n => by
    show ((PyData.canLay0 (errD c n)) && decide ((errD c n).depth ≤ 64)) = true
    have h1 : PyData.canLay0 (errD c n) = true := by
      simp only [errD, PyData.canLay0, PyData.canLayAll0, Bool.and_true]
      exact strOk_asc hc
    have h2 : (errD c n).depth ≤ 64 := by
      simp only [errD, PyData.depth, PyData.depthAll]; omega
    rw [h1, decide_eq_true h2]; rfl
  unfold faultD
  split
  · rfl
  · exact a _ (by unfold Asc; decide +kernel) _
  · exact a _ (by unfold Asc; decide +kernel) _
theorem eqv_nil (ls : List Lt) : PyData.eqv (faultD ls) (.list []) = (verdict ls).isNone := by
  unfold faultD
  cases verdict ls with
  | none => rfl
  | some v => cases v <;> rfl
theorem count_len (ls : List Lt) (a : Int) : ((ls.filterMap fun p => if decide (p.2 = a) = true then some (PyData.int 1) else none).length : Int) = ((ls.map (·.2)).count a : Nat) := by
  induction ls with
  | nil => rfl
  | cons p r ih =>
    rw [List.filterMap_cons, List.map_cons, List.count_cons]
    by_cases h : p.2 = a
    · rw [if_pos (decide_eq_true h)]
      simp only [List.length_cons, h, beq_self_eq_true, if_true]
      omega
    · have h2 : (p.2 == a) = false := beq_eq_false_iff_ne.mpr h
      rw [decide_eq_false h, if_neg Bool.false_ne_true, h2]
      simpa using ih
theorem words_eq (ls : List Lt) : (decide (((ls.map (·.2)).count 0 : Int) = 1) && decide (((ls.map (·.2)).count 2 : Int) = 0)) = isWords ls := by
  unfold isWords
  have e : decide (((ls.map (·.2)).count 2 : Int) = 0) = !(ls.any fun p => decide (p.2 = 2)) := by
    induction ls with
    | nil => rfl
    | cons p r ih =>
      rw [List.map_cons, List.count_cons, List.any_cons]
      by_cases h : p.2 = 2
      · have h1 : (p.2 == 2) = true := beq_iff_eq.mpr h
        rw [h1, decide_eq_true h, if_pos rfl]
        simp; omega
      · have h1 : (p.2 == 2) = false := beq_eq_false_iff_ne.mpr h
        rw [h1, decide_eq_false h, Bool.false_or, ← ih, if_neg Bool.false_ne_true, Nat.add_zero]
  rw [e, Bool.and_comm]
section
variable {P : Program} {w : World} {K : PySem.W.Frag} {mg : Str → Option Value} {b0 : Heap}
theorem vg_fault {te : TE} {σ : L2.St} {F H : Hp} {ls : List Lt} (h : Vg K te σ F H (.list (ls.map ltD))) (ok : OkLs ls) : Vg K (tCall (spFault K) [] E0 (tCons te tNil)) σ F H (faultD ls) := fun Q q => cl1 (h _ fun v F2 H2 g p => ⟨F2, v, ls, rfl, g.fh, p, ok, fun u F3 H3 g3 d => q u F3 H3 (g.trans g3) d⟩)
theorem ok_facing (T : Txt K mg) : Has P w K mg b0 CX0 3 (He.ga K "_law_facing") ["letters"] (spData K facingD) := by
  refine T.h__law_facing fun fd F => F.ok sc__law_facing (fun vs H Q E h => ?_) (fun cdv A outer s H vs Q E hr h => ?_)
  · obtain ⟨_, _, _, rfl, _⟩ := h; rfl
  · obtain ⟨F0, v, ls, rfl, s0, hd, ok, k⟩ := h
    have S := sc__law_facing
    have lsz : ls.length ≤ sizeLine := Nat.le_trans ok.1 (by decide)
    refine ⟨_, pss_cons (ps_set (i := 1) S.nd rfl (Or.inl rfl) (pc (E := E0) (ok_fault T) T.g__law_fault hr noX (pa_cons (pv 0) pa_nil)))
      (pss_cons (ps_if (pt_cmpR (op_neD hr.un64) (pv 1) (pe_lst pa_nil) rfl) (pss_one (ps_ret (pe_tup (pa_cons pe_str (pa_cons (pv 1) pa_nil))))) pss_nil)
      (pss_cons (ps_setLc (i := 2) (own := [("arity", 5)]) (g := gName 5) (te := tCB (fun xs H Q => ∃ p ys, xs = [.ref p] ∧ (SqL K H p ys ∨ SqT K H p ys) ∧ Q (.int ys.length) H)
          (tCons (tLc (iSq K (tVar 0)) (gName 4) (tTest (tOp rEq (tOp (rIx K) (tVar 4) (tC (.int 1))) (tVar 5))) (tC (.int 1)) [4]) tNil)) rfl S.nd rfl rfl rfl (pi_range1 rfl T.n_range (pa_cons pe_int pa_nil)) (blkOk_by (N := n__law_facing) (sc := defScope s__law_facing) (by decide +kernel))
        (fun _ _ _ _ _ => pg_name (i := 5) S.nd rfl (Or.inr rfl)) (fun _ _ _ _ _ => pts_nil) (fun _ _ _ _ _ => pe_callB call_len_seq rfl T.n_len PySem.boot_len
          (pa_cons (pe_lc (own := [("row", 4)]) (g := gName 4) (tt := tTest (tOp rEq (tOp (rIx K) (tVar 4) (tC (.int 1))) (tVar 5))) rfl S.nd (pi_sq (pv 0)) (blkOk_by (N := n__law_facing) (sc := { kind := .function, names := [(".0", .local), ("arity", .cell), ("len", .globalImplicit), ("letters", .cell)], isGenerator := false, isCoroutine := false }) (by decide +kernel))
            (fun _ _ _ _ _ => pg_name (i := 4) S.nd rfl (Or.inl rfl)) (fun _ _ _ _ _ => pts_one (pt_cmpR op_eq (pe_ix ix_seq (pv 4) pe_int (fun _ _ => rfl)) (pv 5) rfl)) (fun _ _ _ _ _ => pe_int)) pa_nil)))
      (pss_cons (ps_set (i := 3) S.nd rfl (Or.inl rfl) (pe_and (pe_cmpR op_eq (pe_ix ix_seq (pv 2) pe_int (fun _ _ => rfl)) pe_int rfl) (pe_one (pe_cmpR op_eq (pe_ix ix_seq (pv 2) pe_int (fun _ _ => rfl)) pe_int rfl))))
      (pss_one (ps_ret (pe_tup (pa_cons pe_str (pa_cons (pe_tup (pa_cons (pe_callTy call_tuple_of rfl T.n_tuple (by decide +kernel) (pa_cons (pv 0) pa_nil)) (pa_cons (pe_callTy call_tuple_of rfl T.n_tuple (by decide +kernel)
        (pa_cons (pe_lc (own := [("row", 4)]) (g := gName 4) (te := tOp (rIx K) (tVar 4) (tC (.int 0))) rfl S.nd (pi_sq (pv 0)) (blkOk_by (N := n__law_facing) (sc := defScope s__law_facing) (by decide +kernel)) (fun _ _ _ _ _ => pg_name (i := 4) S.nd rfl (Or.inl rfl)) (fun _ _ _ _ _ => pts_nil)
          (fun _ _ _ _ _ => pe_ix ix_seq (pv 4) pe_int (fun _ _ => rfl))) pa_nil)) (pa_cons (pv 3) pa_nil)))) pa_nil)))))))), ?_⟩
    refine at_ (σ' := [some v, none, none, none, none, none]) rfl ?_
    refine sq (asgP (vg_fault (vp_var s0 rfl hd) ok) fun fv F1 H1 g1 df => ?_)
    refine at_ (σ' := [some v, some fv, none, none, none, none]) rfl ?_
    have hd1 := Dp.mono g1.ff hd
    refine sq (if_ag1 (F := F1) (b := !(verdict ls).isNone) (ag_test (K := K) (vg_cong (vg_neD (vp_var g1.fh rfl df) (fun F2 H2 g2 => vg_lst (lg_nil g2.fh) (Nat.zero_le _)) (fault_shaped ls) rfl) (by rw [eqv_nil]))) ?_ ?_)
    · intro e F2 H2 g2
      refine retP (vg_tup (K := K) (lg_cons (vg_str (n := "refused") g2.fh) fun F3 H3 g3 => lg_one g3.fh (vp_var g3.fh rfl (Dp.mono (g2.trans g3).ff df))) (show 2 ≤ sizeLine by decide)) fun u F3 H3 g3 du => k u F3 H3 ((g1.trans g2).trans g3) ?_
      unfold facingD
      cases hv : verdict ls with
      | none => rw [hv] at e; cases e
      | some z => exact du
    · intro e F2 H2 g2
      have hv : verdict ls = none := by
        cases hv : verdict ls with
        | none => rfl
        | some z => rw [hv] at e; cases e
      have hd2 := Dp.mono g2.ff hd1
      have cnt : Vp (tLc (iRng1 (tCons (tC (.int 3)) tNil)) (gName 5) tYes (tCB (fun xs H Q => ∃ p ys, xs = [.ref p] ∧ (SqL K H p ys ∨ SqT K H p ys) ∧ Q (.int ys.length) H) (tCons (tLc (iSq K (tVar 0)) (gName 4) (tTest (tOp rEq (tOp (rIx K) (tVar 4) (tC (.int 1))) (tVar 5))) (tC (.int 1)) [4]) tNil)) [5])
          [some v, some fv, none, none, none, none] F2 H2 fun u F3 => Lp K F3 u ((List.range 3).map fun a : Nat => .int ((ls.map (·.2)).count (a : Int) : Nat)) := by
        refine vl_lcRng (tl := tCons (tC (.int 3)) tNil) (n := 3) (fun a : Nat => .int ((ls.map (·.2)).count (a : Int) : Nat)) (fun Q q => q) g2.fh (by decide) ?_
        intro a F3 H3 Y ha g3 kY
        refine gn ⟨rfl, ?_⟩
        refine (vp_imp (vg_lenL (vg_l (vl_lc (as := ls) (D := ltD) (fun p => if decide (p.2 = (a : Int)) = true then some (PyData.int 1) else none) (vp_var g3.fh rfl (qp_l (Dp.mono g3.ff hd2))) lsz ?_))) ?_) Y kY
        · intro i q x F4 H4 Y2 Nn e1 g4 dq kY2 kN
          obtain ⟨t, rfl, st⟩ := lt_of dq
          refine gn ⟨rfl, ?_⟩
          refine an_test (vl_eqI (m := q.2) (n := (a : Nat)) (fun Q z => ⟨_, rfl, .inr (.inl ⟨t, _, 1, .int q.2, rfl, rfl, Same.sqt g4.fh st, rfl, z⟩)⟩) (vl_var rfl)) _ ?_
          cases hb : decide (q.2 = ((a : Nat) : Int)) with
          | true => rw [if_pos rfl]; exact kY2 _ _ F4 H4 (by rw [hb, if_pos rfl]) (Gr.refl g4.fh) (.int 1)
          | false => rw [if_neg Bool.false_ne_true]; exact kN F4 H4 (by rw [hb, if_neg Bool.false_ne_true]) (Gr.refl g4.fh)
        · intro u F4 H4 g4 du
          rw [count_len] at du
          exact du
      refine sq (asgP cnt fun cv F3 H3 g3 dc => ?_)
      refine at_ (σ' := [some v, some fv, some cv, none, none, none]) rfl ?_
      have dc' := dc.dp
      have wv : Vg K (tAndV (tOp rEq (tOp (rIx K) (tVar 2) (tC (.int 0))) (tC (.int 1))) (tOp rEq (tOp (rIx K) (tVar 2) (tC (.int 2))) (tC (.int 0)))) [some v, some fv, some cv, none, none, none] F3 H3 (.bool (isWords ls)) := by
        rw [← words_eq]
        have one : ∀ (j : Nat) (z : Int) F4 H4, Gr [] F3 H3 F4 H4 → j < 3 → Vg K (tOp rEq (tOp (rIx K) (tVar 2) (tC (.int (j : Nat)))) (tC (.int z))) [some v, some fv, some cv, none, none, none] F4 H4 (.bool (decide (((ls.map (·.2)).count (j : Int) : Int) = z))) := fun j z F4 H4 g4 hj => by
          refine vg_op (K := K) (d := .int ((ls.map (·.2)).count (j : Int) : Nat)) (e := .int z) (vg_ixL (n := j) (vp_var g4.fh rfl (Dp.mono g4.ff dc')) (fun F5 H5 g5 => vg_int g5.fh) (by rw [List.getElem?_map, List.getElem?_range hj]; rfl)) (fun F5 H5 g5 => vg_int g5.fh) fun x y F5 H5 Q g5 p q k2 => ?_
          cases p; cases q
          exact vl_eqI (σ := []) (ta := tC (.int _)) (tb := tC (.int z)) vl_c vl_c Q (k2 _ F5 H5 (Gr.refl g5.fh) (.bl _))
        exact vg_andV (one 0 1 F3 H3 (Gr.refl g3.fh) (by decide)) fun _ F4 H4 g4 => one 2 0 F4 H4 g4 (by decide)
      refine sq (asgP wv fun wd F4 H4 g4 dw => ?_)
      cases dw
      refine at_ (σ' := [some v, some fv, some cv, some (.bl (isWords ls)), none, none]) rfl ?_
      have hd4 := Dp.mono (g3.trans g4).ff hd2
      have two : 2 ≤ sizeLine := by decide
      have three : 3 ≤ sizeLine := by decide
      refine retP (vg_tup (K := K) (lg_cons (vg_str (n := "told") g4.fh) fun F5 H5 g5 => lg_one g5.fh (vg_tup (lg_cons (vg_tupleOf (vp_var g5.fh rfl (qp_l (Dp.mono g5.ff hd4)))) fun F6 H6 g6 => lg_cons (vp_imp (vt_tuple (vl_lcM (as := ls) (D := ltD) (fun q => .str q.1) (vp_var g6.fh rfl (qp_l (Dp.mono (g5.trans g6).ff hd4))) lsz ?_)) fun _ _ _ _ p => p.dp) fun F7 H7 g7 => lg_one g7.fh (vp_var g7.fh rfl (.bl _))) three)) two) fun u F5 H5 g5 du => k u F5 H5 ((((g1.trans g2).trans g3).trans g4).trans g5) ?_
      · intro i q x F7 H7 Y e1 g7 dq kY
        obtain ⟨t, rfl, st⟩ := lt_of dq
        exact gn ⟨rfl, _, rfl, .inr (.inl ⟨t, _, 0, .str q.1, rfl, rfl, Same.sqt g7.fh st, rfl, kY _ F7 H7 (Gr.refl g7.fh) (.str _)⟩)⟩
      · unfold facingD
        rw [hv]
        show Dp K F5 u (toldD ls)
        unfold toldD
        rw [show (nms ls).map PyData.str = ls.map fun q => .str q.1 by rw [List.map_map]; rfl]
        exact du
end
end K93

set_option Elab.async false
set_option linter.all false
set_option maxRecDepth 100000
set_option maxHeartbeats 4000000
namespace K93
open PySem PySem.Spec PyProof.Rows L2 B
section
variable {P : Program} {w : World} {K : PySem.W.Frag} {mg : Str → Option Value} {b0 : Heap}
theorem vg_data {te : TE} {f : List Lt → PyData} {σ : L2.St} {F H : Hp} {ls : List Lt} (h : Vg K te σ F H (.list (ls.map ltD))) (ok : OkLs ls) : Vg K (tCall (spData K f) [] E0 (tCons te tNil)) σ F H (f ls) := fun Q q => cl1 (h _ fun v F2 H2 g p => ⟨F2, v, ls, rfl, g.fh, p, ok, fun u F3 H3 g3 d => q u F3 H3 (g.trans g3) d⟩)
theorem vg_dataN {te : TE} {f : List Str → PyData} {σ : L2.St} {F H : Hp} {ns : List Str} (h : Vg K te σ F H (.list (ns.map .str))) (ok : OkNs ns) : Vg K (tCall (spDataN K f) [] E0 (tCons te tNil)) σ F H (f ns) := fun Q q => cl1 (h _ fun v F2 H2 g p => ⟨F2, v, ns, rfl, g.fh, p, ok, fun u F3 H3 g3 d => q u F3 H3 (g.trans g3) d⟩)
theorem ok_worded (T : Txt K mg) : Has P w K mg b0 CX0 4 (He.ga K "_law_worded") ["names"] (spDataN K wordedD) := by
  refine T.h__law_worded fun fd F => F.ok sc__law_worded (fun vs H Q E h => ?_) (fun cdv A outer s H vs Q E hr h => ?_)
  · obtain ⟨_, _, _, rfl, _⟩ := h; rfl
  · obtain ⟨F0, v, ns, rfl, s0, hd, ok, k⟩ := h
    have S := sc__law_worded
    obtain ⟨l, xs, rfl, hl, dx⟩ := hd.lst_of
    have ex : xs = ns.map V.str := dx.strs_of
    subst ex
    refine ⟨_, pss_cons (ps_set (i := 1) S.nd rfl (Or.inl rfl) (pe_lst (pa_cons pe_str pa_nil))) (pss_cons (ps_for PassesOwn.never rfl (pi_range1 rfl T.n_range (pa_cons (pe_callB call_len_seq rfl T.n_len PySem.boot_len (pa_cons (pv 0) pa_nil)) pa_nil)) (pg_name (i := 2) S.nd rfl (Or.inl rfl))
        (pss_cons (ps_if (PW.pt (pw_or (pt_cmpR op_eq (pv 2) pe_int rfl) (pw_or (pt_cmpR op_in_seq (pe_ix ix_seq (pv 0) (pv 2) (fun _ _ => rfl)) (pv 1) rfl) (pw_or1 (pt_not (pt_val (pc (E := E0) (ok_lawName T) T.g__law_is_name hr noX (pa_cons (pe_ix ix_seq (pv 0) (pv 2) (fun _ _ => rfl)) pa_nil))))))))
          (pss_one (ps_ret (pe_tup (pa_cons pe_str (pa_cons (pe_lst (pa_cons (pe_tup (pa_cons pe_str (pa_cons (pv 2) pa_nil))) pa_nil)) pa_nil))))) pss_nil)
        (pss_one (ps_expr (pe_bm PySem.F.plainAttrs_list PySem.F.slot_list_append PySem.F.type_list_append mt_append (pv 1) (pa_cons (pe_ix ix_seq (pv 0) (pv 2) (fun _ _ => rfl)) pa_nil))))))
      (pss_one (ps_ret (pc (E := E0) (ok_facing T) T.g__law_facing hr noX (pa_cons (pe_op op_cat (pe_lst (pa_cons (pe_tup (pa_cons pe_str (pa_cons pe_int pa_nil))) pa_nil))
          (pe_lc (own := [("name", 3)]) (g := gName 3) rfl S.nd (pi_sq (pv 0)) (blkOk_by (N := n__law_worded) (sc := defScope s__law_worded) (by decide +kernel))
            (fun _ _ _ _ _ => pg_name (i := 3) S.nd rfl (Or.inl rfl)) (fun _ _ _ _ _ => pts_nil) (fun _ _ _ _ _ => pe_tup (pa_cons (pv 3) (pa_cons pe_int pa_nil))))) pa_nil))))), ?_⟩
    refine at_ (σ' := [some (V.ref l), none, none, none]) rfl ?_
    refine sq (asg ⟨show 1 ≤ sizeLine by decide, fun a na => ?_⟩)
    refine at_ (σ' := [some (V.ref l), some (V.ref a), none, none]) rfl ?_
    have x0 : Gr [] F0 H F0 (upd H a (.lst [.str "start"])) := (Gr.refl s0).own na
    have nl : (ns.map V.str).length = ns.length := List.length_map ..
    have sqH : ∀ {F1 H1 : Hp}, Gr [] F0 H F1 H1 → SqL K H1 l (ns.map V.str) := fun g => g.fh.seq (g.ff.seq hl)
    have nls : ns.length ≤ 900 := ok.1
    refine sq (forR (n := ns.length) (fun Q q => ⟨_, rfl, l, _, rfl, .inl (sqH x0), by rw [nl]; exact q⟩) (by omega) (fun i σ' H' => ∃ F', Gr [] F0 H F' H' ∧ H' a = some (.lst ((("start" : Str) :: ns.take i).map V.str)) ∧ F' a = none ∧
      (∃ v2, σ' = [some (V.ref l), some (V.ref a), v2, none]) ∧ badW [] 0 ns = badW (ns.take i) i (ns.drop i))
      ⟨F0, x0, upd_same, s0.free na, ⟨_, rfl⟩, rfl⟩ ?_ ?_)
    · rintro i σ' H' hi ⟨F', g, ea, fa, ⟨v2, rfl⟩, hb⟩
      have e1 : ns[i]? = some ns[i] := List.getElem?_eq_getElem hi
      generalize ns[i] = q at e1
      have hmem : q ∈ ns := List.mem_of_getElem? e1
      have exi : (ns.map V.str)[i]? = some (V.str q) := by rw [List.getElem?_map, e1]; rfl
      refine gn (at_ (σ' := [some (V.ref l), some (V.ref a), some (V.int (i : Nat)), none]) rfl ?_)
      have item : ∀ {F2 H2 : Hp}, Gr [] F' H' F2 H2 → Vl (tOp (rIx K) (tVar 0) (tVar 2)) [some (V.ref l), some (V.ref a), some (V.int (i : Nat)), none] H2 (.str q) := fun g2 Q z => ⟨_, rfl, _, rfl, .inl ⟨l, _, _, .str q, rfl, rfl, sqH (g.trans g2), atI_nat exi, z⟩⟩
      have bad : badWL (ns.take i) i q = (decide ((i : Int) = 11) || (decide (q ∈ (("start" : Str) :: ns.take i)) || !isName q)) := by
        unfold badWL
        have e2 : decide (q ∈ (("start" : Str) :: ns.take i)) = (decide (q = "start") || decide (q ∈ ns.take i)) := by
          by_cases h : q = "start" <;> by_cases h2 : q ∈ ns.take i <;> simp [h, h2]
        rw [e2, show ((12 : Int) - 1) = 11 from rfl]
        cases decide ((i : Int) = 11) <;> cases isName q <;> cases decide (q = "start") <;> cases decide (q ∈ ns.take i) <;> rfl
      refine sq (if_ag1 (F := F') (b := badWL (ns.take i) i q) (ag_cong (a := decide ((i : Int) = 11) || (decide (q ∈ (("start" : Str) :: ns.take i)) || !isName q)) ?_ bad.symm) ?_ ?_)
      · refine ag_or (ag_an g.fh (an_test (vl_eqI (vl_var rfl) vl_c))) fun _ F2 H2 g2 => ?_
        refine ag_or (ag_an g2.fh (an_inS (neg := false) (item g2) (vl_var rfl) (g2.hh a _ (fun z => nomatch z) ea))) fun _ F3 H3 g3 => ?_
        exact ag_not (ag_val (K := K) (vg_lawName (lg_one g3.fh (vp_of g3.fh (item (g2.trans g3)) (.str _))) (ok.2 q hmem)))
      · intro e F2 H2 g2
        refine retP (vg_tup (K := K) (lg_cons (vg_str (n := "refused") g2.fh) fun F3 H3 g3 => lg_one g3.fh (vg_err (K := K) (c := "BadLetter") g3.fh fun F4 H4 g4 => vp_var g4.fh rfl (.int (i : Nat)))) (show 2 ≤ sizeLine by decide)) fun u F3 H3 g3 du => k u F3 H3 ((g.trans g2).trans g3) ?_
        unfold wordedD
        rw [hb, drop_cons e1, badW, if_pos e]; exact du
      · intro e F2 H2 g2
        have ea3 := g2.hh a _ (fun z => nomatch z) ea
        have fa3 := g2.offF ea fa
        refine ⟨_, rfl, .inl ⟨rfl, _, Evl.sq_of ea3⟩, item g2 _ ⟨a, _, _, rfl, rfl, ea3, ?_, ?_⟩⟩
        · rw [List.length_map, List.length_cons, List.length_take]
          exact Nat.lt_of_lt_of_le (show min i ns.length + 1 < 1001 by omega) (by decide)
        · refine ⟨F2, (g.trans g2).put fa3 (.inr na), ?_, fa3, ⟨_, rfl⟩, ?_⟩
          · rw [upd_same, take_snoc e1, List.map_cons, List.map_cons, List.map_append]; rfl
          · rw [hb, drop_cons e1, badW, if_neg (by rw [e]; exact Bool.false_ne_true), take_snoc e1]
    · rintro σ' H' ⟨F', g, ea, fa, ⟨v2, rfl⟩, hb⟩
      have hb2 : badW [] 0 ns = none := by rw [hb, List.drop_length]; rfl
      have one : 1 ≤ sizeLine := by decide
      have two : 2 ≤ sizeLine := by decide
      have nsz : ns.length ≤ sizeLine := Nat.le_trans ok.1 (by decide)
      have ed : [ltD ("start", 0)] ++ ns.map (fun x => ltD (x, 1)) = (wlt ns).map ltD := by
        show _ = ltD ("start", 0) :: (ns.map _).map ltD
        rw [List.map_map]; rfl
      refine retP (vg_data (K := K) (f := facingD) (ls := wlt ns) ?_ (wlt_ok ok)) fun u F2 H2 g2 du => k u F2 H2 (g.trans g2) ?_
      · rw [← ed]
        refine vg_l (vl_catL (vl_lst (lg_one g.fh (vg_tup (ds := [.str "start", .int 0]) (lg_cons (vg_str g.fh) fun _ _ g5 => lg_one g5.fh (vg_int g5.fh)) two)) one)
          (fun F2 H2 g2 => vl_lcM (as := ns) (D := PyData.str) (fun x => ltD (x, 1)) (vp_var g2.fh rfl ⟨l, _, rfl, .inl ((g.trans g2).ff.seq hl), DpAll.strs ns⟩) nsz ?_) ?_)
        · intro i q y F4 H4 Y e1 g4 dy kY
          cases dy
          exact gn ⟨rfl, (vg_tup (K := K) (ds := [.str q, .int 1]) (lg_cons (vp_var g4.fh rfl (.str _)) fun _ _ g5 => lg_one g5.fh (vg_int g5.fh)) two) Y kY⟩
        · rw [List.length_map]
          exact Nat.le_trans (show 1 + ns.length ≤ 1000 by omega) (by decide)
      · unfold wordedD
        rw [hb2]; exact du
end
end K93

set_option Elab.async false
set_option linter.all false
set_option maxRecDepth 100000
set_option maxHeartbeats 4000000
namespace K93
open PySem PySem.Spec PyProof.Rows L2 B
/-- what may be raised here -/
inductive Er where
  | bl (n : Nat)
  | nc
  | nl (x : Str)
  | bt (n : Nat)
def Er.cls (K : PySem.W.Frag) : Er → Addr
  | .bl _ => He.ga K "BadLetter"
  | .nc => He.ga K "NoConstant"
  | .nl _ => He.ga K "NoLetter"
  | .bt _ => He.ga K "BadText"
def Er.has (H : Hp) (d : Option Addr) : Er → Prop
  | .bl n => ∃ dd, d = some dd ∧ H dd = some (.xd [("at", .int (n : Nat))])
  | .nc => d = none
  | .nl x => ∃ dd, d = some dd ∧ H dd = some (.xd [("name", .str x)])
  | .bt n => ∃ dd, d = some dd ∧ H dd = some (.xd [("line", .int (n : Nat))])
def Er.D : Er → PyData
  | .bl n => errD "BadLetter" n
  | .nc => errD "NoConstant" 0
  | .nl x => .list [.tuple [.str "NoLetter", .str x]]
  | .bt n => errD "BadText" n
def spNamed (K : PySem.W.Frag) : SpE := fun cls d a H Q => ∃ (F : Hp) (er : Er), Same F H ∧ cls = .ref (er.cls K) ∧ er.has H d ∧ ∀ u F' H', Gr [] F H F' H' → Dp K F' u er.D → Q u H'
theorem Er.dict {H : Hp} {d : Option Addr} : ∀ {er : Er}, er.has H d → d = none ∨ ∃ dd fs, d = some dd ∧ H dd = some (.xd fs)
  | .bl _, ⟨dd, e, h⟩ => .inr ⟨dd, _, e, h⟩
  | .nc, e => .inl e
  | .nl _, ⟨dd, e, h⟩ => .inr ⟨dd, _, e, h⟩
  | .bt _, ⟨dd, e, h⟩ => .inr ⟨dd, _, e, h⟩
section
variable {P : Program} {w : World} {K : PySem.W.Frag} {mg : Str → Option Value} {b0 : Heap}
theorem Er.exc (T : Txt K mg) : ∀ er : Er, XfC K (er.cls K) ∧ ExcC K (er.cls K)
  | .bl _ => T.xq_BadLetter
  | .nc => T.xq_NoConstant
  | .nl _ => T.xq_NoLetter
  | .bt _ => T.xq_BadText
def Er.is : Er → Nat → Bool
  | .bl _, 0 => true
  | .nc, 1 => true
  | .nl _, 2 => true
  | .bt _, 3 => true
  | _, 5 => true
  | _, _ => false
def kindV (K : PySem.W.Frag) : Nat → Value
  | 0 => .ref (He.ga K "BadLetter")
  | 1 => .ref (He.ga K "NoConstant")
  | 2 => .ref (He.ga K "NoLetter")
  | 3 => .ref (He.ga K "BadText")
  | 4 => .ref (He.ga K "BadGauge")
  | _ => .type "ValueError"
theorem Er.kit (T : Txt K mg) (er : Er) (k : Nat) (hk : k < 6) : PySem.W.kitOne K (.ref (er.cls K)) (kindV K k) = some (er.is k) := by
  match k, hk with
  | 0, _ => cases er <;> first | exact T.kit_BadLetter_BadLetter | exact T.kit_NoConstant_BadLetter | exact T.kit_NoLetter_BadLetter | exact T.kit_BadText_BadLetter
  | 1, _ => cases er <;> first | exact T.kit_BadLetter_NoConstant | exact T.kit_NoConstant_NoConstant | exact T.kit_NoLetter_NoConstant | exact T.kit_BadText_NoConstant
  | 2, _ => cases er <;> first | exact T.kit_BadLetter_NoLetter | exact T.kit_NoConstant_NoLetter | exact T.kit_NoLetter_NoLetter | exact T.kit_BadText_NoLetter
  | 3, _ => cases er <;> first | exact T.kit_BadLetter_BadText | exact T.kit_NoConstant_BadText | exact T.kit_NoLetter_BadText | exact T.kit_BadText_BadText
  | 4, _ => cases er <;> first | exact T.kit_BadLetter_BadGauge | exact T.kit_NoConstant_BadGauge | exact T.kit_NoLetter_BadGauge | exact T.kit_BadText_BadGauge
  | 5, _ => cases er <;> first | exact T.kity_BadLetter_ValueError | exact T.kity_NoConstant_ValueError | exact T.kity_NoLetter_ValueError | exact T.kity_BadText_ValueError
theorem Er.step {F H F' H' : Hp} {d : Option Addr} (g : Gr [] F H F' H') : ∀ {er : Er}, er.has H d → er.has H' d
  | .bl _, ⟨dd, e, h⟩ => ⟨dd, e, g.hh dd _ (fun z => nomatch z) h⟩
  | .nc, e => e
  | .nl _, ⟨dd, e, h⟩ => ⟨dd, e, g.hh dd _ (fun z => nomatch z) h⟩
  | .bt _, ⟨dd, e, h⟩ => ⟨dd, e, g.hh dd _ (fun z => nomatch z) h⟩
/-- one clause of _law_named -/
theorem named_1 (T : Txt K mg) {a : Addr} {er : Er} {d : Option Addr} {cls : Value} {k : Nat} {c : V} {F H F1 H1 : Hp} {p : Addr} {ds : List PyData} {tx : TE} {nm : Str} {N Bk Ct : L2.St → Hp → Prop} {Rt : VK} {x : PyData} {xs : List V} (ec : cls = .ref (er.cls K)) (hk : k < 6) (hc : ∀ u, RelV c u → u = kindV K k) (g : Gr [] F H F1 H1) (he : er.has H1 d) (ep : H1 p = some (.lst xs)) (pd : DpAll K F1 xs ds) (fp : F1 p = none) (np : H p = none) (hl : xs.length ≤ 5)
    (hx : er.is k = true → ∀ F2 H2, Gr [] F1 H1 F2 H2 → Vg K tx [some (V.ref a), some (V.ref p)] F2 H2 x)
    (yes : er.is k = true → ∀ F2 H2 xs2, Gr [] F H F2 H2 → er.has H2 d → H2 p = some (.lst xs2) → xs2.length ≤ xs.length + 1 → DpAll K F2 xs2 (ds ++ [.tuple [.str nm, x]]) → F2 p = none → N [some (V.ref a), some (V.ref p)] H2) (no : er.is k = false → N [some (V.ref a), some (V.ref p)] H1) :
    tIfS (tB (tCB (rIsX K a cls d) (tCons (tVar 0) (tCons (tC c) tNil)))) (tDrop (tBM K "list" rAppend (tVar 1) (tCons (tTup (tCons (tC (.str nm)) (tCons tx tNil))) tNil))) tNext ⟨N, Rt, Bk, Ct⟩ [some (V.ref a), some (V.ref p)] H1 := by
  refine if_1 (b := er.is k) (fun Q q => ⟨_, rfl, er.cls K, c, kindV K k, er.is k, ec, (Er.exc T er).2, rfl, hc, Er.kit T er k hk, er.dict he, _, rfl, q⟩) (fun e => ?_) no
  refine ⟨_, rfl, .inl ⟨rfl, _, Evl.sq_of ep⟩, ?_⟩
  refine (vg_tup (K := K) (lg_cons (vg_str (n := nm) g.fh) fun F2 H2 g2 => lg_one g2.fh (hx e F2 H2 g2)) (show 2 ≤ sizeLine by decide)) _ fun v F2 H2 g2 dv => ?_
  have ep2 := g2.hh p _ (fun z => nomatch z) ep
  have fp2 := g2.offF ep fp
  have g3 := (g.trans g2).put (o := .lst (xs ++ [v])) fp2 (.inr np)
  refine ⟨p, xs, v, rfl, rfl, ep2, Nat.lt_of_lt_of_le (show xs.length < 1001 by omega) (by decide), ?_⟩
  refine yes e F2 _ (xs ++ [v]) g3 ?_ upd_same (by rw [List.length_append]; exact Nat.le_refl _) ((DpAll.mono g2.ff pd).snoc dv) fp2
  have h2 := Er.step g2 he
  have off : ∀ {dd : Addr} {fs : List (Str × V)}, H2 dd = some (.xd fs) → upd H2 p (.lst (xs ++ [v])) dd = some (.xd fs) := fun {dd fs} z => by
    rw [upd_ne (fun e => by rw [e, ep2] at z; cases z)]; exact z
  cases er with
  | bl n => obtain ⟨dd, e, z⟩ := h2; exact ⟨dd, e, off z⟩
  | nc => exact h2
  | nl n => obtain ⟨dd, e, z⟩ := h2; exact ⟨dd, e, off z⟩
  | bt n => obtain ⟨dd, e, z⟩ := h2; exact ⟨dd, e, off z⟩
theorem ok_named (T : Txt K mg) : HasE P w K mg b0 1 (He.ga K "_law_named") "e" (spNamed K) := by
  obtain ⟨fd, F⟩ := T.c.def_ 25
  refine ⟨⟨fd, fnE_of (He5.fun_of (st := s__law_named) F) sc__law_named (fun cdv A outer s H Q a oe cls d hz hf hr h => ?_), (He5.fun_of (st := s__law_named) F).binds fun _ _ _ _ _ _ us hl => match us, hl with | [_], _ => rfl⟩, F.kp⟩
  obtain ⟨F0, er, s0, ec, he, k⟩ := h
  have S := sc__law_named
  refine ⟨_, pss_cons (ps_set (i := 1) S.nd rfl (Or.inl rfl) (pe_lst pa_nil))
    (pss_cons (ps_if (pt_val (pe_callB (call_isX List.mem_cons_self hz hf) rfl T.n_isinstance (by decide +kernel) (pa_cons (pv 0) (pa_cons (gR T.g_BadLetter) pa_nil)))) (pss_one (ps_expr (pe_bm PySem.F.plainAttrs_list PySem.F.slot_list_append PySem.F.type_list_append mt_append (pv 1) (pa_cons (pe_tup (pa_cons pe_str (pa_cons (pe_fldX List.mem_cons_self hz hf (pv 0)) pa_nil))) pa_nil)))) pss_nil)
    (pss_cons (ps_if (pt_val (pe_callB (call_isX List.mem_cons_self hz hf) rfl T.n_isinstance (by decide +kernel) (pa_cons (pv 0) (pa_cons (gR T.g_NoConstant) pa_nil)))) (pss_one (ps_expr (pe_bm PySem.F.plainAttrs_list PySem.F.slot_list_append PySem.F.type_list_append mt_append (pv 1) (pa_cons (pe_tup (pa_cons pe_str (pa_cons pe_int pa_nil))) pa_nil)))) pss_nil)
    (pss_cons (ps_if (pt_val (pe_callB (call_isX List.mem_cons_self hz hf) rfl T.n_isinstance (by decide +kernel) (pa_cons (pv 0) (pa_cons (gR T.g_NoLetter) pa_nil)))) (pss_one (ps_expr (pe_bm PySem.F.plainAttrs_list PySem.F.slot_list_append PySem.F.type_list_append mt_append (pv 1) (pa_cons (pe_tup (pa_cons pe_str (pa_cons (pe_fldX List.mem_cons_self hz hf (pv 0)) pa_nil))) pa_nil)))) pss_nil)
    (pss_cons (ps_if (pt_val (pe_callB (call_isX List.mem_cons_self hz hf) rfl T.n_isinstance (by decide +kernel) (pa_cons (pv 0) (pa_cons (gR T.g_BadText) pa_nil)))) (pss_one (ps_expr (pe_bm PySem.F.plainAttrs_list PySem.F.slot_list_append PySem.F.type_list_append mt_append (pv 1) (pa_cons (pe_tup (pa_cons pe_str (pa_cons (pe_fldX List.mem_cons_self hz hf (pv 0)) pa_nil))) pa_nil)))) pss_nil)
    (pss_cons (ps_if (PW.pt (pw_or (pt_val (pe_callB (call_isX List.mem_cons_self hz hf) rfl T.n_isinstance (by decide +kernel) (pa_cons (pv 0) (pa_cons (gR T.g_BadGauge) pa_nil)))) (pw_or1 (pt_not (pt_val (pe_callB (call_isX List.mem_cons_self hz hf) rfl T.n_isinstance (by decide +kernel) (pa_cons (pv 0) (pa_cons (gTy (n := "ValueError") T.n_ValueError) pa_nil))))))))
      (pss_one (ps_expr (pe_bm PySem.F.plainAttrs_list PySem.F.slot_list_append PySem.F.type_list_append mt_append (pv 1) (pa_cons (pe_tup (pa_cons pe_str (pa_cons pe_int pa_nil))) pa_nil)))) pss_nil)
    (pss_one (ps_ret (pv 1)))))))), ?_⟩
  refine at_ (σ' := [some (V.ref a), none]) rfl ?_
  refine sq (asg ⟨show 0 ≤ sizeLine from Nat.zero_le _, fun p np => ?_⟩)
  refine at_ (σ' := [some (V.ref a), some (V.ref p)]) rfl ?_
  have x0 : Gr [] F0 H F0 (upd H p (.lst [])) := (Gr.refl s0).own np
  have fp0 := s0.free np
  have last : ∀ F1 H1 xs ds, Gr [] F0 H F1 H1 → er.has H1 d → H1 p = some (.lst xs) → DpAll K F1 xs ds → F1 p = none → er.D = .list ds →
      tSeq (tIfS (tOr (tB (tCB (rIsX K a cls d) (tCons (tVar 0) (tCons (tC (.ref (He.ga K "BadGauge"))) tNil)))) (tNot (tB (tCB (rIsX K a cls d) (tCons (tVar 0) (tCons (tC (.ty "ValueError")) tNil))))))
        (tDrop (tBM K "list" rAppend (tVar 1) (tCons (tTup (tCons (tC (.str "other")) (tCons (tC (.int 0)) tNil))) tNil))) tNext) (tRet (tVar 1)) { nx := fun _ H' => Q .non H', rt := Q } [some (V.ref a), some (V.ref p)] H1 := by
    intro F1 H1 xs ds g h1 ep pd fp eD
    have bg : er.is 4 = false := by cases er <;> rfl
    have ve : er.is 5 = true := by cases er <;> rfl
    refine sq (if_no1 (an_cong (an_or (a := er.is 4) (fun Q q => ⟨_, rfl, er.cls K, _, kindV K 4, er.is 4, ec, (Er.exc T er).2, rfl, (fun u e => e), Er.kit T er 4 (by decide), er.dict h1, _, rfl, q⟩) fun _ => an_not (b := er.is 5) (fun Q q => ⟨_, rfl, er.cls K, _, kindV K 5, er.is 5, ec, (Er.exc T er).2, rfl, (fun u e => e), Er.kit T er 5 (by decide), er.dict h1, _, rfl, q⟩)) (by rw [bg, ve]; rfl)) ?_)
    refine retV (vl_var rfl) ?_
    refine k _ _ _ (g.still ep np fp) ?_
    rw [eD]; exact Dp.newL upd_same (DpAll.mono (Evl.Ex.new fp) pd)
  cases er with
  | bl n =>
    refine sq ?_
    refine named_1 T (k := 0) (c := .ref (He.ga K "BadLetter")) (er := _) (x := .int (n : Nat)) ec (by decide) (fun u e => e) x0 (Er.step x0 he) upd_same DpAll.nil fp0 np (Nat.zero_le _) (fun _ F2 H2 g2 Q q => by
      obtain ⟨dd, ed, hdd⟩ := Er.step (x0.trans g2) he
      exact ⟨_, rfl, rfl, He.ga K "BadLetter", dd, _, _, ec, T.xq_BadLetter.1, T.er_BadLetter.no, ed, hdd, rfl, q _ _ _ (Gr.refl g2.fh) (.int _)⟩) (fun _ F5 H5 xs5 g5 h5 ep5 l5 pd5 fp5 => ?_) (fun z => by cases z)
    refine sq ?_
    refine named_1 T (k := 1) (c := .ref (He.ga K "NoConstant")) (x := .none) ec (by decide) (fun u e => e) g5 h5 ep5 pd5 fp5 np (Nat.le_trans l5 (by decide)) (fun z => by cases z) (fun z => by cases z) (fun _ => ?_)
    refine sq ?_
    refine named_1 T (k := 2) (c := .ref (He.ga K "NoLetter")) (x := .none) ec (by decide) (fun u e => e) g5 h5 ep5 pd5 fp5 np (Nat.le_trans l5 (by decide)) (fun z => by cases z) (fun z => by cases z) (fun _ => ?_)
    refine sq ?_
    refine named_1 T (k := 3) (c := .ref (He.ga K "BadText")) (x := .none) ec (by decide) (fun u e => e) g5 h5 ep5 pd5 fp5 np (Nat.le_trans l5 (by decide)) (fun z => by cases z) (fun z => by cases z) (fun _ => ?_)
    exact last _ _ _ _ g5 h5 ep5 pd5 fp5 rfl
  | nc =>
    refine sq ?_
    refine named_1 T (k := 0) (c := .ref (He.ga K "BadLetter")) (x := .none) ec (by decide) (fun u e => e) x0 (Er.step x0 he) upd_same DpAll.nil fp0 np (Nat.zero_le _) (fun z => by cases z) (fun z => by cases z) (fun _ => ?_)
    refine sq ?_
    refine named_1 T (k := 1) (c := .ref (He.ga K "NoConstant")) (er := _) (x := .int 0) ec (by decide) (fun u e => e) x0 (Er.step x0 he) upd_same DpAll.nil fp0 np (Nat.zero_le _) (fun _ F2 H2 g2 => vg_int g2.fh) (fun _ F5 H5 xs5 g5 h5 ep5 l5 pd5 fp5 => ?_) (fun z => by cases z)
    refine sq ?_
    refine named_1 T (k := 2) (c := .ref (He.ga K "NoLetter")) (x := .none) ec (by decide) (fun u e => e) g5 h5 ep5 pd5 fp5 np (Nat.le_trans l5 (by decide)) (fun z => by cases z) (fun z => by cases z) (fun _ => ?_)
    refine sq ?_
    refine named_1 T (k := 3) (c := .ref (He.ga K "BadText")) (x := .none) ec (by decide) (fun u e => e) g5 h5 ep5 pd5 fp5 np (Nat.le_trans l5 (by decide)) (fun z => by cases z) (fun z => by cases z) (fun _ => ?_)
    exact last _ _ _ _ g5 h5 ep5 pd5 fp5 rfl
  | nl n =>
    refine sq ?_
    refine named_1 T (k := 0) (c := .ref (He.ga K "BadLetter")) (x := .none) ec (by decide) (fun u e => e) x0 (Er.step x0 he) upd_same DpAll.nil fp0 np (Nat.zero_le _) (fun z => by cases z) (fun z => by cases z) (fun _ => ?_)
    refine sq ?_
    refine named_1 T (k := 1) (c := .ref (He.ga K "NoConstant")) (x := .none) ec (by decide) (fun u e => e) x0 (Er.step x0 he) upd_same DpAll.nil fp0 np (Nat.zero_le _) (fun z => by cases z) (fun z => by cases z) (fun _ => ?_)
    refine sq ?_
    refine named_1 T (k := 2) (c := .ref (He.ga K "NoLetter")) (er := _) (x := .str n) ec (by decide) (fun u e => e) x0 (Er.step x0 he) upd_same DpAll.nil fp0 np (Nat.zero_le _) (fun _ F2 H2 g2 Q q => by
      obtain ⟨dd, ed, hdd⟩ := Er.step (x0.trans g2) he
      exact ⟨_, rfl, rfl, He.ga K "NoLetter", dd, _, _, ec, T.xq_NoLetter.1, T.er_NoLetter.no, ed, hdd, rfl, q _ _ _ (Gr.refl g2.fh) (.str _)⟩) (fun _ F5 H5 xs5 g5 h5 ep5 l5 pd5 fp5 => ?_) (fun z => by cases z)
    refine sq ?_
    refine named_1 T (k := 3) (c := .ref (He.ga K "BadText")) (x := .none) ec (by decide) (fun u e => e) g5 h5 ep5 pd5 fp5 np (Nat.le_trans l5 (by decide)) (fun z => by cases z) (fun z => by cases z) (fun _ => ?_)
    exact last _ _ _ _ g5 h5 ep5 pd5 fp5 rfl
  | bt n =>
    refine sq ?_
    refine named_1 T (k := 0) (c := .ref (He.ga K "BadLetter")) (x := .none) ec (by decide) (fun u e => e) x0 (Er.step x0 he) upd_same DpAll.nil fp0 np (Nat.zero_le _) (fun z => by cases z) (fun z => by cases z) (fun _ => ?_)
    refine sq ?_
    refine named_1 T (k := 1) (c := .ref (He.ga K "NoConstant")) (x := .none) ec (by decide) (fun u e => e) x0 (Er.step x0 he) upd_same DpAll.nil fp0 np (Nat.zero_le _) (fun z => by cases z) (fun z => by cases z) (fun _ => ?_)
    refine sq ?_
    refine named_1 T (k := 2) (c := .ref (He.ga K "NoLetter")) (x := .none) ec (by decide) (fun u e => e) x0 (Er.step x0 he) upd_same DpAll.nil fp0 np (Nat.zero_le _) (fun z => by cases z) (fun z => by cases z) (fun _ => ?_)
    refine sq ?_
    refine named_1 T (k := 3) (c := .ref (He.ga K "BadText")) (er := _) (x := .int (n : Nat)) ec (by decide) (fun u e => e) x0 (Er.step x0 he) upd_same DpAll.nil fp0 np (Nat.zero_le _) (fun _ F2 H2 g2 Q q => by
      obtain ⟨dd, ed, hdd⟩ := Er.step (x0.trans g2) he
      exact ⟨_, rfl, rfl, He.ga K "BadText", dd, _, _, ec, T.xq_BadText.1, T.er_BadText.no, ed, hdd, rfl, q _ _ _ (Gr.refl g2.fh) (.int _)⟩) (fun _ F5 H5 xs5 g5 h5 ep5 l5 pd5 fp5 => ?_) (fun z => by cases z)
    exact last _ _ _ _ g5 h5 ep5 pd5 fp5 rfl
end
end K93

set_option Elab.async false
set_option linter.all false
set_option maxRecDepth 100000
set_option maxHeartbeats 4000000
namespace B
open PySem PySem.Spec PyProof.Rows L2
theorem passNW {X : Cx} {W : WX} (tk : L2N.Takes X W) (σ : L2.St) : PassesAt (L2N.CX X.prog X.w) X σ (WE W σ) := fun _ _ _ e s' I c => tk e s' (L2N.XE.of_call I (fun _ _ _ h => h) c)
theorem Gr.less {M : List Addr} {F H F' H' : Hp} (g : Gr M F H F' H') (h : ∀ b ∈ M, H b = none) : Gr [] F H F' H' := ⟨g.ff, g.fh, fun b o n e => g.hh b o (fun z => by rw [h b z] at e; cases e) e, g.al, g.nf⟩
end B
namespace K93
open PySem PySem.Spec PyProof.Rows L2 B TL
def arityOf (a : Str) : Option Int := if a = "0" then some 0 else if a = "1" then some 1 else if a = "2" then some 2 else none
theorem arityOf_in (a : Str) : (arityOf a).isSome = decide (a ∈ (["0", "1", "2"] : List Str)) := by
  unfold arityOf
  by_cases h0 : a = "0"
  · rw [if_pos h0]; simp [h0]
  · by_cases h1 : a = "1"
    · rw [if_neg h0, if_pos h1]; simp [h1]
    · by_cases h2 : a = "2"
      · rw [if_neg h0, if_neg h1, if_pos h2]; simp [h2]
      · rw [if_neg h0, if_neg h1, if_neg h2]; simp [h0, h1, h2]
theorem arityOf_int {a : Str} {n : Int} (h : arityOf a = some n) : intText? a = some n ∧ a.length ≤ 640 := by
  unfold arityOf at h
  split at h
  · rename_i e; cases h; subst e; exact ⟨by decide +kernel, by decide⟩
  · split at h
    · rename_i e; cases h; subst e; exact ⟨by decide +kernel, by decide⟩
    · split at h
      · rename_i e; cases h; subst e; exact ⟨by decide +kernel, by decide⟩
      · cases h
def slash : Str := "/"
def sp1 : Str := " "
def readW (x : Str) : Option Lt := (arityOf (Txt.partition x "/").2.2).map fun n => ((Txt.partition x "/").1, n)
def readG (acc : List Lt) : List Str → Option (List Lt)
  | [] => some acc
  | x :: r => match readW x with
    | none => none
    | some p => readG (acc ++ [p]) r
def readL (text : Str) : Option (List Lt) := readG [] (Txt.split text " ")
def readD (text : Str) : PyData := match readL text with
  | none => refD (errD "BadText" 0)
  | some ls => match verdict ls with
    | none => toldD ls
    | some _ => refD (errD "BadText" 0)
theorem sp_ok : tl (" " : Str) ≠ [] := by decide +kernel
theorem sl_ok : tl ("/" : Str) = [47] := by decide +kernel
theorem sp_kind (x : Str) : ¬ Builtin.Str.strKind x < Builtin.Str.strKind (" " : Str) := kind_ok (by decide +kernel)
theorem sl_kind (x : Str) : ¬ Builtin.Str.strKind x < Builtin.Str.strKind ("/" : Str) := kind_ok (by decide +kernel)
theorem words_len (x : Str) : (Txt.split x " ").length ≤ x.length + 2 := (fact_split x " ").2
theorem word_len {x w : Str} (h : w ∈ Txt.split x " ") : w.length ≤ x.length := split_word sp_ok (sp_kind x) h
/-- the same by split -/
def cutW (x : Str) : Option Lt := match Txt.split x "/" with
  | [a, b] => (arityOf b).map fun n => (a, n)
  | _ => none
theorem arityOf_nos {b : Str} {n : Int} (h : arityOf b = some n) : (47 : Nat) ∉ tl b := by
  unfold arityOf at h
  split at h
  · rename_i e; subst e; decide +kernel
  · split at h
    · rename_i e; subst e; decide +kernel
    · split at h
      · rename_i e; subst e; decide +kernel
      · cases h
theorem cut_read (x : Str) : cutW x = readW x := by
  have hs := split_spl x "/" (by rw [sl_ok]; exact fun z => nomatch z) (sl_kind x)
  have hp := partition_par x "/" (by rw [sl_ok]; exact fun z => nomatch z)
  rw [sl_ok] at hs hp
  have z := par_spl 47 (tl x) []
  unfold cutW readW
  cases e : par [47] [] (tl x) with
  | none =>
    rw [e] at hp
    rw [z.1 e] at hs
    rw [hp]
    cases hx : Txt.split x "/" with
    | nil => rw [hx] at hs; cases hs
    | cons a r => cases r with
      | nil => rfl
      | cons b r2 => rw [hx] at hs; simp at hs
  | some q =>
    obtain ⟨a, b⟩ := q
    rw [e] at hp
    rw [z.2 a b e] at hs
    rw [hp]
    show _ = (arityOf (⟨b.toArray⟩ : Str)).map fun n => ((⟨a.toArray⟩ : Str), n)
    by_cases hb : (47 : Nat) ∈ b
    · have two := spl_two 47 b [] hb
      have no : arityOf (⟨b.toArray⟩ : Str) = none := by
        cases h : arityOf (⟨b.toArray⟩ : Str) with
        | none => rfl
        | some n => exact absurd hb (arityOf_nos h)
      rw [no]
      cases hx : Txt.split x "/" with
      | nil => rfl
      | cons c r => cases r with
        | nil => rfl
        | cons d r2 => cases r2 with
          | nil =>
            rw [hx] at hs
            have := congrArg List.length hs
            simp only [List.map_cons, List.map_nil, List.length_cons, List.length_nil] at this
            omega
          | cons f r3 => rfl
    · have one : spl [47] 0 [] b = [b] := spl_last1 hb
      rw [one] at hs
      cases hx : Txt.split x "/" with
      | nil => rw [hx] at hs; cases hs
      | cons c r => cases r with
        | nil => rw [hx] at hs; cases hs
        | cons d r2 => cases r2 with
          | cons f r3 => rw [hx] at hs; simp at hs
          | nil =>
            rw [hx] at hs
            have h1 : tl c = a := by simpa using (List.cons.inj hs).1
            have h2 : tl d = b := by simpa using (List.cons.inj (List.cons.inj hs).2).1
            have e1 : c = ⟨a.toArray⟩ := ext_tl (by rw [h1])
            have e2 : d = ⟨b.toArray⟩ := ext_tl (by rw [h2])
            rw [e1, e2]
theorem readW_len {x : Str} {p : Lt} (h : readW x = some p) : p.1.length ≤ x.length := by
  unfold readW at h
  obtain ⟨n, _, rfl⟩ := Option.map_eq_some_iff.mp h
  exact (fact_partition x "/").1
def spRead (K : PySem.W.Frag) : Sp := fun vs H Q E => ∃ F text, vs = [.str text] ∧ text.length ≤ 900 ∧ Same F H ∧ (∀ ls, readL text = some ls → verdict ls = none → ∀ v F' H', Gr [] F H F' H' → SigAt K F' v ls → Q v H') ∧
  ((readL text = none ∨ ∃ ls, readL text = some ls ∧ verdict ls ≠ none) → ∀ d F' H', Gr [] F H F' H' → H' d = some (.xd [("line", .int (0 : Nat))]) → E (.ref (He.ga K "BadText")) (some d) H')
section
variable {P : Program} {w : World} {K : PySem.W.Frag} {mg : Str → Option Value} {b0 : Heap}
theorem i_BadTextH (T : Txt K mg) : ∃ fd, L2H.FnH P w K mg b0 CX0 1 (He.ma K (He.ga K "BadText") "__init__") fd ["self", "line"] (spErr (He.ga K "BadText") "line") ∧ Binds K fd ["self", "line"] [] := by
  obtain ⟨fd, F⟩ := T.c.def_ 2
  exact ⟨fd, err_fnH T.er_BadText et_BadText (He5.fun_of (st := s_BadText_init) F), (He5.fun_of (st := s_BadText_init) F).binds fun _ _ _ _ _ _ us hl => match us, hl with | [_, _], _ => rfl⟩
theorem ok_read (T : Txt K mg) : Has P w K mg b0 (L2.CX P w) 6 (He.ga K "read_signature") ["text"] (spRead K) := by
  refine T.h_read_signature fun fd F => F.okX sc_read_signature (fun vs H Q E h => ?_) (fun cdv A outer s H vs Q E hr h => ?_)
  · obtain ⟨_, _, rfl, _⟩ := h; rfl
  · obtain ⟨F0, text, rfl, tlen, s0, kOk, kBad⟩ := h
    have S := sc_read_signature
    refine ⟨_, pss_cons (ps_set (i := 1) S.nd rfl (Or.inl rfl) (pe_lst pa_nil))
      (pss_cons (ps_for (passes_of rfl) rfl (pi_sq (pe_split (pv 0) pe_str)) (pg_name (i := 2) S.nd rfl (Or.inl rfl))
        (pss_cons (ps_asg (pe_partition (pv 2) pe_str) (pg_tup rfl (pgs_cons (pg_name (i := 3) S.nd rfl (Or.inl rfl)) (pgs_cons (pg_name (i := 4) S.nd rfl (Or.inl rfl)) (pgs_cons (pg_name (i := 5) S.nd rfl (Or.inl rfl)) pgs_nil)))))
        (pss_cons (ps_if (pt_cmpR op_notIn_seq (pv 5) (gR T.t_ARITIES.2) rfl) (pss_one (L2.ps_raise rfl (L2.takes_of rfl rfl rfl rfl) (pmk_of (pmk_err T.er_BadText (i_BadText T) T.g_BadText hr (pa_cons pe_int pa_nil)).pmk))) pss_nil)
        (pss_one (ps_expr (pe_bm PySem.F.plainAttrs_list PySem.F.slot_list_append PySem.F.type_list_append mt_append (pv 1) (pa_cons (pe_tup (pa_cons (pv 3) (pa_cons (pe_callTy call_int_str rfl T.n_int (by decide +kernel) (pa_cons (pv 5) pa_nil)) pa_nil))) pa_nil)))))))
      (pss_one (ps_tryT rfl rfl T.g_BadLetter T.g_NoConstant rfl rfl (by decide) (by decide) (L2H.passesAt_of rfl) (L2.takes_of rfl rfl rfl rfl) (tb := fun W => tRet (tMakeS (He.ga K "Signature") (spInit K) (WE W) (tCons (tVar 1) tNil)))
        (fun W pn xe tk hp => pss_one (ps_ret (pmS (E := WE W) (kls T rfl rfl rfl rfl rfl) T.g_Signature (hr.mono (by decide : 5 ≤ 5)) (fun σ => passNW tk σ) (pa_cons (pv 1) pa_nil))))
        (ts := fun a cls d => fun _ σ H => tMkO (He.ga K "BadText") (spErr (He.ga K "BadText") "line") [] (tCons (tC (.int 0)) tNil) σ H fun cls d H' => E cls d H')
        (fun a oe cls d pn hz hf tk hot => pss_one (L2H.ps_raiseHN hot tk (by
          obtain ⟨fd2, FH, bH⟩ := i_BadTextH (P := P) (w := w) (b0 := b0) T
          exact L2H.pmk5_oexH T.er_BadText.oex T.er_BadText.init T.er_BadText.fn FH ⟨by have := hr.dp; exact Nat.lt_of_le_of_lt (by show A.depth + 1 + 3 * 2 + 5 ≤ A.depth + 1 + 3 * 5 + 5; omega) this, by have := hr.un; exact Nat.lt_of_le_of_lt (by show A.units + 3 + 16 * 2 + 200 ≤ A.units + 3 + 16 * 5 + 200; omega) this⟩ hot bH noX rfl T.g_BadText (pa_cons pe_int pa_nil))))))), ?_⟩
    refine at_ (σ' := [some (V.str text), none, none, none, none, none]) rfl ?_
    refine sq (asg ⟨Nat.zero_le _, fun l nl => ?_⟩)
    refine at_ (σ' := [some (V.str text), some (V.ref l), none, none, none, none]) rfl ?_
    have x0 : Gr [] F0 H F0 (upd H l (.lst [])) := (Gr.refl s0).own nl
    have wl := words_len text
    have only : ∀ b ∈ [l], H b = none := fun b hb => by rw [List.mem_singleton.mp hb]; exact nl
    have memL : l ∈ [l] := List.mem_singleton.mpr rfl
    refine sq (forD [l] (as := Txt.split text " ") (D := PyData.str) (vp_imp (vl_split (K := K) (x := text) (y := " ") (vp_var x0.fh rfl (.str _)) (fun F2 H2 g2 => vg_str g2.fh) rfl (Nat.le_trans (show text.length + 2 ≤ 902 by omega) (by decide))) fun v F2 H2 g p => p.qp)
      (fun i σ' F' H' => ∃ (acc : List Lt) (xs : List V), H' l = some (.lst xs) ∧ DpAll K F' xs (acc.map ltD) ∧ F' l = none ∧ acc.length = i ∧ (∀ p ∈ acc, p.1.length ≤ 900) ∧ readL text = readG acc ((Txt.split text " ").drop i) ∧ ∃ v2 v3 v4 v5, σ' = [some (V.str text), some (V.ref l), v2, v3, v4, v5])
      (fun F1 H1 g1 => ⟨[], [], g1.hh l _ (fun z => nomatch z) upd_same, .nil, g1.offF upd_same (s0.free nl), rfl, (fun p hp => nomatch hp), rfl, none, none, none, none, rfl⟩) ?_ ?_)
    · rintro i x u F1 H1 σ' F' H' g1 ex y ⟨acc, xs, el, dp, fl, al, ap, hr2, v2, v3, v4, v5, rfl⟩ dx
      cases dx
      have g := ((x0.trans g1).zero.trans y).less only
      have hmem : x ∈ Txt.split text " " := List.mem_of_getElem? ex
      have hlen : i < (Txt.split text " ").length := (List.getElem?_eq_some_iff.mp ex).1
      have xlen := word_len hmem
      refine gn (at_ (σ' := [some (V.str text), some (V.ref l), some (V.str x), v3, v4, v5]) rfl ?_)
      refine sq (asgG ((vt_part (K := K) (F := F') (x := x) (y := "/") (vp_var y.fh rfl (.str _)) (fun F2 H2 g2 => vg_str g2.fh) rfl (Nat.le_trans (show x.length ≤ 900 by omega) (by decide))) _ fun v F2 H2 g2 p => ?_))
      obtain ⟨a, rfl, e⟩ := p
      refine ⟨a, _, rfl, Evl.st_of (g2.fh _ _ e), rfl, _, _, rfl, _, _, rfl, _, _, rfl, rfl, ?_⟩
      refine at_ (σ' := [some (V.str text), some (V.ref l), some (V.str x), some (V.str (Txt.partition x "/").1), some (V.str (Txt.partition x "/").2.1), some (V.str (Txt.partition x "/").2.2)]) rfl ?_
      refine sq (if_1 (b := !(arityOf (Txt.partition x "/").2.2).isSome) (an_test fun Q q => ⟨_, rfl, _, (["0", "1", "2"] : List Str).map V.str, rfl, .inr (T.t_ARITIES.1 _), rfl, flat_strs _, ?_⟩) (fun e2 => ?_) (fun e2 => ?_))
      · rw [inV_str, ← arityOf_in]; exact q
      · have hn : readL text = none := by
          have e3 : arityOf (Txt.partition x "/").2.2 = none := by simpa using notT e2
          have e4 : readW x = none := by unfold readW; rw [e3]; rfl
          rw [hr2, drop_cons ex, readG, e4]
        exact err_out fun d nd => kBad (.inl hn) d F2 _ ((g.trans g2).own nd) upd_same
      · obtain ⟨n, hn⟩ := Option.isSome_iff_exists.mp (notF e2)
        have hw : readW x = some ((Txt.partition x "/").1, n) := by unfold readW; rw [hn]; rfl
        have hi := arityOf_int hn
        have el2 := g2.hh l _ (fun z => nomatch z) el
        refine ⟨_, rfl, .inl ⟨rfl, _, Evl.sq_of el2⟩, ?_⟩
        refine (vg_tup (K := K) (ds := [.str (Txt.partition x "/").1, .int n]) (lg_cons (vp_var g2.fh rfl (.str _)) fun F3 H3 g3 => lg_one g3.fh (fun Q q => ⟨_, rfl, _, n, rfl, hi.1, hi.2, q _ F3 H3 (Gr.refl g3.fh) (.int n)⟩)) (show 2 ≤ sizeLine by decide)) _ fun v F4 H4 g4 dv => ?_
        have el4 := g4.hh l _ (fun z => nomatch z) el2
        have fl4 := (g2.trans g4).offF el fl
        have y4 := ((y.trans g2.zero).trans g4.zero).put (o := .lst (xs ++ [v])) fl4 (.inl memL)
        have xl : xs.length = acc.length := lts_len dp
        refine ⟨l, xs, v, rfl, rfl, el4, Nat.lt_of_lt_of_le (show xs.length < 903 by omega) (by decide), F4, y4, acc ++ [((Txt.partition x "/").1, n)], xs ++ [v], upd_same, ?_, fl4, by rw [List.length_append]; exact congrArg (· + 1) al, ?_, ?_, _, _, _, _, rfl⟩
        · rw [List.map_append]; exact (DpAll.mono (g2.trans g4).ff dp).snoc dv
        · intro p hp
          rcases List.mem_append.mp hp with hp | hp
          · exact ap p hp
          · rw [List.mem_singleton.mp hp]
            have := readW_len hw
            exact Nat.le_trans this (by omega)
        · rw [hr2, drop_cons ex, readG, hw]
    · rintro F1 H1 σ' F' H' g1 y ⟨acc, xs, el, dp, fl, al, ap, hr2, v2, v3, v4, v5, rfl⟩
      have g := ((x0.trans g1).zero.trans y).less only
      have hl : readL text = some acc := by rw [hr2, List.drop_length]; rfl
      have ok : OkLs acc := ⟨by omega, fun p hp => Nat.le_trans (ap p hp) (by decide)⟩
      refine B.ret ⟨_, rfl, ?_⟩
      refine sig_made (ls := acc) y.fh (.inl (Evl.sq_of el)) dp ok (fun hv v F3 H3 g3 s => kOk acc hl hv v F3 H3 (g.trans g3) s) ?_ ?_
      · intro n hv d F3 H3 g3 e
        refine ⟨T.exa_BadLetter_BadLetter_NoConstant, fun a na => err_out fun d2 nd2 => ?_⟩
        exact kBad (.inr ⟨acc, hl, by rw [hv]; exact fun z => nomatch z⟩) d2 F3 _ ((g.trans g3).own nd2) upd_same
      · intro hv F3 H3 g3
        refine ⟨T.exa_NoConstant_BadLetter_NoConstant, fun a na => err_out fun d2 nd2 => ?_⟩
        exact kBad (.inr ⟨acc, hl, by rw [hv]; exact fun z => nomatch z⟩) d2 F3 _ ((g.trans g3).own nd2) upd_same
end
end K93

set_option Elab.async false
set_option linter.all false
set_option maxRecDepth 100000
set_option maxHeartbeats 4000000
namespace B
open PySem PySem.Spec PyProof.Rows L2
/-- e.f, a property whose getter keeps its promise -/
theorem pcProp {X : Cx} {C p g : Addr} {f : Str} {k j : Nat} {sp : Sp} {e : Expr} {ta : TE} {pos : Pos} (he : PE X e ta) (c : Cls X.K C) (hp : PropOf X.K C f p g) (D : Has X.prog X.w X.K X.mg X.base CX0 k g ["self"] sp) (hr : Room j X.A) (hj : k + 1 ≤ j := by decide) (hab : attributeBase e f X.env (eval e X.env) = eval e X.env := by rfl) :
    PE X (.Attribute e f pos) (tProp C sp [] E0 ta) := by
  obtain ⟨⟨fd, F, b⟩, kp⟩ := D
  exact pe_prop he c hp F (hr.mono hj) b .nil noX hab
end B
namespace K93
open PySem PySem.Spec PyProof.Rows L2 B TL
def spFace (K : PySem.W.Frag) : Sp := fun vs H Q _ => ∃ F v h ls xs, vs = [v, .ref h] ∧ Same F H ∧ SigAt K F v ls ∧ H h = some (.lst xs) ∧ F h = none ∧ xs.length ≤ 2000 ∧ ∀ u F' H', Gr [h] F H F' H' → Dp K F' u (toldD ls) → Q u H'
def ltText (p : Lt) : Str := ((Str.empty ++ p.1) ++ ("/" : Str)) ++ (toString p.2 : String)
section
variable {P : Program} {w : World} {K : PySem.W.Frag} {mg : Str → Option Value} {b0 : Heap}
theorem ok_face (T : Txt K mg) : Has P w K mg b0 CX0 3 (He.ga K "_law_face") ["sig", "handed"] (spFace K) := by
  refine T.h__law_face fun fd F => F.ok sc__law_face (fun vs H Q E h => ?_) (fun cdv A outer s H vs Q E hr h => ?_)
  · obtain ⟨_, _, _, _, _, rfl, _⟩ := h; rfl
  · obtain ⟨F0, _, h, ls, xs, rfl, s0, sg, hh, fh, xl, k⟩ := h
    have S := sc__law_face
    refine ⟨_, pss_cons (ps_if (pt_not (pt_val (pe_callB call_isi rfl T.n_isinstance (by decide +kernel) (pa_cons (pv 0) (pa_cons (gR T.g_Signature) pa_nil))))) (pss_one (ps_ret (pe_tup (pa_cons pe_str (pa_cons pe_int pa_nil))))) pss_nil)
      (pss_cons (ps_expr (pe_bm PySem.F.plainAttrs_list PySem.F.slot_list_insert PySem.F.type_list_insert mt_insert (pv 1) (pa_cons pe_int (pa_cons (pe_tup (pa_cons pe_str (pa_cons pe_int pa_nil))) pa_nil))))
      (pss_one (ps_ret (pe_tup (pa_cons pe_str (pa_cons (pe_tup (pa_cons (pe_fld (pv 0) rfl) (pa_cons (pe_fld (pv 0) rfl) (pa_cons (pcProp (pv 0) T.cl_Signature T.pr_Signature_is_words (ok_isWords T) hr) pa_nil)))) pa_nil)))))), ?_⟩
    have sg' := sg
    obtain ⟨a, dx, fs, rfl, hx, ⟨t, n, ar, p, ys, rfl, h1, h2, h3, h4, h5⟩, hv, ok⟩ := sg'
    refine at_ (σ' := [some (V.ref a), some (V.ref h)]) rfl ?_
    refine sq (if_no1 (an_not (b := true) fun Q q => ⟨_, rfl, _, _, _, _, true, rfl, .own _, .base (.ins (s0 _ _ hx) T.cl_Signature T.ins_Signature.ha T.ins_Signature.hn T.ins_Signature.htk T.ins_Signature.hm), T.kit_Signature_Signature, true, rfl, q⟩) ?_)
    refine sq ⟨_, rfl, .inl ⟨rfl, _, Evl.sq_of hh⟩, ?_⟩
    refine (lg_cons (K := K) (F := F0) (d := .int 0) (ds := [.tuple [.str "zz", .int 0]]) (vg_int s0) fun F2 H2 g2 => lg_one g2.fh (vg_tup (lg_cons (vg_str g2.fh) fun F3 H3 g3 => lg_one g3.fh (vg_int g3.fh)) (show 2 ≤ sizeLine by decide))) _ fun vs F2 H2 g2 dvs => ?_
    obtain ⟨v, rfl⟩ : ∃ v, vs = [.int 0, v] := by
      cases dvs with
      | cons d1 d2 => cases d1; cases d2 with
        | cons d3 d4 => cases d4; exact ⟨_, rfl⟩
    have hh2 := g2.hh h _ (fun z => nomatch z) hh
    have fh2 := g2.offF hh fh
    refine ⟨h, xs, 0, v, rfl, rfl, hh2, Nat.lt_of_le_of_lt xl (by decide), by decide, by decide, ?_⟩
    have g3 : Gr [h] F0 H F2 (upd H2 h (.lst (xs.take (0 : Int).toNat ++ [v] ++ xs.drop (0 : Int).toNat))) := (g2.zero (M := [h])).put fh2 (.inl (List.mem_singleton.mpr rfl))
    have two : 2 ≤ sizeLine := by decide
    have three : 3 ≤ sizeLine := by decide
    have s3 : Same F0 F2 := g2.ff
    have fld : ∀ {F5 H5 : Hp} {f : Str} {u : V} {d : PyData}, Same F2 F5 → Same F5 H5 → NoAttr K (He.ga K "Signature") f → ([("letters", V.ref t), ("names", V.ref n), ("arities", V.ref ar), ("places", V.ref p)] : List (Str × V)).lookup f = some u → Dp K F0 u d → Vg K (tFld K (tVar 0) f) [some (V.ref a), some (V.ref h)] F5 H5 d :=
      fun z1 z2 na l du => vp_fld (a := a) (dx := dx) z2 rfl (z1 _ _ (s3 _ _ hx)) T.cl_Signature na l (Dp.mono (s3.trans z1) du)
    refine retP (vg_tup (K := K) (F := F2) (lg_cons (vg_str (n := "told") g3.fh) fun F5 H5 g5 => lg_one g5.fh (vg_tup (ds := [ltT ls, .tuple ((nms ls).map .str), .bool (isWords ls)]) (lg_cons (fld g5.ff g5.fh T.no_Signature_letters rfl (Dp.newT h1 h2)) fun F6 H6 g6 => lg_cons (fld (g5.trans g6).ff g6.fh T.no_Signature_names rfl (Dp.newT h3 (DpAll.strs _))) fun F7 H7 g7 => lg_one g7.fh ?_) three)) two) fun u F5 H5 g5 du => k u F5 H5 (g3.trans g5.zero) du
    intro Q q
    have big : Same F0 F7 := s3.trans ((g5.trans g6).trans g7).ff
    refine ⟨_, rfl, a, dx, _, rfl, g7.fh _ _ (big _ _ hx), F7, _, ls, rfl, g7.fh, sg.mono big, fun F8 H8 g8 => q _ F8 H8 g8 (.bl _)⟩
theorem tLog {n : Int} (h : n.natAbs < 10 ^ 30) : n.natAbs.log2 < 1920 := log2_small h
/-- the text of a signature -/
def sigText (ls : List Lt) : Str := Txt.join " " (ls.map ltText)
theorem ltText_len {p : Lt} (h : Asc p.1 ∧ p.1.length ≤ 8 ∧ p.2.natAbs < 10 ^ 30) : (ltText p).length ≤ 40 := by
  have e := int_text_length_le10 (k := 30) (by decide) h.2.2
  unfold ltText
  rw [Str.length_append, Str.length_append, Str.length_append]
  have e2 : ((toString p.2 : String) : Str).length = (toString p.2).length := PySem.ofString_length _
  have e3 : Str.empty.length = 0 := rfl
  have e4 : ("/" : Str).length = 1 := by decide +kernel
  rw [e2, e3, e4]
  omega
theorem sum_le {α : Type} (f : α → Nat) (b : Nat) : ∀ l : List α, (∀ x ∈ l, f x ≤ b) → (l.map f).sum ≤ l.length * b
  | [], _ => Nat.zero_le _
  | x :: r, h => by
    have := sum_le f b r fun y hy => h y (List.mem_cons_of_mem _ hy)
    have h1 := h x List.mem_cons_self
    rw [List.map_cons, List.sum_cons, List.length_cons, Nat.succ_mul]; omega
theorem join_ok {ls : List Lt} (hv : FineL 8 ls) (hl : ls.length ≤ 1000) : ((ls.map ltText).map (·.length)).sum + (ls.map ltText).length * (" " : Str).length ≤ 16777216 := by
  have e4 : (" " : Str).length = 1 := by decide +kernel
  have := sum_le (fun p => (ltText p).length) 40 ls fun p hp => ltText_len (hv p hp)
  rw [e4, List.length_map, List.map_map]
  show (ls.map fun p => (ltText p).length).sum + _ ≤ _
  omega
def spText (K : PySem.W.Frag) : Sp := fun vs H Q _ => ∃ F v ls, vs = [v] ∧ Same F H ∧ SigAt K F v ls ∧ ∀ F' H', Gr [] F H F' H' → Q (.str (sigText ls)) H'
theorem ok_text (T : Txt K mg) : Has P w K mg b0 CX0 1 (He.ga K "signature_text") ["signature"] (spText K) := by
  refine T.h_signature_text fun fd F => F.ok sc_signature_text (fun vs H Q E h => ?_) (fun cdv A outer s H vs Q E hr h => ?_)
  · obtain ⟨_, _, _, rfl, _⟩ := h; rfl
  · obtain ⟨F0, _, ls, rfl, s0, ⟨a, dx, fs, rfl, hx, ⟨t, n, ar, p, ys, rfl, h1, h2, h3, h4, h5⟩, hv, ok⟩, k⟩ := h
    have S := sc_signature_text
    refine ⟨_, pss_one (ps_ret (pe_join pe_str (pe_lc (own := [("name", 1), ("arity", 2)]) (g := gTup K 2 (gCons (gName 1) (gCons (gName 2) gNil))) rfl S.nd (pi_sq (pe_fld (pv 0) rfl)) (blkOk_by (N := n_signature_text) (sc := defScope s_signature_text) (by decide +kernel))
      (fun _ _ _ _ _ => pg_tup rfl (pgs_cons (pg_name (i := 1) S.nd rfl (Or.inl rfl)) (pgs_cons (pg_name (i := 2) S.nd rfl (Or.inl rfl)) pgs_nil))) (fun _ _ _ _ _ => pts_nil) (fun _ _ _ _ _ => pe_joined (.cons (pe_fmt (pv 1)) (.cons pe_str (.cons (pe_fmt (pv 2)) .nil))))))), ?_⟩
    refine at_ (σ' := [some (V.ref a), none, none]) rfl ?_
    have lsz : ls.length ≤ sizeLine := Nat.le_trans ok.1 (by decide)
    have fine := verdict_fine hv
    refine retP (vg_join (K := K) (F := F0) (x := " ") (ys := ls.map ltText) (vg_str s0) (fun F2 H2 g2 => ?_) (join_ok fine ok.1)) fun v F2 H2 g2 dv => by cases dv; exact k F2 H2 g2
    have src : Vp (tFld K (tVar 0) "letters") [some (V.ref a), none, none] F2 H2 fun v F3 => Qp K F3 v (ls.map ltD) := vp_fld (a := a) (dx := dx) g2.fh rfl (g2.ff _ _ hx) T.cl_Signature T.no_Signature_letters rfl (qp_t (Dp.mono g2.ff (Dp.newT h1 h2)))
    have z := vl_lcM (K := K) (as := ls) (D := ltD) (g := gTup K 2 (gCons (gName 1) (gCons (gName 2) gNil))) (te := fun σ H Q => tJs [tFmt (tVar 1), tC (.str "/"), tFmt (tVar 2)] Str.empty σ H fun out H1 => Q (.str out) H1) (vs := [1, 2]) (fun p => .str (ltText p)) src lsz ?_
    · rw [show (ls.map ltText).map PyData.str = ls.map fun p => .str (ltText p) by rw [List.map_map]; rfl]
      exact z
    · intro i q x F4 H4 Y e1 g4 dq kY
      obtain ⟨u, rfl, st⟩ := lt_of dq
      have f := fine q (List.mem_of_getElem? e1)
      have e0 : Str.empty.length = 0 := rfl
      have e4 : ("/" : Str).length = 1 := by decide +kernel
      have e2 : ((toString q.2 : String) : Str).length = (toString q.2).length := PySem.ofString_length _
      have e3 := int_text_length_le10 (k := 30) (by decide) f.2.2
      have big : 100 ≤ sizeLine := by decide
      have f2 := f.2.1
      refine ⟨u, _, rfl, Same.sqt g4.fh st, rfl, _, _, rfl, _, _, rfl, rfl, rfl, ?_⟩
      refine ⟨_, rfl, .inl ⟨q.1, rfl, by omega, q.1, rfl, by rw [Str.length_append, e0]; omega, ?_⟩⟩
      refine ⟨"/", rfl, by rw [Str.length_append, Str.length_append, e0, e4]; omega, ?_⟩
      refine ⟨_, rfl, .inr ⟨q.2, rfl, log2_small f.2.2, _, rfl, by rw [Str.length_append, Str.length_append, Str.length_append, e0, e4, e2]; omega, ?_⟩⟩
      exact kY _ F4 H4 (Gr.refl g4.fh) (.str _)
end
end K93

set_option Elab.async false
set_option linter.all false
set_option maxRecDepth 100000
set_option maxHeartbeats 4000000
namespace K93
open PySem PySem.Spec PyProof.Rows L2 B TL
def arD (ls : List Lt) (x : Str) : PyData := match arOf ls x with
  | some n => .tuple [.str "told", .int n]
  | none => refD (Er.nl x).D
def plD (ls : List Lt) (x : Str) : PyData := match plOf x 0 ls with
  | some n => .tuple [.str "told", .int (n : Nat)]
  | none => refD (Er.nl x).D
inductive Asked (K : PySem.W.Frag) (F : Hp) : Int → V → V → PyData → Prop where
  | mk0 {sg th : V} {ls : List Lt} : Qp K F th (ls.map ltD) → OkLs ls → Asked K F 0 sg th (facingD ls)
  | mk1 {sg th : V} {ls : List Lt} : Qp K F th (ls.map ltD) → OkLs ls → Asked K F 1 sg th (facingD ls)
  | wd2 {sg th : V} {ns : List Str} : Qp K F th (ns.map .str) → OkNs ns → Asked K F 2 sg th (wordedD ns)
  | wd3 {sg th : V} {ns : List Str} : Qp K F th (ns.map .str) → OkNs ns → Asked K F 3 sg th (wordedD ns)
  | ar {sg : V} {ls : List Lt} {x : Str} : SigAt K F sg ls → Asked K F 4 sg (.str x) (arD ls x)
  | pl {sg : V} {ls : List Lt} {x : Str} : SigAt K F sg ls → Asked K F 5 sg (.str x) (plD ls x)
  | rd {sg : V} {x : Str} : x.length ≤ 900 → Asked K F 6 sg (.str x) (readD x)
def spAsked (K : PySem.W.Frag) : Sp := fun vs H Q _ => ∃ F n sg th d, vs = [.int n, sg, th] ∧ Same F H ∧ Asked K F n sg th d ∧ ∀ u F' H', Gr [] F H F' H' → Dp K F' u d → Q u H'
section
variable {P : Program} {w : World} {K : PySem.W.Frag} {mg : Str → Option Value} {b0 : Heap}
theorem Er.exm (T : Txt K mg) : ∀ er : Er, PySem.W.exmOne K (.ref (er.cls K)) (.ref (He.ga K "AskError")) = some true
  | .bl _ => T.exm_BadLetter_AskError
  | .nc => T.exm_NoConstant_AskError
  | .nl _ => T.exm_NoLetter_AskError
  | .bt _ => T.exm_BadText_AskError
/-- the suite of _law_asked -/
def askT (K : PySem.W.Frag) (a : Addr) (cls : Value) (d : Option Addr) : TS := tRet (tTup (tCons (tC (.str "refused")) (tCons (tCallX a cls d (spNamed K) (tCons (tVar 4) tNil)) tNil)))
theorem asked_err (T : Txt K mg) {N Bk Ct : L2.St → Hp → Prop} {Rt : VK} {σ : L2.St} {F1 H1 : Hp} {d : Option Addr} (er : Er) (he : er.has H1 d) (s : Same F1 H1) (hσ : σ.length = 5) (k : ∀ u F' H', Gr [] F1 H1 F' H' → Dp K F' u (refD er.D) → Rt u H') :
    wAs K (.ref (He.ga K "AskError")) 4 (askT K) (fun _ _ _ _ => False) ⟨N, Rt, Bk, Ct⟩ (.ref (er.cls K)) d σ H1 := by
  refine ⟨true, Er.exm T er, fun _ a na => ?_, fun z => nomatch z⟩
  refine (vg_tup (K := K) (F := F1) (ds := [.str "refused", er.D]) (lg_cons (vg_str s) fun F2 H2 g2 => lg_one g2.fh fun Q q => ?_) (show 2 ≤ sizeLine by decide)) _ k
  exact ⟨_, by rw [List.getElem?_set_self (by omega)], rfl, F2, er, g2.fh, rfl, er.step g2 he, fun u F3 H3 g3 du => q u F3 H3 g3 du⟩
theorem bt_has {H : Hp} {d : Addr} {n : Nat} (e : H d = some (.xd [("line", .int (n : Nat))])) : (Er.bt n).has H (some d) := ⟨d, rfl, e⟩
theorem worded_ok {ns : List Str} (h : verdictW ns = none) : wordedD ns = toldD (wlt ns) := by
  unfold verdictW at h
  unfold wordedD
  cases e : badW [] 0 ns with
  | some n => rw [e] at h; cases h
  | none =>
    rw [e] at h
    have h : verdict (wlt ns) = none := h
    show facingD (wlt ns) = _
    unfold facingD; rw [h]
theorem worded_bad {ns : List Str} {m : Nat} (h : verdictW ns = some (some m)) : wordedD ns = refD (errD "BadLetter" m) := by
  unfold verdictW at h
  unfold wordedD
  cases e : badW [] 0 ns with
  | some n => rw [e] at h; cases h; rfl
  | none =>
    rw [e] at h
    have h : verdict (wlt ns) = some (some m) := h
    show facingD (wlt ns) = _
    unfold facingD faultD; rw [h]
theorem worded_no {ns : List Str} (h : verdictW ns = some none) : wordedD ns = refD (errD "NoConstant" 0) := by
  unfold verdictW at h
  unfold wordedD
  cases e : badW [] 0 ns with
  | some n => rw [e] at h; cases h
  | none =>
    rw [e] at h
    have h : verdict (wlt ns) = some none := h
    show facingD (wlt ns) = _
    unfold facingD faultD; rw [h]
section
variable {σ : L2.St} {F H : Hp} {Q : VK} {EE : L2.St → XK} {te : TE} {j : Nat} {l : Addr} {xs : List V} {ls : List Lt}
theorem cl2 {sp : Sp} {E : XK} {u : V} (hj : σ[j]? = some (some u)) (h : te σ H fun v H1 => ∃ w, σ[j]? = some (some w) ∧ sp [v, w] H1 Q E) : tCall sp [] E (tCons te (tCons (tVar j) tNil)) σ H Q := h
theorem sig_callV (hj : σ[j]? = some (some (.ref l))) (s : Same F H) (hq : Sq K H l xs) (hd : DpAll K F xs (ls.map ltD)) (ok : OkLs ls) (kOk : verdict ls = none → ∀ v F' H', Gr [] F H F' H' → SigAt K F' v ls → Q v H')
    (kBad : ∀ n, verdict ls = some (some n) → ∀ d F' H', Gr [] F H F' H' → H' d = some (.xd [("at", .int (n : Nat))]) → EE σ (.ref (He.ga K "BadLetter")) (some d) H') (kNo : verdict ls = some none → ∀ F' H', Gr [] F H F' H' → EE σ (.ref (He.ga K "NoConstant")) none H') :
    tMakeS (He.ga K "Signature") (spInit K) EE (tCons (tVar j) tNil) σ H Q := ⟨_, hj, sig_made s hq hd ok kOk kBad kNo⟩
theorem sig_callP (h : Vp te σ F H fun v F2 => Qp K F2 v (ls.map ltD)) (ok : OkLs ls) (kOk : verdict ls = none → ∀ v F' H', Gr [] F H F' H' → SigAt K F' v ls → Q v H')
    (kBad : ∀ n, verdict ls = some (some n) → ∀ d F' H', Gr [] F H F' H' → H' d = some (.xd [("at", .int (n : Nat))]) → EE σ (.ref (He.ga K "BadLetter")) (some d) H') (kNo : verdict ls = some none → ∀ F' H', Gr [] F H F' H' → EE σ (.ref (He.ga K "NoConstant")) none H') :
    tMakeS (He.ga K "Signature") (spInit K) EE (tCons te tNil) σ H Q := h _ fun v F2 H2 g p => by
  obtain ⟨a, xs, rfl, hq, hd⟩ := p
  exact sig_made g.fh (Sq.mono g.fh hq) hd ok (fun hv v F3 H3 g3 s => kOk hv v F3 H3 (g.trans g3) s) (fun n hv d F3 H3 g3 e => kBad n hv d F3 H3 (g.trans g3) e) (fun hv F3 H3 g3 => kNo hv F3 H3 (g.trans g3))
end
theorem ok_asked (T : Txt K mg) : Has P w K mg b0 CX0 8 (He.ga K "_law_asked") ["deed", "sig", "thing"] (spAsked K) := by
  refine T.h__law_asked fun fd F => F.ok sc__law_asked (fun vs H Q E h => ?_) (fun cdv A outer s H vs Q E hr h => ?_)
  · obtain ⟨_, _, _, _, _, rfl, _⟩ := h; rfl
  · obtain ⟨F0, n, sg, th, d0, rfl, s0, ak, k⟩ := h
    have S := sc__law_asked
    refine ⟨_, pss_cons (ps_set (i := 3) S.nd rfl (Or.inl rfl) (pe_lst pa_nil)) (pss_one (L2.ps_try_as (i := 4) (n := "e") rfl rfl S.nd rfl rfl ⟨rfl, by decide, .inl T.g_AskError⟩ takes_none5
      (tb := fun W => tSeq (tIfS (tTest (tOp rEq (tVar 0) (tC (.int 0)))) (tSeq (tAsg (tCB (fun xs H Q => ∃ p ys, xs = [.ref p] ∧ (SqL K H p ys ∨ SqT K H p ys) ∧ ∀ l, H l = none → Q (.ref l) (upd H l (.lst ys))) (tCons (tVar 2) tNil)) (gName 3)) (tRet (tCall (spFace K) [] E0 (tCons (tMakeS (He.ga K "Signature") (spInit K) (WE W) (tCons (tVar 3) tNil)) (tCons (tVar 3) tNil))))) tNext)
        (tSeq (tIfS (tTest (tOp rEq (tVar 0) (tC (.int 1)))) (tRet (tCall (spFace K) [] E0 (tCons (tMakeS (He.ga K "Signature") (spInit K) (WE W) (tCons (tCB (fun xs H Q => ∃ p ys, xs = [.ref p] ∧ ((SqL K H p ys ∧ ∀ l, H l = none → Q (.ref l) (upd H l (.tup ys))) ∨ (SqT K H p ys ∧ Q (.ref p) H))) (tCons (tVar 2) tNil)) tNil)) (tCons (tVar 3) tNil)))) tNext)
        (tSeq (tIfS (tTest (tOp rEq (tVar 0) (tC (.int 2)))) (tSeq (tAsg (tCB (fun xs H Q => ∃ p ys, xs = [.ref p] ∧ (SqL K H p ys ∨ SqT K H p ys) ∧ ∀ l, H l = none → Q (.ref l) (upd H l (.lst ys))) (tCons (tVar 2) tNil)) (gName 3)) (tRet (tCall (spFace K) [] E0 (tCons (tCMethT (He.ga K "Signature") (spWords K) (WE W) (tC (.ref (He.ga K "Signature"))) (tCons (tVar 3) tNil)) (tCons (tVar 3) tNil))))) tNext)
        (tSeq (tIfS (tTest (tOp rEq (tVar 0) (tC (.int 3)))) (tRet (tCall (spFace K) [] E0 (tCons (tCMethT (He.ga K "Signature") (spWords K) (WE W) (tC (.ref (He.ga K "Signature"))) (tCons (tCB (fun xs H Q => ∃ p ys, xs = [.ref p] ∧ ((SqL K H p ys ∧ ∀ l, H l = none → Q (.ref l) (upd H l (.tup ys))) ∨ (SqT K H p ys ∧ Q (.ref p) H))) (tCons (tVar 2) tNil)) tNil)) (tCons (tVar 3) tNil)))) tNext)
        (tSeq (tIfS (tTest (tOp rEq (tVar 0) (tC (.int 4)))) (tRet (tTup (tCons (tC (.str "told")) (tCons (tMethT (He.ga K "Signature") "arity" (spArity K) (WE W) (tVar 1) (tCons (tVar 2) tNil)) tNil)))) tNext)
        (tSeq (tIfS (tTest (tOp rEq (tVar 0) (tC (.int 5)))) (tRet (tTup (tCons (tC (.str "told")) (tCons (tMethT (He.ga K "Signature") "position" (spPos K) (WE W) (tVar 1) (tCons (tVar 2) tNil)) tNil)))) tNext)
        (tRet (tCall (spFace K) [] E0 (tCons (tCallS (spRead K) (WE W) (tCons (tVar 2) tNil)) (tCons (tVar 3) tNil))))))))))
      (fun W pn xe tk hp => pss_cons (ps_if (pt_cmpR op_eq (pv 0) pe_int rfl) (pss_cons (ps_set (i := 3) S.nd rfl (Or.inl rfl) (pe_callTy call_list_of rfl T.n_list (by decide +kernel) (pa_cons (pv 2) pa_nil))) (pss_one (ps_ret (pc (E := E0) (ok_face T) T.g__law_face hr noX (pa_cons (pmS (E := WE W) (kls T rfl rfl rfl rfl rfl) T.g_Signature hr (fun σ => passN tk σ fun _ _ _ z => z) (pa_cons (pv 3) pa_nil)) (pa_cons (pv 3) pa_nil)))))) pss_nil)
        (pss_cons (ps_if (pt_cmpR op_eq (pv 0) pe_int rfl) (pss_one (ps_ret (pc (E := E0) (ok_face T) T.g__law_face hr noX (pa_cons (pmS (E := WE W) (kls T rfl rfl rfl rfl rfl) T.g_Signature hr (fun σ => passN tk σ fun _ _ _ z => z) (pa_cons (pe_callTy call_tuple_of rfl T.n_tuple (by decide +kernel) (pa_cons (pv 2) pa_nil)) pa_nil)) (pa_cons (pv 3) pa_nil))))) pss_nil)
        (pss_cons (ps_if (pt_cmpR op_eq (pv 0) pe_int rfl) (pss_cons (ps_set (i := 3) S.nd rfl (Or.inl rfl) (pe_callTy call_list_of rfl T.n_list (by decide +kernel) (pa_cons (pv 2) pa_nil))) (pss_one (ps_ret (pc (E := E0) (ok_face T) T.g__law_face hr noX (pa_cons (pcmS (E := WE W) (gR T.g_Signature) T.cm_Signature_of_words (ok_of_words T) hr (fun σ => passN tk σ fun _ _ _ z => z) (pa_cons (pv 3) pa_nil)) (pa_cons (pv 3) pa_nil)))))) pss_nil)
        (pss_cons (ps_if (pt_cmpR op_eq (pv 0) pe_int rfl) (pss_one (ps_ret (pc (E := E0) (ok_face T) T.g__law_face hr noX (pa_cons (pcmS (E := WE W) (gR T.g_Signature) T.cm_Signature_of_words (ok_of_words T) hr (fun σ => passN tk σ fun _ _ _ z => z) (pa_cons (pe_callTy call_tuple_of rfl T.n_tuple (by decide +kernel) (pa_cons (pv 2) pa_nil)) pa_nil)) (pa_cons (pv 3) pa_nil))))) pss_nil)
        (pss_cons (ps_if (pt_cmpR op_eq (pv 0) pe_int rfl) (pss_one (ps_ret (pe_tup (pa_cons pe_str (pa_cons (pmtS (E := WE W) (pv 1) T.cl_Signature T.m_Signature_arity (ok_arity T) hr (fun σ => passN tk σ fun _ _ _ z => z) (pa_cons (pv 2) pa_nil)) pa_nil))))) pss_nil)
        (pss_cons (ps_if (pt_cmpR op_eq (pv 0) pe_int rfl) (pss_one (ps_ret (pe_tup (pa_cons pe_str (pa_cons (pmtS (E := WE W) (pv 1) T.cl_Signature T.m_Signature_position (ok_position T) hr (fun σ => passN tk σ fun _ _ _ z => z) (pa_cons (pv 2) pa_nil)) pa_nil))))) pss_nil)
        (pss_one (ps_ret (pc (E := E0) (ok_face T) T.g__law_face hr noX (pa_cons (pcS (E := WE W) (ok_read T) T.g_read_signature hr (fun σ => passAt tk σ) (pa_cons (pv 2) pa_nil)) (pa_cons (pv 3) pa_nil)))))))))))
      (ts := askT K)
      (fun a oe cls d pn hz hf => pss_one (ps_ret (pe_tup (pa_cons pe_str (pa_cons (pcE (j := 1) (ok_named T) T.g__law_named ⟨by have := hr.dp; exact Nat.lt_of_le_of_lt (by show A.depth + 1 + 3 * 1 + 5 ≤ A.depth + 1 + 3 * 7 + 5; omega) this, by have := hr.un; exact Nat.lt_of_le_of_lt (by show A.units + 3 + 16 * 1 + 200 ≤ A.units + 3 + 16 * 7 + 200; omega) this⟩ List.mem_cons_self hz hf (pa_cons (pv 4) pa_nil)) pa_nil))))))), ?_⟩
    refine at_ (σ' := [some (V.int n), some sg, some th, none, none]) rfl ?_
    refine sq (asg ⟨Nat.zero_le _, fun h nh => ?_⟩)
    refine at_ (σ' := [some (V.int n), some sg, some th, some (V.ref h), none]) rfl ?_
    have x0 : Gr [] F0 H F0 (upd H h (.lst [])) := (Gr.refl s0).own nh
    have only : ∀ {b : Addr}, H b = none → ∀ c ∈ [b], H c = none := fun e c hc => by rw [List.mem_singleton.mp hc]; exact e
    -- what the list at l becomes is nobody's
    have face : ∀ {l : Addr} {xs : List V} {v : V} {ls : List Lt} {F3 H3 : Hp}, H l = none → Gr [] F0 H F3 H3 → SigAt K F3 v ls → H3 l = some (.lst xs) → F3 l = none → xs.length ≤ 2000 → (∀ u F' H', Gr [] F0 H F' H' → Dp K F' u (toldD ls) → Q u H') → spFace K [v, .ref l] H3 Q E0 := fun {l xs v ls F3 H3} nl g sv e f xl kk =>
      ⟨F3, v, l, ls, xs, rfl, g.fh, sv, e, f, xl, fun u F4 H4 g4 du => kk u F4 H4 ((g.zero.trans g4).less (only nl)) du⟩
    cases ak with
    | mk0 hq ok =>
      rename_i ls
      refine sq (if_yes (an_cong (an_test (vl_eqI (vl_var rfl) vl_c)) rfl) ?_)
      refine sq (asg (list_own (K := K) (F := F0) (vp_var x0.fh rfl hq) fun l xs F2 H2 g2 hl dp => ?_))
      refine at_ (σ' := [some (V.int 0), some sg, some th, some (V.ref l), none]) rfl ?_
      have nl : H l = none := (x0.trans g2).fresh hl
      have g3 := (x0.trans g2).own (o := .lst xs) hl
      have xl : xs.length ≤ 2000 := by rw [lts_len dp]; exact Nat.le_trans ok.1 (by decide)
      have fl : F2 l = none := g2.fh.free hl
      refine B.ret (cl2 rfl (sig_callV (F := F2) (ls := ls) rfl g3.fh (.inl (Evl.sq_of upd_same)) dp ok ?_ ?_ ?_))
      · intro hv v F3 H3 g4 sv
        refine ⟨_, rfl, face nl (g3.trans g4) sv (g4.hh l _ (fun z => nomatch z) upd_same) (g4.offF upd_same fl) xl fun u F' H' g du => k u F' H' g ?_⟩
        unfold facingD; rw [hv]; exact du
      · intro m hv d F3 H3 g4 e
        refine asked_err T (.bl m) ⟨d, rfl, e⟩ g4.fh rfl fun u F' H' g5 du => k u F' H' ((g3.trans g4).trans g5) ?_
        unfold facingD faultD; rw [hv]; exact du
      · intro hv F3 H3 g4
        refine asked_err T .nc rfl g4.fh rfl fun u F' H' g5 du => k u F' H' ((g3.trans g4).trans g5) ?_
        unfold facingD faultD; rw [hv]; exact du
    | mk1 hq ok =>
      rename_i ls
      refine sq (if_no1 (an_cong (an_test (vl_eqI (vl_var rfl) vl_c)) rfl) ?_)
      refine sq (if_yes (an_cong (an_test (vl_eqI (vl_var rfl) vl_c)) rfl) ?_)
      have eh : upd H h (.lst []) h = some (.lst []) := upd_same
      have fh := s0.free nh
      refine B.ret (cl2 rfl (sig_callP (F := F0) (ls := ls) (vp_imp (vg_tupleOf (vp_var x0.fh rfl hq)) fun _ _ _ _ p => qp_t p) ok ?_ ?_ ?_))
      · intro hv v F3 H3 g4 sv
        refine ⟨_, rfl, face nh (x0.trans g4) sv (g4.hh h _ (fun z => nomatch z) eh) (g4.offF eh fh) (Nat.zero_le _) fun u F' H' g du => k u F' H' g ?_⟩
        unfold facingD; rw [hv]; exact du
      · intro m hv d F3 H3 g4 e
        refine asked_err T (.bl m) ⟨d, rfl, e⟩ g4.fh rfl fun u F' H' g5 du => k u F' H' ((x0.trans g4).trans g5) ?_
        unfold facingD faultD; rw [hv]; exact du
      · intro hv F3 H3 g4
        refine asked_err T .nc rfl g4.fh rfl fun u F' H' g5 du => k u F' H' ((x0.trans g4).trans g5) ?_
        unfold facingD faultD; rw [hv]; exact du
    | wd2 hq ok =>
      rename_i ns
      refine sq (if_no1 (an_cong (an_test (vl_eqI (vl_var rfl) vl_c)) rfl) ?_)
      refine sq (if_no1 (an_cong (an_test (vl_eqI (vl_var rfl) vl_c)) rfl) ?_)
      refine sq (if_yes (an_cong (an_test (vl_eqI (vl_var rfl) vl_c)) rfl) ?_)
      refine sq (asg (list_own (K := K) (F := F0) (vp_var x0.fh rfl hq) fun l xs F2 H2 g2 hl dp => ?_))
      refine at_ (σ' := [some (V.int 2), some sg, some th, some (V.ref l), none]) rfl ?_
      have nl : H l = none := (x0.trans g2).fresh hl
      have g3 := (x0.trans g2).own (o := .lst xs) hl
      have ex : xs = ns.map V.str := dp.strs_of
      subst ex
      have xl : (ns.map V.str).length ≤ 2000 := by rw [List.length_map]; exact Nat.le_trans ok.1 (by decide)
      have fl : F2 l = none := g2.fh.free hl
      refine B.ret ⟨rfl, _, rfl, F2, l, ns, rfl, g3.fh, .inl (Evl.sq_of upd_same), ok, ?_, ?_, ?_⟩
      · intro hv v F3 H3 g4 sv
        refine ⟨_, rfl, face nl (g3.trans g4) sv (g4.hh l _ (fun z => nomatch z) upd_same) (g4.offF upd_same fl) xl fun u F' H' g du => k u F' H' g ?_⟩
        rw [worded_ok hv]; exact du
      · intro m hv d F3 H3 g4 e
        refine asked_err T (.bl m) ⟨d, rfl, e⟩ g4.fh rfl fun u F' H' g5 du => k u F' H' ((g3.trans g4).trans g5) ?_
        rw [worded_bad hv]; exact du
      · intro hv F3 H3 g4
        refine asked_err T .nc rfl g4.fh rfl fun u F' H' g5 du => k u F' H' ((g3.trans g4).trans g5) ?_
        rw [worded_no hv]; exact du
    | wd3 hq ok =>
      rename_i ns
      refine sq (if_no1 (an_cong (an_test (vl_eqI (vl_var rfl) vl_c)) rfl) ?_)
      refine sq (if_no1 (an_cong (an_test (vl_eqI (vl_var rfl) vl_c)) rfl) ?_)
      refine sq (if_no1 (an_cong (an_test (vl_eqI (vl_var rfl) vl_c)) rfl) ?_)
      refine sq (if_yes (an_cong (an_test (vl_eqI (vl_var rfl) vl_c)) rfl) ?_)
      refine B.ret ⟨rfl, (vg_tupleOf (K := K) (F := F0) (vp_var x0.fh rfl hq)) _ fun v2 F2 H2 g2 dv => ?_⟩
      obtain ⟨l, xs, rfl, hs, dp⟩ := dv.tup_of
      have ex : xs = ns.map V.str := dp.strs_of
      subst ex
      have g3 := x0.trans g2
      have eh := g2.hh h _ (fun z => nomatch z) (upd_same (H := H) (a := h) (o := .lst []))
      have fh := g2.offF (upd_same (H := H) (a := h) (o := .lst [])) (s0.free nh)
      refine ⟨F2, l, ns, rfl, g3.fh, .inr (Same.sqt g2.fh hs), ok, ?_, ?_, ?_⟩
      · intro hv v F3 H3 g4 sv
        refine ⟨_, rfl, face nh (g3.trans g4) sv (g4.hh h _ (fun z => nomatch z) eh) (g4.offF eh fh) (Nat.zero_le _) fun u F' H' g du => k u F' H' g ?_⟩
        rw [worded_ok hv]; exact du
      · intro m hv d F3 H3 g4 e
        refine asked_err T (.bl m) ⟨d, rfl, e⟩ g4.fh rfl fun u F' H' g5 du => k u F' H' ((g3.trans g4).trans g5) ?_
        rw [worded_bad hv]; exact du
      · intro hv F3 H3 g4
        refine asked_err T .nc rfl g4.fh rfl fun u F' H' g5 du => k u F' H' ((g3.trans g4).trans g5) ?_
        rw [worded_no hv]; exact du
    | ar sv =>
      rename_i ls x
      refine sq (if_no1 (an_cong (an_test (vl_eqI (vl_var rfl) vl_c)) rfl) ?_)
      refine sq (if_no1 (an_cong (an_test (vl_eqI (vl_var rfl) vl_c)) rfl) ?_)
      refine sq (if_no1 (an_cong (an_test (vl_eqI (vl_var rfl) vl_c)) rfl) ?_)
      refine sq (if_no1 (an_cong (an_test (vl_eqI (vl_var rfl) vl_c)) rfl) ?_)
      refine sq (if_yes (an_cong (an_test (vl_eqI (vl_var rfl) vl_c)) rfl) ?_)
      obtain ⟨a, dx, fs, rfl, hx, ⟨t, nn, ar, p, ys, rfl, h1, h2, h3, h4, h5⟩, hv, ok⟩ := id sv
      refine B.ret ⟨_, rfl, a, dx, _, rfl, x0.fh _ _ hx, rfl, _, rfl, F0, _, ls, x, rfl, x0.fh, sv, fun m hm => ?_, fun hm d F3 H3 g3 e => ?_⟩
      · refine ⟨show 2 ≤ sizeLine by decide, fun t2 ht => k _ _ _ (x0.new (o := .tup [.str "told", .int m]) ht) ?_⟩
        unfold arD; rw [hm]
        exact Dp.newT upd_same (.cons (.str _) (.cons (.int _) .nil))
      · refine asked_err T (.nl x) ⟨d, rfl, e⟩ g3.fh rfl fun u F' H' g5 du => k u F' H' ((x0.trans g3).trans g5) ?_
        unfold arD; rw [hm]; exact du
    | pl sv =>
      rename_i ls x
      refine sq (if_no1 (an_cong (an_test (vl_eqI (vl_var rfl) vl_c)) rfl) ?_)
      refine sq (if_no1 (an_cong (an_test (vl_eqI (vl_var rfl) vl_c)) rfl) ?_)
      refine sq (if_no1 (an_cong (an_test (vl_eqI (vl_var rfl) vl_c)) rfl) ?_)
      refine sq (if_no1 (an_cong (an_test (vl_eqI (vl_var rfl) vl_c)) rfl) ?_)
      refine sq (if_no1 (an_cong (an_test (vl_eqI (vl_var rfl) vl_c)) rfl) ?_)
      refine sq (if_yes (an_cong (an_test (vl_eqI (vl_var rfl) vl_c)) rfl) ?_)
      obtain ⟨a, dx, fs, rfl, hx, ⟨t, nn, ar, p, ys, rfl, h1, h2, h3, h4, h5⟩, hv, ok⟩ := id sv
      refine B.ret ⟨_, rfl, a, dx, _, rfl, x0.fh _ _ hx, rfl, _, rfl, F0, _, ls, x, rfl, x0.fh, sv, fun m hm => ?_, fun hm d F3 H3 g3 e => ?_⟩
      · refine ⟨show 2 ≤ sizeLine by decide, fun t2 ht => k _ _ _ (x0.new (o := .tup [.str "told", .int (m : Nat)]) ht) ?_⟩
        unfold plD; rw [hm]
        exact Dp.newT upd_same (.cons (.str _) (.cons (.int _) .nil))
      · refine asked_err T (.nl x) ⟨d, rfl, e⟩ g3.fh rfl fun u F' H' g5 du => k u F' H' ((x0.trans g3).trans g5) ?_
        unfold plD; rw [hm]; exact du
    | rd xl =>
      rename_i x
      refine sq (if_no1 (an_cong (an_test (vl_eqI (vl_var rfl) vl_c)) rfl) ?_)
      refine sq (if_no1 (an_cong (an_test (vl_eqI (vl_var rfl) vl_c)) rfl) ?_)
      refine sq (if_no1 (an_cong (an_test (vl_eqI (vl_var rfl) vl_c)) rfl) ?_)
      refine sq (if_no1 (an_cong (an_test (vl_eqI (vl_var rfl) vl_c)) rfl) ?_)
      refine sq (if_no1 (an_cong (an_test (vl_eqI (vl_var rfl) vl_c)) rfl) ?_)
      refine sq (if_no1 (an_cong (an_test (vl_eqI (vl_var rfl) vl_c)) rfl) ?_)
      refine B.ret ⟨_, rfl, F0, x, rfl, xl, x0.fh, ?_, ?_⟩
      · intro ls hl hv v F3 H3 g4 sv
        refine ⟨_, rfl, face nh (x0.trans g4) sv (g4.hh h _ (fun z => nomatch z) upd_same) (g4.offF upd_same (s0.free nh)) (Nat.zero_le _) fun u F' H' g du => k u F' H' g ?_⟩
        unfold readD; rw [hl]; show Dp K F' u (match verdict ls with | none => toldD ls | some _ => refD (errD "BadText" 0)); rw [hv]; exact du
      · intro hb d F3 H3 g4 e
        refine asked_err T (.bt 0) ⟨d, rfl, e⟩ g4.fh rfl fun u F' H' g5 du => k u F' H' ((x0.trans g4).trans g5) ?_
        have er : readD x = refD (errD "BadText" 0) := by
          unfold readD
          rcases hb with hb | ⟨ls, hl, hv⟩
          · rw [hb]
          · rw [hl]
            show (match verdict ls with | none => toldD ls | some _ => refD (errD "BadText" 0)) = _
            cases hz : verdict ls with
            | none => exact absurd hz hv
            | some z => rfl
        rw [er]; exact du
end
end K93

set_option Elab.async false
set_option linter.all false
set_option maxRecDepth 100000
set_option maxHeartbeats 4000000
namespace B
open PySem PySem.Spec PyProof.Rows L2
/-- the numbers at p, two or more -/
def Pl (p : Addr) (F H : Hp) : Prop := ∃ ns : List Int, H p = some (.lst (ns.map V.int)) ∧ F p = none ∧ 2 ≤ ns.length ∧ ns.length ≤ 100
theorem Pl.on {p : Addr} {F H F' H' : Hp} (h : Pl p F H) (g : Gr [] F H F' H') : Pl p F' H' := by
  obtain ⟨ns, e, f, l1, l2⟩ := h
  exact ⟨ns, g.hh p _ (fun z => nomatch z) e, g.offF e f, l1, l2⟩
end B
namespace K93
open PySem PySem.Spec PyProof.Rows L2 B TL
def spSame (K : PySem.W.Frag) : Sp := fun vs H Q _ => ∃ F u v d k, vs = [u, v] ∧ Same F H ∧ Dp K F u d ∧ Dp K F v d ∧ Fine 60 k d ∧ k ≤ sizeLine ∧ Q (.bl true) H
def spDraw (K : PySem.W.Frag) : Sp := fun vs H Q _ => ∃ F p, ∃ m : Int, vs = [.ref p, .int m] ∧ Same F H ∧ Pl p F H ∧ 0 < m ∧ m < 1000000 ∧ ∀ r F' H', 0 ≤ r → r < m → Gr [p] F H F' H' → Pl p F' H' → Q (.int r) H'
def spPick (K : PySem.W.Frag) : Sp := fun vs H Q _ => ∃ F p v ds, vs = [.ref p, v] ∧ Same F H ∧ Pl p F H ∧ Dp K F v (.list ds) ∧ ds ≠ [] ∧ ds.length < 1000000 ∧ ∀ u d F' H', d ∈ ds → Dp K F' u d → Gr [p] F H F' H' → Pl p F' H' → Q u H'
def spCells (K : PySem.W.Frag) : Sp := fun vs H Q _ => ∃ a, ∃ ns : List Int, vs = [.ref a] ∧ SqL K H a (ns.map V.int) ∧ ns.length ≤ 63 ∧ ∀ F p F' H', Same F H → Gr [] F H F' H' → Pl p F' H' → H p = none → Q (.ref p) H'
section
variable {P : Program} {w : World} {K : PySem.W.Frag} {mg : Str → Option Value} {b0 : Heap}
theorem ok_same (T : Txt K mg) : HasG P w K mg b0 CX0 1 (He.ga K "_law_same") ["told", "due"] (spSame K) := by
  refine T.hG__law_same fun fd F => Fun.okG F sc__law_same (fun vs H Q E h => ?_) (fun cdv A g outer s H vs Q E hr h => ?_)
  · obtain ⟨_, _, _, _, _, rfl, _⟩ := h; rfl
  · obtain ⟨F0, u, v, d, n, rfl, s0, du, dv, fi, hn, k⟩ := h
    have du := Dp.mono s0 du
    have dv := Dp.mono s0 dv
    refine ⟨_, pss_one (ps_ret (pe_and (pe_cmpR op_eq (pe_callB (call_reprD g hr.un64) rfl T.n_repr (by decide +kernel) (pa_cons (pv 0) pa_nil)) (pe_callB (call_reprD g hr.un64) rfl T.n_repr (by decide +kernel) (pa_cons (pv 1) pa_nil)) rfl) (pe_one (pe_cmpR (op_eqD hr.un64) (pv 0) (pv 1) rfl)))), ?_⟩
    refine at_ (σ' := [some u, some v]) rfl (B.ret ⟨_, rfl, u, d, n, rfl, du, fi, hn, _, rfl, v, d, n, rfl, dv, fi, hn, rfl, true, by rw [decide_eq_true rfl], ?_⟩)
    rw [if_pos rfl]
    refine ⟨_, rfl, _, rfl, d, d, du, dv, fi.shaped (by decide), fi.shaped (by decide), ?_⟩
    rw [eqv_refl d fi.dic]; exact k
theorem ok_draw (T : Txt K mg) : Has P w K mg b0 CX0 1 (He.ga K "_law_draw") ["pool", "many"] (spDraw K) := by
  refine T.h__law_draw fun fd F => F.ok sc__law_draw (fun vs H Q E h => ?_) (fun cdv A outer s H vs Q E hr h => ?_)
  · obtain ⟨_, _, _, rfl, _⟩ := h; rfl
  · obtain ⟨F0, p, m, rfl, s0, ⟨ns, e, f, l1, l2⟩, m0, m1, k⟩ := h
    have S := sc__law_draw
    refine ⟨_, pss_cons (ps_if (pt_cmpR op_eq (pe_callB call_len_seq rfl T.n_len PySem.boot_len (pa_cons (pv 0) pa_nil)) pe_int rfl)
        (pss_cons (ps_asg (pe_op op_add (pe_ix ix_seq (pv 0) pe_int (fun _ _ => rfl)) pe_int) (pg_sub (pv 0) pe_int set_list))
        (pss_cons (ps_set (i := 2) S.nd rfl (Or.inl rfl) (pe_op op_modN (pe_op op_mul (pe_op op_add (pe_ix ix_seq (pv 0) pe_int (fun _ _ => rfl)) (pe_op op_mul pe_int (pe_ix ix_seq (pv 0) pe_int (fun _ _ => rfl)))) pe_int) pe_int))
        (pss_one (ps_expr (pe_bm PySem.F.plainAttrs_list PySem.F.slot_list_append PySem.F.type_list_append mt_append (pv 0) (pa_cons (pe_op op_fdivN (pe_op op_mul (pe_op op_mul (pv 2) (pv 2)) pe_int) pe_int) pa_nil)))))) pss_nil)
      (pss_cons (ps_set (i := 3) S.nd rfl (Or.inl rfl) (pe_bm0 PySem.F.plainAttrs_list PySem.F.slot_list_pop PySem.F.type_list_pop mt_pop (pv 0)))
      (pss_cons (ps_if (pt_cmpR op_ge (pv 3) (pv 1) rfl) (pss_one (ps_expr (pe_bm PySem.F.plainAttrs_list PySem.F.slot_list_append PySem.F.type_list_append mt_append (pv 0) (pa_cons (pe_op op_fdivN (pv 3) (pv 1)) pa_nil)))) pss_nil)
      (pss_one (ps_ret (pe_op op_modN (pv 3) (pv 1)))))), ?_⟩
    refine at_ (σ' := [some (V.ref p), some (V.int m), none, none]) rfl ?_
    have mem : p ∈ [p] := List.mem_singleton.mpr rfl
    have rest : ∀ (v2 : Option V) (ns : List Int) (H1 : Hp), Gr [p] F0 H F0 H1 → H1 p = some (.lst (ns.map V.int)) → 3 ≤ ns.length → ns.length ≤ 100 →
        tSeq (tAsg (tBM0 K "list" rPop (tVar 0)) (gName 3)) (tSeq (tIfS (tTest (tOp (rI0 fun i j => .bl (decide (j ≤ i))) (tVar 3) (tVar 1))) (tDrop (tBM K "list" rAppend (tVar 0) (tCons (tOp (rI CDivN fun i j => .int (i.fdiv j)) (tVar 3) (tVar 1)) tNil))) tNext) (tRet (tOp (rI (fun _ j => j ≠ 0) fun i j => .int (i.fmod j)) (tVar 3) (tVar 1)))) ⟨fun _ H' => Q .non H', Q, fun _ _ => False, fun _ _ => False⟩ [some (V.ref p), some (V.int m), v2, none] H1 := by
      intro v2 ns H1 g e l1 l2
      obtain ⟨c, hc⟩ : ∃ c, ns[ns.length - 1]? = some c := ⟨_, List.getElem?_eq_getElem (by omega)⟩
      refine sq (asg ⟨_, rfl, .inl ⟨rfl, _, Evl.sq_of e⟩, p, _, .int c, rfl, rfl, e, by rw [List.length_map, List.getElem?_map, hc]; rfl, ?_⟩)
      rw [← List.map_dropLast]
      refine at_ (σ' := [some (V.ref p), some (V.int m), v2, some (V.int c)]) rfl ?_
      have g2 := g.put (o := .lst (ns.dropLast.map V.int)) f (.inl mem)
      have dl : ns.dropLast.length = ns.length - 1 := List.length_dropLast
      have e0 : Int.fmod c m = c % m := Int.fmod_eq_emod_of_nonneg c (by omega)
      have r0 : 0 ≤ Int.fmod c m := by rw [e0]; exact Int.emod_nonneg c (by omega)
      have r1 : Int.fmod c m < m := by rw [e0]; exact Int.emod_lt_of_pos c m0
      refine sq (if_1 (an_test (vl_I0 (g := fun i j => .bl (decide (j ≤ i))) (vl_var rfl) (vl_var rfl))) (fun _ => ?_) (fun _ => ?_))
      · refine ⟨_, rfl, .inl ⟨rfl, _, Evl.sq_of upd_same⟩, _, rfl, _, rfl, c, m, rfl, rfl, ⟨by omega, by omega⟩, p, _, .int (c.fdiv m), rfl, rfl, upd_same, Nat.lt_of_lt_of_le (show (ns.dropLast.map V.int).length < 101 by rw [List.length_map]; omega) (by decide), ?_⟩
        have e5 : ns.dropLast.map V.int ++ [.int (c.fdiv m)] = (ns.dropLast ++ [c.fdiv m]).map V.int := by rw [List.map_append]; rfl
        rw [e5]
        refine retV (vl_I (vl_var rfl) (vl_var rfl) (by omega)) (k _ F0 _ r0 r1 (g2.put (o := .lst ((ns.dropLast ++ [c.fdiv m]).map V.int)) f (.inl mem)) ⟨_, upd_same, f, ?_, ?_⟩)
        · rw [List.length_append]; simp only [List.length_cons, List.length_nil]; omega
        · rw [List.length_append]; simp only [List.length_cons, List.length_nil]; omega
      · exact retV (vl_I (vl_var rfl) (vl_var rfl) (by omega)) (k _ F0 _ r0 r1 g2 ⟨_, upd_same, f, by omega, by omega⟩)
    refine sq (if_1 (an_test (vl_eqI (m := (ns.length : Nat)) (n := 2) (fun Q q => ⟨_, rfl, p, _, rfl, .inl (Evl.sq_of e), by rw [List.length_map]; exact q⟩) vl_c)) (fun e2 => ?_) (fun e2 => ?_))
    · have e2 := of_decide_eq_true e2
      obtain ⟨x, y, rfl⟩ : ∃ x y, ns = [x, y] := by
        match ns, e2 with
        | [x, y], _ => exact ⟨x, y, rfl⟩
        | [], h => simp at h
        | [_], h => simp at h
        | _ :: _ :: _ :: _, h => simp at h; omega
      refine sq (asgG ⟨_, rfl, .inl ⟨p, _, 1, .int y, rfl, rfl, Evl.sq_of e, rfl, y, 1, rfl, rfl, ?_⟩⟩)
      refine ⟨_, rfl, p, _, 1, 1, rfl, rfl, e, rfl, ?_⟩
      have g1 := (Gr.refl s0).zero.put (M := [p]) (o := .lst [.int x, .int (y + 1)]) f (.inl mem)
      dsimp only
      refine at_ (H := upd H p (.lst [.int x, .int (y + 1)])) (σ' := [some (V.ref p), some (V.int m), none, none]) rfl ?_
      have it : ∀ (j : Nat) (z : Int), ([x, y + 1] : List Int)[j]? = some z → Vl (tOp (rIx K) (tVar 0) (tC (.int (j : Nat)))) [some (V.ref p), some (V.int m), none, none] (upd H p (.lst [.int x, .int (y + 1)])) (.int z) := fun j z hz Q q => ⟨_, rfl, .inl ⟨p, _, _, .int z, rfl, rfl, Evl.sq_of upd_same, atI_nat (by
        have : ([V.int x, V.int (y + 1)] : List V) = ([x, y + 1] : List Int).map V.int := rfl
        rw [this, List.getElem?_map, hz]; rfl), q⟩⟩
      refine sq (asgV (vl_I (vl_I (vl_I0 (it 0 x rfl) (vl_I vl_c (it 1 (y + 1) rfl) (.inl ⟨by decide, by decide⟩))) vl_c (.inr ⟨by decide, by decide⟩)) vl_c (by decide)) ?_)
      generalize hM : Int.fmod ((x + 31 * (y + 1)) * 7919) 99991 = mx
      have eM : mx = ((x + 31 * (y + 1)) * 7919) % 99991 := by rw [← hM]; exact Int.fmod_eq_emod_of_nonneg _ (by decide)
      have M0 : 0 ≤ mx := by rw [eM]; exact Int.emod_nonneg _ (by decide)
      have M1 : mx < 99991 := by rw [eM]; exact Int.emod_lt_of_pos _ (by decide)
      refine at_ (σ' := [some (V.ref p), some (V.int m), some (V.int mx), none]) rfl ?_
      refine ⟨_, rfl, .inl ⟨rfl, _, Evl.sq_of upd_same⟩, (vl_I (vl_I (vl_I (vl_var rfl) (vl_var rfl) (.inl ⟨by omega, by omega⟩)) vl_c (.inr ⟨by decide, by decide⟩)) vl_c ⟨by decide, by decide⟩) _ ?_⟩
      refine ⟨p, _, _, rfl, rfl, upd_same, (show 2 < sizeLine by decide), ?_⟩
      refine rest _ [x, y + 1, (mx * mx * 104729).fdiv 997] _ (g1.put (o := .lst ([x, y + 1, (mx * mx * 104729).fdiv 997].map V.int)) f (.inl mem)) upd_same (by show 3 ≤ 3; decide) (by show 3 ≤ 100; decide)
    · have e2 := of_decide_eq_false e2
      exact rest none ns H (Gr.refl s0).zero e (by omega) l2
end
end K93

set_option Elab.async false
set_option linter.all false
set_option maxRecDepth 100000
set_option maxHeartbeats 4000000
namespace B
open PySem PySem.Spec PyProof.Rows L2
section
variable {K : PySem.W.Frag} {te : TE} {σ : L2.St} {F H : Hp} {ds : List PyData}
/-- l[a:b] of data, cut -/
theorem cut_dp {xs : List V} {ds : List PyData} {F : Hp} (h : DpAll K F xs ds) (a n : Nat) : DpAll K F ((xs.drop a).take n) ((ds.drop a).take n) := by
  have dr : ∀ (a : Nat) {xs : List V} {ds : List PyData}, DpAll K F xs ds → DpAll K F (xs.drop a) (ds.drop a) := by
    intro a
    induction a with
    | zero => intro xs ds h; exact h
    | succ a ih =>
      intro xs ds h
      cases h with
      | nil => exact .nil
      | cons h1 h2 => exact ih h2
  exact DpAll.take n (dr a h)
theorem vl_slL {tl th : TO} {lo hi : Option Int} (ha : Vg K te σ F H (.list ds)) (hl : ∀ H1 Q, Q lo H1 → tl σ H1 Q) (hh : ∀ H1 Q, Q hi H1 → th σ H1 Q) :
    Vp (tSl (rSlL K) te tl th) σ F H fun v F2 => Lp K F2 v ((ds.drop (HT.sIx ds.length 0 lo)).take (HT.sIx ds.length ds.length hi - HT.sIx ds.length 0 lo)) := fun Q q => ha _ fun v F2 H2 g p => by
  obtain ⟨a, xs, rfl, s, dp⟩ := p.lst_of
  refine hl _ _ (hh _ _ ⟨a, xs, rfl, g.fh.seq s, fun l hl => ?_⟩)
  have n := dp.length
  refine q _ _ _ (g.new hl) ⟨l, _, rfl, upd_same, ?_⟩
  unfold cutV
  rw [n]
  exact cut_dp (DpAll.mono (Evl.Ex.new (g.freshF hl)) dp) _ _
theorem vl_revL (ha : Vg K te σ F H (.list ds)) : Vp (tRevL K te) σ F H fun v F2 => Lp K F2 v ds.reverse := fun Q q => ha _ fun v F2 H2 g p => by
  obtain ⟨a, xs, rfl, s, dp⟩ := p.lst_of
  exact ⟨a, xs, rfl, g.fh.seq s, fun l hl => q _ _ _ (g.new hl) ⟨l, _, rfl, upd_same, (DpAll.mono (Evl.Ex.new (g.freshF hl)) dp).reverse⟩⟩
end
end B
namespace K93
open PySem PySem.Spec PyProof.Rows L2 B TL
def spCells2 (K : PySem.W.Frag) : Sp := fun vs H Q _ => ∃ F a, ∃ ns : List Int, vs = [.ref a] ∧ Same F H ∧ SqL K H a (ns.map V.int) ∧ ns.length ≤ 63 ∧ ∀ p F' H', H p = none → Gr [] F H F' H' → Pl p F' H' → Q (.ref p) H'
section
variable {P : Program} {w : World} {K : PySem.W.Frag} {mg : Str → Option Value} {b0 : Heap}
theorem ok_cells (T : Txt K mg) : Has P w K mg b0 CX0 1 (He.ga K "_law_cells") ["script"] (spCells2 K) := by
  refine T.h__law_cells fun fd F => F.ok sc__law_cells (fun vs H Q E h => ?_) (fun cdv A outer s H vs Q E hr h => ?_)
  · obtain ⟨_, _, _, rfl, _⟩ := h; rfl
  · obtain ⟨F0, a, ns, rfl, s0, hq, nl, k⟩ := h
    have S := sc__law_cells
    refine ⟨_, pss_cons (ps_setLc (i := 2) (own := [("cell", 1)]) (g := gName 1) rfl S.nd rfl rfl rfl (pi_sq (pe_slice sl_list (pv 0) po_none (po_some pe_int))) (blkOk_by (N := n__law_cells) (sc := defScope s__law_cells) (by decide +kernel))
        (fun _ _ _ _ _ => pg_name (i := 1) S.nd rfl (Or.inl rfl)) (fun _ _ _ _ _ => pts_nil) (fun _ _ _ _ _ => pe_op op_modN (pe_callTy call_int1 rfl T.n_int (by decide +kernel) (pa_cons (pv 1) pa_nil)) (pe_op op_pow pe_int pe_int)))
      (pss_cons (ps_set (i := 3) S.nd rfl (Or.inl rfl) pe_int)
      (pss_cons (ps_for PassesOwn.never rfl (pi_sq (pv 2)) (pg_name (i := 1) S.nd rfl (Or.inl rfl)) (pss_one (ps_set (i := 3) S.nd rfl (Or.inl rfl) (pe_op op_modN (pe_op op_add (pe_op op_mul (pv 3) pe_int) (pv 1)) pe_int))))
      (pss_one (ps_ret (pe_op op_cat (pe_lst (pa_cons (pv 3) (pa_cons pe_int pa_nil))) (pe_revL (pv 2))))))), ?_⟩
    refine at_ (σ' := [some (V.ref a), none, none, none]) rfl ?_
    have nsz : ns.length ≤ sizeLine := Nat.le_trans nl (by decide)
    have src : ∀ Q : VK, (∀ p, H p = none → Q (.ref p) (upd H p (.lst (ns.map V.int)))) → tSl (rSlL K) (tVar 0) tNoPart (tPart (tC (.int 63))) [some (V.ref a), none, none, none] H Q := fun Q q => ⟨_, rfl, ⟨_, rfl, a, _, rfl, hq, fun p np => by
      have e : cutV (ns.map V.int) none (some 63) = ns.map V.int := by
        unfold cutV
        have e1 : HT.sIx (ns.map V.int).length 0 none = 0 := rfl
        have e2 : HT.sIx (ns.map V.int).length (ns.map V.int).length (some 63) = min 63 (ns.map V.int).length := HT.sIx_nat _ _ 63
        rw [e1, e2, List.drop_zero, List.length_map, Nat.sub_zero, Nat.min_eq_right nl]
        exact List.take_of_length_le (by rw [List.length_map]; exact Nat.le_refl _)
      rw [e]; exact q p np⟩⟩
    have srcV : Vp (tSl (rSlL K) (tVar 0) tNoPart (tPart (tC (.int 63)))) [some (V.ref a), none, none, none] F0 H fun v F2 => Qp K F2 v (ns.map .int) := fun Q q => src Q fun p np => q _ _ _ ((Gr.refl s0).new np) ⟨p, _, rfl, .inl (Evl.sq_of upd_same), DpAll.ints ns⟩
    refine sq (asgP (vl_lcM (K := K) (as := ns) (D := PyData.int) (fun i => .int (Int.fmod i (10 ^ 18))) srcV nsz ?_) fun v F1 H1 g1 p1 => ?_)
    · intro i x y F4 H4 Y e1 g4 dy kY
      cases dy
      refine gn ⟨rfl, ?_⟩
      exact (vl_I (c := fun _ j => j ≠ 0) (g := fun i j => .int (i.fmod j)) (show Vl _ _ _ (V.int x) from fun Q q => ⟨_, rfl, .inl ⟨x, rfl, q⟩⟩) (show Vl (tOp (rI CPow fun i j => .int (i ^ j.toNat)) (tC (.int 10)) (tC (.int 18))) _ _ (V.int (10 ^ 18)) from vl_I (c := CPow) (g := fun i j => .int (i ^ j.toNat)) vl_c vl_c ⟨by decide, by decide, by decide⟩) (by decide)) Y (kY _ F4 H4 (Gr.refl g4.fh) (.int _))
    · obtain ⟨c, xs, rfl, ec, dc⟩ := p1
      have dc2 : DpAll K F1 xs ((ns.map fun i => Int.fmod i (10 ^ 18)).map PyData.int) := by rw [List.map_map]; exact dc
      have cl : (ns.map fun i => Int.fmod i (10 ^ 18)).length = ns.length := List.length_map ..
      generalize (ns.map fun i => Int.fmod i (10 ^ 18)) = cs at dc2 cl
      refine at_ (σ' := [some (V.ref a), none, some (V.ref c), none]) rfl ?_
      refine sq (asgV vl_c ?_)
      refine at_ (σ' := [some (V.ref a), none, some (V.ref c), some (V.int 4711)]) rfl ?_
      refine sq (forD [] (as := cs) (D := PyData.int) (vp_var (P := fun v F2 => Qp K F2 v (cs.map .int)) g1.fh rfl ⟨c, xs, rfl, .inl (Evl.sq_of ec), dc2⟩) (fun i σ' F' H' => ∃ v1 n, σ' = [some (V.ref a), v1, some (V.ref c), some (V.int n)]) (fun F2 H2 g2 => ⟨none, 4711, rfl⟩) ?_ ?_)
      · rintro i x u F2 H2 σ' F' H' g2 ex y ⟨v1, n, rfl⟩ dx
        cases dx
        refine gn (at_ (σ' := [some (V.ref a), some (V.int x), some (V.ref c), some (V.int n)]) rfl ?_)
        exact asgV (vl_I (vl_I0 (vl_I (vl_var rfl) vl_c (.inr ⟨by decide, by decide⟩)) (vl_var rfl)) vl_c (by decide)) ⟨F', y, _, _, rfl⟩
      · rintro F2 H2 σ' F' H' g2 y ⟨v1, n, rfl⟩
        have g := (g1.trans g2).trans y
        refine B.ret ((vl_lst (K := K) (F := F') (ds := [.int n, .int 0]) (lg_cons (vp_var y.fh rfl (.int _)) fun _ _ g5 => lg_one g5.fh (vg_int g5.fh)) (show 2 ≤ sizeLine by decide)) _ fun v3 F3 H3 g3 p3 => ?_)
        refine (vl_revL (K := K) (F := F3) (ds := cs.map PyData.int) (vp_var g3.fh rfl (Dp.mono ((g2.trans y).trans g3).ff (Dp.newL ec dc2)))) _ fun v4 F4 H4 g4 p4 => ?_
        obtain ⟨l3, ys, rfl, e3, d3⟩ := p3
        obtain ⟨l4, zs, rfl, e4, d4⟩ := p4
        have ez : zs = cs.reverse.map V.int := by rw [← List.map_reverse] at d4; exact d4.ints_of
        have ey : ys = ([n, 0] : List Int).map V.int := DpAll.ints_of (xs := [n, 0]) d3
        subst ez; subst ey
        refine ⟨l3, l4, _, _, rfl, rfl, g4.hh l3 _ (fun z => nomatch z) (g3.fh _ _ e3), g4.fh _ _ e4, ?_, fun p np => ?_⟩
        · rw [List.length_map, List.length_map, List.length_reverse, cl]
          exact Nat.le_trans (show ([n, 0] : List Int).length + ns.length ≤ 65 by simp; omega) (by decide)
        · have gg := (g.trans g3).trans g4
          have e9 : ([n, 0] : List Int).map V.int ++ cs.reverse.map V.int = (([n, 0] : List Int) ++ cs.reverse).map V.int := List.map_append.symm
          rw [e9]
          refine k p F4 _ (gg.fresh np) (gg.own (o := .lst ((([n, 0] : List Int) ++ cs.reverse).map V.int)) np) ⟨_, upd_same, gg.freshF np, ?_, ?_⟩
          · rw [List.length_append]; show 2 ≤ 2 + _; omega
          · rw [List.length_append, List.length_reverse, cl]; show 2 + _ ≤ 100; omega
end
end K93

set_option Elab.async false
set_option linter.all false
set_option maxRecDepth 100000
set_option maxHeartbeats 4000000
namespace B
open PySem PySem.Spec PyProof.Rows L2
theorem Pl.onM {p : Addr} {F H F' H' : Hp} {M : List Addr} (h : Pl p F H) (g : Gr M F H F' H') (n : p ∉ M) : Pl p F' H' := by
  obtain ⟨ns, e, f, l1, l2⟩ := h
  exact ⟨ns, g.hh p _ n e, g.offF e f, l1, l2⟩
end B
namespace K93
open PySem PySem.Spec PyProof.Rows L2 B TL
def signs36 : Str := "abcdefghijklmnopqrstuvwxyz0123456789"
theorem signs_small : ∀ r, r < 26 → ∃ c, signs36.cps.toList[r]? = some c ∧ inS c = true := by decide +kernel
theorem signs_all : ∀ r, r < 36 → ∃ c, signs36.cps.toList[r]? = some c ∧ (inS c || inD c) = true := by decide +kernel
theorem name_of {x : Str} {l : List Nat} (e : x.cps.toList = l) (h1 : 1 ≤ l.length) (h8 : l.length ≤ 8) (hh : ∀ c, l[0]? = some c → inS c = true) (hr : rest l = true) : isName x = true := by
  have hx : x.length = l.length := by rw [← e]; exact Array.length_toList.symm
  unfold isName
  rw [hx, decide_eq_true (And.intro h1 h8), e, hr, Bool.true_and, Bool.and_true]
  unfold head
  rw [e]
  cases l with
  | nil => simp at h1
  | cons c r => exact hh c rfl
theorem of_name {x : Str} (h : isName x = true) : 1 ≤ x.cps.toList.length ∧ x.cps.toList.length ≤ 8 ∧ (∀ c, x.cps.toList[0]? = some c → inS c = true) ∧ rest x.cps.toList = true := by
  have hx : x.cps.toList.length = x.length := Array.length_toList
  unfold isName at h
  obtain ⟨h1, h⟩ := He.ba h
  obtain ⟨h2, h3⟩ := He.ba h
  have h1 := of_decide_eq_true h1
  refine ⟨by omega, by omega, fun c hc => ?_, h3⟩
  unfold head at h2
  cases hl : x.cps.toList with
  | nil => rw [hl] at hc; cases hc
  | cons d r => rw [hl] at hc h2; cases hc; exact h2
theorem inS_any {c : Nat} (h : inS c = true) : (inS c || inD c) = true := by rw [h]; rfl
/-- one sign of a name put anew -/
theorem name_set {x : Str} (h : isName x = true) {k c : Nat} (hk : k < x.length) (hc : inS c = true) :
    isName ((cutS x none (some (k : Nat)) ++ (⟨#[c]⟩ : Str)) ++ cutS x (some (((k : Nat) : Int) + 1)) none) = true := by
  obtain ⟨n1, n2, n3, n4⟩ := of_name h
  have hx : x.cps.toList.length = x.length := Array.length_toList
  have e1 : (cutS x none (some (k : Nat))).cps.toList = x.cps.toList.take k := by
    unfold cutS
    rw [show HT.sIx x.length 0 none = 0 from rfl, HT.sIx_nat, Nat.min_eq_left (by omega), List.drop_zero, Nat.sub_zero]
  have e2 : (cutS x (some (((k : Nat) : Int) + 1)) none).cps.toList = x.cps.toList.drop (k + 1) := by
    unfold cutS
    rw [show (((k : Nat) : Int) + 1) = ((k + 1 : Nat) : Int) from rfl, HT.sIx_nat, Nat.min_eq_left (by omega), show HT.sIx x.length x.length none = x.length from rfl]
    exact List.take_of_length_le (by rw [List.length_drop]; omega)
  have e : ((cutS x none (some (k : Nat)) ++ (⟨#[c]⟩ : Str)) ++ cutS x (some (((k : Nat) : Int) + 1)) none).cps.toList = x.cps.toList.take k ++ [c] ++ x.cps.toList.drop (k + 1) := by
    have t1 := TL.tl_append (cutS x none (some (k : Nat)) ++ (⟨#[c]⟩ : Str)) (cutS x (some (((k : Nat) : Int) + 1)) none)
    have t2 := TL.tl_append (cutS x none (some (k : Nat))) (⟨#[c]⟩ : Str)
    have t1 : _ = _ ++ (cutS x (some (((k : Nat) : Int) + 1)) none).cps.toList := t1
    rw [t2, e2] at t1
    have t1 : _ = (cutS x none (some (k : Nat))).cps.toList ++ [c] ++ x.cps.toList.drop (k + 1) := t1
    rw [e1] at t1
    exact t1
  refine name_of e ?_ ?_ ?_ ?_
  · simp only [List.length_append, List.length_take, List.length_drop, List.length_cons, List.length_nil]; omega
  · simp only [List.length_append, List.length_take, List.length_drop, List.length_cons, List.length_nil]; omega
  · intro d hd
    cases k with
    | zero => simp at hd; subst hd; exact hc
    | succ k =>
      refine n3 d ?_
      cases hl : x.cps.toList with
      | nil => rw [hl] at n1; simp at n1
      | cons a r => rw [hl] at hd; simpa using hd
  · unfold rest at n4 ⊢
    rw [List.all_append, List.all_append]
    have a := List.all_eq_true.mp n4
    rw [List.all_eq_true.mpr (fun d hd => a d (List.mem_of_mem_take hd)), List.all_eq_true.mpr (fun d hd => a d (List.mem_of_mem_drop hd))]
    simp [hc]
theorem name_snoc {x : Str} (h : isName x = true) {c : Nat} (hl : x.length ≤ 7) (hc : (inS c || inD c) = true) : isName (x ++ (⟨#[c]⟩ : Str)) = true ∧ (x ++ (⟨#[c]⟩ : Str)).length = x.length + 1 := by
  obtain ⟨n1, n2, n3, n4⟩ := of_name h
  have hx : x.cps.toList.length = x.length := Array.length_toList
  have e : (x ++ (⟨#[c]⟩ : Str)).cps.toList = x.cps.toList ++ [c] := TL.tl_append x ⟨#[c]⟩
  refine ⟨name_of e ?_ ?_ ?_ ?_, by rw [Str.length_append]; rfl⟩
  · rw [List.length_append]; simp only [List.length_cons, List.length_nil]; omega
  · rw [List.length_append]; simp only [List.length_cons, List.length_nil]; omega
  · intro d hd
    refine n3 d ?_
    rw [List.getElem?_append_left (by omega)] at hd; exact hd
  · unfold rest at n4 ⊢
    rw [List.all_append, n4]; simp [hc]
theorem name_one {c : Nat} (h : inS c = true) : isName (⟨#[c]⟩ : Str) = true := name_of (l := [c]) rfl (Nat.le_refl _) (show 1 ≤ 8 by decide) (fun d hd => by cases hd; exact h) (by unfold rest; simp [h])
def spCalled (K : PySem.W.Frag) : Sp := fun vs H Q _ => ∃ (F : Hp) (p : Addr) (v : V) (ns : List Str), vs = [.ref p, v] ∧ Same F H ∧ Pl p F H ∧ Dp K F v (.list (ns.map .str)) ∧ (∀ x ∈ ns, isName x = true) ∧ ns.length < 1000 ∧ ∀ x F' H', isName x = true → Gr [p] F H F' H' → Pl p F' H' → Q (.str x) H'
section
variable {P : Program} {w : World} {K : PySem.W.Frag} {mg : Str → Option Value} {b0 : Heap}
/-- _law_draw(pool, m) -/
theorem draw_ {te : TE} {σ : L2.St} {F H : Hp} {p : Addr} {m : Int} {Q : VK} (hp : σ[0]? = some (some (.ref p))) (pl : Pl p F H) (s : Same F H) (ha : Vg K te σ F H (.int m)) (m0 : 0 < m) (m1 : m < 1000000) (k : ∀ (r : Nat) F' H', (r : Int) < m → Gr [p] F H F' H' → Pl p F' H' → Q (.int (r : Nat)) H') :
    tCall (spDraw K) [] E0 (tCons (tVar 0) (tCons te tNil)) σ H Q := ⟨_, hp, ha _ fun v F2 H2 g2 dv => by
  cases dv
  exact ⟨F2, p, m, rfl, g2.fh, pl.on g2, m0, m1, fun r F3 H3 r0 r1 g3 pl3 => by
    obtain ⟨n, rfl⟩ := Int.eq_ofNat_of_zero_le r0
    exact k n F3 H3 r1 (g2.zero.trans g3) pl3⟩⟩
theorem ok_pick (T : Txt K mg) : Has P w K mg b0 CX0 2 (He.ga K "_law_pick") ["pool", "things"] (spPick K) := by
  refine T.h__law_pick fun fd F => F.ok sc__law_pick (fun vs H Q E h => ?_) (fun cdv A outer s H vs Q E hr h => ?_)
  · obtain ⟨_, _, _, _, rfl, _⟩ := h; rfl
  · obtain ⟨F0, p, v, ds, rfl, s0, pl, dv, ne, dl, k⟩ := h
    refine ⟨_, pss_one (ps_ret (pe_ix ix_seq (pv 1) (pc (E := E0) (ok_draw T) T.g__law_draw hr noX (pa_cons (pv 0) (pa_cons (pe_callB call_len_seq rfl T.n_len PySem.boot_len (pa_cons (pv 1) pa_nil)) pa_nil))) (fun _ _ => rfl))), ?_⟩
    have hpos : 0 < ds.length := List.length_pos_iff.mpr ne
    refine at_ (σ' := [some (V.ref p), some v]) rfl (B.ret ⟨_, rfl, draw_ rfl pl s0 (vg_lenL (vp_var s0 rfl dv)) (by omega) (by omega) fun r F2 H2 hr2 g pl2 => ?_⟩)
    obtain ⟨a, xs, rfl, hs, dp⟩ := dv.lst_of
    have e1 : ds[r]? = some ds[r] := List.getElem?_eq_getElem (by omega)
    obtain ⟨u, e2, du⟩ := dp.at e1
    exact .inl ⟨a, xs, _, u, rfl, rfl, g.fh.seq (g.ff.seq hs), atI_nat e2, k u _ F2 H2 (List.mem_of_getElem? e1) (Dp.mono g.ff du) g pl2⟩
theorem ok_called (T : Txt K mg) : Has P w K mg b0 CX0 3 (He.ga K "_law_called") ["pool", "names"] (spCalled K) := by
  refine T.h__law_called fun fd F => F.ok sc__law_called (fun vs H Q E h => ?_) (fun cdv A outer s H vs Q E hr h => ?_)
  · obtain ⟨_, _, _, _, rfl, _⟩ := h; rfl
  · obtain ⟨F0, p, v, ns, rfl, s0, pl, dv, nm, nl, k⟩ := h
    have S := sc__law_called
    refine ⟨_, pss_cons (ps_set (i := 2) S.nd rfl (Or.inl rfl) pe_str)
      (pss_cons (ps_if (PW.pt (pw_and (pt_cmpR op_gt (pe_callB call_len_seq rfl T.n_len PySem.boot_len (pa_cons (pv 1) pa_nil)) pe_int rfl) (pw_and1 (pt_cmpR op_eq (pc (E := E0) (ok_draw T) T.g__law_draw hr noX (pa_cons (pv 0) (pa_cons pe_int pa_nil))) pe_int rfl))))
        (pss_cons (ps_set (i := 3) S.nd rfl (Or.inl rfl) (pc (E := E0) (ok_pick T) T.g__law_pick hr noX (pa_cons (pv 0) (pa_cons (pv 1) pa_nil))))
        (pss_cons (ps_set (i := 4) S.nd rfl (Or.inl rfl) (pc (E := E0) (ok_draw T) T.g__law_draw hr noX (pa_cons (pv 0) (pa_cons (pe_callB call_len_str rfl T.n_len PySem.boot_len (pa_cons (pv 3) pa_nil)) pa_nil))))
        (pss_one (ps_ret (pe_op op_add_str (pe_op op_add_str (pe_slice sl_str (pv 3) po_none (po_some (pv 4))) (pe_ix ix_seq (pv 2) (pc (E := E0) (ok_draw T) T.g__law_draw hr noX (pa_cons (pv 0) (pa_cons pe_int pa_nil))) (fun _ _ => rfl))) (pe_slice sl_str (pv 3) (po_some (pe_op op_add (pv 4) pe_int)) po_none)))))) pss_nil)
      (pss_cons (ps_set (i := 5) S.nd rfl (Or.inl rfl) (pe_ix ix_seq (pv 2) (pc (E := E0) (ok_draw T) T.g__law_draw hr noX (pa_cons (pv 0) (pa_cons pe_int pa_nil))) (fun _ _ => rfl)))
      (pss_cons (ps_for PassesOwn.never rfl (pi_range1 rfl T.n_range (pa_cons (pc (E := E0) (ok_draw T) T.g__law_draw hr noX (pa_cons (pv 0) (pa_cons pe_int pa_nil))) pa_nil)) (pg_name (i := 6) S.nd rfl (Or.inl rfl)) (pss_one (ps_set (i := 5) S.nd rfl (Or.inl rfl) (pe_op op_add_str (pv 5) (pe_ix ix_seq (pv 2) (pc (E := E0) (ok_draw T) T.g__law_draw hr noX (pa_cons (pv 0) (pa_cons pe_int pa_nil))) (fun _ _ => rfl))))))
      (pss_one (ps_ret (pv 5)))))), ?_⟩
    refine at_ (σ' := [some (V.ref p), some v, none, none, none, none, none]) rfl (sq (asgV vl_c ?_))
    refine at_ (σ' := [some (V.ref p), some v, some (V.str signs36), none, none, none, none]) rfl ?_
    have l36 : signs36.length ≤ sizeLine := Nat.le_trans (show signs36.length ≤ 36 by decide +kernel) (by decide)
    have tail : ∀ F1 H1, Gr [p] F0 H F1 H1 → Pl p F1 H1 → tSeq (tAsg (tOp (rIx K) (tVar 2) (tCall (spDraw K) [] E0 (tCons (tVar 0) (tCons (tC (.int 26)) tNil)))) (gName 5)) (tSeq (tFor (iRng1 (tCons (tCall (spDraw K) [] E0 (tCons (tVar 0) (tCons (tC (.int 8)) tNil))) tNil)) (gName 6)
        (tAsg (tOp (fun x y H Q => ∃ i j, x = .str i ∧ y = .str j ∧ i.length + j.length ≤ sizeLine ∧ Q (.str (i ++ j)) H) (tVar 5) (tOp (rIx K) (tVar 2) (tCall (spDraw K) [] E0 (tCons (tVar 0) (tCons (tC (.int 36)) tNil))))) (gName 5))) (tRet (tVar 5))) ⟨fun _ H' => Q .non H', Q, fun _ _ => False, fun _ _ => False⟩ [some (V.ref p), some v, some (V.str signs36), none, none, none, none] H1 := by
      intro F1 H1 g1 pl1
      refine sq (asg ⟨_, rfl, draw_ rfl pl1 g1.fh (vg_int g1.fh) (by decide) (by decide) fun r F2 H2 hr2 g2 pl2 => ?_⟩)
      obtain ⟨c, hc, hs⟩ := signs_small r (by omega)
      refine .inr (.inr ⟨signs36, _, c, rfl, rfl, l36, atI_nat hc, ?_⟩)
      refine at_ (σ' := [some (V.ref p), some v, some (V.str signs36), none, none, some (V.str ⟨#[c]⟩), none]) rfl ?_
      refine sq ?_
      refine draw_ (Q := fun x H1 => _) rfl pl2 g2.fh (vg_int g2.fh) (by decide) (by decide) fun n F3 H3 hn g3 pl3 => ?_
      refine forR (n := n) (ta := fun _ H Q => Q [.int (n : Nat)] H) (fun Q q => q) (by omega) (fun i σ' H' => ∃ F' x v6, Gr [p] F0 H F' H' ∧ Pl p F' H' ∧ isName x = true ∧ x.length = 1 + i ∧ σ' = [some (V.ref p), some v, some (V.str signs36), none, none, some (V.str x), v6])
        ⟨F3, ⟨#[c]⟩, none, (g1.trans g2).trans g3, pl3, name_one hs, rfl, rfl⟩ ?_ ?_
      · rintro i σ' H' hi ⟨F', x, v6, g, plx, hx, lx, rfl⟩
        refine gn (at_ (σ' := [some (V.ref p), some v, some (V.str signs36), none, none, some (V.str x), some (V.int (i : Nat))]) rfl ?_)
        refine asg ⟨_, rfl, _, rfl, draw_ rfl plx g.fh (vg_int g.fh) (by decide) (by decide) fun r2 F4 H4 hr4 g4 pl4 => ?_⟩
        obtain ⟨c2, hc2, hs2⟩ := signs_all r2 (by omega)
        have ns2 := name_snoc hx (by omega) hs2
        exact .inr (.inr ⟨signs36, _, c2, rfl, rfl, l36, atI_nat hc2, x, _, rfl, rfl, Nat.le_trans (show x.length + 1 ≤ 9 by omega) (by decide), F4, _, _, g.trans g4, pl4, ns2.1, by rw [ns2.2, lx]; omega, rfl⟩)
      · rintro σ' H' ⟨F', x, v6, g, plx, hx, lx, rfl⟩
        exact retV (vl_var rfl) (k x F' H' hx g plx)
    have hlen : Vg K (tCB (fun xs H Q => ∃ p ys, xs = [.ref p] ∧ (SqL K H p ys ∨ SqT K H p ys) ∧ Q (.int ys.length) H) (tCons (tVar 1) tNil)) [some (V.ref p), some v, some (V.str signs36), none, none, none, none] F0 H (.int ((ns.map PyData.str).length : Nat)) := vg_lenL (vp_var s0 rfl dv)
    rw [List.length_map] at hlen
    refine sq ((ag_test (K := K) (vg_B0 (g := fun i j => decide (j < i)) hlen fun F2 H2 g2 => vg_int (n := 0) g2.fh)) _ fun F1 H1 g1 => ?_)
    have pl1 := pl.on g1
    cases hb : decide ((0 : Int) < (ns.length : Nat)) with
    | false =>
      rw [if_neg Bool.false_ne_true]
      exact tail F1 H1 g1.zero pl1
    | true =>
      have hpos := of_decide_eq_true hb
      rw [if_pos rfl]
      refine draw_ (Q := fun x H1 => _) rfl pl1 g1.fh (vg_int g1.fh) (by decide) (by decide) fun r F2 H2 hr2 g2 pl2 => ?_
      refine ⟨rfl, _, rfl, ?_⟩
      dsimp only
      have g02 := g1.zero.trans g2
      cases decide (V.int ((r : Nat) : Int) = V.int 1) with
      | false =>
        rw [if_neg Bool.false_ne_true]
        exact tail F2 H2 g02 pl2
      | true =>
        rw [if_pos rfl]
        refine sq (asg ⟨_, rfl, _, rfl, F2, p, v, ns.map .str, rfl, g02.fh, pl2, Dp.mono g02.ff dv, ?_, by rw [List.length_map]; omega, fun u d F3 H3 hd du g3 pl3 => ?_⟩)
        · intro z
          have := congrArg List.length z
          rw [List.length_map] at this
          simp at this
          subst this
          simp at hpos
        · obtain ⟨x, hx, rfl⟩ := List.mem_map.mp hd
          cases du
          have nx := nm x hx
          obtain ⟨n1, n2, n3, n4⟩ := of_name nx
          have hxl : x.cps.toList.length = x.length := Array.length_toList
          have x8 : x.length ≤ 8 := by omega
          have lx : x.length ≤ sizeLine := Nat.le_trans x8 (by decide)
          refine at_ (σ' := [some (V.ref p), some v, some (V.str signs36), some (V.str x), none, none, none]) rfl ?_
          refine sq (asg (draw_ (K := K) (F := F3) rfl pl3 (g02.trans g3).fh (m := (x.length : Nat)) (fun Q q => ⟨_, rfl, x, rfl, lx, q _ F3 H3 (Gr.refl (g02.trans g3).fh) (.int _)⟩) (by omega) (by omega) fun at1 F4 H4 ha4 g4 pl4 => ?_))
          refine at_ (σ' := [some (V.ref p), some v, some (V.str signs36), some (V.str x), some (V.int (at1 : Nat)), none, none]) rfl ?_
          have g04 := (g02.trans g3).trans g4
          refine B.ret ⟨_, rfl, _, rfl, _, rfl, x, rfl, lx, _, rfl, draw_ rfl pl4 g04.fh (vg_int g04.fh) (by decide) (by decide) fun r5 F5 H5 hr5 g5 pl5 => ?_⟩
          obtain ⟨c, hc, hs⟩ := signs_small r5 (by omega)
          have c1 := cutS_length x none (some (at1 : Nat))
          have c2 := cutS_length x (some (((at1 : Nat) : Int) + 1)) none
          have e1 : (⟨#[c]⟩ : Str).length = 1 := rfl
          refine .inr (.inr ⟨signs36, _, c, rfl, rfl, l36, atI_nat hc, _, _, rfl, rfl, Nat.le_trans (show _ + (⟨#[c]⟩ : Str).length ≤ 9 by rw [e1]; omega) (by decide), ?_⟩)
          refine ⟨_, rfl, _, rfl, _, _, rfl, rfl, _, rfl, x, rfl, lx, _, _, rfl, rfl, Nat.le_trans (show (cutS x none (some (at1 : Nat)) ++ (⟨#[c]⟩ : Str)).length + _ ≤ 17 by rw [Str.length_append, e1]; omega) (by decide), ?_⟩
          exact k _ F5 H5 (name_set nx (by omega) hs) (g04.trans g5) pl5
end
end K93

set_option Elab.async false
set_option linter.all false
set_option maxRecDepth 100000
set_option maxHeartbeats 4000000
namespace B
open PySem PySem.Spec PyProof.Rows L2
theorem Pl.off {p l : Addr} {F H : Hp} {o : HO} (h : Pl p F H) (n : p ≠ l) : Pl p F (upd H l o) := by
  obtain ⟨ns, e, f, l1, l2⟩ := h
  exact ⟨ns, by rw [upd_ne n]; exact e, f, l1, l2⟩
end B
namespace K93
open PySem PySem.Spec PyProof.Rows L2 B TL
theorem badAt_ok : ∀ (ls : List Lt) (seen : List Str) (i : Nat), (∀ p ∈ ls, isName p.1 = true ∧ arOk p.2 = true) → (seen ++ nms ls).Nodup → i + ls.length ≤ 12 → badAt seen i ls = none
  | [], _, _, _, _, _ => rfl
  | p :: r, seen, i, h1, h2, h3 => by
    have hp := h1 p List.mem_cons_self
    have h3' : i + (r.length + 1) ≤ 12 := h3
    have ns : p.1 ∉ seen := fun z => by
      have := List.nodup_append.mp h2
      exact this.2.2 p.1 z p.1 List.mem_cons_self rfl
    have e : badL seen i p = false := by
      unfold badL
      rw [decide_eq_false (show ¬ ((i : Nat) : Int) = 12 by omega), hp.1, hp.2, decide_eq_false ns]; rfl
    rw [badAt, if_neg (by rw [e]; exact Bool.false_ne_true)]
    refine badAt_ok r (seen ++ [p.1]) (i + 1) (fun q hq => h1 q (List.mem_cons_of_mem _ hq)) ?_ (by omega)
    rw [List.append_assoc]; exact h2
theorem verdict_ok {ls : List Lt} (h1 : ∀ p ∈ ls, isName p.1 = true ∧ arOk p.2 = true) (h2 : (nms ls).Nodup) (h3 : ls.length ≤ 12) (h4 : hasC ls = true) : verdict ls = none := by
  unfold verdict
  rw [badAt_ok ls [] 0 h1 (by simpa using h2) (by omega)]
  show (if hasC ls = true then none else some none) = none
  rw [if_pos h4]
def spAlpha (K : PySem.W.Frag) : Sp := fun vs H Q _ => ∃ F p, vs = [.ref p] ∧ Same F H ∧ Pl p F H ∧ ∀ v ls F' H', verdict ls = none → ls ≠ [] → ls.length ≤ 12 → Lp K F' v (ls.map ltD) → Gr [p] F H F' H' → Pl p F' H' → Q v H'
def menuD : List PyData := [.list [.int 0, .int 0, .int 0], .list [.int 1, .int 0, .int 1], .list [.int 0, .int 1, .int 2], .list [.int 2, .int 1, .int 1]]
section
variable {P : Program} {w : World} {K : PySem.W.Frag} {mg : Str → Option Value} {b0 : Heap}
theorem ints3 {σ : L2.St} {F H : Hp} {a b c : Int} (s : Same F H) : Vg K (tLst (tCons (tC (.int a)) (tCons (tC (.int b)) (tCons (tC (.int c)) tNil)))) σ F H (.list [.int a, .int b, .int c]) :=
  vg_lst (lg_cons (vg_int s) fun _ _ g => lg_cons (vg_int g.fh) fun _ _ g => lg_one g.fh (vg_int g.fh)) (show 3 ≤ sizeLine by decide)
theorem col0 {σ : L2.St} {F H : Hp} {l : Addr} {xs : List V} {ls : List Lt} {j : Nat} {te : TE} (ha : Vl te σ H (.ref l)) (hq : Sq K H l xs) (s : Same F H) (hd : DpAll K F xs (ls.map ltD)) (hn : ls.length ≤ sizeLine) (hj : j < σ.length) :
    Vp (tLc (iSq K te) (gName j) tYes (tOp (rIx K) (tVar j) (tC (.int 0))) [j]) σ F H fun v F2 => Lp K F2 v ((nms ls).map .str) := by
  rw [show (nms ls).map PyData.str = ls.map fun q => .str q.1 by rw [List.map_map]; rfl]
  refine vl_lcVM (K := K) (as := ls) (D := ltD) (fun q => .str q.1) ha hq s hd hn ?_
  intro i q x F7 H7 Y e1 g7 dq kY
  obtain ⟨t, rfl, st⟩ := lt_of dq
  refine gn ⟨?_, ?_⟩
  · show ((σ.set j none).set j (some (V.ref t))).set j none = σ.set j none
    rw [List.set_set, List.set_set]
  · refine ⟨V.ref t, ?_, .inr (.inl ⟨t, _, 0, .str q.1, rfl, rfl, Same.sqt g7.fh st, rfl, kY _ F7 H7 (Gr.refl g7.fh) (.str _)⟩)⟩
    show ((σ.set j none).set j (some (V.ref t)))[j]? = _
    rw [List.set_set, List.getElem?_set_self hj]
theorem col1 {σ : L2.St} {F H : Hp} {l : Addr} {xs : List V} {ls : List Lt} {j : Nat} {te : TE} (ha : Vl te σ H (.ref l)) (hq : Sq K H l xs) (s : Same F H) (hd : DpAll K F xs (ls.map ltD)) (hn : ls.length ≤ sizeLine) (hj : j < σ.length) :
    Vp (tLc (iSq K te) (gName j) tYes (tOp (rIx K) (tVar j) (tC (.int 1))) [j]) σ F H fun v F2 => Lp K F2 v ((ls.map (·.2)).map .int) := by
  rw [show (ls.map (·.2)).map PyData.int = ls.map fun q => .int q.2 by rw [List.map_map]; rfl]
  refine vl_lcVM (K := K) (as := ls) (D := ltD) (fun q => .int q.2) ha hq s hd hn ?_
  intro i q x F7 H7 Y e1 g7 dq kY
  obtain ⟨t, rfl, st⟩ := lt_of dq
  refine gn ⟨?_, ?_⟩
  · show ((σ.set j none).set j (some (V.ref t))).set j none = σ.set j none
    rw [List.set_set, List.set_set]
  · refine ⟨V.ref t, ?_, .inr (.inl ⟨t, _, 1, .int q.2, rfl, rfl, Same.sqt g7.fh st, rfl, kY _ F7 H7 (Gr.refl g7.fh) (.int _)⟩)⟩
    show ((σ.set j none).set j (some (V.ref t)))[j]? = _
    rw [List.set_set, List.getElem?_set_self hj]
theorem dpAll_set {F : Hp} {d : PyData} {v : V} : ∀ {xs : List V} {ds : List PyData} {i : Nat}, DpAll K F xs ds → Dp K F v d → DpAll K F (xs.set i v) (ds.set i d)
  | _, _, _, .nil, _ => .nil
  | _, _, 0, .cons _ t, h => .cons h t
  | _, _, i + 1, .cons h1 t, h => .cons h1 (dpAll_set t h)
theorem ok_alpha (T : Txt K mg) : Has P w K mg b0 CX0 4 (He.ga K "_law_alphabet") ["pool"] (spAlpha K) := by
  refine T.h__law_alphabet fun fd F => F.ok sc__law_alphabet (fun vs H Q E h => ?_) (fun cdv A outer s H vs Q E hr h => ?_)
  · obtain ⟨_, _, rfl, _⟩ := h; rfl
  · obtain ⟨F0, p, rfl, s0, pl, k⟩ := h
    have S := sc__law_alphabet
    have bk : ∀ {scope : Scope}, blkC n__law_alphabet (defScope s__law_alphabet) scope [("row", 9)] = true → BlkOk n__law_alphabet (defScope s__law_alphabet) scope [("row", 9)] := fun h => blkOk_by h
    refine ⟨_, pss_cons (ps_set (i := 1) S.nd rfl (Or.inl rfl) (pe_lst pa_nil))
      (pss_cons (ps_set (i := 2) S.nd rfl (Or.inl rfl) (pc (E := E0) (ok_draw T) T.g__law_draw hr noX (pa_cons (pv 0) (pa_cons pe_int pa_nil))))
      (pss_cons (ps_set (i := 3) S.nd rfl (Or.inl rfl) (pe_ix ix_seq (pe_lst (pa_cons (pe_lst (pa_cons pe_int (pa_cons pe_int (pa_cons pe_int pa_nil)))) (pa_cons (pe_lst (pa_cons pe_int (pa_cons pe_int (pa_cons pe_int pa_nil)))) (pa_cons (pe_lst (pa_cons pe_int (pa_cons pe_int (pa_cons pe_int pa_nil)))) (pa_cons (pe_lst (pa_cons pe_int (pa_cons pe_int (pa_cons pe_int pa_nil)))) pa_nil))))) (pv 2) (fun _ _ => rfl)))
      (pss_cons (ps_set (i := 4) S.nd rfl (Or.inl rfl) (pc (E := E0) (ok_pick T) T.g__law_pick hr noX (pa_cons (pv 0) (pa_cons (pe_lst (pa_cons pe_int (pa_cons pe_int (pa_cons pe_int (pa_cons pe_int pa_nil))))) pa_nil))))
      (pss_cons (ps_for PassesOwn.never rfl (pi_range1 rfl T.n_range (pa_cons (pe_op op_add pe_int (pc (E := E0) (ok_draw T) T.g__law_draw hr noX (pa_cons (pv 0) (pa_cons (pv 4) pa_nil)))) pa_nil)) (pg_name (i := 5) S.nd rfl (Or.inl rfl))
        (pss_cons (ps_set (i := 6) S.nd rfl (Or.inl rfl) (pc (E := E0) (ok_called T) T.g__law_called hr noX (pa_cons (pv 0) (pa_cons (pe_lc (own := [("row", 9)]) (g := gName 9) (te := tOp (rIx K) (tVar 9) (tC (.int 0))) rfl S.nd (pi_sq (pv 1)) (bk (by decide +kernel)) (fun _ _ _ _ _ => pg_name (i := 9) S.nd rfl (Or.inl rfl)) (fun _ _ _ _ _ => pts_nil) (fun _ _ _ _ _ => pe_ix ix_seq (pv 9) pe_int (fun _ _ => rfl))) pa_nil))))
        (pss_cons (ps_set (i := 7) S.nd rfl (Or.inl rfl) (pc (E := E0) (ok_pick T) T.g__law_pick hr noX (pa_cons (pv 0) (pa_cons (pv 3) pa_nil))))
        (pss_one (ps_if (pt_cmpR op_notIn_seq (pv 6) (pe_lc (own := [("row", 9)]) (g := gName 9) (te := tOp (rIx K) (tVar 9) (tC (.int 0))) rfl S.nd (pi_sq (pv 1)) (bk (by decide +kernel)) (fun _ _ _ _ _ => pg_name (i := 9) S.nd rfl (Or.inl rfl)) (fun _ _ _ _ _ => pts_nil) (fun _ _ _ _ _ => pe_ix ix_seq (pv 9) pe_int (fun _ _ => rfl))) rfl)
          (pss_one (ps_expr (pe_bm PySem.F.plainAttrs_list PySem.F.slot_list_append PySem.F.type_list_append mt_append (pv 1) (pa_cons (pe_tup (pa_cons (pv 6) (pa_cons (pv 7) pa_nil))) pa_nil)))) pss_nil)))))
      (pss_cons (ps_set (i := 8) S.nd rfl (Or.inl rfl) (pc (E := E0) (ok_draw T) T.g__law_draw hr noX (pa_cons (pv 0) (pa_cons (pe_callB call_len_seq rfl T.n_len PySem.boot_len (pa_cons (pv 1) pa_nil)) pa_nil))))
      (pss_cons (ps_if (pt_cmpR op_notIn_seq pe_int (pe_lc (own := [("row", 9)]) (g := gName 9) (te := tOp (rIx K) (tVar 9) (tC (.int 1))) rfl S.nd (pi_sq (pv 1)) (bk (by decide +kernel)) (fun _ _ _ _ _ => pg_name (i := 9) S.nd rfl (Or.inl rfl)) (fun _ _ _ _ _ => pts_nil) (fun _ _ _ _ _ => pe_ix ix_seq (pv 9) pe_int (fun _ _ => rfl))) rfl)
        (pss_one (ps_asg (pe_tup (pa_cons (pe_ix ix_seq (pe_ix ix_seq (pv 1) (pv 8) (fun _ _ => rfl)) pe_int (fun _ _ => rfl)) (pa_cons pe_int pa_nil))) (pg_sub (pv 1) (pv 8) set_list))) pss_nil)
      (pss_one (ps_ret (pv 1))))))))), ?_⟩
    refine at_ (σ' := [some (V.ref p), none, none, none, none, none, none, none, none, none]) rfl ?_
    refine sq (asg ⟨Nat.zero_le _, fun l nl => ?_⟩)
    refine at_ (σ' := [some (V.ref p), some (V.ref l), none, none, none, none, none, none, none, none]) rfl ?_
    have pnl : p ≠ l := fun z => by
      obtain ⟨ns, e, _⟩ := pl
      rw [z, nl] at e; cases e
    have x0 : Gr [] F0 H F0 (upd H l (.lst [])) := (Gr.refl s0).own nl
    have pl0 : Pl p F0 (upd H l (.lst [])) := pl.off pnl
    have lP : l ∉ [p] := fun z => pnl (List.mem_singleton.mp z).symm
    refine sq (asg (draw_ rfl pl0 x0.fh (vg_int x0.fh) (by decide) (by decide) fun sh F1 H1 hs g1 pl1 => ?_))
    refine at_ (σ' := [some (V.ref p), some (V.ref l), some (V.int (sh : Nat)), none, none, none, none, none, none, none]) rfl ?_
    have hsh : sh < menuD.length := by show sh < 4; omega
    have four : 4 ≤ sizeLine := by decide
    refine sq (asgP (vg_ixL (K := K) (F := F1) (ds := menuD) (n := sh) (vg_lst (lg_cons (ints3 g1.fh) fun _ _ g => lg_cons (ints3 g.fh) fun _ _ g => lg_cons (ints3 g.fh) fun _ _ g => lg_one g.fh (ints3 g.fh)) four) (fun F2 H2 g2 => vp_var g2.fh rfl (.int _)) (List.getElem?_eq_getElem hsh)) fun mv F2 H2 g2 dm => ?_)
    refine at_ (σ' := [some (V.ref p), some (V.ref l), some (V.int (sh : Nat)), some mv, none, none, none, none, none, none]) rfl ?_
    obtain ⟨ms, em, mne, mok, mlen⟩ : ∃ ms : List PyData, menuD[sh] = .list ms ∧ ms ≠ [] ∧ (∀ d ∈ ms, ∃ a : Int, d = .int a ∧ arOk a = true) ∧ ms.length < 1000000 := by
      match sh, hsh with
      | 0, _ => exact ⟨_, rfl, (fun z => nomatch z), (fun d hd => by simp only [List.mem_cons, List.mem_nil_iff, or_false] at hd; rcases hd with rfl | rfl | rfl <;> exact ⟨_, rfl, rfl⟩), by decide⟩
      | 1, _ => exact ⟨_, rfl, (fun z => nomatch z), (fun d hd => by simp only [List.mem_cons, List.mem_nil_iff, or_false] at hd; rcases hd with rfl | rfl | rfl <;> exact ⟨_, rfl, rfl⟩), by decide⟩
      | 2, _ => exact ⟨_, rfl, (fun z => nomatch z), (fun d hd => by simp only [List.mem_cons, List.mem_nil_iff, or_false] at hd; rcases hd with rfl | rfl | rfl <;> exact ⟨_, rfl, rfl⟩), by decide⟩
      | 3, _ => exact ⟨_, rfl, (fun z => nomatch z), (fun d hd => by simp only [List.mem_cons, List.mem_nil_iff, or_false] at hd; rcases hd with rfl | rfl | rfl <;> exact ⟨_, rfl, rfl⟩), by decide⟩
      | n + 4, h => exact absurd h (by show ¬ n + 4 < 4; omega)
    rw [em] at dm
    have pl2 := pl1.on g2
    refine sq (asg ⟨_, rfl, (vg_lst (K := K) (F := F2) (ds := [.int 4, .int 4, .int 4, .int 12]) (lg_cons (vg_int g2.fh) fun _ _ g => lg_cons (vg_int g.fh) fun _ _ g => lg_cons (vg_int g.fh) fun _ _ g => lg_one g.fh (vg_int g.fh)) four) _ fun fv F3 H3 g3 df => ⟨F3, p, fv, _, rfl, g3.fh, pl2.on g3, df, (fun z => nomatch z), by decide, fun u d F4 H4 hd du g4 pl4 => ?_⟩⟩)
    obtain ⟨M, rfl, m0, m1⟩ : ∃ M : Nat, d = .int (M : Nat) ∧ 0 < M ∧ M ≤ 12 := by
      simp only [List.mem_cons, List.mem_nil_iff, or_false] at hd
      rcases hd with rfl | rfl | rfl | rfl
      · exact ⟨4, rfl, by decide, by decide⟩
      · exact ⟨4, rfl, by decide, by decide⟩
      · exact ⟨4, rfl, by decide, by decide⟩
      · exact ⟨12, rfl, by decide, by decide⟩
    cases du
    refine at_ (σ' := [some (V.ref p), some (V.ref l), some (V.int (sh : Nat)), some mv, some (V.int (M : Nat)), none, none, none, none, none]) rfl ?_
    have el0 : upd H l (.lst []) l = some (.lst []) := upd_same
    have el1 := g1.hh l _ lP el0
    have el2 := g2.hh l _ (fun z => nomatch z) el1
    have el3 := g3.hh l _ (fun z => nomatch z) el2
    have el4 := g4.hh l _ lP el3
    have fl4 : F4 l = none := g4.offF el3 (g3.offF el2 (g2.offF el1 (g1.offF el0 (s0.free nl))))
    have g04 : Gr [p] F0 H F4 H4 := ((x0.zero.trans g1).trans (g2.zero.trans g3.zero)).trans g4
    refine sq (draw_ (Q := fun x H1 => _) rfl pl4 g4.fh (vp_var g4.fh rfl (.int _)) (by omega) (by omega) fun n F5 H5 hn g5 pl5 => ?_)
    refine ⟨1, (n : Nat), rfl, rfl, ?_⟩
    dsimp only
    rw [show (1 : Int) + ((n : Nat) : Int) = ((n + 1 : Nat) : Int) by omega]
    have el5 := g5.hh l _ lP el4
    have fl5 := g5.offF el4 fl4
    have g05 := g04.trans g5
    have dm5 : Dp K F5 mv (.list ms) := Dp.mono (((g3.zero (M := [p])).trans g4).trans g5).ff dm
    refine forR (Bk := fun _ _ => False) (Ct := fun _ _ => False) (n := n + 1) (ta := fun _ H Q => Q [.int ((n + 1 : Nat) : Int)] H) (fun Q q => q) (by omega) (fun i σ' H' => ∃ (F' : Hp) (ls : List Lt) (xs : List V) (v5 v6 v7 : Option V), Gr [p] F0 H F' H' ∧ Pl p F' H' ∧ H' l = some (.lst xs) ∧ F' l = none ∧ DpAll K F' xs (ls.map ltD) ∧ Same F5 F' ∧
        (∀ q ∈ ls, isName q.1 = true ∧ arOk q.2 = true) ∧ (nms ls).Nodup ∧ ls.length ≤ i ∧ (0 < i → ls ≠ []) ∧ σ' = [some (V.ref p), some (V.ref l), some (V.int (sh : Nat)), some mv, some (V.int (M : Nat)), v5, v6, v7, none, none])
      ⟨F5, [], [], none, none, none, g05, pl5, el5, fl5, .nil, Same.refl F5, (fun q hq => nomatch hq), List.nodup_nil, Nat.le_refl _, (fun z => absurd z (Nat.lt_irrefl 0)), rfl⟩ ?_ ?_
    · rintro i σ' H' hi ⟨F', ls, xs, v5, v6, v7, g, plx, el, fl, dp, sm, hok, hnd, hll, hne, rfl⟩
      have lsz : ls.length ≤ sizeLine := Nat.le_trans (show ls.length ≤ 1000 by omega) (by decide)
      refine gn (at_ (σ' := [some (V.ref p), some (V.ref l), some (V.int (sh : Nat)), some mv, some (V.int (M : Nat)), some (V.int (i : Nat)), v6, v7, none, none]) rfl ?_)
      refine sq (asg ⟨_, rfl, (col0 (K := K) (F := F') (j := 9) (vl_var rfl) (.inl (Evl.sq_of el)) g.fh dp lsz (by exact (show 9 < 10 by decide))) _ fun nv F6 H6 g6 p6 => ⟨F6, p, nv, nms ls, rfl, g6.fh, plx.on g6, p6.dp, ?_, ?_, fun x F7 H7 hx g7 pl7 => ?_⟩⟩)
      · intro x hx
        obtain ⟨q, hq, rfl⟩ := List.mem_map.mp hx
        exact (hok q hq).1
      · show (ls.map _).length < 1000
        rw [List.length_map]; omega
      have el7 := g7.hh l _ lP (g6.hh l _ (fun z => nomatch z) el)
      have fl7 := g7.offF (g6.hh l _ (fun z => nomatch z) el) (g6.offF el fl)
      have g07 := (g.trans g6.zero).trans g7
      have s7 : Same F' F7 := g6.ff.trans g7.ff
      dsimp only
      refine at_ (σ' := [some (V.ref p), some (V.ref l), some (V.int (sh : Nat)), some mv, some (V.int (M : Nat)), some (V.int (i : Nat)), some (V.str x), v7, none, none]) rfl ?_
      refine sq (asg ⟨_, rfl, _, rfl, F7, p, mv, ms, rfl, g07.fh, pl7, Dp.mono (sm.trans s7) dm5, mne, mlen, fun u d F8 H8 hd8 du g8 pl8 => ?_⟩)
      obtain ⟨a, rfl, ha⟩ := mok d hd8
      cases du
      have el8 := g8.hh l _ lP el7
      have fl8 := g8.offF el7 fl7
      have g08 := g07.trans g8
      have s8 : Same F' F8 := s7.trans g8.ff
      refine at_ (σ' := [some (V.ref p), some (V.ref l), some (V.int (sh : Nat)), some mv, some (V.int (M : Nat)), some (V.int (i : Nat)), some (V.str x), some (V.int a), none, none]) rfl ?_
      refine if_ag1 (F := F8) (b := !decide (x ∈ nms ls)) (ag_test (K := K) (vg_cong (vg_inStrs (neg := true) (xs := nms ls) (vp_var g08.fh rfl (.str _)) fun F9 H9 g9 => vp_imp (col0 (K := K) (F := F9) (j := 9) (vl_var rfl) (.inl (Evl.sq_of (g9.hh l _ (fun z => nomatch z) el8))) g9.fh (DpAll.mono (s8.trans g9.ff) dp) lsz (show 9 < 10 by decide)) fun _ _ _ _ p => sq_strsL p.dp) rfl)) (fun e F9 H9 g9 => ?_) (fun e F9 H9 g9 => ?_)
      · have new : x ∉ nms ls := fun z => by rw [decide_eq_true z] at e; cases e
        have el9 := g9.hh l _ (fun z => nomatch z) el8
        refine ⟨_, rfl, .inl ⟨rfl, _, Evl.sq_of el9⟩, ?_⟩
        refine (vg_tup (K := K) (F := F9) (ds := [.str x, .int a]) (lg_cons (vp_var g9.fh rfl (.str _)) fun _ _ g => lg_one g.fh (vp_var g.fh rfl (.int _))) (show 2 ≤ sizeLine by decide)) _ fun v FA HA gA dv => ?_
        have elA := gA.hh l _ (fun z => nomatch z) el9
        have flA := gA.offF el9 (g9.offF el8 fl8)
        have g0A := (g08.trans g9.zero).trans gA.zero
        have xl : xs.length = ls.length := lts_len dp
        refine ⟨l, xs, v, rfl, rfl, elA, Nat.lt_of_lt_of_le (show xs.length < 1001 by omega) (by decide), FA, ls ++ [(x, a)], xs ++ [v], _, _, _, g0A.put (o := .lst (xs ++ [v])) flA (.inr nl), ((pl8.on g9).on gA).off pnl, upd_same, flA, ?_, sm.trans ((s8.trans g9.ff).trans gA.ff), ?_, ?_, ?_, ?_, rfl⟩
        · rw [List.map_append]; exact (DpAll.mono ((s8.trans g9.ff).trans gA.ff) dp).snoc dv
        · intro q hq
          rcases List.mem_append.mp hq with hq | hq
          · exact hok q hq
          · rw [List.mem_singleton.mp hq]; exact ⟨hx, ha⟩
        · rw [show nms (ls ++ [(x, a)]) = nms ls ++ [x] from List.map_append]
          exact List.nodup_append.mpr ⟨hnd, by simp, fun y hy z hz => by rw [List.mem_singleton.mp hz]; exact fun e => new (e ▸ hy)⟩
        · rw [List.length_append]; exact Nat.succ_le_succ hll
        · intro _ z
          have := congrArg List.length z
          rw [List.length_append] at this; simp at this
      · have old : x ∈ nms ls := by
          have := notT (b := decide (x ∈ nms ls))
          exact of_decide_eq_true (notF e)
        refine ⟨F9, ls, xs, _, _, _, g08.trans g9.zero, pl8.on g9, g9.hh l _ (fun z => nomatch z) el8, g9.offF el8 fl8, DpAll.mono (s8.trans g9.ff) dp, sm.trans (s8.trans g9.ff), hok, hnd, Nat.le_succ_of_le hll, fun _ z => ?_, rfl⟩
        rw [z] at old; cases old
    · rintro σ' H' ⟨F', ls, xs, v5, v6, v7, g, plx, el, fl, dp, sm, hok, hnd, hll, hne, rfl⟩
      have lsz : ls.length ≤ sizeLine := Nat.le_trans (show ls.length ≤ 1000 by omega) (by decide)
      have ne := hne (by omega)
      have l12 : ls.length ≤ 12 := by omega
      have pos : 0 < ls.length := List.length_pos_iff.mpr ne
      have xl : xs.length = ls.length := lts_len dp
      refine sq (asg (draw_ (K := K) (F := F') rfl plx g.fh (m := (ls.length : Nat)) (fun Q q => ⟨_, rfl, l, xs, rfl, .inl (Evl.sq_of el), by rw [xl]; exact q _ F' H' (Gr.refl g.fh) (.int _)⟩) (by omega) (by omega) fun at1 F6 H6 ha6 g6 pl6 => ?_))
      have g06 := g.trans g6
      have el6 := g6.hh l _ lP el
      have fl6 := g6.offF el fl
      have dp6 := DpAll.mono g6.ff dp
      refine at_ (σ' := [some (V.ref p), some (V.ref l), some (V.int (sh : Nat)), some mv, some (V.int (M : Nat)), v5, v6, v7, some (V.int (at1 : Nat)), none]) rfl ?_
      refine sq (if_ag1 (F := F6) (b := !hasC ls) (ag_test (K := K) (vg_cong (vg_inInts (neg := true) (xs := ls.map (·.2)) (vg_int g06.fh) fun F9 H9 g9 => vp_imp (col1 (K := K) (F := F9) (j := 9) (vl_var rfl) (.inl (Evl.sq_of (g9.hh l _ (fun z => nomatch z) el6))) g9.fh (DpAll.mono g9.ff dp6) lsz (show 9 < 10 by decide)) fun _ _ _ _ p => sq_intsL p.dp) rfl)) (fun e F9 H9 g9 => ?_) (fun e F9 H9 g9 => ?_))
      · have el9 := g9.hh l _ (fun z => nomatch z) el6
        have fl9 := g9.offF el6 fl6
        have dp9 := DpAll.mono g9.ff dp6
        have at2 : at1 < ls.length := by omega
        have ex : xs[at1]? = some xs[at1] := List.getElem?_eq_getElem (by omega)
        obtain ⟨q, t, e1, et, st⟩ := lts_at dp9 ex
        rw [et] at ex
        have g09 := g06.trans g9.zero
        have val : Vg K (tTup (tCons (tOp (rIx K) (tOp (rIx K) (tVar 1) (tVar 8)) (tC (.int 0))) (tCons (tC (.int 0)) tNil))) [some (V.ref p), some (V.ref l), some (V.int (sh : Nat)), some mv, some (V.int (M : Nat)), v5, v6, v7, some (V.int (at1 : Nat)), none] F9 H9 (.tuple [.str q.1, .int 0]) :=
          vg_tup (lg_cons (fun Q qq => ⟨_, rfl, _, rfl, .inl ⟨l, xs, _, .ref t, rfl, rfl, Evl.sq_of el9, atI_nat ex, .inr (.inl ⟨t, _, 0, .str q.1, rfl, rfl, Same.sqt g09.fh st, rfl, qq _ F9 H9 (Gr.refl g09.fh) (.str _)⟩)⟩⟩) fun _ _ g => lg_one g.fh (vg_int g.fh)) (show 2 ≤ sizeLine by decide)
        refine asgG (val _ fun v FA HA gA dv => ?_)
        have elA := gA.hh l _ (fun z => nomatch z) el9
        have flA := gA.offF el9 fl9
        have gg := ((g09.trans gA.zero).put (o := .lst (xs.set at1 v)) flA (.inr nl))
        refine ⟨_, rfl, _, rfl, l, xs, _, at1, rfl, rfl, elA, by unfold ixN; rw [if_pos (by omega), if_pos (by omega)]; rfl, ?_⟩
        refine retV (vl_var rfl) ?_
        have hs2 : ∀ r ∈ ls.set at1 (q.1, 0), isName r.1 = true ∧ arOk r.2 = true := fun r hr => by
          rcases List.mem_or_eq_of_mem_set hr with hr | rfl
          · exact hok r hr
          · exact ⟨(hok q (List.mem_of_getElem? e1)).1, rfl⟩
        have nm2 : nms (ls.set at1 (q.1, 0)) = nms ls := by
          show (ls.set at1 (q.1, 0)).map _ = _
          rw [List.map_set]
          have : (nms ls)[at1]? = some q.1 := by show (ls.map _)[at1]? = _; rw [List.getElem?_map, e1]; rfl
          obtain ⟨h9, e9⟩ := List.getElem?_eq_some_iff.mp this
          rw [← e9]; exact List.set_getElem_self h9
        have v2 : verdict (ls.set at1 (q.1, 0)) = none := verdict_ok hs2 (by rw [nm2]; exact hnd) (by rw [List.length_set]; exact l12) (by
          unfold hasC
          refine decide_eq_true (List.mem_map.mpr ⟨(q.1, 0), ?_, rfl⟩)
          exact List.mem_of_getElem? (i := at1) (by rw [List.getElem?_set_self at2]))
        refine k _ _ _ _ v2 (fun z => by have := congrArg List.length z; rw [List.length_set] at this; simp at this; exact ne this) (by rw [List.length_set]; exact l12) ?_ (gg.still upd_same nl flA) ?_
        · refine ⟨l, xs.set at1 v, rfl, upd_same, ?_⟩
          rw [List.map_set]
          exact DpAll.mono (Evl.Ex.new flA) (dpAll_set (DpAll.mono gA.ff dp9) dv)
        · obtain ⟨ns, z1, z2, z3, z4⟩ := ((pl6.on g9).on gA).off (o := .lst (xs.set at1 v)) pnl
          exact ⟨ns, z1, by rw [upd_ne pnl]; exact z2, z3, z4⟩
      · have el9 := g9.hh l _ (fun z => nomatch z) el6
        have fl9 := g9.offF el6 fl6
        have v2 : verdict ls = none := verdict_ok hok hnd l12 (notF e)
        refine retV (vl_var rfl) (k _ ls _ _ v2 ne l12 ?_ ((g06.trans g9.zero).still el9 nl fl9) ?_)
        · exact ⟨l, xs, rfl, upd_same, DpAll.mono (g9.ff.trans (Evl.Ex.new fl9)) dp6⟩
        · obtain ⟨ns, z1, z2, z3, z4⟩ := pl6.on g9
          exact ⟨ns, z1, by rw [upd_ne pnl]; exact z2, z3, z4⟩
end
end K93

set_option Elab.async false
set_option linter.all false
set_option maxRecDepth 100000
set_option maxHeartbeats 4000000
namespace K93
open PySem PySem.Spec PyProof.Rows L2 B TL
theorem asc_app {x y : Str} (h1 : Asc x) (h2 : Asc y) : Asc (x ++ y) := fun c hc => by
  have e : (x ++ y).cps.toList = x.cps.toList ++ y.cps.toList := TL.tl_append x y
  rw [e] at hc
  exact (List.mem_append.mp hc).elim (h1 c) (h2 c)
theorem asc_cut {x : Str} {lo hi : Option Int} (h : Asc x) : Asc (cutS x lo hi) := fun c hc => h c (List.mem_of_mem_drop (List.mem_of_mem_take hc))
theorem find_pl (y : Str) : ∀ (ls : List Lt) (i : Nat), y ∈ nms ls → ∃ (j : Nat) (q : Lt), plOf y i ls = some (i + j) ∧ ls[j]? = some q ∧ q.1 = y ∧ (∀ m : Nat, m < j → ∀ r : Lt, ls[m]? = some r → r.1 ≠ y) ∧ arOf ls y = some q.2
  | [], _, h => by cases h
  | p :: r, i, h => by
    by_cases e : p.1 = y
    · exact ⟨0, p, by unfold plOf; rw [if_pos e]; rfl, rfl, e, fun m hm => absurd hm (Nat.not_lt_zero m), by simp [arOf, e]⟩
    · have h' : y ∈ nms r := by
        rcases List.mem_cons.mp (show y ∈ p.1 :: nms r from h) with h | h
        · exact absurd h.symm e
        · exact h
      obtain ⟨j, q, h1, h2, h3, h4, h5⟩ := find_pl y r (i + 1) h'
      refine ⟨j + 1, q, by unfold plOf; rw [if_neg e, h1]; congr 1; omega, h2, h3, fun m hm t ht => ?_, ?_⟩
      · cases m with
        | zero => simp at ht; subst ht; exact e
        | succ m => exact h4 m (by omega) t ht
      · rw [← h5]; simp [arOf, e]
theorem none_pl (y : Str) : ∀ (ls : List Lt) (i : Nat), y ∉ nms ls → plOf y i ls = none ∧ arOf ls y = none
  | [], _, _ => ⟨rfl, rfl⟩
  | p :: r, i, h => by
    have e : ¬ p.1 = y := fun z => h (by rw [← z]; exact List.mem_cons_self)
    have ih := none_pl y r (i + 1) fun z => h (List.mem_cons_of_mem _ z)
    exact ⟨by unfold plOf; rw [if_neg e]; exact ih.1, by have := ih.2; simp [arOf, e] at this ⊢; exact this⟩
theorem fine_told {n : Int} (h : n.natAbs < 10 ^ 30) : Fine 60 1000 (.tuple [.str "told", .int n]) := (fine_tup (ds := [.str "told", .int n]) (n := 0) (k := 200) (m := 2) (by
  intro d hd
  rcases List.mem_cons.mp hd with rfl | hd
  · exact (fine_str (l := 4) (by unfold Asc; decide +kernel) (by decide +kernel)).mono (Nat.le_refl _) (by decide)
  · rw [List.mem_singleton.mp hd]; exact (fine_int h).mono (Nat.le_refl _) (by decide)) (Nat.le_refl 2)).mono (by decide) (by decide)
theorem fine_ref {d : PyData} {k : Nat} (h : Fine 50 k d) (hk : k ≤ 10000) : Fine 60 40000 (refD d) := (fine_tup (ds := [.str "refused", d]) (n := 50) (k := 10000) (m := 2) (by
  intro e he
  rcases List.mem_cons.mp he with rfl | he
  · exact (fine_str (l := 7) (by unfold Asc; decide +kernel) (by decide +kernel)).mono (Nat.zero_le _) (by decide)
  · rw [List.mem_singleton.mp he]; exact h.mono (Nat.le_refl _) hk) (Nat.le_refl 2)).mono (by decide) (by decide)
theorem fine_nl {x : Str} (h : Asc x) (hl : x.length ≤ 100) : Fine 50 5000 (Er.nl x).D := (fine_lst (ds := [.tuple [.str "NoLetter", .str x]]) (n := 1) (k := 2100) (m := 1) (by
  intro e he
  rw [List.mem_singleton.mp he]
  refine (fine_tup (ds := [.str "NoLetter", .str x]) (n := 0) (k := 1002) (m := 2) (by
    intro d hd
    rcases List.mem_cons.mp hd with rfl | hd
    · exact (fine_str (l := 8) (by unfold Asc; decide +kernel) (by decide +kernel)).mono (Nat.le_refl _) (by decide)
    · rw [List.mem_singleton.mp hd]; exact (fine_str h hl).mono (Nat.le_refl _) (by decide)) (Nat.le_refl 2)).mono (Nat.le_refl _) (by decide)) (Nat.le_refl 1)).mono (by decide) (by decide)
theorem arD_fine {ls : List Lt} {y : Str} (f : FineL 8 ls) (h : Asc y) (hl : y.length ≤ 100) : Fine 60 40000 (arD ls y) := by
  unfold arD
  by_cases hy : y ∈ nms ls
  · obtain ⟨j, q, _, e, _, _, h5⟩ := find_pl y ls 0 hy
    rw [h5]
    exact (fine_told (f q (List.mem_of_getElem? e)).2.2).mono (Nat.le_refl _) (by decide)
  · rw [(none_pl y ls 0 hy).2]
    exact fine_ref (fine_nl h hl) (by decide)
theorem plD_fine {ls : List Lt} {y : Str} (l12 : ls.length ≤ 12) (h : Asc y) (hl : y.length ≤ 100) : Fine 60 40000 (plD ls y) := by
  unfold plD
  by_cases hy : y ∈ nms ls
  · obtain ⟨j, q, h1, e, _, _, h5⟩ := find_pl y ls 0 hy
    rw [h1]
    have := (List.getElem?_eq_some_iff.mp e).1
    refine (fine_told ?_).mono (Nat.le_refl _) (by decide)
    have : ((0 + j : Nat) : Int).natAbs = j := by simp
    rw [this]; exact Nat.lt_of_lt_of_le (show j < 12 by omega) (by decide)
  · rw [(none_pl y ls 0 hy).1]
    exact fine_ref (fine_nl h hl) (by decide)
theorem lent_le {n a : Int} (h0 : 0 ≤ n) (h1 : n ≤ 60) : 0 ≤ lent n a ∧ lent n a ≤ 3600 := by
  unfold lent
  split
  · omega
  · split
    · omega
    · have : n * n ≤ 60 * 60 := Int.mul_le_mul h1 h1 h0 (by decide)
      have : 0 ≤ n * n := Int.mul_nonneg h0 h0
      omega
theorem entr_small {n : Int} (h0 : 0 ≤ n) (h1 : n ≤ 60) : ∀ ls : List Lt, 0 ≤ (ls.map fun p => lent n p.2).sum ∧ (ls.map fun p => lent n p.2).sum ≤ 3600 * (ls.length : Int)
  | [] => by simp
  | p :: r => by
    have ih := entr_small h0 h1 r
    have := lent_le (a := p.2) h0 h1
    rw [List.map_cons, List.sum_cons, List.length_cons]
    constructor
    · omega
    · push_cast; omega
section
variable {K : PySem.W.Frag} {te : TE} {tl : TA} {σ : L2.St} {F H : Hp}
theorem vg_same {d : PyData} {k : Nat} (h : Lg K tl σ F H [d, d]) (fi : Fine 60 k d) (hk : k ≤ sizeLine) : Vg K (tCall (spSame K) [] E0 tl) σ F H (.bool true) := vp_call h fun vs F2 H2 Q g p q => by
  cases p with
  | cons p1 p2 => cases p2 with
    | cons p3 p4 => cases p4; exact ⟨F2, _, _, d, k, rfl, g.fh, p1, p3, fi, hk, q _ F2 H2 (Gr.refl g.fh) (.bl _)⟩
theorem vg_sum {ns : List Int} (h : Vp te σ F H fun v F2 => Lp K F2 v (ns.map .int)) : Vg K (tCB (rSum K) (tCons te tNil)) σ F H (.int ns.sum) := fun Q q => h _ fun v F2 H2 g p => by
  obtain ⟨a, xs, rfl, e, dp⟩ := p
  rw [dp.ints_of] at e
  exact ⟨a, ns, rfl, Evl.sq_of (g.fh _ _ e), q _ F2 H2 g (.int _)⟩
theorem vg_askedT {n : Int} {sg th : V} {d : PyData} {i j k : Nat} (s : Same F H) (hi : σ[i]? = some (some (.int n))) (hj : σ[j]? = some (some sg)) (hk : σ[k]? = some (some th)) (ak : Asked K F n sg th d) : Vg K (tCall (spAsked K) [] E0 (tCons (tVar i) (tCons (tVar j) (tCons (tVar k) tNil)))) σ F H d :=
  fun Q q => ⟨_, hi, _, hj, _, hk, F, n, sg, th, d, rfl, s, ak, fun u F2 H2 g du => q u F2 H2 g du⟩
end
/-- the letters of the law: a signature is made of them -/
def spFields (K : PySem.W.Frag) : Sp := fun vs H Q _ => ∃ F p sg v ls, vs = [.ref p, sg, v] ∧ Same F H ∧ Pl p F H ∧ SigAt K F sg ls ∧ Lp K F v (ls.map ltD) ∧ ls ≠ [] ∧ ls.length ≤ 12 ∧ ∀ F' H', Gr [p] F H F' H' → Pl p F' H' → Q (.bl true) H'
section
variable {P : Program} {w : World} {K : PySem.W.Frag} {mg : Str → Option Value} {b0 : Heap}
theorem ok_fields (T : Txt K mg) : HasG P w K mg b0 CX0 9 (He.ga K "_law_fields") ["pool", "sig", "letters"] (spFields K) := by
  refine T.hG__law_fields fun fd F => Fun.okG F sc__law_fields (fun vs H Q E h => ?_) (fun cdv A g outer s H vs Q E hr h => ?_)
  · obtain ⟨_, _, _, _, _, rfl, _⟩ := h; rfl
  · obtain ⟨F0, p, sg, v, ls, rfl, s0, pl, sv, lv, ne, l12, k⟩ := h
    have S := sc__law_fields
    have bk : ∀ {scope : Scope}, blkC n__law_fields (defScope s__law_fields) scope [("row", 10)] = true → BlkOk n__law_fields (defScope s__law_fields) scope [("row", 10)] := fun h => blkOk_by h
    refine ⟨_, pss_cons (ps_setLc (i := 3) (own := [("row", 10)]) (g := gName 10) (te := tOp (rIx K) (tVar 10) (tC (.int 0))) rfl S.nd rfl rfl rfl (pi_sq (pv 2)) (bk (by decide +kernel)) (fun _ _ _ _ _ => pg_name (i := 10) S.nd rfl (Or.inl rfl)) (fun _ _ _ _ _ => pts_nil) (fun _ _ _ _ _ => pe_ix ix_seq (pv 10) pe_int (fun _ _ => rfl)))
      (pss_cons (ps_for PassesOwn.never rfl (pi_sq (pe_lst (pa_cons pe_int (pa_cons pe_int (pa_cons pe_int (pa_cons pe_int (pa_cons (pe_op op_add pe_int (pc (E := E0) (ok_draw T) T.g__law_draw hr noX (pa_cons (pv 0) (pa_cons pe_int pa_nil)))) pa_nil))))))) (pg_name (i := 4) S.nd rfl (Or.inr rfl))
        (pss_cons (ps_set (i := 5) S.nd rfl (Or.inl rfl) (pe_op op_sub (pe_callB (cr_sum rfl) rfl T.n_sum (by decide +kernel) (pa_cons (pe_lc (own := [("row", 10)]) (g := gName 10) (te := tOp (rIx K) (tLst (tCons (tC (.int 1)) (tCons (tVar 4) (tCons (tOp (rI CMul fun i j => .int (i * j)) (tVar 4) (tVar 4)) tNil)))) (tOp (rIx K) (tVar 10) (tC (.int 1)))) rfl S.nd (pi_sq (pv 2)) (bk (by decide +kernel)) (fun _ _ _ _ _ => pg_name (i := 10) S.nd rfl (Or.inl rfl)) (fun _ _ _ _ _ => pts_nil)
            (fun _ _ _ _ _ => pe_ix ix_seq (pe_lst (pa_cons pe_int (pa_cons (pv 4) (pa_cons (pe_op op_mul (pv 4) (pv 4)) pa_nil)))) (pe_ix ix_seq (pv 10) pe_int (fun _ _ => rfl)) (fun _ _ => rfl))) pa_nil)) pe_int))
        (pss_one (ps_if (pt_not (pt_val (pcG (E := E0) (ok_same T) T.g__law_same g hr noX (pa_cons (pmtS (E := fun _ => E0) (pv 1) T.cl_Signature T.m_Signature_entries (ok_entries T) hr (fun _ => noXA) (pa_cons (pv 4) pa_nil)) (pa_cons (pv 5) pa_nil))))) (pss_one (ps_ret pe_bl)) pss_nil))))
      (pss_cons (ps_set (i := 6) S.nd rfl (Or.inl rfl) (pc (E := E0) (ok_called T) T.g__law_called hr noX (pa_cons (pv 0) (pa_cons (pv 3) pa_nil))))
      (pss_cons (ps_for PassesOwn.never rfl (pi_sq (pe_op op_cat (pv 3) (pe_lst (pa_cons (pv 6) (pa_cons (pe_slice sl_str (pe_ix ix_seq (pv 3) pe_int (fun _ _ => rfl)) (po_some pe_int) po_none) (pa_cons (pe_op op_add_str (pe_ix ix_seq (pv 3) (pe_un un_neg pe_int) (fun _ _ => rfl)) pe_str) (pa_cons pe_str (pa_cons pe_str (pa_cons pe_str pa_nil))))))))) (pg_name (i := 7) S.nd rfl (Or.inl rfl))
        (pss_cons (ps_set (i := 5) S.nd rfl (Or.inl rfl) (pe_op op_rep (pe_lst (pa_cons (pe_tup (pa_cons pe_str (pa_cons (pe_lst (pa_cons (pe_tup (pa_cons pe_str (pa_cons (pv 7) pa_nil))) pa_nil)) pa_nil))) pa_nil)) pe_int))
        (Evl.pss_cut (ps_if (pt_cmpR op_in_seq (pv 7) (pv 3) rfl) (pss_cons (ps_set (i := 8) S.nd rfl (Or.inl rfl) (pe_bm PySem.F.plainAttrs_list PySem.F.slot_list_index PySem.F.type_list_index mt_index (pv 3) (pa_cons (pv 7) pa_nil)))
            (pss_one (ps_set (i := 5) S.nd rfl (Or.inl rfl) (pe_lst (pa_cons (pe_tup (pa_cons pe_str (pa_cons (pe_ix ix_seq (pe_ix ix_seq (pv 2) (pv 8) (fun _ _ => rfl)) pe_int (fun _ _ => rfl)) pa_nil))) (pa_cons (pe_tup (pa_cons pe_str (pa_cons (pv 8) pa_nil))) pa_nil)))))) pss_nil)
        (pss_one (ps_for PassesOwn.never rfl (pi_sq (pe_lst (pa_cons pe_int (pa_cons pe_int pa_nil)))) (pg_name (i := 9) S.nd rfl (Or.inl rfl)) (pss_one (ps_if (pt_not (pt_val (pcG (E := E0) (ok_same T) T.g__law_same g hr noX (pa_cons (pc (E := E0) (ok_asked T) T.g__law_asked hr noX (pa_cons (pv 9) (pa_cons (pv 1) (pa_cons (pv 7) pa_nil)))) (pa_cons (pe_ix ix_seq (pv 5) (pe_op op_sub (pv 9) pe_int) (fun _ _ => rfl)) pa_nil))))) (pss_one (ps_ret pe_bl)) pss_nil)))))))
      (pss_one (ps_ret (pe_and (pe_not (pe_cmpR (op_eqO T.eq_Signature (ok_eq T) (hr.mono (by decide : 1 ≤ 8))) (pv 1) (pe_callTy call_tuple_of rfl T.n_tuple (by decide +kernel) (pa_cons (pv 2) pa_nil)) rfl)) (pe_and (pe_not (pe_cmpR (op_eqO T.eq_Signature (ok_eq T) (hr.mono (by decide : 1 ≤ 8))) (pv 1) pe_int rfl)) (pe_one (pe_cmpR (op_neO T.eq_Signature (ok_eq T) (hr.mono (by decide : 2 ≤ 8))) (pv 1) (pe_callTy call_list_of rfl T.n_list (by decide +kernel) (pa_cons (pv 2) pa_nil)) rfl))))))))), ?_⟩
    obtain ⟨l, xs, rfl, el, dp⟩ := id lv
    obtain ⟨a, dx, fs, rfl, hx, ⟨t, nn, ar, pp, ys, rfl, h1, h2, h3, h4, h5⟩, hv, ok⟩ := id sv
    have fine := verdict_fine hv
    have lsz : ls.length ≤ sizeLine := Nat.le_trans ok.1 (by decide)
    have bok := badAt_none (verdict_bad hv)
    refine at_ (σ' := [some (V.ref p), some (V.ref a), some (V.ref l), none, none, none, none, none, none, none, none]) rfl ?_
    refine sq (asgP (col0 (K := K) (j := 10) (vl_var rfl) (.inl (Evl.sq_of (s0 _ _ el))) s0 dp lsz (show 10 < 11 by decide)) fun nv F1 H1 g1 pn => ?_)
    refine at_ (σ' := [some (V.ref p), some (V.ref a), some (V.ref l), some nv, none, none, none, none, none, none, none]) rfl ?_
    have pl1 := pl.on g1
    -- the sizes
    refine sq (draw_ (Q := fun x H1 => _) rfl pl1 g1.fh (vg_int g1.fh) (by decide) (by decide) fun r F2 H2 hr2 g2 pl2 => ?_)
    refine ⟨1, (r : Nat), rfl, rfl, ?_⟩
    dsimp only
    have g02 := g1.zero.trans g2
    refine forD (Bk := fun _ _ => False) (Ct := fun _ _ => False) [] (F := F2) (te := tLst (fun _ H Q => Q [.int 1, .int 2, .int 59, .int 60, .int (1 + (r : Nat))] H)) (as := ([1, 2, 59, 60, 1 + ((r : Nat) : Int)] : List Int)) (D := PyData.int)
      (vp_imp (vl_lst (K := K) (ds := ([1, 2, 59, 60, 1 + ((r : Nat) : Int)] : List Int).map .int) (fun Q q => q _ F2 H2 (Gr.refl g02.fh) (DpAll.ints ([1, 2, 59, 60, 1 + ((r : Nat) : Int)] : List Int))) (show 5 ≤ sizeLine by decide)) fun _ _ _ _ p => p.qp)
      (fun i σ' F' H' => ∃ v4 v5, σ' = [some (V.ref p), some (V.ref a), some (V.ref l), some nv, v4, v5, none, none, none, none, none]) (fun F3 H3 g3 => ⟨none, none, rfl⟩) ?_ ?_
    · rintro i n u F3 H3 σ' F' H' g3 ex y ⟨v4, v5, rfl⟩ dn
      cases dn
      have g := (g02.trans g3.zero).trans y.zero
      have nb : 0 ≤ n ∧ n ≤ 60 := by
        have := List.mem_of_getElem? ex
        simp only [List.mem_cons, List.mem_nil_iff, or_false] at this
        rcases this with rfl | rfl | rfl | rfl | rfl <;> omega
      have dpg := DpAll.mono g.ff dp
      refine gn (at_ (σ' := [some (V.ref p), some (V.ref a), some (V.ref l), some nv, some (V.int n), v5, none, none, none, none, none]) rfl ?_)
      have due : Vg K (tOp (rI0 fun i j => .int (i - j)) (tCB (rSum K) (tCons (tLc (iSq K (tVar 2)) (gName 10) tYes (tOp (rIx K) (tLst (tCons (tC (.int 1)) (tCons (tVar 4) (tCons (tOp (rI CMul fun i j => .int (i * j)) (tVar 4) (tVar 4)) tNil)))) (tOp (rIx K) (tVar 10) (tC (.int 1)))) [10]) tNil)) (tC (.int 1))) [some (V.ref p), some (V.ref a), some (V.ref l), some nv, some (V.int n), v5, none, none, none, none, none] F' H' (.int (entr ls n)) := by
        refine vg_I0 (g := fun i j => i - j) (vg_sum (ns := ls.map fun q => lent n q.2) ?_) (fun F4 H4 g4 => vg_int g4.fh)
        rw [show (ls.map fun q => lent n q.2).map PyData.int = ls.map fun q => .int (lent n q.2) by rw [List.map_map]; rfl]
        refine vl_lcM (K := K) (as := ls) (D := ltD) (fun q => .int (lent n q.2)) (vp_var y.fh rfl ⟨l, xs, rfl, .inl (Evl.sq_of (g.ff _ _ el)), dpg⟩) lsz ?_
        intro j q x F7 H7 Y e1 g7 dq kY
        obtain ⟨tt, rfl, st⟩ := lt_of dq
        refine gn ⟨rfl, ?_⟩
        have ha := of_decide_eq_true (bok q (List.mem_of_getElem? e1)).2
        have idx : Ev F7 H7 fun F8 H8 => Vg K (tOp (rIx K) (tVar 10) (tC (.int 1))) [some (V.ref p), some (V.ref a), some (V.ref l), some nv, some (V.int n), v5, none, none, none, none, some (V.ref tt)] F8 H8 (.int q.2) := fun F8 H8 g8 Q qq => ⟨_, rfl, .inr (.inl ⟨tt, _, 1, .int q.2, rfl, rfl, Same.sqt (g8.ff.trans g8.fh) st, rfl, qq _ F8 H8 (Gr.refl g8.fh) (.int _)⟩)⟩
        have lst : Vg K (tLst (tCons (tC (.int 1)) (tCons (tVar 4) (tCons (tOp (rI CMul fun i j => .int (i * j)) (tVar 4) (tVar 4)) tNil)))) [some (V.ref p), some (V.ref a), some (V.ref l), some nv, some (V.int n), v5, none, none, none, none, some (V.ref tt)] F7 H7 (.list [.int 1, .int n, .int (n * n)]) :=
          vg_lst (lg_cons (vg_int g7.fh) fun _ _ g8 => lg_cons (vp_var g8.fh rfl (.int _)) fun _ _ g9 => lg_one g9.fh (vg_I (vp_var g9.fh rfl (.int _)) (fun _ _ gA => vp_var gA.fh rfl (.int _)) (.inl ⟨by omega, by omega⟩))) (show 3 ≤ sizeLine by decide)
        simp only [List.mem_cons, List.mem_nil_iff, or_false] at ha
        have pick : ∃ m : Nat, q.2 = (m : Nat) ∧ ([.int 1, .int n, .int (n * n)] : List PyData)[m]? = some (.int (lent n q.2)) := by
          rcases ha with ha | ha | ha
          · exact ⟨0, ha, by rw [ha]; rfl⟩
          · exact ⟨1, ha, by rw [ha]; rfl⟩
          · exact ⟨2, ha, by rw [ha]; rfl⟩
        obtain ⟨m, em, hm⟩ := pick
        rw [em] at idx
        exact (vg_ixL (K := K) (n := m) lst idx hm) Y kY
      refine sq (asgP due fun dv F4 H4 g4 dd => ?_)
      cases dd
      refine at_ (σ' := [some (V.ref p), some (V.ref a), some (V.ref l), some nv, some (V.int n), some (V.int (entr ls n)), none, none, none, none, none]) rfl ?_
      have g04 := g.trans g4.zero
      have es := entr_small nb.1 nb.2 ls
      have esm : (entr ls n).natAbs < 10 ^ 30 := by
        have : (entr ls n).natAbs < 100000 := by unfold entr; omega
        exact Nat.lt_of_lt_of_le this (by decide)
      have ent : Vg K (tMethT (He.ga K "Signature") "entries" (spEntries K) (fun _ => E0) (tVar 1) (tCons (tVar 4) tNil)) [some (V.ref p), some (V.ref a), some (V.ref l), some nv, some (V.int n), some (V.int (entr ls n)), none, none, none, none, none] F4 H4 (.int (entr ls n)) := fun Q q =>
        ⟨_, rfl, a, dx, _, rfl, g04.fh _ _ (g04.ff _ _ hx), rfl, _, rfl, F4, _, ls, n, rfl, g04.fh, sv.mono g04.ff, nb.1, by omega, fun F5 H5 g5 => q _ F5 H5 g5 (.int _)⟩
      refine if_ag1 (F := F4) (b := !true) (ag_not (ag_val (K := K) (vg_same (k := 31) (lg_cons ent fun F5 H5 g5 => lg_one g5.fh (vp_var g5.fh rfl (.int _))) ((fine_int esm).mono (by decide) (Nat.le_refl _)) (by decide)))) (fun e => by cases e) fun _ F5 H5 g5 => ?_
      exact ⟨F5, (y.trans g4).trans g5, _, _, rfl⟩
    · rintro F3 H3 σ' F' H' g3 y ⟨v4, v5, rfl⟩
      have g := (g02.trans g3.zero).trans y.zero
      have plg := (pl2.on g3).on y
      have pn2 := Lp.mono ((g2.ff.trans g3.ff).trans y.ff) pn
      have nmOk : ∀ x ∈ nms ls, isName x = true := fun x hx => by
        obtain ⟨q, hq, rfl⟩ := List.mem_map.mp hx
        exact (bok q hq).1
      have nml : (nms ls).length = ls.length := List.length_map ..
      refine ⟨_, rfl, _, rfl, F', p, nv, nms ls, rfl, g.fh, plg, pn2.dp, nmOk, by omega, fun x F6 H6 hxn g6 pl6 => ?_⟩
      dsimp only
      refine at_ (σ' := [some (V.ref p), some (V.ref a), some (V.ref l), some nv, v4, v5, some (V.str x), none, none, none, none]) rfl ?_
      have g06 := g.trans g6
      have pn6 := Lp.mono g6.ff pn2
      have pos : 0 < (nms ls).length := by rw [nml]; exact List.length_pos_iff.mpr ne
      obtain ⟨n0, hn0⟩ : ∃ n0, (nms ls)[0]? = some n0 := ⟨_, List.getElem?_eq_getElem pos⟩
      obtain ⟨nz, hnz⟩ : ∃ nz, (nms ls)[(nms ls).length - 1]? = some nz := ⟨_, List.getElem?_eq_getElem (by omega)⟩
      have short : ∀ {y : Str}, isName y = true → Asc y ∧ y.length ≤ 8 := fun h => name_asc h
      have f0 := short (nmOk n0 (List.mem_of_getElem? hn0))
      have fz := short (nmOk nz (List.mem_of_getElem? hnz))
      have fx := short hxn
      have aq : Asc ("q" : Str) := by unfold Asc; decide +kernel
      have lq : ("q" : Str).length = 1 := by decide +kernel
      let more : List Str := [x, cutS n0 (some 1) none, nz ++ ("q" : Str), "Q", "start", ""]
      have ten : 10 ≤ sizeLine := by decide
      have moreV : ∀ {F7 H7 : Hp}, Gr [] F6 H6 F7 H7 → Vp (tLst (tCons (tVar 6) (tCons (tSl rSlS (tOp (rIx K) (tVar 3) (tC (.int 0))) (tPart (tC (.int 1))) tNoPart) (tCons (tOp (fun x y H Q => ∃ i j, x = .str i ∧ y = .str j ∧ i.length + j.length ≤ sizeLine ∧ Q (.str (i ++ j)) H) (tOp (rIx K) (tVar 3) (tUn (rU fun i => .int (-i)) (tC (.int 1)))) (tC (.str "q"))) (tCons (tC (.str "Q")) (tCons (tC (.str "start")) (tCons (tC (.str "")) tNil)))))))
          [some (V.ref p), some (V.ref a), some (V.ref l), some nv, v4, v5, some (V.str x), none, none, none, none] F7 H7 fun v F8 => Lp K F8 v (more.map .str) := by
        intro F7 H7 g7
        obtain ⟨na, nx, rfl, en, dn⟩ := Lp.mono g7.ff pn6
        have en' : nx = (nms ls).map V.str := dn.strs_of
        subst en'
        refine vl_lst (lg_cons (vp_var (g06.trans g7.zero).fh rfl (.str _)) fun F8 H8 g8 => lg_cons (fun Q q => ⟨_, rfl, .inl ⟨na, _, 0, .str n0, rfl, rfl, Evl.sq_of (g8.fh _ _ (g8.ff _ _ en)), atI_nat (j := 0) (show ((nms ls).map V.str)[0]? = some (V.str n0) by rw [List.getElem?_map, hn0]; rfl), _, rfl, n0, rfl, Nat.le_trans f0.2 (by decide), q _ F8 H8 (Gr.refl g8.fh) (.str _)⟩⟩) fun F9 H9 g9 => lg_cons (fun Q q => ⟨_, rfl, _, rfl, .inl ⟨na, _, -1, .str nz, rfl, rfl, Evl.sq_of ((g8.trans g9).fh _ _ ((g8.trans g9).ff _ _ en)), ?_, nz, "q", rfl, rfl, Nat.le_trans (show nz.length + ("q" : Str).length ≤ 9 by rw [lq]; omega) (by decide), q _ F9 H9 (Gr.refl g9.fh) (.str _)⟩⟩)
          fun FA HA gA => lg_cons (vg_str gA.fh) fun FB HB gB => lg_cons (vg_str gB.fh) fun FC HC gC => lg_one gC.fh (vg_str gC.fh)) (show 6 ≤ sizeLine by decide)
        unfold atI ixN
        rw [if_neg (by decide), if_pos (by rw [List.length_map]; omega)]
        show ((nms ls).map V.str)[((-1 : Int) + (((nms ls).map V.str).length : Nat)).toNat]? = some (V.str nz)
        rw [List.length_map, show ((-1 : Int) + ((nms ls).length : Nat)).toNat = (nms ls).length - 1 by omega, List.getElem?_map, hnz]; rfl
      have all : ∀ y ∈ nms ls ++ more, Asc y ∧ y.length ≤ 10 := by
        intro y hy
        rcases List.mem_append.mp hy with hy | hy
        · have := short (nmOk y hy); exact ⟨this.1, by omega⟩
        · simp only [more, List.mem_cons, List.mem_nil_iff, or_false] at hy
          rcases hy with rfl | rfl | rfl | rfl | rfl | rfl
          · exact ⟨fx.1, by omega⟩
          · exact ⟨asc_cut f0.1, Nat.le_trans (cutS_length _ _ _) (by omega)⟩
          · exact ⟨asc_app fz.1 aq, by rw [Str.length_append, lq]; omega⟩
          · exact ⟨by unfold Asc; decide +kernel, by decide +kernel⟩
          · exact ⟨by unfold Asc; decide +kernel, by decide +kernel⟩
          · exact ⟨by unfold Asc; decide +kernel, by decide +kernel⟩
      have src : Vp (tOp rCat (tVar 3) (tLst (tCons (tVar 6) (tCons (tSl rSlS (tOp (rIx K) (tVar 3) (tC (.int 0))) (tPart (tC (.int 1))) tNoPart) (tCons (tOp (fun x y H Q => ∃ i j, x = .str i ∧ y = .str j ∧ i.length + j.length ≤ sizeLine ∧ Q (.str (i ++ j)) H) (tOp (rIx K) (tVar 3) (tUn (rU fun i => .int (-i)) (tC (.int 1)))) (tC (.str "q"))) (tCons (tC (.str "Q")) (tCons (tC (.str "start")) (tCons (tC (.str "")) tNil))))))))
          [some (V.ref p), some (V.ref a), some (V.ref l), some nv, v4, v5, some (V.str x), none, none, none, none] F6 H6 fun v F8 => Lp K F8 v ((nms ls ++ more).map .str) := by
        rw [List.map_append]
        refine vl_catL (vp_var g06.fh rfl pn6) (fun F7 H7 g7 => moreV g7) ?_
        have e5 : ((nms ls).map PyData.str).length = ls.length := by rw [List.length_map, nml]
        rw [e5]
        exact Nat.le_trans (show ls.length + 6 ≤ 18 by omega) (by decide)
      refine sq (forD (Bk := fun _ _ => False) (Ct := fun _ _ => False) [] (as := nms ls ++ more) (D := PyData.str) (vp_imp src fun _ _ _ _ p => p.qp)
        (fun i σ' F' H' => ∃ w4 w5 w7 w8 w9, σ' = [some (V.ref p), some (V.ref a), some (V.ref l), some nv, w4, w5, some (V.str x), w7, w8, w9, none]) (fun F3 H3 g3 => ⟨_, _, _, _, _, rfl⟩) ?_ ?_)
      · rintro i y u F7 H7 σ' F8 H8 g7 ey yy ⟨w4, w5, w7, w8, w9, rfl⟩ dy
        cases dy
        have ay := all y (List.mem_of_getElem? ey)
        have g08 := (g06.trans g7.zero).trans yy.zero
        have pn8 := Lp.mono (g7.ff.trans yy.ff) pn6
        refine gn (at_ (σ' := [some (V.ref p), some (V.ref a), some (V.ref l), some nv, w4, w5, some (V.str x), some (V.str y), w8, w9, none]) rfl ?_)
        have two : 2 ≤ sizeLine := by decide
        have one : 1 ≤ sizeLine := by decide
        have d1 : Vp (tLst (tCons (tTup (tCons (tC (.str "refused")) (tCons (tLst (tCons (tTup (tCons (tC (.str "NoLetter")) (tCons (tVar 7) tNil))) tNil)) tNil))) tNil)) [some (V.ref p), some (V.ref a), some (V.ref l), some nv, w4, w5, some (V.str x), some (V.str y), w8, w9, none] F8 H8 fun v F9 => Lp K F9 v [refD (Er.nl y).D] :=
          vl_lst (lg_one g08.fh (vg_tup (lg_cons (vg_str g08.fh) fun _ _ gA => lg_one gA.fh (vg_lst (lg_one gA.fh (vg_tup (lg_cons (vg_str gA.fh) fun _ _ gB => lg_one gB.fh (vp_var gB.fh rfl (.str _))) two)) one)) two)) one
        refine sq (asg (d1 _ fun dv F9 H9 g9 pd => ?_))
        obtain ⟨da, dxs, rfl, ed, dd⟩ := pd
        obtain ⟨w, rfl, dw⟩ : ∃ w, dxs = [w] ∧ Dp K F9 w (refD (Er.nl y).D) := by
          cases dd with
          | cons q1 q2 => cases q2; exact ⟨_, rfl, q1⟩
        refine ⟨da, 2, [w], rfl, rfl, g9.fh _ _ ed, by decide, by decide, (show 1 * 2 ≤ sizeLine by decide), fun da2 hda => ?_⟩
        have gB := g9.new (o := .lst [w, w]) hda
        have due0 : Lp K (upd F9 da2 (.lst [w, w])) (.ref da2) [refD (Er.nl y).D, refD (Er.nl y).D] := by
          have s9 : Same F9 (upd F9 da2 (.lst [w, w])) := Evl.Ex.new (g9.freshF hda)
          exact ⟨da2, [w, w], rfl, upd_same, .cons (Dp.mono s9 dw) (.cons (Dp.mono s9 dw) .nil)⟩
        dsimp only
        refine at_ (H := upd H9 da2 (.lst [w, w])) (σ' := [some (V.ref p), some (V.ref a), some (V.ref l), some nv, w4, some (V.ref da2), some (V.str x), some (V.str y), w8, w9, none]) rfl ?_
        have g0B := g08.trans gB.zero
        refine ⟨fun σ5 H5 => ∃ F5 v5 v8, Gr [] F8 H8 F5 H5 ∧ Lp K F5 v5 [arD ls y, plD ls y] ∧ σ5 = [some (V.ref p), some (V.ref a), some (V.ref l), some nv, w4, some v5, some (V.str x), some (V.str y), v8, w9, none], ?_, ?_⟩
        · obtain ⟨na, nx, rfl, en, dn⟩ := Lp.mono gB.ff pn8
          have en' : nx = (nms ls).map V.str := dn.strs_of
          subst en'
          refine if_1 (b := decide (y ∈ nms ls)) (an_inS (neg := false) (vl_var rfl) (vl_var rfl) (gB.fh _ _ en)) (fun e => ?_) (fun e => ?_)
          · have hy := of_decide_eq_true e
            obtain ⟨j, q, q1, q2, q3, q4, q5⟩ := find_pl y ls 0 hy
            rw [Nat.zero_add] at q1
            have hj : ((nms ls).map V.str)[j]? = some (V.str y) := by rw [List.getElem?_map, show (nms ls)[j]? = some y by show (ls.map _)[j]? = _; rw [List.getElem?_map, q2, ← q3]; rfl]; rfl
            refine sq (asg ⟨_, rfl, .inl ⟨rfl, _, Evl.sq_of (gB.fh _ _ en)⟩, _, rfl, na, _, .str y, j, .str y, rfl, rfl, Evl.sq_of (gB.fh _ _ en), rfl, flat_strs _, hj, (show (y == y) = true from beq_self_eq_true y), fun m z hm hz => ?_, ?_⟩)
            · rw [List.getElem?_map, Option.map_eq_some_iff] at hz
              obtain ⟨z', hz', rfl⟩ := hz
              obtain ⟨r', hr', rfl⟩ := Option.map_eq_some_iff.mp (show (ls[m]?).map (·.1) = some z' by rw [← List.getElem?_map]; exact hz')
              have := q4 m hm r' hr'
              exact beq_eq_false_iff_ne.mpr this
            · dsimp only
              refine at_ (H := upd H9 da2 (.lst [w, w])) (σ' := [some (V.ref p), some (V.ref a), some (V.ref l), some (V.ref na), w4, some (V.ref da2), some (V.str x), some (V.str y), some (V.int (j : Nat)), w9, none]) rfl ?_
              obtain ⟨w2, e2, dw2⟩ := (DpAll.mono g0B.ff dp).at (i := j) (d := ltD q) (by rw [List.getElem?_map, q2]; rfl)
              obtain ⟨tq, rfl, st⟩ := lt_of dw2
              have d2 : Vp (tLst (tCons (tTup (tCons (tC (.str "told")) (tCons (tOp (rIx K) (tOp (rIx K) (tVar 2) (tVar 8)) (tC (.int 1))) tNil))) (tCons (tTup (tCons (tC (.str "told")) (tCons (tVar 8) tNil))) tNil))) [some (V.ref p), some (V.ref a), some (V.ref l), some (V.ref na), w4, some (V.ref da2), some (V.str x), some (V.str y), some (V.int (j : Nat)), w9, none] (upd F9 da2 (.lst [w, w])) (upd H9 da2 (.lst [w, w])) fun v F9 => Lp K F9 v [.tuple [.str "told", .int q.2], .tuple [.str "told", .int (j : Nat)]] :=
                vl_lst (lg_cons (vg_tup (lg_cons (vg_str g0B.fh) fun FC HC gC => lg_one gC.fh (fun Q qq => ⟨_, rfl, _, rfl, .inl ⟨l, xs, _, .ref tq, rfl, rfl, Evl.sq_of (gC.fh _ _ (gC.ff _ _ (g0B.ff _ _ el))), atI_nat e2, .inr (.inl ⟨tq, _, 1, .int q.2, rfl, rfl, Same.sqt (gC.ff.trans gC.fh) st, rfl, qq _ FC HC (Gr.refl gC.fh) (.int _)⟩)⟩⟩)) two)
                  fun FD HD gD => lg_one gD.fh (vg_tup (lg_cons (vg_str gD.fh) fun _ _ gE => lg_one gE.fh (vp_var gE.fh rfl (.int _))) two)) two
              refine asgP d2 fun v5' FE HE gE pe => ⟨FE, v5', _, gB.trans gE, ?_, rfl⟩
              unfold arD plD
              rw [q5, q1]; exact pe
          · have hy : y ∉ nms ls := of_decide_eq_false e
            have nn := none_pl y ls 0 hy
            refine ⟨_, _, _, gB, ?_, rfl⟩
            unfold arD plD
            rw [nn.1, nn.2]; exact due0
        · rintro σ5 H5 ⟨F5, v5', v8', gB5, pd5, rfl⟩
          have g05 := g08.trans gB5.zero
          refine forD (Bk := fun _ _ => False) (Ct := fun _ _ => False) [] (F := F5) (as := ([4, 5] : List Int)) (D := PyData.int) (vp_imp (vl_lst (K := K) (ds := ([4, 5] : List Int).map .int) (lg_cons (vg_int g05.fh) fun _ _ gC => lg_one gC.fh (vg_int gC.fh)) two) fun _ _ _ _ p => p.qp)
            (fun i σ' F' H' => ∃ w9, σ' = [some (V.ref p), some (V.ref a), some (V.ref l), some nv, w4, some v5', some (V.str x), some (V.str y), v8', w9, none]) (fun F3 H3 g3 => ⟨_, rfl⟩) ?_ ?_
          · rintro i k4 u F6' H6' σ' FC HC g6' ek yk ⟨w9', rfl⟩ dk
            cases dk
            have g0C := (g05.trans g6'.zero).trans yk.zero
            refine gn (at_ (σ' := [some (V.ref p), some (V.ref a), some (V.ref l), some nv, w4, some v5', some (V.str x), some (V.str y), v8', some (V.int k4), none]) rfl ?_)
            have hk : k4 = 4 ∨ k4 = 5 := by
              have := List.mem_of_getElem? ek
              simpa using this
            have svC := sv.mono g0C.ff
            have pdC := Lp.mono (g6'.ff.trans yk.ff) pd5
            have fin : ∀ (d : PyData) (m : Nat), Asked K FC k4 (.ref a) (.str y) d → Fine 60 40000 d → k4 - 4 = (m : Nat) → ([arD ls y, plD ls y] : List PyData)[m]? = some d → Ag (tNot (tB (tCall (spSame K) [] E0 (tCons (tCall (spAsked K) [] E0 (tCons (tVar 9) (tCons (tVar 1) (tCons (tVar 7) tNil)))) (tCons (tOp (rIx K) (tVar 5) (tOp (rI0 fun i j => .int (i - j)) (tVar 9) (tC (.int 4)))) tNil)))))
                [some (V.ref p), some (V.ref a), some (V.ref l), some nv, w4, some v5', some (V.str x), some (V.str y), v8', some (V.int k4), none] FC HC (!true) := fun d m ak fi em hm =>
              ag_not (ag_val (K := K) (vg_same (k := 40000) (lg_cons (vg_askedT g0C.fh rfl rfl rfl ak) fun FD HD gD => lg_one gD.fh (vg_ixL (n := m) (vp_var gD.fh rfl (Lp.mono gD.ff pdC).dp) (fun FE HE gE => by rw [← em]; exact vg_I0 (g := fun i j => i - j) (vp_var gE.fh rfl (.int _)) fun _ _ gF => vg_int gF.fh) hm)) fi (by decide)))
            have go : Ag (tNot (tB (tCall (spSame K) [] E0 (tCons (tCall (spAsked K) [] E0 (tCons (tVar 9) (tCons (tVar 1) (tCons (tVar 7) tNil)))) (tCons (tOp (rIx K) (tVar 5) (tOp (rI0 fun i j => .int (i - j)) (tVar 9) (tC (.int 4)))) tNil)))))
                [some (V.ref p), some (V.ref a), some (V.ref l), some nv, w4, some v5', some (V.str x), some (V.str y), v8', some (V.int k4), none] FC HC (!true) := by
              rcases hk with rfl | rfl
              · exact fin _ 0 (.ar svC) (arD_fine fine ay.1 (by omega)) rfl rfl
              · exact fin _ 1 (.pl svC) (plD_fine l12 ay.1 (by omega)) rfl rfl
            exact if_ag1 go (fun e => by cases e) fun _ FD HD gD => ⟨FD, yk.trans gD, _, rfl⟩
          · rintro F6' H6' σ' FC HC g6' yk ⟨w9', rfl⟩
            exact ⟨FC, ((yy.trans gB5).trans g6').trans yk, _, _, _, _, _, rfl⟩
      · rintro F7 H7 σ' F8 H8 g7 yy ⟨w4, w5, w7, w8, w9, rfl⟩
        have g08 := (g06.trans g7.zero).trans yy.zero
        have pl8 := (pl6.on g7).on yy
        refine at_ (σ' := [some (V.ref p), some (V.ref a), some (V.ref l), some nv, w4, w5, some (V.str x), w7, w8, w9, none]) rfl ?_
        refine B.ret ⟨_, rfl, (vt_tuple (K := K) (F := F8) (vp_var (P := fun v F => Lp K F v (ls.map ltD)) g08.fh rfl (Lp.mono g08.ff lv))) _ fun v1 F9 H9 g9 p9 => ?_⟩
        obtain ⟨t1, xs1, rfl, e1, d1⟩ := p9
        have g09 := g08.trans g9.zero
        refine ⟨a, dx, _, .type "tuple", rfl, g09.fh _ _ (g09.ff _ _ hx), .base (.tup (g9.fh _ _ e1)), T.nf_Signature_tuple, F9, .ref a, .ref t1, ls, rfl, g9.fh, sv.mono g09.ff, .inr ⟨.type "tuple", .base (.tup (g9.fh _ _ e1)), T.tyk_tuple_Signature, fun FA HA gA => ⟨false, rfl, false, rfl, true, rfl, ?_⟩⟩⟩
        rw [if_pos rfl]
        have g0A := g09.trans gA.zero
        refine ⟨_, rfl, a, dx, _, .type "int", rfl, g0A.fh _ _ (g0A.ff _ _ hx), .base (.int 7), T.nf_Signature_int, FA, .ref a, .int 7, ls, rfl, gA.fh, sv.mono g0A.ff, .inr ⟨.type "int", .base (.int 7), T.tyk_int_Signature, fun FB HB gB => ⟨false, rfl, false, rfl, true, rfl, ?_⟩⟩⟩
        rw [if_pos rfl]
        have g0B := g0A.trans gB.zero
        refine ⟨_, rfl, (vl_listOf (K := K) (F := FB) (vp_var (P := fun v F => Qp K F v (ls.map ltD)) g0B.fh rfl (Lp.mono g0B.ff lv).qp)) _ fun v2 FC HC gC pC => ?_⟩
        obtain ⟨t2, xs2, rfl, e2, d2⟩ := pC
        have g0C := g0B.trans gC.zero
        refine ⟨a, dx, _, .type "list", rfl, g0C.fh _ _ (g0C.ff _ _ hx), .base (.lst (gC.fh _ _ e2)), T.nf_Signature_list, FC, .ref a, .ref t2, ls, rfl, gC.fh, sv.mono g0C.ff, .inr ⟨.type "list", .base (.lst (gC.fh _ _ e2)), T.tyk_list_Signature, fun FD HD gD => ⟨false, rfl, ?_⟩⟩⟩
        exact k FD HD (g0C.trans gD.zero) ((((pl8.on g9).on gA).on gB |>.on gC).on gD)
end
end K93

set_option Elab.async false
set_option linter.all false
set_option maxRecDepth 100000
set_option maxHeartbeats 4000000
namespace K93
open PySem PySem.Spec PyProof.Rows L2 B TL
def spTold (K : PySem.W.Frag) : Sp := fun vs H Q _ => ∃ F x, vs = [.str x] ∧ Same F H ∧ x.length ≤ 900 ∧ ∀ u F' H', Gr [] F H F' H' → Dp K F' u (readD x) → Q u H'
section
variable {P : Program} {w : World} {K : PySem.W.Frag} {mg : Str → Option Value} {b0 : Heap}
theorem vg_bad {σ : L2.St} {F H : Hp} (s : Same F H) : Vg K (tTup (tCons (tC (.str "refused")) (tCons (tLst (tCons (tTup (tCons (tC (.str "BadText")) (tCons (tC (.int 0)) tNil))) tNil)) tNil))) σ F H (refD (errD "BadText" 0)) :=
  vg_tup (lg_cons (vg_str s) fun _ _ g => lg_one g.fh (vg_err (n := 0) g.fh fun _ _ g => vg_int g.fh)) (show 2 ≤ sizeLine by decide)
theorem ok_told (T : Txt K mg) : Has P w K mg b0 CX0 4 (He.ga K "_law_letters_told") ["text"] (spTold K) := by
  refine T.h__law_letters_told fun fd F => F.ok sc__law_letters_told (fun vs H Q E h => ?_) (fun cdv A outer s H vs Q E hr h => ?_)
  · obtain ⟨_, _, rfl, _⟩ := h; rfl
  · obtain ⟨F0, text, rfl, s0, tlen, k⟩ := h
    have S := sc__law_letters_told
    refine ⟨_, pss_cons (ps_set (i := 1) S.nd rfl (Or.inl rfl) (pe_lst pa_nil))
      (pss_cons (ps_for PassesOwn.never rfl (pi_sq (pe_split (pv 0) pe_str)) (pg_name (i := 2) S.nd rfl (Or.inl rfl))
        (pss_cons (ps_set (i := 3) S.nd rfl (Or.inl rfl) (pe_split (pv 2) pe_str))
        (pss_cons (ps_if (PW.pt (pw_or (pt_cmpR op_ne (pe_callB call_len_seq rfl T.n_len PySem.boot_len (pa_cons (pv 3) pa_nil)) pe_int rfl) (pw_or1 (pt_cmpR op_notIn_seq (pe_ix ix_seq (pv 3) pe_int (fun _ _ => rfl)) (pe_lst (pa_cons pe_str (pa_cons pe_str (pa_cons pe_str pa_nil)))) rfl))))
          (pss_one (ps_ret (pe_tup (pa_cons pe_str (pa_cons (pe_lst (pa_cons (pe_tup (pa_cons pe_str (pa_cons pe_int pa_nil))) pa_nil)) pa_nil))))) pss_nil)
        (pss_one (ps_expr (pe_bm PySem.F.plainAttrs_list PySem.F.slot_list_append PySem.F.type_list_append mt_append (pv 1) (pa_cons (pe_tup (pa_cons (pe_ix ix_seq (pv 3) pe_int (fun _ _ => rfl)) (pa_cons (pe_callTy call_int_str rfl T.n_int (by decide +kernel) (pa_cons (pe_ix ix_seq (pv 3) pe_int (fun _ _ => rfl)) pa_nil)) pa_nil))) pa_nil)))))))
      (pss_cons (ps_if (pt_cmpR (op_neD hr.un64) (pc (E := E0) (ok_fault T) T.g__law_fault hr noX (pa_cons (pv 1) pa_nil)) (pe_lst pa_nil) rfl) (pss_one (ps_ret (pe_tup (pa_cons pe_str (pa_cons (pe_lst (pa_cons (pe_tup (pa_cons pe_str (pa_cons pe_int pa_nil))) pa_nil)) pa_nil))))) pss_nil)
      (pss_one (ps_ret (pc (E := E0) (ok_facing T) T.g__law_facing hr noX (pa_cons (pv 1) pa_nil)))))), ?_⟩
    refine at_ (σ' := [some (V.str text), none, none, none]) rfl ?_
    refine sq (asg ⟨Nat.zero_le _, fun l nl => ?_⟩)
    refine at_ (σ' := [some (V.str text), some (V.ref l), none, none]) rfl ?_
    have x0 : Gr [] F0 H F0 (upd H l (.lst [])) := (Gr.refl s0).own nl
    have wl := words_len text
    have only : ∀ b ∈ [l], H b = none := fun b hb => by rw [List.mem_singleton.mp hb]; exact nl
    have memL : l ∈ [l] := List.mem_singleton.mpr rfl
    have two : 2 ≤ sizeLine := by decide
    refine sq (forD [l] (as := Txt.split text " ") (D := PyData.str) (vp_imp (vl_split (K := K) (x := text) (y := " ") (vp_var x0.fh rfl (.str _)) (fun F2 H2 g2 => vg_str g2.fh) rfl (Nat.le_trans (show text.length + 2 ≤ 902 by omega) (by decide))) fun v F2 H2 g p => p.qp)
      (fun i σ' F' H' => ∃ (acc : List Lt) (xs : List V), H' l = some (.lst xs) ∧ DpAll K F' xs (acc.map ltD) ∧ F' l = none ∧ acc.length = i ∧ (∀ p ∈ acc, p.1.length ≤ 900) ∧ readL text = readG acc ((Txt.split text " ").drop i) ∧ ∃ v2 v3, σ' = [some (V.str text), some (V.ref l), v2, v3])
      (fun F1 H1 g1 => ⟨[], [], g1.hh l _ (fun z => nomatch z) upd_same, .nil, g1.offF upd_same (s0.free nl), rfl, (fun p hp => nomatch hp), rfl, none, none, rfl⟩) ?_ ?_)
    · rintro i x u F1 H1 σ' F' H' g1 ex y ⟨acc, xs, el, dp, fl, al, ap, hr2, v2, v3, rfl⟩ dx
      cases dx
      have g := ((x0.trans g1).zero.trans y).less only
      have hmem : x ∈ Txt.split text " " := List.mem_of_getElem? ex
      have hlen : i < (Txt.split text " ").length := (List.getElem?_eq_some_iff.mp ex).1
      have xlen := word_len hmem
      refine gn (at_ (σ' := [some (V.str text), some (V.ref l), some (V.str x), v3]) rfl ?_)
      refine sq (asgP (vl_split (K := K) (F := F') (x := x) (y := "/") (vp_var y.fh rfl (.str _)) (fun F2 H2 g2 => vg_str g2.fh) rfl (Nat.le_trans (show x.length + 2 ≤ 902 by omega) (by decide))) fun cv F2 H2 g2 pc => ?_)
      refine at_ (σ' := [some (V.str text), some (V.ref l), some (V.str x), some cv]) rfl ?_
      have el2 := g2.hh l _ (fun z => nomatch z) el
      have fl2 := g2.offF el fl
      have cr := cut_read x
      unfold cutW at cr
      generalize hp : Txt.split x "/" = parts at pc cr
      have bad : ∀ F3 H3, Gr [] F2 H2 F3 H3 → readW x = none → (tRet (tTup (tCons (tC (.str "refused")) (tCons (tLst (tCons (tTup (tCons (tC (.str "BadText")) (tCons (tC (.int 0)) tNil))) tNil)) tNil)))) ⟨fun _ _ => False, Q, fun _ _ => False, fun _ _ => False⟩ [some (V.str text), some (V.ref l), some (V.str x), some cv] H3 := fun F3 H3 g3 e4 =>
        retP (vg_bad (K := K) g3.fh) fun u F4 H4 g4 du => k u F4 H4 (((g.trans g2).trans g3).trans g4) (by
          have hn : readL text = none := by rw [hr2, drop_cons ex, readG, e4]
          unfold readD; rw [hn]; exact du)
      have ln : ∀ {F3 H3 : Hp}, Gr [] F2 H2 F3 H3 → Vg K (tCB (fun xs H Q => ∃ p ys, xs = [.ref p] ∧ (SqL K H p ys ∨ SqT K H p ys) ∧ Q (.int ys.length) H) (tCons (tVar 3) tNil)) [some (V.str text), some (V.ref l), some (V.str x), some cv] F3 H3 (.int (parts.length : Nat)) := fun g3 => by
        have := vg_lenL (K := K) (ds := parts.map PyData.str) (te := tVar 3) (σ := [some (V.str text), some (V.ref l), some (V.str x), some cv]) (vp_var g3.fh rfl (Lp.mono g3.ff pc).dp)
        rw [List.length_map] at this; exact this
      have it : ∀ {F3 H3 : Hp} {j : Nat} {z : Str}, Gr [] F2 H2 F3 H3 → parts[j]? = some z → Vg K (tOp (rIx K) (tVar 3) (tC (.int (j : Nat)))) [some (V.str text), some (V.ref l), some (V.str x), some cv] F3 H3 (.str z) := fun g3 hz => vg_ixL (vp_var g3.fh rfl (Lp.mono g3.ff pc).dp) (fun _ _ g => vg_int g.fh) (by rw [List.getElem?_map, hz]; rfl)
      have neq : Vg K (tOp rNe (tCB (fun xs H Q => ∃ p ys, xs = [.ref p] ∧ (SqL K H p ys ∨ SqT K H p ys) ∧ Q (.int ys.length) H) (tCons (tVar 3) tNil)) (tC (.int 2))) [some (V.str text), some (V.ref l), some (V.str x), some cv] F2 H2 (.bool (!decide ((parts.length : Int) = 2))) :=
        vg_op (ln (Gr.refl (g.trans g2).fh)) (fun _ _ g3 => vg_int g3.fh) fun a b F3 H3 Q g3 pa pb kk => by
          cases pa; cases pb
          refine ⟨rfl, ?_⟩
          have e : decide (V.int ((parts.length : Nat) : Int) = V.int 2) = decide (((parts.length : Nat) : Int) = 2) := decide_eq_decide.mpr ⟨fun z => V.int.inj z, fun z => by rw [z]⟩
          rw [e]
          exact kk _ F3 H3 (Gr.refl g3.fh) (.bl _)
      by_cases two' : ∃ a b, parts = [a, b]
      · obtain ⟨a, b, rfl⟩ := two'
        have cr : ((arityOf b).map fun n => (a, n)) = readW x := cr
        refine sq (if_ag1 (F := F2) (b := false || !decide (b ∈ (["0", "1", "2"] : List Str))) (ag_or (ag_test neq) fun _ F3 H3 g3 => ag_test (K := K) (vg_cong (vg_inStrs (neg := true) (xs := ["0", "1", "2"]) (it (j := 1) g3 rfl) fun F5 H5 g5 => vp_imp (vg_lst (lg_cons (vg_str g5.fh) fun _ _ g6 => lg_cons (vg_str g6.fh) fun _ _ g7 => lg_one g7.fh (vg_str g7.fh)) (show 3 ≤ sizeLine by decide)) fun _ _ _ _ p => sq_strsL p) rfl)) (fun e F3 H3 g3 => ?_) (fun e F3 H3 g3 => ?_))
        · have e3 : arityOf b = none := by
            have : (arityOf b).isSome = false := by rw [arityOf_in]; exact notT e
            simpa using this
          exact bad F3 H3 g3 (by rw [← cr, e3]; rfl)
        · have e3 : (arityOf b).isSome = true := by rw [arityOf_in]; exact notF e
          obtain ⟨n, hn⟩ := Option.isSome_iff_exists.mp e3
          have hw : readW x = some (a, n) := by rw [← cr, hn]; rfl
          have hi := arityOf_int hn
          have el3 := g3.hh l _ (fun z => nomatch z) el2
          have fl3 := g3.offF el2 fl2
          refine ⟨_, rfl, .inl ⟨rfl, _, Evl.sq_of el3⟩, ?_⟩
          have gg := (g.trans g2).trans g3
          refine (vg_tup (K := K) (F := F3) (ds := [.str a, .int n]) (lg_cons (it (j := 0) g3 rfl) fun F4 H4 g4 => lg_one g4.fh (fun Q q => cb1 ((it (j := 1) (g3.trans g4) rfl) _ fun v F5 H5 g5 dv => by cases dv; exact ⟨b, n, rfl, hi.1, hi.2, q _ F5 H5 g5 (.int n)⟩))) two) _ fun v F6 H6 g6 dv => ?_
          have el6 := g6.hh l _ (fun z => nomatch z) el3
          have fl6 := g6.offF el3 fl3
          have y6 := (((y.trans g2.zero).trans g3.zero).trans g6.zero).put (o := .lst (xs ++ [v])) fl6 (.inl memL)
          have xl : xs.length = acc.length := lts_len dp
          refine ⟨l, xs, v, rfl, rfl, el6, Nat.lt_of_lt_of_le (show xs.length < 903 by omega) (by decide), F6, y6, acc ++ [(a, n)], xs ++ [v], upd_same, ?_, fl6, by rw [List.length_append]; exact congrArg (· + 1) al, ?_, ?_, _, _, rfl⟩
          · rw [List.map_append]; exact (DpAll.mono ((g2.trans g3).trans g6).ff dp).snoc dv
          · intro p hp
            rcases List.mem_append.mp hp with hp | hp
            · exact ap p hp
            · rw [List.mem_singleton.mp hp]
              have := readW_len hw
              exact Nat.le_trans this (by omega)
          · rw [hr2, drop_cons ex, readG, hw]
      · have e4 : readW x = none := by
          rw [← cr]
          match parts, two' with
          | [], _ => rfl
          | [_], _ => rfl
          | [a, b], h => exact absurd ⟨a, b, rfl⟩ h
          | _ :: _ :: _ :: _, _ => rfl
        have ne2 : ¬ (parts.length : Int) = 2 := fun z => by
          match parts, two', z with
          | [], _, z => simp at z
          | [_], _, z => simp at z
          | [a, b], h, _ => exact h ⟨a, b, rfl⟩
          | _ :: _ :: _ :: _, _, z => simp at z; omega
        refine sq (if_ag1 (F := F2) (b := !decide ((parts.length : Int) = 2) || true) (ag_or (ag_test neq) fun z => ?_) (fun e F3 H3 g3 => bad F3 H3 g3 e4) (fun e F3 H3 g3 => by simp at e))
        rw [decide_eq_false ne2] at z
        cases z
    · rintro F1 H1 σ' F' H' g1 y ⟨acc, xs, el, dp, fl, al, ap, hr2, v2, v3, rfl⟩
      have g := ((x0.trans g1).zero.trans y).less only
      have hl : readL text = some acc := by rw [hr2, List.drop_length]; rfl
      have ok : OkLs acc := ⟨by omega, fun p hp => Nat.le_trans (ap p hp) (by decide)⟩
      have g' := g.still el nl fl
      have dl : Dp K (upd F' l (.lst xs)) (.ref l) (.list (acc.map ltD)) := Dp.newL upd_same (DpAll.mono (Evl.Ex.new fl) dp)
      have same' : Same (upd F' l (.lst xs)) H' := g'.fh
      refine sq (if_ag1 (F := upd F' l (.lst xs)) (b := !(verdict acc).isNone) (ag_test (K := K) (vg_cong (vg_neD (vg_fault (vp_var same' rfl dl) ok) (fun F2 H2 g2 => vg_lst (lg_nil g2.fh) (Nat.zero_le _)) (fault_shaped acc) rfl) (by rw [eqv_nil]))) ?_ ?_)
      · intro e F2 H2 g2
        refine retP (vg_bad (K := K) g2.fh) fun u F3 H3 g3 du => k u F3 H3 ((g'.trans g2).trans g3) ?_
        unfold readD
        rw [hl]
        show Dp K F3 u (match verdict acc with | none => toldD acc | some _ => refD (errD "BadText" 0))
        cases hz : verdict acc with
        | none => rw [hz] at e; cases e
        | some z => exact du
      · intro e F2 H2 g2
        refine retP (vg_data (K := K) (f := facingD) (ls := acc) (vp_var g2.fh rfl (Dp.mono g2.ff dl)) ok) fun u F3 H3 g3 du => k u F3 H3 ((g'.trans g2).trans g3) ?_
        unfold readD
        rw [hl]
        show Dp K F3 u (match verdict acc with | none => toldD acc | some _ => refD (errD "BadText" 0))
        unfold facingD at du
        cases hz : verdict acc with
        | none => rw [hz] at du; exact du
        | some z => rw [hz] at e; cases e
end
end K93

set_option Elab.async false
set_option linter.all false
set_option maxRecDepth 100000
set_option maxHeartbeats 4000000
namespace B
open PySem PySem.Spec PyProof.Rows L2
theorem noXN {X : Cx} {σ : L2.St} : PassesAt (L2N.CX X.prog X.w) X σ E0 := fun _ _ _ _ _ _ z => by
  obtain ⟨_, _, _, _, _, _, _, q⟩ := z
  exact q.2.2.2.2.2.elim
end B
namespace K93
open PySem PySem.Spec PyProof.Rows L2 B TL
def rowD (r : List Lt) : PyData := .list (r.map ltD)
def RowOk (r : List Lt) : Prop := r.length ≤ 200 ∧ ∀ p ∈ r, p.1.length ≤ 200
theorem RowOk.ok {r : List Lt} (h : RowOk r) : OkLs r := ⟨Nat.le_trans h.1 (by decide), fun p hp => Nat.le_trans (h.2 p hp) (by decide)⟩
theorem RowOk.ns {r : List Lt} (h : RowOk r) : OkNs (nms r) := by
  refine ⟨?_, fun x hx => ?_⟩
  · show (r.map _).length ≤ 900
    rw [List.length_map]; exact Nat.le_trans h.1 (by decide)
  · obtain ⟨p, hp, rfl⟩ := List.mem_map.mp hx
    exact Nat.le_trans (h.2 p hp) (by decide)
def spMade (K : PySem.W.Frag) : Sp := fun vs H Q _ => ∃ (F : Hp) (sg lv rv : V) (ls : List Lt) (rows : List (List Lt)), vs = [sg, lv, rv] ∧ Same F H ∧ SigAt K F sg ls ∧ Dp K F lv (.list (ls.map ltD)) ∧ Dp K F rv (.list (rows.map rowD)) ∧ (∀ r ∈ rows, RowOk r) ∧ ∀ F' H', Gr [] F H F' H' → Q (.bl true) H'
theorem eqL_comm : ∀ a b : List Lt, PyData.eqvAll (a.map ltD) (b.map ltD) = PyData.eqvAll (b.map ltD) (a.map ltD)
  | [], [] => rfl
  | [], _ :: _ => rfl
  | _ :: _, [] => rfl
  | p :: a, q :: b => by
    have ih := eqL_comm a b
    have e : PyData.eqv (ltD p) (ltD q) = PyData.eqv (ltD q) (ltD p) := by
      simp only [ltD, PyData.eqv, PyData.eqvAll]
      rw [show (p.1 == q.1) = (q.1 == p.1) from BEq.comm, show (p.2 == q.2) = (q.2 == p.2) from BEq.comm]
    show (PyData.eqv (ltD p) (ltD q) && _) = (PyData.eqv (ltD q) (ltD p) && _)
    rw [e, ih]
theorem badAt_len : ∀ (ls : List Lt) (seen : List Str) (i : Nat), i ≤ 12 → badAt seen i ls = none → i + ls.length ≤ 12
  | [], _, i, hi, _ => hi
  | p :: r, seen, i, hi, h => by
    rw [badAt] at h
    by_cases e : badL seen i p = true
    · rw [if_pos e] at h; cases h
    · rw [if_neg e] at h
      have ne : ¬ i = 12 := fun z => e (by unfold badL; rw [z]; rfl)
      have := badAt_len r (seen ++ [p.1]) (i + 1) (by omega) h
      rw [List.length_cons]; omega
theorem verdict_len {ls : List Lt} (h : verdict ls = none) : ls.length ≤ 12 := by
  have := badAt_len ls [] 0 (by decide) (verdict_bad h)
  omega
theorem fine_err {c : Str} (hc : Asc c) (hl : c.length ≤ 20) (n : Nat) (hn : n < 100000) : Fine 50 5000 (errD c n) := (fine_lst (ds := [.tuple [.str c, .int (n : Nat)]]) (n := 1) (k := 2100) (m := 1) (by
  intro e he
  rw [List.mem_singleton.mp he]
  refine (fine_tup (ds := [.str c, .int (n : Nat)]) (n := 0) (k := 1002) (m := 2) (by
    intro d hd
    rcases List.mem_cons.mp hd with rfl | hd
    · exact (fine_str hc hl).mono (Nat.le_refl _) (by decide)
    · rw [List.mem_singleton.mp hd]
      have : ((n : Nat) : Int).natAbs < 10 ^ 30 := by
        have e2 : ((n : Nat) : Int).natAbs = n := by simp
        rw [e2]; exact Nat.lt_of_lt_of_le hn (by decide)
      exact (fine_int this).mono (Nat.le_refl _) (by decide)) (Nat.le_refl 2)).mono (Nat.le_refl _) (by decide)) (Nat.le_refl 1)).mono (by decide) (by decide)
theorem fine_toldD {ls : List Lt} (h : verdict ls = none) : Fine 60 60000 (toldD ls) := by
  have f := verdict_fine h
  have l12 := verdict_len h
  have a : Fine 2 4000 (ltT ls) := (fine_tup (m := 12) (lts_fine f) (by rw [List.length_map]; exact l12)).mono (Nat.le_refl _) (by decide)
  have b : Fine 1 4000 (.tuple ((nms ls).map .str)) := (fine_tup (ds := (nms ls).map PyData.str) (n := 0) (k := 82) (m := 12) (by
    intro d hd
    obtain ⟨x, hx, rfl⟩ := List.mem_map.mp hd
    obtain ⟨p, hp, rfl⟩ := List.mem_map.mp hx
    exact (fine_str (f p hp).1 (f p hp).2.1).mono (Nat.le_refl _) (by decide)) (by show ((ls.map _).map _).length ≤ 12; rw [List.length_map, List.length_map]; exact l12)).mono (Nat.le_refl _) (by decide)
  have c : Fine 3 15000 (.tuple [ltT ls, .tuple ((nms ls).map .str), .bool (isWords ls)]) := (fine_tup (ds := [ltT ls, .tuple ((nms ls).map .str), .bool (isWords ls)]) (n := 2) (k := 4000) (m := 3) (by
    intro d hd
    simp only [List.mem_cons, List.mem_nil_iff, or_false] at hd
    rcases hd with rfl | rfl | rfl
    · exact a
    · exact b.mono (by decide) (Nat.le_refl _)
    · exact fine_bool.mono (Nat.zero_le _) (by decide)) (Nat.le_refl 3)).mono (Nat.le_refl _) (by decide)
  exact (fine_tup (ds := [.str "told", .tuple [ltT ls, .tuple ((nms ls).map .str), .bool (isWords ls)]]) (n := 3) (k := 15000) (m := 2) (by
    intro d hd
    rcases List.mem_cons.mp hd with rfl | hd
    · exact (fine_str (l := 4) (by unfold Asc; decide +kernel) (by decide +kernel)).mono (Nat.zero_le _) (by decide)
    · rw [List.mem_singleton.mp hd]; exact c) (Nat.le_refl 2)).mono (by decide) (by decide)
theorem badAt_lt : ∀ (ls : List Lt) (seen : List Str) (i n : Nat), badAt seen i ls = some n → n < i + ls.length
  | [], _, _, _, h => by cases h
  | p :: r, seen, i, n, h => by
    rw [badAt] at h
    by_cases e : badL seen i p = true
    · rw [if_pos e] at h; cases h; rw [List.length_cons]; omega
    · rw [if_neg e] at h
      have := badAt_lt r _ _ n h
      rw [List.length_cons]; omega
theorem asc_bl : Asc ("BadLetter" : Str) := by unfold Asc; decide +kernel
theorem asc_nc : Asc ("NoConstant" : Str) := by unfold Asc; decide +kernel
theorem fine_facing {ls : List Lt} (hl : ls.length ≤ 1000) : Fine 60 60000 (facingD ls) := by
  unfold facingD faultD
  cases h : verdict ls with
  | none => exact fine_toldD h
  | some v => cases v with
    | none => exact (fine_ref (fine_err asc_nc (by decide +kernel) 0 (by decide)) (by decide)).mono (Nat.le_refl _) (by decide)
    | some n =>
      have hn : n < ls.length := by
        unfold verdict at h
        cases hb : badAt [] 0 ls with
        | none => rw [hb] at h; dsimp only at h; split at h <;> cases h
        | some m => rw [hb] at h; cases h; have := badAt_lt ls [] 0 n hb; omega
      exact (fine_ref (fine_err asc_bl (by decide +kernel) n (by omega)) (by decide)).mono (Nat.le_refl _) (by decide)
theorem badW_lt : ∀ (ns : List Str) (seen : List Str) (i n : Nat), badW seen i ns = some n → n < i + ns.length
  | [], _, _, _, h => by cases h
  | p :: r, seen, i, n, h => by
    rw [badW] at h
    by_cases e : badWL seen i p = true
    · rw [if_pos e] at h; cases h; rw [List.length_cons]; omega
    · rw [if_neg e] at h
      have := badW_lt r _ _ n h
      rw [List.length_cons]; omega
theorem fine_worded {ns : List Str} (h : OkNs ns) : Fine 60 60000 (wordedD ns) := by
  unfold wordedD
  cases hb : badW [] 0 ns with
  | none => exact fine_facing (wlt_ok h).1
  | some n =>
    have := badW_lt ns [] 0 n hb
    have := h.1
    exact (fine_ref (fine_err asc_bl (by decide +kernel) n (by omega)) (by decide)).mono (Nat.le_refl _) (by decide)
section
variable {K : PySem.W.Frag} {te : TE} {tl : TA} {σ : L2.St} {F H : Hp} {mg : Str → Option Value}
theorem vg_asked0 {n : Int} {th : V} {d : PyData} {k : Nat} (s : Same F H) (hk : σ[k]? = some (some th)) (ak : Asked K F n .non th d) : Vg K (tCall (spAsked K) [] E0 (tCons (tC (.int n)) (tCons (tC .non) (tCons (tVar k) tNil)))) σ F H d :=
  fun Q q => ⟨_, hk, F, n, .non, th, d, rfl, s, ak, fun u F2 H2 g du => q u F2 H2 g du⟩
theorem vg_asked1 {n : Int} {th : V} {d : PyData} {i k : Nat} (s : Same F H) (hi : σ[i]? = some (some (.int n))) (hk : σ[k]? = some (some th)) (ak : Asked K F n .non th d) : Vg K (tCall (spAsked K) [] E0 (tCons (tVar i) (tCons (tC .non) (tCons (tVar k) tNil)))) σ F H d :=
  fun Q q => ⟨_, hi, _, hk, F, n, .non, th, d, rfl, s, ak, fun u F2 H2 g du => q u F2 H2 g du⟩
theorem vg_eqO (T : Txt K mg) {i j : Nat} {x y : V} {a b : List Lt} (s : Same F H) (hi : σ[i]? = some (some x)) (hj : σ[j]? = some (some y)) (sx : SigAt K F x a) (sy : SigAt K F y b) : Vg K (tOp (rEqO K (He.ga K "Signature") (spEq K)) (tVar i) (tVar j)) σ F H (.bool (PyData.eqv (ltT a) (ltT b))) := fun Q q => by
  obtain ⟨ax, dx, fx, rfl, hx, _⟩ := id sx
  obtain ⟨ay, dy, fy, rfl, hy, _⟩ := id sy
  exact ⟨_, hi, _, hj, ax, dx, fx, .ref (He.ga K "Signature"), rfl, s _ _ hx, .base (.ins (s _ _ hy) T.cl_Signature T.ins_Signature.ha T.ins_Signature.hn T.ins_Signature.htk T.ins_Signature.hm), T.eq_Signature.own, F, _, _, a, rfl, s, sx, .inl ⟨b, sy, fun F2 H2 g => ⟨_, rfl, q _ F2 H2 g (.bl _)⟩⟩⟩
theorem vg_neO (T : Txt K mg) {i j : Nat} {x y : V} {a b : List Lt} (s : Same F H) (hi : σ[i]? = some (some x)) (hj : σ[j]? = some (some y)) (sx : SigAt K F x a) (sy : SigAt K F y b) : Vg K (tOp (rNeO K (He.ga K "Signature") (spEq K)) (tVar i) (tVar j)) σ F H (.bool (!PyData.eqv (ltT a) (ltT b))) := fun Q q => by
  obtain ⟨ax, dx, fx, rfl, hx, _⟩ := id sx
  obtain ⟨ay, dy, fy, rfl, hy, _⟩ := id sy
  exact ⟨_, hi, _, hj, ax, dx, fx, .ref (He.ga K "Signature"), rfl, s _ _ hx, .base (.ins (s _ _ hy) T.cl_Signature T.ins_Signature.ha T.ins_Signature.hn T.ins_Signature.htk T.ins_Signature.hm), T.eq_Signature.own, F, _, _, a, rfl, s, sx, .inl ⟨b, sy, fun F2 H2 g => ⟨_, rfl, q _ F2 H2 g (.bl _)⟩⟩⟩
theorem fine_two {b : Bool} : Fine 60 100 (.tuple [.bool b, .bool b]) := (fine_tup (ds := [.bool b, .bool b]) (n := 0) (k := 5) (m := 2) (by
  intro d hd
  simp only [List.mem_cons, List.mem_nil_iff, or_false] at hd
  rcases hd with rfl | rfl <;> exact fine_bool) (Nat.le_refl 2)).mono (by decide) (by decide)
end
end K93

set_option Elab.async false
set_option linter.all false
set_option maxRecDepth 100000
set_option maxHeartbeats 4000000
namespace K93
open PySem PySem.Spec PyProof.Rows L2 B TL
section
variable {P : Program} {w : World} {K : PySem.W.Frag} {mg : Str → Option Value} {b0 : Heap}
theorem ok_made (T : Txt K mg) : HasG P w K mg b0 CX0 9 (He.ga K "_law_made") ["sig", "letters", "rows"] (spMade K) := by
  refine T.hG__law_made fun fd F => Fun.okG F sc__law_made (fun vs H Q E h => ?_) (fun cdv A g outer s H vs Q E hr h => ?_)
  · obtain ⟨_, _, _, _, _, _, rfl, _⟩ := h; rfl
  · obtain ⟨F0, sg, lv, rv, ls, rows, rfl, s0, sv, dl, dr, rok, k⟩ := h
    have S := sc__law_made
    obtain ⟨a, dx, fs, ea, hx, hsp, hv, okl⟩ := id sv
    have fine := verdict_fine hv
    have same : ∀ {X : Cx} {e1 e2 : Expr} {t : TA} {p1 p2 : Pos}, True := trivial
    refine ⟨_, pss_cons (ps_for PassesOwn.never rfl (pi_sq (pv 2)) (pg_name (i := 3) S.nd rfl (Or.inl rfl))
        (pss_cons (ps_set (i := 4) S.nd rfl (Or.inl rfl) (pc (E := E0) (ok_facing T) T.g__law_facing hr noX (pa_cons (pv 3) pa_nil)))
        (pss_cons (ps_if (pt_not (pt_val (pcG (E := E0) (ok_same T) T.g__law_same g hr noX (pa_cons (pc (E := E0) (ok_asked T) T.g__law_asked hr noX (pa_cons pe_int (pa_cons pe_non (pa_cons (pv 3) pa_nil)))) (pa_cons (pv 4) pa_nil))))) (pss_one (ps_ret pe_bl)) pss_nil)
        (pss_cons (ps_if (pt_not (pt_val (pcG (E := E0) (ok_same T) T.g__law_same g hr noX (pa_cons (pc (E := E0) (ok_asked T) T.g__law_asked hr noX (pa_cons pe_int (pa_cons pe_non (pa_cons (pv 3) pa_nil)))) (pa_cons (pv 4) pa_nil))))) (pss_one (ps_ret pe_bl)) pss_nil)
        (Evl.pss_cut (ps_if (pt_cmpR op_eq (pe_ix ix_seq (pv 4) pe_int (fun _ _ => rfl)) pe_str rfl)
            (pss_cons (ps_set (i := 5) S.nd rfl (Or.inl rfl) (pmS (E := fun _ => E0) (kls T rfl rfl rfl rfl rfl) T.g_Signature hr (fun _ => noXN) (pa_cons (pe_callTy call_list_of rfl T.n_list (by decide +kernel) (pa_cons (pv 3) pa_nil)) pa_nil)))
            (pss_cons (ps_set (i := 6) S.nd rfl (Or.inl rfl) (pe_cmpR (op_eqD hr.un64) (pv 3) (pv 1) rfl))
            (pss_cons (ps_if (pt_not (pt_val (pcG (E := E0) (ok_same T) T.g__law_same g hr noX (pa_cons (pe_tup (pa_cons (pe_cmpR (op_eqO T.eq_Signature (ok_eq T) (hr.mono (by decide : 1 ≤ 8))) (pv 5) (pv 0) rfl) (pa_cons (pe_cmpR (op_eqO T.eq_Signature (ok_eq T) (hr.mono (by decide : 1 ≤ 8))) (pv 0) (pv 5) rfl) pa_nil))) (pa_cons (pe_tup (pa_cons (pv 6) (pa_cons (pv 6) pa_nil))) pa_nil))))) (pss_one (ps_ret pe_bl)) pss_nil)
            (pss_one (ps_if (pt_not (pt_val (pcG (E := E0) (ok_same T) T.g__law_same g hr noX (pa_cons (pe_tup (pa_cons (pe_cmpR (op_neO T.eq_Signature (ok_eq T) (hr.mono (by decide : 2 ≤ 8))) (pv 5) (pv 0) rfl) (pa_cons (pe_cmpR (op_neO T.eq_Signature (ok_eq T) (hr.mono (by decide : 2 ≤ 8))) (pv 0) (pv 5) rfl) pa_nil))) (pa_cons (pe_tup (pa_cons (pe_not (pv 6)) (pa_cons (pe_not (pv 6)) pa_nil))) pa_nil))))) (pss_one (ps_ret pe_bl)) pss_nil))))) pss_nil)
        (pss_cons (ps_setLc (i := 7) (own := [("one", 9)]) (g := gName 9) (te := tOp (rIx K) (tVar 9) (tC (.int 0))) rfl S.nd rfl rfl rfl (pi_sq (pv 3)) (blkOk_by (N := n__law_made) (sc := defScope s__law_made) (by decide +kernel)) (fun _ _ _ _ _ => pg_name (i := 9) S.nd rfl (Or.inl rfl)) (fun _ _ _ _ _ => pts_nil) (fun _ _ _ _ _ => pe_ix ix_seq (pv 9) pe_int (fun _ _ => rfl)))
        (pss_cons (ps_set (i := 4) S.nd rfl (Or.inl rfl) (pc (E := E0) (ok_worded T) T.g__law_worded hr noX (pa_cons (pv 7) pa_nil)))
        (pss_one (ps_for PassesOwn.never rfl (pi_sq (pe_lst (pa_cons pe_int (pa_cons pe_int pa_nil)))) (pg_name (i := 8) S.nd rfl (Or.inl rfl))
          (pss_one (ps_if (pt_not (pt_val (pcG (E := E0) (ok_same T) T.g__law_same g hr noX (pa_cons (pc (E := E0) (ok_asked T) T.g__law_asked hr noX (pa_cons (pv 8) (pa_cons pe_non (pa_cons (pv 7) pa_nil)))) (pa_cons (pv 4) pa_nil))))) (pss_one (ps_ret pe_bl)) pss_nil)))))))))))
      (pss_one (ps_ret pe_bl)), ?_⟩
    refine at_ (σ' := [some sg, some lv, some rv, none, none, none, none, none, none, none]) rfl ?_
    have big : 60000 ≤ sizeLine := by decide
    have two : 2 ≤ sizeLine := by decide
    refine sq (forD [] (as := rows) (D := rowD) (vp_imp (vp_var (P := fun v F => Dp K F v (.list (rows.map rowD))) s0 rfl dr) fun _ _ _ _ p => qp_l p)
      (fun i σ' F' H' => ∃ v3 v4 v5 v6 v7 v8, σ' = [some sg, some lv, some rv, v3, v4, v5, v6, v7, v8, none]) (fun F1 H1 g1 => ⟨_, _, _, _, _, _, rfl⟩) ?_ ?_)
    · rintro i r u F1 H1 σ' F' H' g1 er y ⟨v3, v4, v5, v6, v7, v8, rfl⟩ du
      have g := g1.trans y
      have ro := rok r (List.mem_of_getElem? er)
      have du : Dp K F' u (.list (r.map ltD)) := du
      refine gn (at_ (σ' := [some sg, some lv, some rv, some u, v4, v5, v6, v7, v8, none]) rfl ?_)
      refine sq (asgP (vg_data (K := K) (f := facingD) (ls := r) (vp_var g.fh rfl du) ro.ok) fun dv F2 H2 g2 dd => ?_)
      refine at_ (σ' := [some sg, some lv, some rv, some u, some dv, v5, v6, v7, v8, none]) rfl ?_
      have ff := fine_facing ro.ok.1
      have du2 := Dp.mono g2.ff du
      refine sq (if_ag1 (F := F2) (b := !true) (ag_not (ag_val (K := K) (vg_same (k := 60000) (lg_cons (vg_asked0 g2.fh rfl (.mk0 (qp_l du2) ro.ok)) fun F3 H3 g3 => lg_one g3.fh (vp_var g3.fh rfl (Dp.mono g3.ff dd))) ff big))) (fun e => by cases e) fun _ F3 H3 g3 => ?_)
      have du3 := Dp.mono g3.ff du2
      have dd3 := Dp.mono g3.ff dd
      refine sq (if_ag1 (F := F3) (b := !true) (ag_not (ag_val (K := K) (vg_same (k := 60000) (lg_cons (vg_asked0 g3.fh rfl (.mk1 (qp_l du3) ro.ok)) fun F4 H4 g4 => lg_one g4.fh (vp_var g4.fh rfl (Dp.mono g4.ff dd3))) ff big))) (fun e => by cases e) fun _ F4 H4 g4 => ?_)
      have du4 := Dp.mono g4.ff du3
      have dd4 := Dp.mono g4.ff dd3
      have g04 := ((g.trans g2).trans g3).trans g4
      refine ⟨fun σ5 H5 => ∃ F5 w5 w6, Gr [] F4 H4 F5 H5 ∧ σ5 = [some sg, some lv, some rv, some u, some dv, w5, w6, v7, v8, none], ?_, ?_⟩
      · have tst : Ag (tTest (tOp rEq (tOp (rIx K) (tVar 4) (tC (.int 0))) (tC (.str "told")))) [some sg, some lv, some rv, some u, some dv, v5, v6, v7, v8, none] F4 H4 (verdict r).isNone := by
          have two' : ∃ (c : Str) (d2 : PyData), facingD r = .tuple [.str c, d2] ∧ decide (c = "told") = (verdict r).isNone := by
            unfold facingD
            cases verdict r with
            | none => exact ⟨"told", _, rfl, by decide +kernel⟩
            | some v => exact ⟨"refused", _, rfl, show decide (("refused" : Str) = "told") = false by decide +kernel⟩
          obtain ⟨c, d2, e1, e2⟩ := two'
          rw [e1] at dd4
          refine ag_test (K := K) (vg_cong (vg_op (K := K) (d := .str c) (e := .str "told") (P := fun v F => Dp K F v (.bool (decide (c = "told")))) (vg_ixT (n := 0) (vp_var g4.fh rfl dd4) (fun _ _ g => vg_int g.fh) rfl) (fun _ _ g => vg_str g.fh) fun x z F5 H5 Q5 g5 px pz kk => ?_) (by rw [e2]))
          cases px; cases pz
          exact vl_eqS (σ := []) (ta := tC (.str c)) (tb := tC (.str "told")) vl_c vl_c Q5 (kk _ F5 H5 (Gr.refl g5.fh) (.bl _))
        refine if_ag1 (F := F4) tst (fun e F5 H5 g5 => ?_) (fun e F5 H5 g5 => ⟨F5, _, _, g5, rfl⟩)
        have hr0 : verdict r = none := by
          cases hz : verdict r with
          | none => rfl
          | some z => rw [hz] at e; cases e
        have du5 := Dp.mono g5.ff du4
        refine sq (asg (sig_callP (K := K) (EE := fun _ => E0) (F := F5) (ls := r) (vp_imp (vl_listOf (vp_imp (vp_var (P := fun v F => Dp K F v (.list (r.map ltD))) g5.fh rfl du5) fun _ _ _ _ p => qp_l p)) fun _ _ _ _ p => p.qp) ro.ok (fun _ ov F6 H6 g6 so => ?_) (fun n hv => by rw [hr0] at hv; cases hv) (fun hv => by rw [hr0] at hv; cases hv)))
        refine at_ (σ' := [some sg, some lv, some rv, some u, some dv, some ov, v6, v7, v8, none]) rfl ?_
        have g06 := (g04.trans g5).trans g6
        have du6 := Dp.mono g6.ff du5
        have sv6 := sv.mono g06.ff
        have fr := verdict_fine hr0
        refine sq (asgP (vg_eqD (K := K) (vp_var g6.fh rfl du6) (fun F7 H7 g7 => vp_var g7.fh rfl (Dp.mono (g06.trans g7).ff dl)) (ltL_shaped fr) (ltL_shaped fine)) fun bv F7 H7 g7 db => ?_)
        have eqs : PyData.eqv (.list (r.map ltD)) (.list (ls.map ltD)) = PyData.eqv (ltT r) (ltT ls) := by simp only [ltT, PyData.eqv]
        have eqc : PyData.eqv (ltT ls) (ltT r) = PyData.eqv (ltT r) (ltT ls) := by simp only [ltT, PyData.eqv]; exact eqL_comm ls r
        rw [eqs] at db
        generalize hbb : PyData.eqv (ltT r) (ltT ls) = bb at db eqc
        cases db
        refine at_ (σ' := [some sg, some lv, some rv, some u, some dv, some ov, some (.bl bb), v7, v8, none]) rfl ?_
        have so7 := so.mono g7.ff
        have sv7 := sv6.mono g7.ff
        have e1 : ∀ {F8 H8 : Hp}, Gr [] F7 H7 F8 H8 → Vg K (tOp (rEqO K (He.ga K "Signature") (spEq K)) (tVar 5) (tVar 0)) [some sg, some lv, some rv, some u, some dv, some ov, some (.bl bb), v7, v8, none] F8 H8 (.bool bb) := fun g8 => vg_cong (vg_eqO T g8.fh rfl rfl (so7.mono g8.ff) (sv7.mono g8.ff)) (by rw [hbb])
        have e2 : ∀ {F8 H8 : Hp}, Gr [] F7 H7 F8 H8 → Vg K (tOp (rEqO K (He.ga K "Signature") (spEq K)) (tVar 0) (tVar 5)) [some sg, some lv, some rv, some u, some dv, some ov, some (.bl bb), v7, v8, none] F8 H8 (.bool bb) := fun g8 => vg_cong (vg_eqO T g8.fh rfl rfl (sv7.mono g8.ff) (so7.mono g8.ff)) (by rw [eqc])
        have e3 : ∀ {F8 H8 : Hp}, Gr [] F7 H7 F8 H8 → Vg K (tOp (rNeO K (He.ga K "Signature") (spEq K)) (tVar 5) (tVar 0)) [some sg, some lv, some rv, some u, some dv, some ov, some (.bl bb), v7, v8, none] F8 H8 (.bool (!bb)) := fun g8 => vg_cong (vg_neO T g8.fh rfl rfl (so7.mono g8.ff) (sv7.mono g8.ff)) (by rw [hbb])
        have e4 : ∀ {F8 H8 : Hp}, Gr [] F7 H7 F8 H8 → Vg K (tOp (rNeO K (He.ga K "Signature") (spEq K)) (tVar 0) (tVar 5)) [some sg, some lv, some rv, some u, some dv, some ov, some (.bl bb), v7, v8, none] F8 H8 (.bool (!bb)) := fun g8 => vg_cong (vg_neO T g8.fh rfl rfl (sv7.mono g8.ff) (so7.mono g8.ff)) (by rw [eqc])
        have g07 := g06.trans g7
        have r7 := Gr.refl (M := []) g07.fh
        refine sq (if_ag1 (F := F7) (b := !true) (ag_not (ag_val (K := K) (vg_same (k := 100) (lg_cons (vg_tup (lg_cons (e1 r7) fun _ _ g8 => lg_one g8.fh (e2 g8)) two) fun _ _ g8 => lg_one g8.fh (vg_tup (lg_cons (vp_var g8.fh rfl (.bl _)) fun _ _ g9 => lg_one g9.fh (vp_var g9.fh rfl (.bl _))) two)) fine_two (by decide)))) (fun e => by cases e) fun _ F8 H8 g8 => ?_)
        refine if_ag1 (F := F8) (b := !true) (ag_not (ag_val (K := K) (vg_same (k := 100) (lg_cons (vg_tup (lg_cons (e3 g8) fun _ _ g9 => lg_one g9.fh (e4 (g8.trans g9))) two) fun _ _ g9 => lg_one g9.fh (vg_tup (lg_cons (vg_notV (vp_var g9.fh rfl (.bl _))) fun _ _ gA => lg_one gA.fh (vg_notV (vp_var gA.fh rfl (.bl _)))) two)) fine_two (by decide)))) (fun e => by cases e) fun _ F9 H9 g9 => ?_
        exact ⟨F9, _, _, (((g5.trans g6).trans g7).trans g8).trans g9, rfl⟩
      · rintro σ5 H5 ⟨F5, w5, w6, g5, rfl⟩
        have g05 := g04.trans g5
        obtain ⟨ra, rx, rfl, hs, dp⟩ := (Dp.mono g5.ff du4).lst_of
        refine sq (asgP (col0 (K := K) (F := F5) (j := 9) (vl_var rfl) (.inl (g05.fh.seq hs)) g05.fh dp (Nat.le_trans ro.1 (by decide)) (show 9 < 10 by decide)) fun nv F6 H6 g6 pn => ?_)
        refine at_ (σ' := [some sg, some lv, some rv, some (.ref ra), some dv, w5, w6, some nv, v8, none]) rfl ?_
        refine sq (asgP (vg_dataN (K := K) (f := wordedD) (ns := nms r) (vp_var g6.fh rfl pn.dp) ro.ns) fun wv F7 H7 g7 dw => ?_)
        refine at_ (σ' := [some sg, some lv, some rv, some (.ref ra), some wv, w5, w6, some nv, v8, none]) rfl ?_
        have g07 := (g05.trans g6).trans g7
        have pn7 := Lp.mono g7.ff pn
        have fw := fine_worded ro.ns
        refine forD (Bk := fun _ _ => False) (Ct := fun _ _ => False) [] (F := F7) (as := ([2, 3] : List Int)) (D := PyData.int) (vp_imp (vl_lst (K := K) (ds := ([2, 3] : List Int).map .int) (lg_cons (vg_int g07.fh) fun _ _ gC => lg_one gC.fh (vg_int gC.fh)) two) fun _ _ _ _ p => p.qp)
          (fun i σ' F' H' => ∃ w8, σ' = [some sg, some lv, some rv, some (.ref ra), some wv, w5, w6, some nv, w8, none]) (fun F3 H3 g3 => ⟨_, rfl⟩) ?_ ?_
        · rintro i k4 u8 F8 H8 σ' F9 H9 g8 ek yk ⟨w8, rfl⟩ dk
          cases dk
          have g09 := (g07.trans g8).trans yk
          refine gn (at_ (σ' := [some sg, some lv, some rv, some (.ref ra), some wv, w5, w6, some nv, some (V.int k4), none]) rfl ?_)
          have hk : k4 = 2 ∨ k4 = 3 := by
            have := List.mem_of_getElem? ek
            simpa using this
          have q9 : Qp K F9 nv ((nms r).map .str) := (Lp.mono (g8.trans yk).ff pn7).qp
          have ak : Asked K F9 k4 .non nv (wordedD (nms r)) := by
            rcases hk with rfl | rfl
            · exact .wd2 q9 ro.ns
            · exact .wd3 q9 ro.ns
          refine if_ag1 (F := F9) (b := !true) (ag_not (ag_val (K := K) (vg_same (k := 60000) (lg_cons (vg_asked1 g09.fh rfl rfl ak) fun FA HA gA => lg_one gA.fh (vp_var gA.fh rfl (Dp.mono ((g8.trans yk).trans gA).ff dw))) fw big))) (fun e => by cases e) fun _ FA HA gA => ⟨FA, yk.trans gA, _, rfl⟩
        · rintro F8 H8 σ' F9 H9 g8 yk ⟨w8, rfl⟩
          exact ⟨F9, ((((((y.trans g2).trans g3).trans g4).trans g5).trans g6).trans g7).trans (g8.trans yk), _, _, _, _, _, _, rfl⟩
    · rintro F1 H1 σ' F' H' g1 y ⟨v3, v4, v5, v6, v7, v8, rfl⟩
      exact k F' H' (g1.trans y)
end
end K93

set_option Elab.async false
set_option linter.all false
set_option maxRecDepth 100000
set_option maxHeartbeats 4000000
namespace K93
open PySem PySem.Spec PyProof.Rows L2 B TL
/-- a row of letters of any kind -/
def Rw (n : Nat) (K : PySem.W.Frag) (v : V) (F : Hp) : Prop := ∃ r : List Lt, Lp K F v (r.map ltD) ∧ r.length ≤ n ∧ ∀ p ∈ r, p.1.length ≤ 20
/-- the list of rows, written on -/
def Rl (K : PySem.W.Frag) (l : Addr) (N : Nat) (F H : Hp) : Prop := ∃ xs : List V, H l = some (.lst xs) ∧ F l = none ∧ xs.length ≤ N ∧ ∀ x ∈ xs, Rw 60 K x F
section
variable {K : PySem.W.Frag} {te ta tb : TE} {tl : TA} {σ : L2.St} {F H F' H' : Hp} {n m : Nat} {v : V} {l : Addr}
theorem Rw.mono (s : Same F F') (h : Rw n K v F) : Rw n K v F' := by
  obtain ⟨r, a, b⟩ := h
  exact ⟨r, Lp.mono s a, b⟩
theorem Rw.le (h : Rw n K v F) (hm : n ≤ m) : Rw m K v F := by
  obtain ⟨r, a, b, c⟩ := h
  exact ⟨r, a, Nat.le_trans b hm, c⟩
theorem Rl.on (h : Rl K l n F H) (g : Gr [] F H F' H') : Rl K l n F' H' := by
  obtain ⟨xs, e, f, a, b⟩ := h
  exact ⟨xs, g.hh l _ (fun z => nomatch z) e, g.offF e f, a, fun x hx => (b x hx).mono g.ff⟩
theorem rw_le (h : Vp te σ F H (Rw n K)) (hm : n ≤ m) : Vp te σ F H (Rw m K) := vp_imp h fun _ _ _ _ p => p.le hm
theorem rw_cat (ha : Vp ta σ F H (Rw n K)) (hb : Ev F H fun F2 H2 => Vp tb σ F2 H2 (Rw m K)) (hl : n + m ≤ 1000) : Vp (tOp rCat ta tb) σ F H (Rw (n + m) K) :=
  vp_op ha hb (fun _ _ _ s p => Rw.mono s p) fun x y F3 H3 Q gg p q k => by
    obtain ⟨r, ⟨a, xs, rfl, e1, p1⟩, n1, c1⟩ := p
    obtain ⟨r2, ⟨b, ys, rfl, e2, p2⟩, n2, c2⟩ := q
    refine ⟨a, b, xs, ys, rfl, rfl, gg.fh _ _ e1, gg.fh _ _ e2, ?_, fun w hw => ?_⟩
    · rw [lts_len p1, lts_len p2]; exact Nat.le_trans (show r.length + r2.length ≤ 1000 by omega) (by decide)
    · have gn := (Gr.refl (M := []) gg.fh).new (o := .lst (xs ++ ys)) hw
      refine k _ _ _ gn ⟨r ++ r2, ⟨w, _, rfl, upd_same, ?_⟩, by rw [List.length_append]; omega, fun p hp => (List.mem_append.mp hp).elim (c1 p) (c2 p)⟩
      rw [List.map_append]; exact DpAll.mono gn.ff (p1.append p2)
theorem rw_sl {t1 t2 : TO} {lo hi : Option Int} (ha : Vp te σ F H (Rw n K)) (hl : ∀ H1 Q, Q lo H1 → t1 σ H1 Q) (hh : ∀ H1 Q, Q hi H1 → t2 σ H1 Q) : Vp (tSl (rSlL K) te t1 t2) σ F H (Rw n K) := fun Q q => ha _ fun v F2 H2 g p => by
  obtain ⟨r, ⟨a, xs, rfl, e1, p1⟩, n1, c1⟩ := p
  refine hl _ _ (hh _ _ ⟨a, xs, rfl, Evl.sq_of (g.fh _ _ e1), fun w hw => ?_⟩)
  refine q _ _ _ (g.new hw) ⟨(r.drop (HT.sIx xs.length 0 lo)).take (HT.sIx xs.length xs.length hi - HT.sIx xs.length 0 lo), ⟨w, _, rfl, upd_same, ?_⟩, ?_, ?_⟩
  · unfold cutV
    rw [List.map_take, List.map_drop]
    exact cut_dp (DpAll.mono (Evl.Ex.new (g.freshF hw)) p1) _ _
  · rw [List.length_take, List.length_drop]; omega
  · exact fun p hp => c1 p (List.mem_of_mem_drop (List.mem_of_mem_take hp))
theorem rw_rev (ha : Vp te σ F H (Rw n K)) : Vp (tRevL K te) σ F H (Rw n K) := fun Q q => ha _ fun v F2 H2 g p => by
  obtain ⟨r, ⟨a, xs, rfl, e1, p1⟩, n1, c1⟩ := p
  refine ⟨a, xs, rfl, Evl.sq_of (g.fh _ _ e1), fun w hw => q _ _ _ (g.new hw) ⟨r.reverse, ⟨w, _, rfl, upd_same, ?_⟩, by rw [List.length_reverse]; exact n1, fun p hp => c1 p (List.mem_reverse.mp hp)⟩⟩
  rw [List.map_reverse]; exact (DpAll.mono (Evl.Ex.new (g.freshF hw)) p1).reverse
theorem rw_one {x : Str} {a : Int} (ha : Vg K ta σ F H (.str x)) (hb : Ev F H fun F2 H2 => Vg K tb σ F2 H2 (.int a)) (hx : x.length ≤ 20) : Vp (tLst (tCons (tTup (tCons ta (tCons tb tNil))) tNil)) σ F H (Rw 1 K) := by
  refine vp_imp (vl_lst (K := K) (ds := [ltD (x, a)]) (fun Q q => (vg_tup (K := K) (ds := [.str x, .int a]) (lg_cons ha fun F2 H2 g2 => fun Q2 q2 => hb F2 H2 g2 _ fun v F3 H3 g3 p3 => q2 [v] F3 H3 g3 (.cons p3 .nil)) (show 2 ≤ sizeLine by decide)) _ fun v F2 H2 g2 p2 => q [v] F2 H2 g2 (.cons p2 .nil)) (show 1 ≤ sizeLine by decide)) ?_
  intro v F2 H2 g p
  exact ⟨[(x, a)], p, Nat.le_refl _, fun q hq => by rw [List.mem_singleton.mp hq]; exact hx⟩
/-- rows.append(e) -/
theorem rw_app {N Bk Ct : L2.St → Hp → Prop} {Rt : VK} {j : Nat} (hj : σ[j]? = some (some (.ref l))) (h : Vp te σ F H (Rw m K)) (hm : m ≤ 60) (rl : Rl K l n F H) (hn : n ≤ 900) (k : ∀ F2 H2, Gr [l] F H F2 H2 → Rl K l (n + 1) F2 H2 → (∃ xs v, H2 l = some (.lst (xs ++ [v])) ∧ Rw m K v F2) → N σ H2) : tDrop (tBM K "list" rAppend (tVar j) (tCons te tNil)) ⟨N, Rt, Bk, Ct⟩ σ H := by
  obtain ⟨xs, e, f, a, b⟩ := rl
  refine ⟨_, hj, .inl ⟨rfl, _, Evl.sq_of e⟩, h _ fun v F2 H2 g p => ?_⟩
  have e2 := g.hh l _ (fun z => nomatch z) e
  have f2 := g.offF e f
  refine ⟨l, xs, v, rfl, rfl, e2, Nat.lt_of_lt_of_le (show xs.length < 1001 by omega) (by decide), ?_⟩
  refine k F2 _ (g.zero.put f2 (.inl (List.mem_singleton.mpr rfl))) ⟨xs ++ [v], upd_same, f2, by rw [List.length_append]; exact Nat.succ_le_succ a, fun x hx => ?_⟩ ⟨xs, v, upd_same, p⟩
  rcases List.mem_append.mp hx with hx | hx
  · exact (b x hx).mono g.ff
  · rw [List.mem_singleton.mp hx]; exact p.le hm
/-- several rows -/
def Rg (K : PySem.W.Frag) (t : TA) (σ : L2.St) (F H : Hp) (n : Nat) : Prop := ∀ Q : List V → Hp → Prop, (∀ vs F2 H2, Gr [] F H F2 H2 → (∀ x ∈ vs, Rw 60 K x F2) → vs.length = n → Q vs H2) → t σ H Q
theorem rg_nil (s : Same F H) : Rg K tNil σ F H 0 := fun Q q => q [] F H (Gr.refl s) (fun _ h => nomatch h) rfl
theorem rg_cons (h : Vp te σ F H (Rw 60 K)) (r : Ev F H fun F2 H2 => Rg K tl σ F2 H2 n) : Rg K (tCons te tl) σ F H (n + 1) := fun Q q => h _ fun v F2 H2 g p => r F2 H2 g _ fun vs F3 H3 g3 p3 e => q _ F3 H3 (g.trans g3) (fun x hx => by
  rcases List.mem_cons.mp hx with rfl | hx
  · exact p.mono g3.ff
  · exact p3 x hx) (by rw [List.length_cons, e])
theorem Gr.cut {p l : Addr} (g : Gr [p, l] F H F' H') (h : H l = none) : Gr [p] F H F' H' := ⟨g.ff, g.fh, fun b o n e => g.hh b o (fun z => by
  rcases List.mem_cons.mp z with rfl | z
  · exact n (List.mem_singleton.mpr rfl)
  · rw [List.mem_singleton.mp z, h] at e; cases e) e, g.al, g.nf⟩
def sgn (k : Nat) : Str := ⟨#[97 + k]⟩
theorem sgn_at : ∀ k, k < 13 → ("abcdefghijklm" : Str).cps.toList[k]? = some (97 + k) := by decide +kernel
theorem rows_of : ∀ {xs : List V}, (∀ x ∈ xs, Rw 60 K x F) → ∃ rs : List (List Lt), DpAll K F xs (rs.map rowD) ∧ ∀ r ∈ rs, RowOk r
  | [], _ => ⟨[], .nil, fun _ h => nomatch h⟩
  | x :: xs, h => by
    obtain ⟨rs, h1, h2⟩ := rows_of (xs := xs) fun y hy => h y (List.mem_cons_of_mem _ hy)
    obtain ⟨r, h3, h4, h5⟩ := h x List.mem_cons_self
    refine ⟨r :: rs, .cons h3.dp h1, fun q hq => ?_⟩
    rcases List.mem_cons.mp hq with rfl | hq
    · exact ⟨by omega, fun p hp => Nat.le_trans (h5 p hp) (by decide)⟩
    · exact h2 q hq
end
def spVar (K : PySem.W.Frag) : Sp := fun vs H Q _ => ∃ (F : Hp) (p : Addr) (lv : V) (ls : List Lt), vs = [.ref p, lv] ∧ Same F H ∧ Pl p F H ∧ Lp K F lv (ls.map ltD) ∧ ls ≠ [] ∧ ls.length ≤ 12 ∧ FineL 8 ls ∧ ∀ u (rows : List (List Lt)) F' H', Gr [p] F H F' H' → Pl p F' H' → Dp K F' u (.list (rows.map rowD)) → (∀ r ∈ rows, RowOk r) → Q u H'
section
variable {P : Program} {w : World} {K : PySem.W.Frag} {mg : Str → Option Value} {b0 : Heap}
theorem ok_var (T : Txt K mg) : Has P w K mg b0 CX0 2 (He.ga K "_law_variants") ["pool", "letters"] (spVar K) := by
  refine T.h__law_variants fun fd F => F.ok sc__law_variants (fun vs H Q E h => ?_) (fun cdv A outer s H vs Q E hr h => ?_)
  · obtain ⟨_, _, _, _, rfl, _⟩ := h; rfl
  · obtain ⟨F0, p, lv, ls, rfl, s0, pl, dl, ne, l12, fine, k⟩ := h
    have S := sc__law_variants
    refine ⟨_, pss_cons (ps_set (i := 2) S.nd rfl (Or.inl rfl) (pc (E := E0) (ok_draw T) T.g__law_draw hr noX (pa_cons (pv 0) (pa_cons (pe_callB call_len_seq rfl T.n_len PySem.boot_len (pa_cons (pv 1) pa_nil)) pa_nil))))
      (pss_cons (ps_asg (pe_ix ix_seq (pv 1) (pv 2) (fun _ _ => rfl)) (pg_tup rfl (pgs_cons (pg_name (i := 3) S.nd rfl (Or.inl rfl)) (pgs_cons (pg_name (i := 4) S.nd rfl (Or.inr rfl)) pgs_nil))))
      (pss_cons (ps_set (i := 5) S.nd rfl (Or.inl rfl) (pe_lst (pa_cons (pe_callTy call_list_of rfl T.n_list (by decide +kernel) (pa_cons (pv 1) pa_nil)) (pa_cons (pe_lst pa_nil) (pa_cons (pe_op op_cat (pv 1) (pe_lst (pa_cons (pe_ix ix_seq (pv 1) (pv 2) (fun _ _ => rfl)) pa_nil))) (pa_cons (pe_revL (pv 1)) pa_nil))))))
      (pss_cons (ps_expr (pe_bm PySem.F.plainAttrs_list PySem.F.slot_list_append PySem.F.type_list_append mt_append (pv 5) (pa_cons (pe_op op_cat (pe_slice sl_list (pv 1) (po_some pe_int) po_none) (pe_slice sl_list (pv 1) po_none (po_some pe_int))) pa_nil)))
      (pss_cons (ps_expr (pe_bm PySem.F.plainAttrs_list PySem.F.slot_list_append PySem.F.type_list_append mt_append (pv 5) (pa_cons (pe_lc (own := [("row", 10)]) (g := gName 10) (tt := tTest (tOp (rI0 fun i j => .bl (decide (j < i))) (tOp (rIx K) (tVar 10) (tC (.int 1))) (tC (.int 0)))) rfl S.nd (pi_sq (pv 1)) (blkOk_by (N := n__law_variants) (sc := defScope s__law_variants) (by decide +kernel)) (fun _ _ _ _ _ => pg_name (i := 10) S.nd rfl (Or.inl rfl)) (fun _ _ _ _ _ => pts_one (pt_cmpR op_gt (pe_ix ix_seq (pv 10) pe_int (fun _ _ => rfl)) pe_int rfl)) (fun _ _ _ _ _ => pv 10)) pa_nil)))
      (pss_cons (ps_for PassesOwn.never rfl (pi_sq (pe_lst (pa_cons pe_str (pa_cons pe_str (pa_cons pe_str (pa_cons pe_str (pa_cons pe_str (pa_cons pe_str (pa_cons pe_str (pa_cons pe_str (pa_cons (pe_ix ix_seq (pe_ix ix_seq (pv 1) pe_int (fun _ _ => rfl)) pe_int (fun _ _ => rfl)) (pa_cons pe_str pa_nil)))))))))))) (pg_name (i := 6) S.nd rfl (Or.inl rfl))
        (pss_cons (ps_expr (pe_bm PySem.F.plainAttrs_list PySem.F.slot_list_append PySem.F.type_list_append mt_append (pv 5) (pa_cons (pe_op op_cat (pe_op op_cat (pe_slice sl_list (pv 1) po_none (po_some (pv 2))) (pe_lst (pa_cons (pe_tup (pa_cons (pv 6) (pa_cons (pv 4) pa_nil))) pa_nil))) (pe_slice sl_list (pv 1) (po_some (pe_op op_add (pv 2) pe_int)) po_none)) pa_nil)))
        (pss_one (ps_expr (pe_bm PySem.F.plainAttrs_list PySem.F.slot_list_append PySem.F.type_list_append mt_append (pv 5) (pa_cons (pe_op op_cat (pe_ix ix_seq (pv 5) (pe_un un_neg pe_int) (fun _ _ => rfl)) (pe_lst (pa_cons (pe_tup (pa_cons pe_str (pa_cons pe_int pa_nil))) pa_nil))) pa_nil))))))
      (pss_cons (ps_for PassesOwn.never rfl (pi_sq (pe_lst (pa_cons (pe_un un_neg pe_int) (pa_cons pe_int (pa_cons (pe_op op_pow pe_int pe_int) (pa_cons (pe_un un_neg (pe_op op_pow pe_int pe_int)) (pa_cons pe_int (pa_cons pe_int (pa_cons pe_int pa_nil))))))))) (pg_name (i := 7) S.nd rfl (Or.inl rfl))
        (pss_cons (ps_expr (pe_bm PySem.F.plainAttrs_list PySem.F.slot_list_append PySem.F.type_list_append mt_append (pv 5) (pa_cons (pe_op op_cat (pe_op op_cat (pe_slice sl_list (pv 1) po_none (po_some (pv 2))) (pe_lst (pa_cons (pe_tup (pa_cons (pv 3) (pa_cons (pv 7) pa_nil))) pa_nil))) (pe_slice sl_list (pv 1) (po_some (pe_op op_add (pv 2) pe_int)) po_none)) pa_nil)))
        (pss_one (ps_expr (pe_bm PySem.F.plainAttrs_list PySem.F.slot_list_append PySem.F.type_list_append mt_append (pv 5) (pa_cons (pe_op op_cat (pe_op op_cat (pe_slice sl_list (pv 1) po_none (po_some (pv 2))) (pe_lst (pa_cons (pe_tup (pa_cons pe_str (pa_cons (pv 7) pa_nil))) pa_nil))) (pe_slice sl_list (pv 1) (po_some (pv 2)) po_none)) pa_nil))))))
      (pss_cons (ps_setLc (i := 9) (own := [("k", 8)]) (g := gName 8) (te := tTup (tCons (tOp (rIx K) (tC (.str "abcdefghijklm")) (tVar 8)) (tCons (tOp (rI (fun _ j => j ≠ 0) fun i j => .int (i.fmod j)) (tOp (rI0 fun i j => .int (i + j)) (tVar 8) (tVar 4)) (tC (.int 3))) tNil))) rfl S.nd rfl rfl rfl (pi_range1 rfl T.n_range (pa_cons pe_int pa_nil)) (blkOk_by (N := n__law_variants) (sc := defScope s__law_variants) (by decide +kernel)) (fun _ _ _ _ _ => pg_name (i := 8) S.nd rfl (Or.inl rfl)) (fun _ _ _ _ _ => pts_nil)
          (fun _ _ _ _ _ => pe_tup (pa_cons (pe_ix ix_seq pe_str (pv 8) (fun _ _ => rfl)) (pa_cons (pe_op op_modN (pe_op op_add (pv 8) (pv 4)) pe_int) pa_nil))))
      (pss_cons (ps_for PassesOwn.never rfl (pi_sq (pe_lst (pa_cons pe_int (pa_cons pe_int (pa_cons pe_int pa_nil))))) (pg_name (i := 8) S.nd rfl (Or.inl rfl)) (pss_one (ps_expr (pe_bm PySem.F.plainAttrs_list PySem.F.slot_list_append PySem.F.type_list_append mt_append (pv 5) (pa_cons (pe_slice sl_list (pv 9) po_none (po_some (pv 8))) pa_nil)))))
      (pss_cons (ps_expr (pe_bm PySem.F.plainAttrs_list PySem.F.slot_list_append PySem.F.type_list_append mt_append (pv 5) (pa_cons (pe_op op_cat (pe_op op_cat (pe_slice sl_list (pv 9) po_none (po_some (pv 2))) (pe_lst (pa_cons (pe_tup (pa_cons pe_str (pa_cons pe_int pa_nil))) pa_nil))) (pe_slice sl_list (pv 9) (po_some (pe_op op_add (pv 2) pe_int)) po_none)) pa_nil)))
      (pss_cons (ps_expr (pe_bm PySem.F.plainAttrs_list PySem.F.slot_list_append PySem.F.type_list_append mt_append (pv 5) (pa_cons (pe_op op_cat (pe_slice sl_list (pv 9) po_none (po_some pe_int)) (pe_lst (pa_cons (pe_tup (pa_cons pe_str (pa_cons pe_int pa_nil))) pa_nil))) pa_nil)))
      (pss_one (ps_ret (pe_op op_cat (pv 5) (pe_lst (pa_cons (pe_lc (own := [("k", 8)]) (g := gName 8) (te := tTup (tCons (tOp (rIx K) (tC (.str "abcdefghijklm")) (tVar 8)) (tCons (tC (.int 1)) tNil))) rfl S.nd (pi_range1 rfl T.n_range (pa_cons pe_int pa_nil)) (blkOk_by (N := n__law_variants) (sc := defScope s__law_variants) (by decide +kernel)) (fun _ _ _ _ _ => pg_name (i := 8) S.nd rfl (Or.inl rfl)) (fun _ _ _ _ _ => pts_nil)
          (fun _ _ _ _ _ => pe_tup (pa_cons (pe_ix ix_seq pe_str (pv 8) (fun _ _ => rfl)) (pa_cons pe_int pa_nil)))) (pa_cons (pe_revL (pe_slice sl_list (pv 9) po_none (po_some pe_int))) pa_nil)))))))))))))))), ?_⟩
    obtain ⟨l, xs, rfl, el, dp⟩ := id dl
    have hlen : Vg K (tCB (fun xs H Q => ∃ p ys, xs = [.ref p] ∧ (SqL K H p ys ∨ SqT K H p ys) ∧ Q (.int ys.length) H) (tCons (tVar 1) tNil)) [some (V.ref p), some (V.ref l), none, none, none, none, none, none, none, none, none] F0 H (.int ((ls.map ltD).length : Nat)) := vg_lenL (vp_var s0 rfl dl.dp)
    rw [List.length_map] at hlen
    have pos : 0 < ls.length := List.length_pos_iff.mpr ne
    refine at_ (σ' := [some (V.ref p), some (V.ref l), none, none, none, none, none, none, none, none, none]) rfl ?_
    refine sq (asg (draw_ (m := (ls.length : Nat)) rfl pl s0 hlen (by omega) (by omega) fun at1 F1 H1 ha1 g1 pl1 => ?_))
    have e1 : ls[at1]? = some ls[at1] := List.getElem?_eq_getElem (by omega)
    generalize ls[at1] = q at e1
    obtain ⟨w0, exi⟩ : ∃ w0, xs[at1]? = some w0 := ⟨xs[at1]'(by rw [lts_len dp]; omega), List.getElem?_eq_getElem _⟩
    obtain ⟨q', t, e1', rfl, st⟩ := lts_at dp exi
    rw [e1] at e1'; cases e1'
    have fq := fine q (List.mem_of_getElem? e1)
    refine at_ (σ' := [some (V.ref p), some (V.ref l), some (V.int (at1 : Nat)), none, none, none, none, none, none, none, none]) rfl ?_
    refine sq (asgG ⟨_, rfl, _, rfl, .inl ⟨l, xs, _, .ref t, rfl, rfl, g1.fh.seq (g1.ff.seq (Evl.sq_of el)), atI_nat exi, t, _, rfl, Same.sqt (g1.ff.trans g1.fh) st, rfl, _, _, rfl, _, _, rfl, rfl, ?_⟩⟩)
    refine at_ (σ' := [some (V.ref p), some (V.ref l), some (V.int (at1 : Nat)), some (V.str q.1), some (V.int q.2), none, none, none, none, none, none]) rfl ?_
    have rwl : Rw 12 K (.ref l) F0 := ⟨ls, dl, l12, fun r hr => Nat.le_trans (fine r hr).2.1 (by decide)⟩
    have letV : ∀ {σ : L2.St} {F2 H2 : Hp}, σ[1]? = some (some (V.ref l)) → Same F0 F2 → Same F2 H2 → Vp (tVar 1) σ F2 H2 (Rw 12 K) := fun h s1 s2 => vp_var s2 h (rwl.mono s1)
    have s01 := g1.ff
    have itm : ∀ {σ : L2.St} {F2 H2 : Hp}, σ[1]? = some (some (V.ref l)) → σ[2]? = some (some (V.int (at1 : Nat))) → Same F0 F2 → Same F2 H2 → Vp (tLst (tCons (tOp (rIx K) (tVar 1) (tVar 2)) tNil)) σ F2 H2 (Rw 1 K) := fun h1 h2 s1 s2 =>
      vp_imp (vl_lst (K := K) (ds := [ltD q]) (lg_one s2 (vg_ixL (n := at1) (vp_var s2 h1 (Dp.mono s1 dl.dp)) (fun _ _ g => vp_var g.fh h2 (.int _)) (by rw [List.getElem?_map, e1]; rfl))) (show 1 ≤ sizeLine by decide)) fun v F2 H2 g p => ⟨[q], p, Nat.le_refl _, fun r hr => by rw [List.mem_singleton.mp hr]; exact Nat.le_trans fq.2.1 (by decide)⟩
    have rows0 : Rg K (tCons (tCB (fun xs H Q => ∃ p ys, xs = [.ref p] ∧ (SqL K H p ys ∨ SqT K H p ys) ∧ ∀ l, H l = none → Q (.ref l) (upd H l (.lst ys))) (tCons (tVar 1) tNil)) (tCons (tLst tNil) (tCons (tOp rCat (tVar 1) (tLst (tCons (tOp (rIx K) (tVar 1) (tVar 2)) tNil))) (tCons (tRevL K (tVar 1)) tNil))))
        [some (V.ref p), some (V.ref l), some (V.int (at1 : Nat)), some (V.str q.1), some (V.int q.2), none, none, none, none, none, none] F1 H1 4 :=
      rg_cons (vp_imp (vl_listOf (vp_var (P := fun v F => Qp K F v (ls.map ltD)) g1.fh rfl (Lp.mono s01 dl).qp)) fun v F2 H2 g p => ⟨ls, p, by omega, rwl.choose_spec.2.2 |> fun _ => fun r hr => Nat.le_trans (fine r hr).2.1 (by decide)⟩) fun F2 H2 g2 =>
      rg_cons (vp_imp (vl_lst (K := K) (ds := []) (lg_nil g2.fh) (Nat.zero_le _)) fun v F2 H2 g p => ⟨[], p, Nat.zero_le _, fun _ h => nomatch h⟩) fun F3 H3 g3 =>
      rg_cons (rw_le (rw_cat (letV rfl (s01.trans (g2.trans g3).ff) g3.fh) (fun F4 H4 g4 => itm rfl rfl ((s01.trans (g2.trans g3).ff).trans g4.ff) g4.fh) (by decide)) (by decide)) fun F4 H4 g4 =>
      rg_cons (rw_le (rw_rev (letV rfl (s01.trans ((g2.trans g3).trans g4).ff) g4.fh)) (by decide)) fun F5 H5 g5 => rg_nil g5.fh
    refine sq (asg (rows0 _ fun vs F2 H2 g2 pvs vl => ⟨by rw [vl]; decide, fun rl nrl => ?_⟩))
    have hrl : H rl = none := (g1.trans g2.zero).fresh nrl
    have prl : p ≠ rl := fun z => by
      obtain ⟨ns, e, _⟩ := pl
      rw [z, hrl] at e; cases e
    have R0 : Rl K rl 4 F2 (upd H2 rl (.lst vs)) := ⟨vs, upd_same, g2.freshF nrl |> fun z => g2.fh.free nrl, by rw [vl]; exact Nat.le_refl _, pvs⟩
    have gA : Gr [p] F0 H F2 (upd H2 rl (.lst vs)) := (g1.trans g2.zero).own nrl
    have plA : Pl p F2 (upd H2 rl (.lst vs)) := (pl1.on g2).off prl
    have gBase := gA
    dsimp only
    refine at_ (σ' := [some (V.ref p), some (V.ref l), some (V.int (at1 : Nat)), some (V.str q.1), some (V.int q.2), some (V.ref rl), none, none, none, none, none]) rfl ?_
    refine sq (rw_app (l := rl) rfl (rw_cat (rw_sl (lo := some 1) (hi := none) (letV rfl gA.ff gA.fh) (fun H1 Q q => ⟨_, rfl, q⟩) (fun H1 Q q => q)) (fun F3 H3 g3 => rw_sl (lo := none) (hi := some 1) (letV rfl (gA.ff.trans g3.ff) g3.fh) (fun H1 Q q => q) (fun H1 Q q => ⟨_, rfl, q⟩)) (by decide)) (by decide) R0 (by decide) fun F3 H3 g3 R3 _ => ?_)
    -- the rows with numbers above 0
    have flt : Vp (tLc (iSq K (tVar 1)) (gName 10) (tTest (tOp (rI0 fun i j => .bl (decide (j < i))) (tOp (rIx K) (tVar 10) (tC (.int 1))) (tC (.int 0)))) (tVar 10) [10]) [some (V.ref p), some (V.ref l), some (V.int (at1 : Nat)), some (V.str q.1), some (V.int q.2), some (V.ref rl), none, none, none, none, none] F3 H3 (Rw 12 K) := by
      have s3 := gA.ff.trans g3.ff
      refine vp_imp (vl_lc (K := K) (as := ls) (D := ltD) (fun r => if decide (0 < r.2) = true then some (ltD r) else none) (vp_var (P := fun v F => Qp K F v (ls.map ltD)) g3.fh rfl (Lp.mono s3 dl).qp) (Nat.le_trans l12 (by decide)) ?_) ?_
      · intro i r x F7 H7 Y Nn e7 g7 dx kY kN
        obtain ⟨u, rfl, st7⟩ := lt_of dx
        refine gn ⟨rfl, ?_⟩
        refine an_test (vl_I0 (g := fun i j => .bl (decide (j < i))) (m := r.2) (n := 0) (fun Q z => ⟨_, rfl, .inr (.inl ⟨u, _, 1, .int r.2, rfl, rfl, Same.sqt g7.fh st7, rfl, z⟩)⟩) vl_c) _ ?_
        cases hb : decide ((0 : Int) < r.2) with
        | true => rw [if_pos rfl]; exact ⟨_, rfl, kY _ _ F7 H7 (by rw [hb, if_pos rfl]) (Gr.refl g7.fh) dx⟩
        | false => rw [if_neg Bool.false_ne_true]; exact kN F7 H7 (by rw [hb, if_neg Bool.false_ne_true]) (Gr.refl g7.fh)
      · intro v F7 H7 g7 pv
        have fe : ∀ l : List Lt, (l.filterMap fun r => if decide (0 < r.2) = true then some (ltD r) else none) = (l.filter fun r => decide (0 < r.2)).map ltD := by
          intro l
          induction l with
          | nil => rfl
          | cons r l ih =>
            rw [List.filterMap_cons, List.filter_cons]
            by_cases h : decide (0 < r.2) = true
            · rw [if_pos h, if_pos h, ih]; rfl
            · rw [if_neg h, if_neg h, ih]
        rw [fe] at pv
        exact ⟨_, pv, Nat.le_trans (List.length_filter_le _ _) l12, fun r hr => Nat.le_trans (fine r (List.mem_filter.mp hr).1).2.1 (by decide)⟩
    refine sq (rw_app (l := rl) rfl flt (by decide) R3 (by decide) fun F4 H4 g4 R4 _ => ?_)
    have g34 : Gr [rl] F2 (upd H2 rl (.lst vs)) F4 H4 := g3.trans g4
    -- slices of a row at the place
    have cutA : ∀ {σ : L2.St} {F5 H5 : Hp} {te : TE} {n : Nat}, σ[2]? = some (some (V.int (at1 : Nat))) → Vp te σ F5 H5 (Rw n K) → Vp (tSl (rSlL K) te tNoPart (tPart (tVar 2))) σ F5 H5 (Rw n K) := fun h hv => rw_sl (lo := none) (hi := some (at1 : Nat)) hv (fun H1 Q q => q) (fun H1 Q q => ⟨_, h, _, rfl, q⟩)
    have cutB : ∀ {σ : L2.St} {F5 H5 : Hp} {te : TE} {n : Nat}, σ[2]? = some (some (V.int (at1 : Nat))) → Vp te σ F5 H5 (Rw n K) → Vp (tSl (rSlL K) te (tPart (tOp (rI0 fun i j => .int (i + j)) (tVar 2) (tC (.int 1)))) tNoPart) σ F5 H5 (Rw n K) := fun h hv => rw_sl (lo := some ((at1 : Nat) + 1)) (hi := none) hv (fun H1 Q q => ⟨_, h, _, _, rfl, rfl, _, rfl, q⟩) (fun H1 Q q => q)
    have cutC : ∀ {σ : L2.St} {F5 H5 : Hp} {te : TE} {n : Nat}, σ[2]? = some (some (V.int (at1 : Nat))) → Vp te σ F5 H5 (Rw n K) → Vp (tSl (rSlL K) te (tPart (tVar 2)) tNoPart) σ F5 H5 (Rw n K) := fun h hv => rw_sl (lo := some (at1 : Nat)) (hi := none) hv (fun H1 Q q => ⟨_, h, _, rfl, q⟩) (fun H1 Q q => q)
    obtain ⟨r0, hr0⟩ : ∃ r0, ls[0]? = some r0 := ⟨_, List.getElem?_eq_getElem pos⟩
    have f0 := fine r0 (List.mem_of_getElem? hr0)
    let ss : List Str := ["", "Q", "1a", "a b", "a_b", "a-b", "abcdefghi", "abcdefgh", r0.1, "start"]
    have ssl : ∀ x ∈ ss, x.length ≤ 20 := by
      intro x hx
      simp only [ss, List.mem_cons, List.mem_nil_iff, or_false] at hx
      rcases hx with rfl | rfl | rfl | rfl | rfl | rfl | rfl | rfl | rfl | rfl
      case _ => decide +kernel
      case _ => decide +kernel
      case _ => decide +kernel
      case _ => decide +kernel
      case _ => decide +kernel
      case _ => decide +kernel
      case _ => decide +kernel
      case _ => decide +kernel
      case _ => exact Nat.le_trans f0.2.1 (by decide)
      case _ => decide +kernel
    have s4 : Same F0 F4 := gA.ff.trans g34.ff
    have first : ∀ {σ : L2.St} {F5 H5 : Hp}, σ[1]? = some (some (V.ref l)) → Same F0 F5 → Same F5 H5 → Vg K (tOp (rIx K) (tOp (rIx K) (tVar 1) (tC (.int 0))) (tC (.int 0))) σ F5 H5 (.str r0.1) := fun h s1 s2 =>
      vg_ixT (n := 0) (ds := [.str r0.1, .int r0.2]) (vg_ixL (n := 0) (vp_var s2 h (Dp.mono s1 dl.dp)) (fun _ _ g => vg_int g.fh) (by rw [List.getElem?_map, hr0]; rfl)) (fun _ _ g => vg_int g.fh) rfl
    refine sq (forD [rl] (as := ss) (D := PyData.str) (vp_imp (vl_lst (K := K) (ds := ss.map .str) (lg_cons (vg_str g4.fh) fun _ _ ga => lg_cons (vg_str ga.fh) fun _ _ gb => lg_cons (vg_str gb.fh) fun _ _ gc => lg_cons (vg_str gc.fh) fun _ _ gd => lg_cons (vg_str gd.fh) fun _ _ ge => lg_cons (vg_str ge.fh) fun _ _ gf => lg_cons (vg_str gf.fh) fun _ _ gg => lg_cons (vg_str gg.fh) fun _ _ gh =>
        lg_cons (first rfl ((((((((s4.trans ga.ff).trans gb.ff).trans gc.ff).trans gd.ff).trans ge.ff).trans gf.ff).trans gg.ff).trans gh.ff) gh.fh) fun _ _ gi => lg_one gi.fh (vg_str gi.fh)) (show 10 ≤ sizeLine by decide)) fun _ _ _ _ p => p.qp)
      (fun i σ' F' H' => Rl K rl (6 + 2 * i) F' H' ∧ ∃ v6, σ' = [some (V.ref p), some (V.ref l), some (V.int (at1 : Nat)), some (V.str q.1), some (V.int q.2), some (V.ref rl), v6, none, none, none, none]) (fun F5 H5 g5 => ⟨R4.on g5, _, rfl⟩) ?_ ?_)
    · rintro i x u F5 H5 σ' F6 H6 g5 ex6 y6 ⟨R6, v6, rfl⟩ dx
      cases dx
      have hi : i < 10 := (List.getElem?_eq_some_iff.mp ex6).1
      have xl := ssl x (List.mem_of_getElem? ex6)
      have s6 : Same F0 F6 := (s4.trans g5.ff).trans y6.ff
      have o6 : Same F6 H6 := y6.fh
      refine gn (at_ (σ' := [some (V.ref p), some (V.ref l), some (V.int (at1 : Nat)), some (V.str q.1), some (V.int q.2), some (V.ref rl), some (V.str x), none, none, none, none]) rfl ?_)
      refine sq (rw_app (l := rl) rfl (rw_cat (rw_cat (cutA rfl (letV rfl s6 o6)) (fun F7 H7 g7 => rw_one (x := x) (a := q.2) (vp_var g7.fh rfl (.str _)) (fun _ _ g => vp_var g.fh rfl (.int _)) xl) (by decide)) (fun F7 H7 g7 => cutB rfl (letV rfl (s6.trans g7.ff) g7.fh)) (by decide)) (by decide) R6 (by omega) fun F7 H7 g7 R7 hl7 => ?_)
      obtain ⟨ys, w, eys, rw7⟩ := hl7
      have lastV : Vp (tOp (rIx K) (tVar 5) (tUn (rU fun i => .int (-i)) (tC (.int 1)))) [some (V.ref p), some (V.ref l), some (V.int (at1 : Nat)), some (V.str q.1), some (V.int q.2), some (V.ref rl), some (V.str x), none, none, none, none] F7 H7 (Rw 25 K) := fun Q z => ⟨_, rfl, _, rfl, .inl ⟨rl, _, -1, w, rfl, rfl, Evl.sq_of eys, by
        unfold atI ixN
        rw [if_neg (by decide), if_pos (by rw [List.length_append]; simp; omega)]
        show (ys ++ [w])[((-1 : Int) + ((ys ++ [w]).length : Nat)).toNat]? = some w
        rw [show ((-1 : Int) + ((ys ++ [w]).length : Nat)).toNat = ys.length by rw [List.length_append]; simp; omega]
        simp, z w F7 H7 (Gr.refl g7.fh) rw7⟩⟩
      refine rw_app (l := rl) rfl (rw_cat lastV (fun F8 H8 g8 => rw_one (x := "") (a := 9) (vg_str g8.fh) (fun _ _ g => vg_int g.fh) (by decide +kernel)) (by decide)) (by decide) R7 (by omega) fun F8 H8 g8 R8 _ => ?_
      exact ⟨F8, (y6.trans g7).trans g8, by rw [show 6 + 2 * (i + 1) = 6 + 2 * i + 1 + 1 by omega]; exact R8, _, rfl⟩
    · rintro F5 H5 σ' F6 H6 g5 y6 ⟨R6, v6, rfl⟩
      have R6 : Rl K rl 26 F6 H6 := R6
      have y06 : Gr [rl] F2 (upd H2 rl (.lst vs)) F6 H6 := (g34.trans g5.zero).trans y6
      have s6 : Same F0 F6 := gA.ff.trans y06.ff
      have seven : 7 ≤ sizeLine := by decide
      let os : List Int := [-1, 3, 10 ^ 18, -(10 ^ 18), 0, 1, 2]
      have pw : ∀ {σ : L2.St} {F7 H7 : Hp}, Same F7 H7 → Vg K (tOp (rI CPow fun i j => .int (i ^ j.toNat)) (tC (.int 10)) (tC (.int 18))) σ F7 H7 (.int (10 ^ 18)) := fun s7 => vg_I (cc := CPow) (g := fun i j => i ^ j.toNat) (vg_int s7) (fun _ _ g => vg_int g.fh) ⟨by decide, by decide, by decide⟩
      have ng : ∀ {σ : L2.St} {F7 H7 : Hp} {te : TE} {n : Int}, Vg K te σ F7 H7 (.int n) → Vg K (tUn (rU fun i => .int (-i)) te) σ F7 H7 (.int (-n)) := fun h Q z => h _ fun v F8 H8 g8 p8 => by
        cases p8; exact ⟨_, rfl, z _ F8 H8 g8 (.int _)⟩
      refine sq (forD (Bk := fun _ _ => False) (Ct := fun _ _ => False) [rl] (F := F6) (as := os) (D := PyData.int) (vp_imp (vl_lst (K := K) (ds := os.map .int) (lg_cons (ng (vg_int y06.fh)) fun _ _ ga => lg_cons (vg_int ga.fh) fun _ _ gb => lg_cons (pw gb.fh) fun _ _ gc => lg_cons (ng (pw gc.fh)) fun _ _ gd => lg_cons (vg_int gd.fh) fun _ _ ge => lg_cons (vg_int ge.fh) fun _ _ gf => lg_one gf.fh (vg_int gf.fh)) seven) fun _ _ _ _ p => p.qp)
        (fun i σ' F' H' => Rl K rl (26 + 2 * i) F' H' ∧ ∃ v7, σ' = [some (V.ref p), some (V.ref l), some (V.int (at1 : Nat)), some (V.str q.1), some (V.int q.2), some (V.ref rl), v6, v7, none, none, none]) (fun F7 H7 g7 => ⟨R6.on g7, _, rfl⟩) ?_ ?_)
      · rintro i x u F7 H7 σ' F8 H8 g7 ex8 y8 ⟨R8, v7, rfl⟩ dx
        cases dx
        have hi : i < 7 := (List.getElem?_eq_some_iff.mp ex8).1
        have s8 : Same F0 F8 := (s6.trans g7.ff).trans y8.ff
        have o8 : Same F8 H8 := y8.fh
        refine gn (at_ (σ' := [some (V.ref p), some (V.ref l), some (V.int (at1 : Nat)), some (V.str q.1), some (V.int q.2), some (V.ref rl), v6, some (V.int x), none, none, none]) rfl ?_)
        refine sq (rw_app (l := rl) rfl (rw_cat (rw_cat (cutA rfl (letV rfl s8 o8)) (fun F9 H9 g9 => rw_one (x := q.1) (a := x) (vp_var g9.fh rfl (.str _)) (fun _ _ g => vp_var g.fh rfl (.int _)) (Nat.le_trans fq.2.1 (by decide))) (by decide)) (fun F9 H9 g9 => cutB rfl (letV rfl (s8.trans g9.ff) g9.fh)) (by decide)) (by decide) R8 (by omega) fun F9 H9 g9 R9 _ => ?_)
        have s9 := s8.trans g9.ff
        refine rw_app (l := rl) rfl (rw_cat (rw_cat (cutA rfl (letV rfl s9 g9.fh)) (fun FA HA gA => rw_one (x := "Q") (a := x) (vg_str gA.fh) (fun _ _ g => vp_var g.fh rfl (.int _)) (by decide +kernel)) (by decide)) (fun FA HA gA => cutC rfl (letV rfl (s9.trans gA.ff) gA.fh)) (by decide)) (by decide) R9 (by omega) fun FA HA gA RA _ => ?_
        exact ⟨FA, (y8.trans g9).trans gA, by rw [show 26 + 2 * (i + 1) = 26 + 2 * i + 1 + 1 by omega]; exact RA, _, rfl⟩
      · rintro F7 H7 σ' F8 H8 g7 y8 ⟨R8, v7, rfl⟩
        have R8 : Rl K rl 40 F8 H8 := R8
        have y08 : Gr [rl] F2 (upd H2 rl (.lst vs)) F8 H8 := (y06.trans g7.zero).trans y8
        have s8 : Same F0 F8 := gA.ff.trans y08.ff
        -- the wide row
        have al13 : ("abcdefghijklm" : Str).length ≤ sizeLine := Nat.le_trans (show ("abcdefghijklm" : Str).length ≤ 13 by decide +kernel) (by decide)
        have two : 2 ≤ sizeLine := by decide
        have wideV : Vp (tLc (iRng1 (tCons (tC (.int 13)) tNil)) (gName 8) tYes (tTup (tCons (tOp (rIx K) (tC (.str "abcdefghijklm")) (tVar 8)) (tCons (tOp (rI (fun _ j => j ≠ 0) fun i j => .int (i.fmod j)) (tOp (rI0 fun i j => .int (i + j)) (tVar 8) (tVar 4)) (tC (.int 3))) tNil))) [8])
            [some (V.ref p), some (V.ref l), some (V.int (at1 : Nat)), some (V.str q.1), some (V.int q.2), some (V.ref rl), v6, v7, none, none, none] F8 H8 (Rw 13 K) := by
          refine vp_imp (vl_lcRng (K := K) (tl := tCons (tC (.int 13)) tNil) (n := 13) (fun k : Nat => ltD (sgn k, Int.fmod ((k : Nat) + q.2) 3)) (fun Q z => z) y08.fh (by decide) ?_) ?_
          · intro k9 F9 H9 Y hk g9 kY
            refine gn ⟨rfl, ?_⟩
            exact (vg_tup (K := K) (ds := [.str (sgn k9), .int (Int.fmod ((k9 : Nat) + q.2) 3)]) (lg_cons (vg_ixS (vg_str g9.fh) (fun _ _ g => vp_var g.fh rfl (.int _)) al13 (sgn_at k9 hk)) fun _ _ ga => lg_one ga.fh (vg_I (cc := fun _ j => j ≠ 0) (g := fun i j => i.fmod j) (vg_I0 (g := fun i j => i + j) (vp_var ga.fh rfl (.int _)) fun _ _ gb => vp_var gb.fh rfl (.int _)) (fun _ _ gc => vg_int gc.fh) (by decide))) two) Y kY
          · intro v F9 H9 g9 pv
            refine ⟨(List.range 13).map fun k : Nat => (sgn k, Int.fmod ((k : Nat) + q.2) 3), ?_, by rw [List.length_map]; decide, fun r hr => ?_⟩
            · rw [List.map_map]; exact pv
            · obtain ⟨j, _, rfl⟩ := List.mem_map.mp hr
              show (1 : Nat) ≤ 20
              decide
        refine sq (asgP wideV fun wv F9 H9 g9 rw9 => ?_)
        refine at_ (σ' := [some (V.ref p), some (V.ref l), some (V.int (at1 : Nat)), some (V.str q.1), some (V.int q.2), some (V.ref rl), v6, v7, none, some wv, none]) rfl ?_
        have y09 := y08.trans g9.zero
        have R9 := R8.on g9
        have wvar : ∀ {σ : L2.St} {FB HB : Hp}, σ[9]? = some (some wv) → Same F9 FB → Same FB HB → Vp (tVar 9) σ FB HB (Rw 13 K) := fun h s1 s2 => vp_var s2 h (rw9.mono s1)
        refine sq (forD (Bk := fun _ _ => False) (Ct := fun _ _ => False) [rl] (F := F9) (as := ([11, 12, 13] : List Int)) (D := PyData.int) (vp_imp (vl_lst (K := K) (ds := ([11, 12, 13] : List Int).map .int) (lg_cons (vg_int y09.fh) fun _ _ ga => lg_cons (vg_int ga.fh) fun _ _ gb => lg_one gb.fh (vg_int gb.fh)) (show 3 ≤ sizeLine by decide)) fun _ _ _ _ p => p.qp)
          (fun i σ' F' H' => Rl K rl (40 + i) F' H' ∧ ∃ v8, σ' = [some (V.ref p), some (V.ref l), some (V.int (at1 : Nat)), some (V.str q.1), some (V.int q.2), some (V.ref rl), v6, v7, v8, some wv, none]) (fun FA HA gA => ⟨R9.on gA, _, rfl⟩) ?_ ?_)
        · rintro i x u FA HA σ' FB HB gA ex9 yB ⟨RB, v8, rfl⟩ dx
          cases dx
          have hi : i < 3 := (List.getElem?_eq_some_iff.mp ex9).1
          refine gn (at_ (σ' := [some (V.ref p), some (V.ref l), some (V.int (at1 : Nat)), some (V.str q.1), some (V.int q.2), some (V.ref rl), v6, v7, some (V.int x), some wv, none]) rfl ?_)
          refine rw_app (l := rl) rfl (rw_sl (lo := none) (hi := some x) (wvar rfl (gA.ff.trans yB.ff) yB.fh) (fun H1 Q q => q) (fun H1 Q q => ⟨_, rfl, _, rfl, q⟩)) (by decide) RB (by omega) fun FC HC gC RC _ => ⟨FC, yB.trans gC, RC, _, rfl⟩
        · rintro FA HA σ' FB HB gA yB ⟨RB, v8, rfl⟩
          have RB : Rl K rl 43 FB HB := RB
          have y0B : Gr [rl] F2 (upd H2 rl (.lst vs)) FB HB := (y09.trans gA.zero).trans yB
          have s9B : Same F9 FB := gA.ff.trans yB.ff
          refine sq (rw_app (l := rl) rfl (rw_cat (rw_cat (cutA rfl (wvar rfl s9B yB.fh)) (fun FC HC gC => rw_one (x := "Q") (a := 1) (vg_str gC.fh) (fun _ _ g => vg_int g.fh) (by decide +kernel)) (by decide)) (fun FC HC gC => cutB rfl (wvar rfl (s9B.trans gC.ff) gC.fh)) (by decide)) (by decide) RB (by decide) fun FC HC gC RC _ => ?_)
          have s9C := s9B.trans gC.ff
          refine sq (rw_app (l := rl) rfl (rw_cat (rw_sl (lo := none) (hi := some 12) (wvar rfl s9C gC.fh) (fun H1 Q q => q) (fun H1 Q q => ⟨_, rfl, q⟩)) (fun FD HD gD => rw_one (x := "Q") (a := 3) (vg_str gD.fh) (fun _ _ g => vg_int g.fh) (by decide +kernel)) (by decide)) (by decide) RC (by decide) fun FD HD gD RD _ => ?_)
          have s9D := s9C.trans gD.ff
          have y0D := (y0B.trans gC).trans gD
          have row2 : Vp (tLc (iRng1 (tCons (tC (.int 12)) tNil)) (gName 8) tYes (tTup (tCons (tOp (rIx K) (tC (.str "abcdefghijklm")) (tVar 8)) (tCons (tC (.int 1)) tNil))) [8])
              [some (V.ref p), some (V.ref l), some (V.int (at1 : Nat)), some (V.str q.1), some (V.int q.2), some (V.ref rl), v6, v7, v8, some wv, none] FD HD (Rw 60 K) := by
            refine vp_imp (vl_lcRng (K := K) (tl := tCons (tC (.int 12)) tNil) (n := 12) (fun k : Nat => ltD (sgn k, 1)) (fun Q z => z) y0D.fh (by decide) ?_) ?_
            · intro k9 F9 H9 Y hk g9 kY
              refine gn ⟨rfl, ?_⟩
              exact (vg_tup (K := K) (ds := [.str (sgn k9), .int 1]) (lg_cons (vg_ixS (vg_str g9.fh) (fun _ _ g => vp_var g.fh rfl (.int _)) al13 (sgn_at k9 (by omega))) fun _ _ ga => lg_one ga.fh (vg_int ga.fh)) two) Y kY
            · intro v F9 H9 g9 pv
              refine ⟨(List.range 12).map fun k : Nat => (sgn k, 1), ?_, by rw [List.length_map]; decide, fun r hr => ?_⟩
              · rw [List.map_map]; exact pv
              · obtain ⟨j, _, rfl⟩ := List.mem_map.mp hr
                show (1 : Nat) ≤ 20
                decide
          have last2 : Rg K (tCons (tLc (iRng1 (tCons (tC (.int 12)) tNil)) (gName 8) tYes (tTup (tCons (tOp (rIx K) (tC (.str "abcdefghijklm")) (tVar 8)) (tCons (tC (.int 1)) tNil))) [8]) (tCons (tRevL K (tSl (rSlL K) (tVar 9) tNoPart (tPart (tC (.int 12))))) tNil))
              [some (V.ref p), some (V.ref l), some (V.int (at1 : Nat)), some (V.str q.1), some (V.int q.2), some (V.ref rl), v6, v7, v8, some wv, none] FD HD 2 :=
            rg_cons row2 fun FE HE gE => rg_cons (rw_le (rw_rev (rw_sl (lo := none) (hi := some 12) (wvar rfl (s9D.trans gE.ff) gE.fh) (fun H1 Q q => q) (fun H1 Q q => ⟨_, rfl, q⟩))) (by decide)) fun FF HF gF => rg_nil gF.fh
          refine B.ret ⟨_, rfl, last2 _ fun ws FE HE gE pws wl => ⟨by rw [wl]; exact two, fun w hw => ?_⟩⟩
          obtain ⟨zs, ez, fz, nz, pz⟩ := RD.on gE
          have gw := gE.new (o := .lst ws) hw
          have hwr : w ≠ rl := fun z => by rw [z, ez] at hw; cases hw
          refine ⟨rl, w, zs, ws, rfl, rfl, by rw [upd_ne (fun z => hwr z.symm)]; exact ez, upd_same, Nat.le_trans (show zs.length + ws.length ≤ 47 by omega) (by decide), fun res hres => ?_⟩
          obtain ⟨rs, d1, d2⟩ := rows_of (K := K) (F := FE) (xs := zs ++ ws) fun x hx => (List.mem_append.mp hx).elim (pz x) (pws x)
          have gR := gw.new (o := .lst (zs ++ ws)) hres
          have tot : Gr [p] F0 H _ _ := Gr.cut (l := rl) ((gBase.more (M' := [p, rl]) (fun b hb => by rw [List.mem_singleton.mp hb]; exact List.mem_cons_self)).trans ((y0D.trans gR.zero).more (M' := [p, rl]) (fun b hb => by rw [List.mem_singleton.mp hb]; exact List.mem_cons_of_mem _ List.mem_cons_self))) hrl
          refine k _ rs _ _ tot (plA.onM (y0D.trans gR.zero) (fun z => prl (List.mem_singleton.mp z))) ?_ d2
          have sR : Same FE (upd (upd FE w (.lst ws)) res (.lst (zs ++ ws))) := (Evl.Ex.new (gE.freshF hw)).trans (Evl.Ex.new (gw.freshF hres))
          exact Dp.newL upd_same (DpAll.mono sR d1)
end
end K93

set_option Elab.async false
set_option linter.all false
set_option maxRecDepth 100000
set_option maxHeartbeats 4000000
namespace K93
open PySem PySem.Spec PyProof.Rows L2 B TL
theorem cl3 {sp : Sp} {E : XK} {Q : VK} {te : TE} {σ : L2.St} {H : Hp} {i j : Nat} {u v : V} (hi : σ[i]? = some (some u)) (hj : σ[j]? = some (some v)) (h : te σ H fun x H1 => sp [u, v, x] H1 Q E) : tCall sp [] E (tCons (tVar i) (tCons (tVar j) (tCons te tNil))) σ H Q := ⟨_, hi, _, hj, h⟩
theorem if_no {p q : Prop} (h : q) : if (!true) = true then p else q := by
  rw [if_neg (by decide)]; exact h
def spTexts (K : PySem.W.Frag) : Sp := fun vs H Q _ => ∃ (F : Hp) (sg v : V) (ls : List Lt), vs = [sg, v] ∧ Same F H ∧ SigAt K F sg ls ∧ Lp K F v (ls.map ltD) ∧ ls.length ≤ 12 ∧ ∀ F' H', Gr [] F H F' H' → Q (.bl true) H'
def spLaw (K : PySem.W.Frag) : Sp := fun vs H Q _ => ∃ (a : Addr) (ns : List Int), vs = [.ref a] ∧ SqL K H a (ns.map V.int) ∧ ns.length ≤ 63 ∧ ∀ H', Q (.bl true) H'
section
variable {P : Program} {w : World} {K : PySem.W.Frag} {mg : Str → Option Value} {b0 : Heap}
theorem ok_law_of (T : Txt K mg) (hT : HasG P w K mg b0 CX0 9 (He.ga K "_law_texts") ["sig", "letters"] (spTexts K)) {fd : FuncData} (F : L2.Fun K "law" "law" s_law (He.ga K "law") fd) : FnG P w K mg b0 CX0 10 (He.ga K "law") fd ["script"] (spLaw K) := by
  refine Fun.okG F sc_law (fun vs H Q E h => ?_) (fun cdv A g outer s H vs Q E hr h => ?_)
  · obtain ⟨_, _, rfl, _⟩ := h; rfl
  · obtain ⟨a, ns, rfl, hq, n63, k⟩ := h
    have S := sc_law
    refine ⟨_, pss_cons (ps_set (i := 1) S.nd rfl (Or.inl rfl) (pc (E := E0) (ok_cells T) T.g__law_cells hr noX (pa_cons (pv 0) pa_nil)))
      (pss_cons (ps_set (i := 2) S.nd rfl (Or.inl rfl) (pc (E := E0) (ok_alpha T) T.g__law_alphabet hr noX (pa_cons (pv 1) pa_nil)))
      (pss_cons (ps_set (i := 3) S.nd rfl (Or.inl rfl) (pmS (E := fun _ => E0) (kls T rfl rfl rfl rfl rfl) T.g_Signature hr (fun _ => noXN) (pa_cons (pe_callTy call_list_of rfl T.n_list (by decide +kernel) (pa_cons (pv 2) pa_nil)) pa_nil)))
      (pss_cons (ps_if (pt_not (pt_val (pcG (E := E0) (ok_fields T) T.g__law_fields g hr noX (pa_cons (pv 1) (pa_cons (pv 3) (pa_cons (pv 2) pa_nil)))))) (pss_one (ps_ret pe_bl)) pss_nil)
      (pss_cons (ps_if (pt_not (pt_val (pcG (E := E0) (ok_made T) T.g__law_made g hr noX (pa_cons (pv 3) (pa_cons (pv 2) (pa_cons (pc (E := E0) (ok_var T) T.g__law_variants hr noX (pa_cons (pv 1) (pa_cons (pv 2) pa_nil))) pa_nil)))))) (pss_one (ps_ret pe_bl)) pss_nil)
      (pss_one (ps_ret (pcG (E := E0) hT T.g__law_texts g hr noX (pa_cons (pv 3) (pa_cons (pv 2) pa_nil))))))))), ?_⟩
    refine at_ (σ' := [some (V.ref a), none, none, none]) rfl ?_
    refine sq (asg (cl1 (te := tVar 0) ⟨_, rfl, ⟨fun _ => none, a, ns, rfl, (fun _ _ z => nomatch z), hq, n63, fun p F1 H1 hp g1 pl1 => ?_⟩⟩))
    refine at_ (σ' := [some (V.ref a), some (V.ref p), none, none]) rfl ?_
    refine sq (asg (cl1 (te := tVar 1) ⟨_, rfl, ⟨F1, p, rfl, g1.fh, pl1, fun v ls F2 H2 hv ne l12 dl g2 pl2 => ?_⟩⟩))
    refine at_ (σ' := [some (V.ref a), some (V.ref p), some v, none]) rfl ?_
    have fine := verdict_fine hv
    refine sq (asg (sig_callP (K := K) (EE := fun _ => E0) (F := F2) (ls := ls) (vp_imp (vl_listOf (vp_var g2.fh rfl (qp_l dl.dp))) fun _ _ _ _ p => p.qp) ⟨Nat.le_trans l12 (by decide), fun q hq => Nat.le_trans (fine q hq).2.1 (by decide)⟩ (fun _ ov F3 H3 g3 so => ?_) (fun n hv2 => by rw [hv] at hv2; cases hv2) (fun hv2 => by rw [hv] at hv2; cases hv2)))
    have pl3 := pl2.on g3
    have dl3 := Lp.mono g3.ff dl
    refine at_ (σ' := [some (V.ref a), some (V.ref p), some v, some ov]) rfl ?_
    refine sq ⟨_, rfl, _, rfl, _, rfl, ⟨F3, p, ov, v, ls, rfl, g3.fh, pl3, so, dl3, ne, l12, fun F4 H4 g4 pl4 => ⟨true, rfl, ?_⟩⟩⟩
    refine if_no ?_
    have so4 := so.mono g4.ff
    have dl4 := Lp.mono g4.ff dl3
    refine sq (cl3 (sp := spMade K) (u := ov) (v := v) rfl rfl ?_)
    refine ⟨_, rfl, _, rfl, ⟨F4, p, v, ls, rfl, g4.fh, pl4, dl4, ne, l12, fine, fun u rows F5 H5 g5 pl5 du rok => ?_⟩⟩
    refine ⟨F5, ov, v, u, ls, rows, rfl, g5.fh, so4.mono g5.ff, (Lp.mono g5.ff dl4).dp, du, rok, fun F6 H6 g6 => ⟨true, rfl, ?_⟩⟩
    refine if_no ?_
    have so6 := (so4.mono g5.ff).mono g6.ff
    refine B.nxt (B.ret ?_)
    exact ⟨_, rfl, _, rfl, ⟨F6, ov, v, ls, rfl, g6.fh, so6, Lp.mono g6.ff (Lp.mono g5.ff dl4), l12, fun F7 H7 g7 => k H7⟩⟩
end
end K93

set_option Elab.async false
set_option linter.all false
set_option maxRecDepth 100000
set_option maxHeartbeats 4000000
/-! The end: the top's call of a def that is promised where no guard stands around. -/
namespace B
open PySem PySem.Spec PyProof.Rows L2
/-- what the top sees of the call -/
def Topped (s : Shared) (r : Result) (s' : Shared) : Prop := r = .ok (.ret (.bool true)) ∧ OldK s.heap s'.heap ∧ s'.os = s.os ∧ AllBare s'.gens
section
variable {P : Program} {w : World} {K : PySem.W.Frag} {mg mb : Str → Option Value} {k : Nat} {f a : Addr} {fd : FuncData} {x : Str} {sp : Sp} {s : Shared} {vs : List Value} {ns : List Int} {H : Hp}
/-- only the script is told, and nothing of the written part -/
def OnlyAt (K : PySem.W.Frag) (a : Addr) (H : Hp) : Prop := ∀ b u, H b = some u → b = a ∧ K.lookup b = none ∧ ∃ o l, u = .frz o (.lst l)
theorem top_run (inK : K.In s.heap) (gl : s.heap.Ns mainGlobals mg) (bl : s.heap.Ns builtinsNs mb) (bb : ∀ y : Str, y ≠ "__name__" → mb y = bootBuiltins y) (nl : s.heap.NoLimit) (ge : s.gens = #[])
    (ob : s.heap.get? a = some { cls := .type "list", data := .seq vs.toArray }) (room : Room k callerA)
    (F : ∀ base : Heap, K.In base → base.Ns mainGlobals mg → FnG P w K mg base CX0 k f fd [x] sp) (bind : ∀ (s : Shared) (u : Value), BindsTo s fd ⟨[u], []⟩ [(x, u)])
    (on : OnlyAt K a H) (ok : HOk P w H s.heap) (want : sp [.ref a] H (fun v _ => v = .bl true) fun _ _ _ => False) :
    codeAny (model P w) callerA (.call (.ref f) ⟨[.ref a], []⟩) (Topped s) s := by
  have stays : ∀ (b : Addr) (o : Obj), s.heap.get? b = some o → (∀ u, H b = some u → b = a → False) → (hidT s.heap H).get? b = some o := by
    intro b o at_b out
    refine hidT_get at_b (Option.eq_none_iff_forall_ne_some.mpr fun u hu => out u hu (on b u hu).1)
  have names : ∀ {b : Addr} {m : Str → Option Value}, s.heap.Ns b m → (hidT s.heap H).Ns b m := by
    rintro b m ⟨o, es, ep, at_b, isD, rest⟩
    refine ⟨o, es, ep, stays b o at_b (fun u _ ba => ?_), isD, rest⟩
    subst ba
    have oo := Option.some.inj (at_b.symm.trans ob)
    subst oo
    exact nomatch isD
  have kept : K.In (hidT s.heap H) := by
    intro b o kb
    refine stays b o (inK b o kb) fun u hu _ => ?_
    have := (on b u hu).2.1
    rw [kb] at this
    exact nomatch this
  have limit : (hidT s.heap H).NoLimit := by
    obtain ⟨m, h1, h2⟩ := nl
    exact ⟨m, names h1, h2⟩
  have ground : Env0 P w K mg (hidT s.heap H) callerA [] s H := {
    frames := rfl
    mod := { kin := kept, glob := names gl, blt := ⟨mb, names bl, bb⟩, nolimit := limit }
    bs := fun b o at_b => of_hidT at_b
    bsz := by rw [hidT_size]; exact Nat.le_refl _
    funs := trivial
    frf := fun b hb => absurd hb List.not_mem_nil
    hok := ok
    bare := .of_eq ge }
  have walked := (F _ kept (names gl)).run callerA rfl [] s H ⟨[.ref a], []⟩ [.ref a] [.ref a] (fun v _ => v = .bl true) (fun _ _ _ => False) room ground (bind s (.ref a)) (.cons rfl .nil) want
  refine codeAny_mono walked fun r s' out => ?_
  match r, out with
  | .error e, out => exact absurd out id
  | .ok (.ret u), out =>
    obtain ⟨v, H', os, bare, un, hok', rel, rfl⟩ := out
    have ut : u = Value.bool true := rel
    subst ut
    refine ⟨rfl, OldK.of_keep fun b o at_b => ?_, os, bare⟩
    by_cases fr : ∃ u, H b = some u
    · obtain ⟨u, hu⟩ := fr
      obtain ⟨_, _, q, l, rfl⟩ := on b u hu
      have was := (ok b _ hu).1
      have is_ := (hok' b _ (un.frzs b q _ hu)).1
      rw [at_b] at was
      cases was
      exact is_
    · exact un.keep b o at_b (Option.eq_none_iff_forall_ne_some.mpr fun u hu => fr ⟨u, hu⟩) List.not_mem_nil List.not_mem_nil
end
end B

set_option Elab.async false
set_option linter.all false
set_option maxRecDepth 100000
set_option maxHeartbeats 4000000
namespace B
open PySem PySem.Spec PyProof.Rows L2
section
variable {P : Program} {w : World} {K : PySem.W.Frag} {mg mb : Str → Option Value} {k : Nat} {f a : Addr} {fd : FuncData} {x : Str} {sp : Sp} {s : Shared} {vs : List Value} {ns : List Int}
theorem top_call (inK : K.In s.heap) (gl : s.heap.Ns mainGlobals mg) (bl : s.heap.Ns builtinsNs mb) (bb : ∀ y : Str, y ≠ "__name__" → mb y = bootBuiltins y) (nl : s.heap.NoLimit) (ge : s.gens = #[])
    (ob : s.heap.get? a = some { cls := .type "list", data := .seq vs.toArray }) (iv : IntsAre vs ns) (few : ns.length ≤ sizeLine) (room : Room k callerA)
    (F : ∀ base : Heap, K.In base → base.Ns mainGlobals mg → FnG P w K mg base CX0 k f fd [x] sp) (bind : ∀ (s : Shared) (u : Value), BindsTo s fd ⟨[u], []⟩ [(x, u)])
    (want : ∀ H : Hp, SqL K H a (ns.map V.int) → sp [.ref a] H (fun v _ => v = .bl true) fun _ _ _ => False) :
    codeAny (model P w) callerA (.call (.ref f) ⟨[.ref a], []⟩) (Topped s) s := by
  have vals := vals_ints iv
  by_cases own : ∃ o, K.lookup a = some o
  · obtain ⟨o, kb⟩ := own
    have oo := Option.some.inj ((inK a o kb).symm.trans ob)
    subst oo
    have nn : ∀ (b : Addr) (u : HO), (fun _ => none : Hp) b = some u → False := fun b u z => by
      have e : (none : Option HO) = some u := z
      cases e
    have sq : SqL K (fun _ => none) a (ns.map V.int) := .inr ⟨_, vs.toArray, _, kb, rfl, rfl, rfl, by rw [List.size_toArray, iv.length]; exact few, by simpa using vals⟩
    exact top_run inK gl bl bb nl ge ob room F bind (fun b u z => (nn b u z).elim) (fun b u z => (nn b u z).elim) (want _ sq)
  · have out : K.lookup a = none := Option.eq_none_iff_forall_ne_some.mpr fun o kb => own ⟨o, kb⟩
    let frz : HO := .frz { cls := .type "list", data := .seq vs.toArray } (.lst (ns.map V.int))
    have there : upd (fun _ => none) a frz a = some frz := upd_same
    have back : ∀ {b u}, upd (fun _ => none) a frz b = some u → b = a ∧ u = frz := fun {b u} z => by
      by_cases ba : b = a
      · rw [ba, upd_same] at z; exact ⟨ba, (Option.some.inj z).symm⟩
      · rw [upd_ne ba] at z; exact nomatch z
    refine top_run (H := upd (fun _ => none) a frz) inK gl bl bb nl ge ob room F bind (fun b u z => ?_) (fun b u z => ?_) (want _ (.inl (.inr ⟨_, there⟩)))
    · obtain ⟨rfl, rfl⟩ := back z
      exact ⟨rfl, out, _, _, rfl⟩
    · obtain ⟨rfl, rfl⟩ := back z
      exact ⟨ob, by rw [List.length_map]; exact few, vs, _, vals, ob⟩
end
theorem walk_G {l : PySem.W.OpenLaw} {n k : Nat} {q : Program} {loose : List Str} {XP : (Str → Option Value) → Heap → Prop} {YP : World → Heap → Prop} {d : DefRec} {x : Str} (most : l.most = some n) (few : n ≤ sizeLine) (nodef : d.params.defaults = []) (room : Room k callerA)
    (F : ∀ (w : World) (mg : Str → Option Value) (f : Addr) (h : Heap), YP w h → h.Ns mainGlobals mg → mg d.name = some (.ref f) → ∃ (K : PySem.W.Frag) (fd : FuncData) (sp : Sp), K.In h ∧ (∀ (s : Shared) (u : Value), BindsTo s fd ⟨[u], []⟩ [(x, u)]) ∧
      (∀ (H : Hp) (a : Addr) (ns : List Int), ns.length ≤ n → SqL K H a (ns.map V.int) → sp [.ref a] H (fun v _ => v = .bl true) fun _ _ _ => False) ∧ ∀ base : Heap, K.In base → base.Ns mainGlobals mg → FnG l.prog w K mg base CX0 k f fd [x] sp) :
    PySem.W.WalkO q loose XP YP l.row.toRowW d [] (fun f vs => PySem.call f vs) := by
  refine Att.attach_call most nodef ?_
  intro w s₀ s₁ mg mb fa o pm cd doc a vs ns G Y ho hd hcd is_fa list_at iv len gens
  obtain ⟨K, fd, sp, inK, bind, want, prom⟩ := F w mg fa _ Y G.T.g is_fa
  exact top_call inK G.T.g G.T.b G.T.builtins G.T.nolimit gens list_at iv (Nat.le_trans len few) room prom bind fun H => want H a ns len
end B

set_option Elab.async false
set_option linter.all false
set_option maxRecDepth 100000
set_option maxHeartbeats 0
namespace K93
open PySem PySem.Spec PyProof.Rows L2 B
/-- the head's facts: the law's own def, known once, promised over every base -/
theorem facts (hT : ∀ {w : World} {K : PySem.W.Frag} {mg : Str → Option Value} {b0 : Heap}, Txt K mg → HasG PySem.Challenge.rw_learntbyasking_k93_signatures_kept.prog w K mg b0 CX0 9 (He.ga K "_law_texts") ["sig", "letters"] (spTexts K))
    {w : World} {K : PySem.W.Frag} {h : Heap} {mg : Str → Option Value} {f : Addr} (inK : K.In h) (ns : h.Ns mainGlobals mg) (is_ : mg ("law" : Str) = some (.ref f)) (c : SaysM fx fn K) :
    ∃ fd : FuncData, (∀ (s : Shared) (v : Value), BindsTo s fd ⟨[v], []⟩ [("script", v)]) ∧ ∀ base : Heap, FnG PySem.Challenge.rw_learntbyasking_k93_signatures_kept.prog w K mg base CX0 10 f fd ["script"] (spLaw K) := by
  have T : Txt K mg := ⟨c, h, inK, ns⟩
  have e := is_.symm.trans T.g_law
  cases e
  obtain ⟨fd, F⟩ := c.def_ 33
  exact ⟨fd, fun s v => (FunD.bindsA (ps := ["script"]) F fun _ _ _ _ _ _ us hl => match us, hl with | [_], _ => rfl) s [v] rfl, fun base => ok_law_of T (hT T) (He5.fun_of (st := s_law) F)⟩
end K93
open PySem PySem.W PySem.Calls PyProof.Rows
theorem k93_of (hT : ∀ {w : World} {K : PySem.W.Frag} {mg : Str → Option Value} {b0 : Heap}, K93.Txt K mg → B.HasG PySem.Challenge.rw_learntbyasking_k93_signatures_kept.prog w K mg b0 L2.CX0 9 (He.ga K "_law_texts") ["sig", "letters"] (K93.spTexts K)) :
    PySem.Challenge.rw_learntbyasking_k93_signatures_kept.Holds := by
  w_on; o_law
  refine HandSHeadRun.head_any (r := OpenLaw.row PySem.Challenge.rw_learntbyasking_k93_signatures_kept) (q := view (OpenLaw.row PySem.Challenge.rw_learntbyasking_k93_signatures_kept).prog [K93.lawAt]) (H := K93.hk) (ob := K93.ob) (M := 6000) (loose := K93.names) (d := HandSHeadRun.topDef (OpenLaw.row PySem.Challenge.rw_learntbyasking_k93_signatures_kept).prog K93.lawAt) (kwd := []) K93.ob_eq
    (by kernel_rfl) (fun s => by kernel_rfl) K93.run (by kernel_rfl) (by kernel_rfl) (by kernel_rfl) (by rfl) (by first | assumption | decide +kernel) (by decide +kernel) ⟨rfl, rfl, rfl, rfl, rfl, by decide +kernel⟩ ?hw ?hc
  case hw => w_witness2
  case hc =>
    refine B.walk_G (l := PySem.Challenge.rw_learntbyasking_k93_signatures_kept) (n := 63) (k := 10) (x := "script") rfl (by decide) (by kernel_rfl) ⟨rfl, by decide, by decide⟩ ?_
    rintro w mg f h ⟨K, inK, c⟩ ns is0
    have nm : (HandSHeadRun.topDef (OpenLaw.row PySem.Challenge.rw_learntbyasking_k93_signatures_kept).prog K93.lawAt).name = ("law" : PySem.Str) := by kernel_rfl
    rw [nm] at is0
    obtain ⟨fd, bind, prom⟩ := K93.facts hT (w := w) inK ns is0 c
    exact ⟨K, fd, K93.spLaw K, inK, bind, fun H a ns hl hS => ⟨a, ns, rfl, hS, hl, fun _ => rfl⟩, fun base _ _ => prom base⟩

set_option Elab.async false
set_option linter.all false
set_option maxRecDepth 100000
/-! Two readings of one quiet term (no call, no generator's turn) may be joined. -/
namespace RW
open PySem
def Quiet {α : Type} : Sem α → Prop
  | .call _ _ _ _ _ => False
  | .resume _ _ _ _ => False
  | .rule _ k => ∀ u, Quiet (k u)
  | .at _ k => ∀ u, Quiet (k u)
  | .load _ _ k => ∀ o, Quiet (k o)
  | .update _ _ _ k => ∀ u, Quiet (k u)
  | .alloc _ k => ∀ u, Quiet (k u)
  | .loadIfAlive _ k => ∀ u, Quiet (k u)
  | .point _ k => ∀ u, Quiet (k u)
  | .fresh k => ∀ u, Quiet (k u)
  | .ask k => ∀ u, Quiet (k u)
  | .choose _ _ k => ∀ u, Quiet (k u)
  | .os _ _ k => ∀ u, Quiet (k u)
  | .handled _ k => ∀ u, Quiet (k u)
  | .newGen _ k => ∀ u, Quiet (k u)
  | .genState _ k => ∀ u, Quiet (k u)
  | .stack k => ∀ u, Quiet (k u)
  | .thread k => ∀ u, Quiet (k u)
  | _ => True
theorem wp_both {α : Type} {M : Model} {Γ : Ctx} (t : Sem α) : ∀ {Q Q' : α → Pos → Shared → Prop} {E E' : Value → Pos → Shared → Prop} (p : Pos) (s : Shared), Quiet t → Sem.wp M Γ t Q E p s → Sem.wp M Γ t Q' E' p s →
    Sem.wp M Γ t (fun a p' s' => Q a p' s' ∧ Q' a p' s') (fun e p' s' => E e p' s' ∧ E' e p' s') p s := by
  induction t with
  | pure a => intro _ _ _ _ p s _ h h'; exact ⟨h, h'⟩
  | raise e => intro _ _ _ _ p s _ h h'; exact ⟨h, h'⟩
  | unsupported _ => intro _ _ _ _ p s _ h _; exact h
  | finish _ => intro _ _ _ _ p s _ h _; exact h
  | rule _ k ih => intro _ _ _ _ p s q h h'; exact ih () p s (q ()) h h'
  | «at» p' k ih => intro _ _ _ _ p s q h h'; exact ih () p' s (q ()) h h'
  | load a _ k ih =>
    intro _ _ _ _ p s q h h'
    obtain ⟨o, ho, h⟩ := h
    obtain ⟨o', ho', h'⟩ := h'
    obtain rfl := Option.some.inj (ho.symm.trans ho')
    exact ⟨o, ho, ih o p s (q o) h h'⟩
  | update a _ f k ih => intro _ _ _ _ p s q h h'; exact ⟨h.1, ih () p _ (q ()) h.2 h'.2⟩
  | loadIfAlive a k ih => intro _ _ _ _ p s q h h'; exact ih _ p s (q _) h h'
  | point _ k ih => intro _ _ _ _ p s q h h'; exact ih () p s (q ()) h h'
  | register _ _ => intro _ _ _ _ p s _ h _; exact h
  | alloc o k ih => intro _ _ _ _ p s q h h'; exact ih _ p _ (q _) h h'
  | fresh k ih => intro _ _ _ _ p s q h h'; exact ih _ p _ (q _) h h'
  | ask k ih => intro _ _ _ _ p s q h h'; exact ih _ p s (q _) h h'
  | choose src m k ih => intro _ _ _ _ p s q h h'; exact ⟨h.1, ih _ p _ (q _) h.2 h'.2⟩
  | os r _ k ih => intro _ _ _ _ p s q h h'; exact ih _ p _ (q _) h h'
  | call c hd _ _ k ih => intro _ _ _ _ p s q _ _; exact q.elim
  | handled own k ih => intro _ _ _ _ p s q h h'; exact ih _ p s (q _) h h'
  | genState g k ih =>
    intro _ _ _ _ p s q h h'
    obtain ⟨st, hs, h⟩ := h
    obtain ⟨st', hs', h'⟩ := h'
    obtain rfl := Option.some.inj (hs.symm.trans hs')
    exact ⟨st, hs, ih _ p s (q _) h h'⟩
  | newGen c k ih => intro _ _ _ _ p s q h h'; exact ih _ p _ (q _) h h'
  | resume g r _ k ih => intro _ _ _ _ p s q _ _; exact q.elim
  | yield _ _ _ _ => intro _ _ _ _ p s _ h _; exact h
  | stack k ih => intro _ _ _ _ p s q h h'; exact ih _ p s (q _) h h'
  | fork _ _ => intro _ _ _ _ p s _ h _; exact h
  | thread k ih => intro _ _ _ _ p s q h h'; exact ih _ p s (q _) h h'
  | await _ _ _ _ _ => intro _ _ _ _ p s _ h _; exact h
theorem any_both {α : Type} {M : Model} {A : Around} {t : Sem α} {Q Q' : α → Shared → Prop} {E E' : Value → Shared → Prop} {s : Shared} (q : Quiet t) (h : wpAny M A t Q E s) (h' : wpAny M A t Q' E' s) :
    wpAny M A t (fun a s' => Q a s' ∧ Q' a s') (fun e s' => E e s' ∧ E' e s') s := fun Γ p i => wp_both t p s q (h Γ p i) (h' Γ p i)
theorem quiet_bind {α β : Type} (m : Sem α) {f : α → Sem β} : Quiet m → (∀ a, Quiet (f a)) → Quiet (m >>= f) := by
  show Quiet m → _ → Quiet (Sem.bind m f)
  induction m with
  | pure a => intro _ h; exact h a
  | call => intro q; exact q.elim
  | resume => intro q; exact q.elim
  | _ => first
    | (intro _ _; exact trivial)
    | (rename_i ih; intro q h u; exact ih u (q u) h)
theorem quiet_nsSet (L : Addr) (x : Str) (v : Value) : Quiet (nsSet L x v) := by
  unfold nsSet
  refine quiet_bind _ ?_ fun h => quiet_bind _ ?_ fun key => quiet_bind _ ?_ fun o => ?_
  · intro u; exact trivial
  · intro u; exact trivial
  · intro u; exact trivial
  · split
    · split
      · exact trivial
      · intro u; exact trivial
    · exact trivial
end RW

set_option Elab.async false
set_option linter.all false
set_option maxRecDepth 100000
set_option maxHeartbeats 2000000
/-! A slot, raw. -/
namespace RW
open PySem PySem.Spec PyProof.Rows L2
/-- PST, PSsT as structures: Lean unfolds a bare PST of a long text where it is handed on -/
structure PQ (X : Cx) (st : Stmt) (t : TS) : Prop where
  run : PST X st t
structure PQs (X : Cx) (st : List Stmt) (t : TS) : Prop where
  run : PSsT X st t
theorem pq_of {X : Cx} {st : Stmt} {t : TS} (h : PS X st t) : PQ X st t := ⟨PST.of h⟩
theorem pqs_of {X : Cx} {st : List Stmt} {t : TS} (h : PSs X st t) : PQs X st t := ⟨PSsT.of h⟩
theorem pqs_cons {X : Cx} {st : Stmt} {rest : List Stmt} {t u : TS} (h1 : PQ X st t) (h2 : PQs X rest u) : PQs X (st :: rest) (tSeq t u) := ⟨psst_cons h1.run h2.run⟩
def Slot (X : Cx) (s : Shared) (x : Str) (u : Value) : Prop := ∀ m, s.heap.Ns X.env.locals m → m x = some u
section
variable {X : Cx} {pins : List (Addr × Obj)} {σ : L2.St} {H : Hp} {s : Shared} {M : Model} {A : Around} {E : Value → Shared → Prop} {i : Nat} {x : Str} {v : V} {u : Value}
theorem ns_inj {h : Heap} {L : Addr} {m m' : Str → Option Value} (a : h.Ns L m) (b : h.Ns L m') : m = m' := by
  obtain ⟨o, es, ep, e, d, r⟩ := a
  obtain ⟨o', es', ep', e', d', r'⟩ := b
  rw [e] at e'; cases e'
  rw [d] at d'; cases d'
  exact funext fun y => (r.2 y).symm.trans (r'.2 y)
theorem store_raw (I : Inv X pins σ H s) (hN : X.N.Nodup) (hi : X.N[i]? = some x) (hk : X.env.scope.names.lookup x = some .local) (r : RelV v u) :
    wpAny M A (storeName X.env x u) (fun _ s' => Inv X pins (σ.set i (some v)) H s' ∧ Slot X s' x u ∧ s'.toks = s.toks + 1 ∧ ∀ y w, y ≠ x → Slot X s y w → Slot X s' y w) E s := by
  obtain ⟨m, hn, _⟩ := id I.loc
  have hp : (X.env.scope.kind == .class || (X.env.scope.kind == .module && X.env.locals != X.env.globals)) = false := by rw [I.ok.kind]; rfl
  have one : wpAny M A (storeName X.env x u) (fun _ s' => Inv X pins (σ.set i (some v)) H s') E s := store_ok I hN hi (.inl hk) r (fun _ I' => I') (.inr hk)
  have two : wpAny M A (storeName X.env x u) (fun _ s' => s'.heap.Ns X.env.locals (fun y => if y = x then some u else m y) ∧ s'.toks = s.toks + 1) E s := wpAny_storeName_local hk hn (fun h' n' _ => ⟨n', rfl⟩) hp
  rw [storeName_local hk hp] at one two ⊢
  refine wpAny_mono (any_both (quiet_nsSet _ _ _) one two) (fun _ s' ⟨I', n', t'⟩ => ⟨I', fun m' z => ?_, t', fun y w ne sl m' z => ?_⟩) fun e s' z => z.1
  · rw [ns_inj z n']; exact if_pos rfl
  · rw [ns_inj z n']
    show (if y = x then some u else m y) = some w
    rw [if_neg ne]; exact sl m hn
theorem slot_toks {k : Nat} {w : Value} (h : Slot X s x w) : Slot X { s with toks := k } x w := h
theorem read_slot {pos : Pos} {Q : Value → Shared → Prop} (I : Inv X pins σ H s) (hk : X.env.scope.names.lookup x = some .local) (sl : Slot X s x u) (fin : Q u s)
    (hd : (x == ("__debug__" : Str)) = false := by decide) : wpAny (model X.prog X.w) X.A (eval (.Name x pos) X.env) Q E s := by
  obtain ⟨m, hn, _⟩ := id I.loc
  exact wpAny_Name (wpAny_loadName_local I.ok.kind hk hn (sl m hn) fin) hd
/-- what an argument of replace gives: a text and its token, nothing else but tokens taken -/
def Gives2 (X : Cx) (s : Shared) (e : Expr) (y : Str) (tk : Nat → Tok) : Prop := ∀ (k : Nat) (Q : Value → Shared → Prop), s.toks ≤ k → (∀ k', k ≤ k' → Q (.str y (tk k)) { s with toks := k' }) → wpAny (model X.prog X.w) X.A (eval e X.env) Q X.xe { s with toks := k }
theorem gives_const {y : Str} {j : Nat} {c : Pos} : Gives2 X s (.Constant (.str y) j c) y fun k => k := fun k Q hk q => Calls.Constant_str (q (k + 1) (Nat.le_succ k))
theorem gives_slot {y : Str} {t : Tok} {pos : Pos} (I : Inv X pins σ H s) (hk : X.env.scope.names.lookup x = some .local) (sl : Slot X s x (.str y t)) (hd : (x == ("__debug__" : Str)) = false := by decide) : Gives2 X s (.Name x pos) y fun _ => t :=
  fun k Q h q => read_slot (I.tok k) hk (slot_toks sl) (q k (Nat.le_refl k)) hd
theorem repl_wp {ik : Nat} {kx y z : Str} {tx : Str} {e1 e2 : Expr} {p1 apos pos : Pos} {t1 t2 : Nat → Tok} {Q : Value → Shared → Prop} (hN : X.N[ik]? = some kx) (hv : Vis X.env.scope kx) (I : Inv X pins σ H s) (hσ : σ[ik]? = some (some (.str tx)))
    (g1 : Gives2 X s e1 y t1) (g2 : Gives2 X s e2 z t2) (h1 : t1 s.toks ≠ 0) (h2 : ∀ k, s.toks ≤ k → t2 k ≠ 0) (h3 : ∀ k, s.toks ≤ k → t1 s.toks ≠ t2 k) (hyz : (y == z) = false) (hb : tx.length + (tx.length + 1) * z.length ≤ 16777216)
    (fin : ∀ t' k, Q (.str (Txt.replace tx y z) t') { s with toks := k })
    (hd : (kx == ("__debug__" : Str)) = false := by decide) (hcd : (kx == ("__classdict__" : Str)) = false := by decide)
    (hst : starEach [e1, e2] X.env = [(false, eval e1 X.env), (false, eval e2 X.env)] := by rfl)
    (hbase : attributeBase (.Name kx p1) "replace" X.env (eval (.Name kx p1) X.env) = eval (.Name kx p1) X.env := by rfl) (hline : (apos.endLine == pos.line) = true := by rfl) :
    wpAny (model X.prog X.w) X.A (eval (.Call (.Attribute (.Name kx p1) "replace" apos) [e1, e2] [] pos) X.env) Q X.xe s := by
  refine PySem.Call_method2 hbase hst hline (raw_name hN hv I hσ (fun v r => ?_) hd hcd)
  obtain ⟨tt, rfl⟩ := r
  refine ⟨"str", _, PySem.F.plainAttrs_str, PySem.F.slot_str_replace, PySem.F.type_str_replace, typeIs_str _ _ _, (fun _ e => nomatch e), Calls.callWith_builtin rfl (Calls.evalArgs_plain (Calls.spliced_cons ?_))⟩
  refine g1 s.toks _ (Nat.le_refl _) fun k hk => Calls.spliced_cons (g2 k _ hk fun k' hk' => Calls.spliced_nil ?_)
  exact PySem.SC.replace h1 (h2 k hk) (h3 k hk) hyz hb fun t' k2 => fin t' k2
/-- l.append(e), e's text told at this state -/
theorem app_wp {il : Nat} {lx y : Str} {l : Addr} {xs : List V} {e : Expr} {p1 apos cpos pos : Pos} {D : Ends} (hN : X.N[il]? = some lx) (hv : Vis X.env.scope lx) (I : Inv X pins σ H s) (hσ : σ[il]? = some (some (.ref l))) (hH : H l = some (.lst xs)) (hz : xs.length + 1 ≤ sizeLine)
    (he : ∀ Q : Value → Shared → Prop, (∀ t' k, Q (.str y t') { s with toks := k }) → wpAny (model X.prog X.w) X.A (eval e X.env) Q X.xe s) (fin : D.nx σ (upd H l (.lst (xs ++ [.str y]))))
    (hd : (lx == ("__debug__" : Str)) = false := by decide) (hcd : (lx == ("__classdict__" : Str)) = false := by decide)
    (hbase : attributeBase (.Name lx p1) "append" X.env (eval (.Name lx p1) X.env) = eval (.Name lx p1) X.env := by rfl)
    (hfew : ((backTo cpos (starEach [e] X.env)).all (fun x => !x.1) && (backToKw cpos (keywordEach [] X.env)).all (fun x => x.1.isSome)
      && decide (([e] : List Expr).length + ([] : List Keyword).length + (if ([] : List Keyword).isEmpty then 0 else 1) < 30)) = true := by rfl)
    (hline : (apos.endLine == cpos.line) = true := by rfl) (hs : starEach [e] X.env = [(false, eval e X.env)] := by rfl) (hsw : swapsWith (.Call (.Attribute (.Name lx p1) "append" apos) [e] [] cpos) none pos.line X.env = pure false := by rfl) :
    wpAny (model X.prog X.w) X.A (exec (.Expr (.Call (.Attribute (.Name lx p1) "append" apos) [e] [] cpos) pos) X.env) (SP X pins D) X.xe s := by
  refine wpAny_Expr_any ?_ I.quiet hsw
  refine wpAny_Call_method_late hbase hfew hline rfl (raw_name hN hv I hσ (fun v r => ?_) hd hcd)
  obtain ⟨h1, h2⟩ := tyV_is (T := "list") (x := .ref l) (v := v) I r (.inl ⟨rfl, _, .inl (.inl hH)⟩)
  refine ⟨"list", _, PySem.F.plainAttrs_list, PySem.F.slot_list_append, PySem.F.type_list_append, h1, h2, ?_⟩
  rw [hs]
  refine Calls.callWith_builtin rfl (Calls.evalArgs_plain (Calls.spliced_cons (he _ fun t' k => Calls.spliced_nil ?_)))
  refine thn (mt_append pins _ σ H (.ref l) [.str y] v [.str y t'] (fun _ H2 => H2 = upd H l (.lst (xs ++ [.str y]))) (I.tok k) r (.cons ⟨t', rfl⟩ .nil) ⟨l, xs, .str y, rfl, rfl, hH, by omega, rfl⟩) fun v2 s2 ⟨x2, H2, I2, r2, q2⟩ => ?_
  subst q2
  exact ⟨σ, _, I2, fin⟩
end
end RW

set_option Elab.async false
set_option linter.all false
set_option maxRecDepth 100000
set_option maxHeartbeats 2000000
/-! for over a written list of texts, raw. -/
namespace RW
open PySem PySem.Spec PyProof.Rows L2
def mk (c : Str × Nat × Pos) : Expr := .Constant (.str c.1) c.2.1 c.2.2
def rawOf : List Str → Nat → List Value
  | [], _ => []
  | c :: r, t => .str c t :: rawOf r (t + 1)
theorem rawOf_len : ∀ (cs : List Str) (t : Nat), (rawOf cs t).length = cs.length
  | [], _ => rfl
  | c :: r, t => by rw [rawOf, List.length_cons, List.length_cons, rawOf_len r]
theorem rawOf_at : ∀ (cs : List Str) (t i : Nat) (c : Str), cs[i]? = some c → (rawOf cs t)[i]? = some (.str c (t + i))
  | [], _, _, _, h => by simp at h
  | d :: r, t, 0, c, h => by simp at h; subst h; rfl
  | d :: r, t, i + 1, c, h => by
    have := rawOf_at r (t + 1) i c (by simpa using h)
    rw [show t + 1 + i = t + (i + 1) by omega] at this
    simpa [rawOf] using this
section
variable {X : Cx} {pins : List (Addr × Obj)} {σ : L2.St} {H : Hp} {M : Model} {E : Value → Shared → Prop}
theorem consts_wp {A : Around} {pos : Pos} : ∀ (cs : List (Str × Nat × Pos)) (s : Shared) (Q : List Value → Shared → Prop), Q (rawOf (cs.map (·.1)) s.toks) { s with toks := s.toks + cs.length } →
    wpAny M A (spliced (backTo pos (starEach (cs.map mk) X.env))) Q E s
  | [], s, Q, q => Calls.spliced_nil q
  | c :: r, s, Q, q => by
    show wpAny _ _ (spliced ((false, eval (.Constant (.str c.1) c.2.1 c.2.2) X.env) :: backTo pos (starEach (r.map mk) X.env))) _ _ s
    refine Calls.spliced_cons (Calls.Constant_str (consts_wp r { s with toks := s.toks + 1 } _ ?_))
    rw [show s.toks + (c :: r).length = s.toks + 1 + r.length by rw [List.length_cons]; omega] at q
    exact q
def Turned (X : Cx) (a it : Addr) (its : Array Value) (pins : List (Addr × Obj)) : Prop := True
theorem pst_forC {x : Str} {ix : Nat} {cs : List (Str × Nat × Pos)} {es : List Expr} {body : List Stmt} {p1 lp pos : Pos} {D : Ends} {s : Shared} {W : Nat → L2.St → Hp → Prop} (h0 : 1 ≤ s.toks) (I : Inv X pins σ H s) (hes : es = cs.map mk) (hp : PassesOwn (model X.prog X.w) X.A X.env X.xe) (hc : X.calm = true)
    (hN : X.N.Nodup) (hi : X.N[ix]? = some x) (hk : X.env.scope.names.lookup x = some .local) (hz : cs.length ≤ sizeLine)
    (w0 : W 0 σ H) (wn : ∀ σ H, W cs.length σ H → D.nx σ H)
    (hb : ∀ (i : Nat) (c : Str) (t : Tok) (pins : List (Addr × Obj)) (s : Shared) (σ : L2.St) (H : Hp), (cs.map (·.1))[i]? = some c → 1 ≤ s.toks → Inv X pins (σ.set ix (some (.str c))) H s → W i σ H → Slot X s x (.str c t) → t ≠ 0 → t < s.toks →
      wpAny (model X.prog X.w) X.A (execs body X.env) (SP X pins { nx := W (i + 1), rt := fun _ _ => False, bk := fun _ _ => False, ct := fun _ _ => False }) X.xe s)
    (hs : ∀ v, foldedSetIterable (.List es lp) X.env v = pure v := by intro _; rfl) : wpAny (model X.prog X.w) X.A (exec (.For (.Name x p1) (.List es lp) body [] pos) X.env) (SP X pins D) X.xe s := by
  subst hes
  refine wpAny_For (wpAny_List_spliced (consts_wp cs s _ ⟨by rw [rawOf_len, List.length_map]; exact hz, ?_⟩)) hs
  generalize hraw : rawOf (cs.map (·.1)) s.toks = raw
  have len : raw.length = cs.length := by rw [← hraw, rawOf_len, List.length_map]
  let lo : Obj := { cls := .type "list", data := .seq raw.toArray }
  have I1 : Inv X pins σ H { s with heap := s.heap.push lo, toks := s.toks + cs.length } := I.kept (t' := s.toks + cs.length) fun b u e => Heap.get?_push_of_some _ e
  have fa : FpOk X pins H s.heap.objs.size := I.fpOk (Nat.le_refl _) (I.hok.fresh (Nat.le_refl _))
  have la : (s.heap.push lo).get? s.heap.objs.size = some lo := Heap.get?_push_size _ rfl
  generalize ea : s.heap.objs.size = a at fa la ⊢
  have I2 := I1.pinned (fp := [a]) (fun b hb => by rw [List.mem_singleton.mp hb]; exact fa) (fun b hb => by rw [List.mem_singleton.mp hb]; exact ⟨lo, la, fun v z => nomatch z⟩)
  have pa : (a, lo) ∈ pinsAt [a] (s.heap.push lo) := mem_pinsAt (List.mem_singleton.mpr rfl) la
  generalize pinsAt [a] (s.heap.push lo) = pl at I2 pa
  have isL : ∀ {pins' : List (Addr × Obj)} {σ' : L2.St} {H' : Hp} {s' : Shared}, (∀ p ∈ pl, p ∈ pins') → Inv X pins' σ' H' s' → s'.heap.IsList a raw.toArray := fun {pins' σ' H' s'} hp I' => ⟨lo, (I'.pin (a, lo) (List.mem_append_right _ (hp _ pa))).1, rfl, 0, rfl⟩
  refine wpAny_pyIter_list (isL (pins' := pins ++ pl) (fun p hp => List.mem_append_right _ hp) I2) ?_
  have I3 := I2.kept (t' := s.toks + cs.length) (h' := (s.heap.push lo).push { cls := .type "list_iterator", data := .fields #[.ref a, .int 0 0] }) fun b u e => Heap.get?_push_of_some _ e
  have fi := I2.fpOk (Nat.le_refl _) (I2.hok.fresh (Nat.le_refl _))
  have st : ((s.heap.push lo).push { cls := .type "list_iterator", data := .fields #[.ref a, .int 0 0] }).IsListIter (s.heap.push lo).objs.size a 0 := ⟨_, Heap.get?_push_size _ rfl, rfl, rfl⟩
  generalize eit : (s.heap.push lo).objs.size = it at fi st ⊢
  have stat : ∀ {H' : Hp}, H' it = none → FpOk X (pins ++ pl) H' it := fun h => ⟨h, fi.2⟩
  refine codeAny_forLoop_any (fun n s' => ∃ i σ' H', n = cs.length - i ∧ i ≤ cs.length ∧ Inv X (pins ++ pl) σ' H' s' ∧ s'.heap.IsListIter it a i ∧ H' it = none ∧ s.toks + cs.length ≤ s'.toks ∧ W i σ' H') ?_ cs.length ⟨0, σ, H, rfl, Nat.zero_le _, I3, st, fi.1, Nat.le_refl _, w0⟩
  rintro n s3 ⟨i, σ3, H3, en, hle, I4, st3, fr3, tk3, w3⟩
  obtain ⟨f0, f1, f2, f3, f4, f5⟩ := stat fr3
  have L4 := isL (fun p hp => List.mem_append_right _ hp) I4
  by_cases last : i = cs.length
  · refine wpAny_passesOwn hp (wpAny_pyNext_list_end (I4.ok.hd hc) st3 L4 (by simp [len, last]) fun h' eb => ?_)
    have I5 : Inv X (pins ++ pl) σ3 H3 { s3 with heap := h' } := I4.turned (t' := s3.toks) (fun b o hb e => eb b o hb e) f0 f1 f3 f4 f5
    subst last
    exact wpAny_execs_nil ⟨σ3, H3, I5.unpinned, wn _ _ w3⟩
  · have lt : i < cs.length := by omega
    obtain ⟨c, hc'⟩ : ∃ c, (cs.map (·.1))[i]? = some c := ⟨_, List.getElem?_eq_getElem (by rw [List.length_map]; exact lt)⟩
    have at_ : raw[i]? = some (.str c (s.toks + i)) := by rw [← hraw]; exact rawOf_at _ _ _ _ hc'
    refine wpAny_passesOwn hp (wpAny_pyNext_list_item st3 L4 (x := .str c (s.toks + i)) (by simpa using at_) fun h' st' sb => ?_)
    have I5 : Inv X (pins ++ pl) σ3 H3 { s3 with heap := h' } := I4.turned (t' := s3.toks) (fun b o hb e => (sb.2 b hb).trans e) f0 f1 f3 f4 f5
    obtain ⟨o, e, c1, d⟩ := id st'
    refine wpAny_passesOwn hp (go_of (s := { s3 with heap := h' }) e c1 d (by decide) ?_)
    have I6 := I5.pinned (fp := [it]) (fun b hb => by rw [List.mem_singleton.mp hb]; exact stat fr3) (fun b hb => by rw [List.mem_singleton.mp hb]; exact ⟨o, e, fun v z => by rw [d] at z; exact nomatch z⟩)
    have pit : (it, o) ∈ pinsAt [it] h' := mem_pinsAt (List.mem_singleton.mpr rfl) e
    refine wpAny_passesOwn hp (wpAny_assign_Name (wpAny_mono (store_raw (v := .str c) I6 hN hi hk ⟨s.toks + i, rfl⟩) (fun _ s6 z => ?_) fun _ _ z => z))
    obtain ⟨I7, sl, t6, _⟩ := z
    have t6' : s6.toks = s3.toks + 1 := t6
    refine wpAny_passesOwn hp (wpAny_mono (PySem.wpAny_toks (hb i c (s.toks + i) _ s6 σ3 H3 hc' (by omega) I7 w3 sl (show s.toks + i ≠ 0 by omega) (show s.toks + i < s6.toks by omega))) (fun f s7 q7 => ?_) fun _ _ z => z.2)
    obtain ⟨tk7, q7⟩ := q7
    cases f with
    | next =>
      obtain ⟨σ7, H7, I8, w7⟩ := q7
      obtain ⟨gi, ni, _⟩ := I8.pin (it, o) (List.mem_append_right _ (List.mem_append_right _ pit))
      exact ⟨cs.length - (i + 1), by omega, i + 1, σ7, H7, rfl, by omega, I8.unpinned, ⟨o, gi, c1, d⟩, ni, by omega, w7⟩
    | cont => obtain ⟨_, _, _, w7⟩ := q7; exact w7.elim
    | brk => obtain ⟨_, _, _, w7⟩ := q7; exact w7.elim
    | ret v => obtain ⟨_, _, _, _, _, w7⟩ := q7; exact w7.elim
end
end RW

set_option Elab.async false
set_option linter.all false
set_option maxRecDepth 100000
set_option maxHeartbeats 2000000
/-! for x in written texts: l.append(text.replace(c, x)) -/
namespace RW
open PySem PySem.Spec PyProof.Rows L2
/-- texts of at most n signs -/
def Short (n : Nat) (ys : List V) : Prop := ∀ y ∈ ys, ∃ r : Str, y = .str r ∧ r.length ≤ n
section
variable {X : Cx}
/-- the reading: l has the texts at its end, x holds anything -/
def tRepC (ix ik il n b : Nat) : TS := fun D σ H => ∃ (tx : Str) (l : Addr) (xs : List V), σ[ik]? = some (some (.str tx)) ∧ σ[il]? = some (some (.ref l)) ∧ H l = some (.lst xs) ∧ xs.length + n ≤ sizeLine ∧ tx.length + (tx.length + 1) * b ≤ 16777216 ∧
  ∀ v ys, ys.length = n → Short (tx.length + (tx.length + 1) * b) ys → D.nx (σ.set ix v) (upd H l (.lst (xs ++ ys)))
theorem pst_repC {x kx lx c0 : Str} {ix ik il b j0 : Nat} {cs : List (Str × Nat × Pos)} {es : List Expr} {p1 p2 p3 p4 cp0 ap1 ap2 cp1 cp2 ep lp pos : Pos} (hes : es = cs.map mk) (hp : PassesOwn (model X.prog X.w) X.A X.env X.xe) (hc : X.calm = true)
    (hN : X.N.Nodup) (hi : X.N[ix]? = some x) (hk : X.env.scope.names.lookup x = some .local) (hNk : X.N[ik]? = some kx) (hvk : Vis X.env.scope kx) (hNl : X.N[il]? = some lx) (hvl : Vis X.env.scope lx) (nk : ix ≠ ik) (nl : ix ≠ il)
    (hb : ∀ c ∈ cs.map (·.1), c.length ≤ b ∧ (c0 == c) = false)
    (dx : (x == ("__debug__" : Str)) = false := by decide) (dk : (kx == ("__debug__" : Str)) = false := by decide) (ck : (kx == ("__classdict__" : Str)) = false := by decide) (dl : (lx == ("__debug__" : Str)) = false := by decide) (cl : (lx == ("__classdict__" : Str)) = false := by decide)
    (h1 : starEach [.Constant (.str c0) j0 cp0, .Name x p4] X.env = [(false, eval (.Constant (.str c0) j0 cp0) X.env), (false, eval (.Name x p4) X.env)] := by rfl)
    (h2 : attributeBase (.Name kx p3) "replace" X.env (eval (.Name kx p3) X.env) = eval (.Name kx p3) X.env := by rfl) (h3 : (ap2.endLine == cp2.line) = true := by rfl)
    (h4 : attributeBase (.Name lx p2) "append" X.env (eval (.Name lx p2) X.env) = eval (.Name lx p2) X.env := by rfl) (h5 : (ap1.endLine == cp1.line) = true := by rfl)
    (hs : ∀ v, foldedSetIterable (.List es lp) X.env v = pure v := by intro _; rfl) :
    PQ X (.For (.Name x p1) (.List es lp) [.Expr (.Call (.Attribute (.Name lx p2) "append" ap1) [.Call (.Attribute (.Name kx p3) "replace" ap2) [.Constant (.str c0) j0 cp0, .Name x p4] [] cp2] [] cp1) ep] [] pos) (tRepC ix ik il cs.length b) := by
  refine ⟨?_⟩
  intro pins s σ0 H0 D h0 I h
  obtain ⟨tx, l, xs, ek, el, eH, hz, hB, fin⟩ := h
  have ixl : ix < σ0.length := by rw [I.len]; exact (List.getElem?_eq_some_iff.mp hi).1
  refine pst_forC (W := fun i σ H => ∃ v ys, σ = σ0.set ix v ∧ ys.length = i ∧ Short (tx.length + (tx.length + 1) * b) ys ∧ H = upd H0 l (.lst (xs ++ ys))) h0 I hes hp hc hN hi hk (by omega)
    ⟨σ0[ix], [], by simp, rfl, (fun _ z => nomatch z), ?_⟩ (fun σ H ⟨v, ys, e1, e2, e3, e4⟩ => by subst e1 e4; exact fin v ys e2 e3) ?_ hs
  · funext q
    by_cases hq : q = l
    · rw [hq, upd_same, eH, List.append_nil]
    · rw [upd_ne hq]
  · rintro i c t pins s1 σ H hc' t1 I1 ⟨v, ys, rfl, ey, sh, rfl⟩ sl tn tl
    have cc := hb c (List.mem_of_getElem? hc')
    have il' : i < cs.length := by have := (List.getElem?_eq_some_iff.mp hc').1; rwa [List.length_map] at this
    have le : (tx.length + 1) * c.length ≤ (tx.length + 1) * b := Nat.mul_le_mul_left _ cc.1
    have ek' : ((σ0.set ix v).set ix (some (.str c)))[ik]? = some (some (.str tx)) := by rw [List.getElem?_set_ne nk, List.getElem?_set_ne nk]; exact ek
    have el' : ((σ0.set ix v).set ix (some (.str c)))[il]? = some (some (.ref l)) := by rw [List.getElem?_set_ne nl, List.getElem?_set_ne nl]; exact el
    refine wpAny_execs_cons (wpAny_mono (app_wp (D := { nx := fun σ' H' => σ' = σ0.set ix (some (.str c)) ∧ H' = upd H0 l (.lst (xs ++ (ys ++ [.str (Txt.replace tx c0 c)]))), rt := fun _ _ => False, bk := fun _ _ => False, ct := fun _ _ => False }) hNl hvl I1 el' upd_same (by rw [List.length_append]; omega)
      (fun Q q => repl_wp (t1 := fun k => k) (t2 := fun _ => t) hNk hvk I1 ek' gives_const (gives_slot I1 hk sl dx) (show s1.toks ≠ 0 by omega) (fun _ _ => tn) (fun _ _ => Nat.ne_of_gt tl) cc.2 (by omega) q dk ck h1 h2 h3) ⟨by rw [List.set_set], ?_⟩ dl cl h4 rfl h5 rfl rfl) (fun f s2 q => ?_) fun _ _ z => z)
    · rw [List.append_assoc]; funext q
      by_cases hq : q = l
      · rw [hq, upd_same, upd_same]
      · rw [upd_ne hq, upd_ne hq, upd_ne hq]
    · cases f with
      | next =>
        obtain ⟨σ2, H2, I2, e1, e2⟩ := q
        refine wpAny_execs_nil ⟨σ2, H2, I2, _, ys ++ [.str (Txt.replace tx c0 c)], e1, by rw [List.length_append, ey]; rfl, fun y hy => ?_, e2⟩
        rcases List.mem_append.mp hy with hy | hy
        · exact sh y hy
        · rw [List.mem_singleton.mp hy]; exact ⟨_, rfl, Nat.le_trans (TK.replace_len tx c0 c) (by omega)⟩
      | cont => obtain ⟨_, _, _, z⟩ := q; exact z.elim
      | brk => obtain ⟨_, _, _, z⟩ := q; exact z.elim
      | ret v => obtain ⟨_, _, _, _, _, z⟩ := q; exact z.elim
end
end RW

set_option Elab.async false
set_option linter.all false
set_option maxRecDepth 100000
set_option maxHeartbeats 2000000
/-! Behind a store a token is out. -/
namespace RW
open PySem PySem.Spec PyProof.Rows L2
theorem pss_setT {X : Cx} {x : Str} {i : Nat} {e : Expr} {te : TE} {rest : List Stmt} {u : TS} {pos' pos : Pos} (hN : X.N.Nodup) (hi : X.N[i]? = some x) (hk : X.env.scope.names.lookup x = some .local) (he : PE X e te) (h2 : PQs X rest u)
    (hs : swapsWith e (some (.Name x pos')) pos.line X.env = pure false := by rfl) : PSs X (.Assign [.Name x pos'] e pos :: rest) (tSeq (tAsg te (gName i)) u) := by
  refine ⟨fun pins s σ H D I h => ?_⟩
  refine wpAny_execs_cons (wpAny_Assign_Name (thn (he.run pins s σ H _ I h) fun v s1 q => ?_) hs)
  obtain ⟨y, H1, I1, r1, q1⟩ := q
  refine wpAny_mono (store_raw I1 hN hi hk r1) (fun _ s2 z => ?_) fun _ _ z => z
  obtain ⟨I2, _, t2, _⟩ := z
  exact h2.run pins s2 _ H1 _ (by omega) I2 q1
end RW

set_option Elab.async false
set_option linter.all false
set_option maxRecDepth 100000
set_option maxHeartbeats 2000000
/-! A written list of pairs of texts, raw. -/
namespace RW
open PySem PySem.Spec PyProof.Rows L2
/-- a pair that was laid between t0 and k -/
def LaidP (h : Heap) (n0 t0 k : Nat) (y z : Str) (r : Value) : Prop := ∃ (a : Addr) (t : Nat), r = .ref a ∧ n0 ≤ a ∧ h.get? a = some { cls := .type "tuple", data := .seq #[.str y t, .str z (t + 1)] } ∧ t0 ≤ t ∧ t + 1 < k
section
variable {X : Cx} {M : Model} {E : Value → Shared → Prop} {prog : Program} {w : World} {A : Around} {s : Shared}
theorem pair_wp {y z : Str} {j0 j1 : Nat} {c0 c1 pos : Pos} {x1} {Q : Value → Shared → Prop} (q : ∀ h', (∀ b u, s.heap.get? b = some u → h'.get? b = some u) → s.heap.objs.size ≤ h'.objs.size → LaidP h' s.heap.objs.size s.toks (s.toks + 2) y z (.ref s.heap.objs.size) → Q (.ref s.heap.objs.size) { s with heap := h', toks := s.toks + 2 }) :
    wpAny (model prog w) A (eval (.Tuple [.Constant (.str y) j0 c0, .Constant (.str z) j1 c1] x1 pos) X.env) Q E s := by
  refine wpAny_Tuple_spliced ?_
  show wpAny _ _ (spliced ((false, eval (.Constant (.str y) j0 c0) X.env) :: backTo pos (starEach [.Constant (.str z) j1 c1] X.env))) _ _ s
  refine Calls.spliced_cons (Calls.Constant_str ?_)
  show wpAny _ _ (spliced ((false, eval (.Constant (.str z) j1 c1) X.env) :: backTo pos (starEach [] X.env))) _ _ _
  refine Calls.spliced_cons (Calls.Constant_str (Calls.spliced_nil ?_))
  exact ⟨show (2 : Nat) ≤ sizeLine by decide, q (s.heap.push { cls := .type "tuple", data := .seq #[.str y s.toks, .str z (s.toks + 1)] }) (fun b u e => Heap.get?_push_of_some _ e) (by simp [Heap.push]) ⟨_, s.toks, rfl, Nat.le_refl _, Heap.get?_push_size _ rfl, Nat.le_refl _, by omega⟩⟩
def mkP (c : (Str × Nat × Pos) × (Str × Nat × Pos) × Nat × Pos) : Expr := .Tuple [mk c.1, mk c.2.1] c.2.2.1 c.2.2.2
theorem LaidP.keep {h h' : Heap} {n0 t0 k k' n1 t1 : Nat} {y z : Str} {r : Value} (p : LaidP h n0 t0 k y z r) (kp : ∀ b u, h.get? b = some u → h'.get? b = some u) (hn : n1 ≤ n0) (ht : t1 ≤ t0) (hk : k ≤ k') : LaidP h' n1 t1 k' y z r := by
  obtain ⟨a, t, e, l, g, l1, l2⟩ := p
  exact ⟨a, t, e, Nat.le_trans hn l, kp _ _ g, Nat.le_trans ht l1, Nat.lt_of_lt_of_le l2 hk⟩
theorem pairs_wp {pos : Pos} : ∀ (cs : List ((Str × Nat × Pos) × (Str × Nat × Pos) × Nat × Pos)) (s : Shared) (Q : List Value → Shared → Prop),
    (∀ rs h' k, (∀ b u, s.heap.get? b = some u → h'.get? b = some u) → s.heap.objs.size ≤ h'.objs.size → s.toks ≤ k → rs.length = cs.length → (∀ (i : Nat) c r, cs[i]? = some c → rs[i]? = some r → LaidP h' s.heap.objs.size s.toks k c.1.1 c.2.1.1 r) → Q rs { s with heap := h', toks := k }) →
    wpAny (model prog w) A (spliced (backTo pos (starEach (cs.map mkP) X.env))) Q E s
  | [], s, Q, q => Calls.spliced_nil (q [] s.heap s.toks (fun _ _ e => e) (Nat.le_refl _) (Nat.le_refl _) rfl (fun _ _ _ e => by simp at e))
  | c :: r, s, Q, q => by
    show wpAny _ _ (spliced ((false, eval (.Tuple [.Constant (.str c.1.1) c.1.2.1 c.1.2.2, .Constant (.str c.2.1.1) c.2.1.2.1 c.2.1.2.2] c.2.2.1 c.2.2.2) X.env) :: backTo pos (starEach (r.map mkP) X.env))) _ _ s
    refine Calls.spliced_cons (pair_wp fun h1 k1 z1 p1 => pairs_wp r { s with heap := h1, toks := s.toks + 2 } _ fun rs h2 k k2 z2 tk en pr => ?_)
    have tk' : s.toks + 2 ≤ k := tk
    refine q (_ :: rs) h2 k (fun b u e => k2 b u (k1 b u e)) (Nat.le_trans z1 z2) (by omega) (by rw [List.length_cons, List.length_cons, en]) fun i d v e1 e2 => ?_
    cases i with
    | zero => simp at e1 e2; subst e1 e2; exact p1.keep k2 (Nat.le_refl _) (Nat.le_refl _) tk'
    | succ i => exact (pr i d v (by simpa using e1) (by simpa using e2)).keep (fun _ _ e => e) z1 (show s.toks ≤ s.toks + 2 by omega) (Nat.le_refl _)
end
end RW

set_option Elab.async false
set_option linter.all false
set_option maxRecDepth 100000
set_option maxHeartbeats 2000000
/-! x, y = a pair of texts, raw. -/
namespace RW
open PySem PySem.Spec PyProof.Rows L2
section
variable {X : Cx} {pins : List (Addr × Obj)} {σ : L2.St} {H : Hp} {s : Shared} {E : Value → Shared → Prop}
theorem store_pair {x y c d : Str} {i j k : Nat} {t u : Tok} {a : Addr} {p1 p2 pos : Pos} (I : Inv X pins σ H s) (hh : X.A.handled = none) (hN : X.N.Nodup) (hi : X.N[i]? = some x) (hj : X.N[j]? = some y) (hx : X.env.scope.names.lookup x = some .local) (hy : X.env.scope.names.lookup y = some .local) (ne : x ≠ y)
    (ht : s.heap.IsTuple a #[.str c t, .str d u]) : wpAny (model X.prog X.w) X.A (assign (.Tuple [.Name x p1, .Name y p2] k pos) X.env (.ref a))
      (fun _ s' => Inv X pins ((σ.set i (some (.str c))).set j (some (.str d))) H s' ∧ Slot X s' x (.str c t) ∧ Slot X s' y (.str d u) ∧ s.toks ≤ s'.toks) E s := by
  refine wpAny_assign_Tuple hh ht rfl rfl fun h' hb => ?_
  have I2 : Inv X pins σ H { s with heap := h' } := I.kept (t' := s.toks) fun b o e => hb b o (Nat.ne_of_lt (Heap.lt_size e)) e
  show wpAny _ _ (assignInOrder [assign (.Name x p1) X.env, assign (.Name y p2) X.env] [.str c t, .str d u]) _ _ _
  refine assignInOrder_cons (wpAny_assign_Name (wpAny_mono (store_raw (v := .str c) I2 hN hi hx ⟨t, rfl⟩) (fun _ s1 z => ?_) fun _ _ z => z))
  obtain ⟨I3, sx, t3, _⟩ := z
  refine assignInOrder_cons (wpAny_assign_Name (wpAny_mono (store_raw (v := .str d) I3 hN hj hy ⟨u, rfl⟩) (fun _ s2 z => ?_) fun _ _ z => z))
  obtain ⟨I4, sy, t4, keep⟩ := z
  have t3' : s1.toks = s.toks + 1 := t3
  exact assignInOrder_nil ⟨I4, keep x _ ne sx, sy, by omega⟩
end
end RW

set_option Elab.async false
set_option linter.all false
set_option maxRecDepth 100000
set_option maxHeartbeats 2000000
/-! for x, y in written pairs of texts, raw. -/
namespace RW
open PySem PySem.Spec PyProof.Rows L2
def addrs : List Value → List Addr
  | [] => []
  | .ref b :: r => b :: addrs r
  | _ :: r => addrs r
theorem mem_addrs {b : Addr} : ∀ {rs : List Value}, b ∈ addrs rs ↔ Value.ref b ∈ rs
  | [] => by simp [addrs]
  | r :: rs => by
    have ih := mem_addrs (b := b) (rs := rs)
    cases r <;> simp [addrs, ih]
section
variable {X : Cx} {pins : List (Addr × Obj)} {σ : L2.St} {H : Hp} {M : Model} {E : Value → Shared → Prop}
theorem pst_forP {x y : Str} {ix iy kt : Nat} {cs : List ((Str × Nat × Pos) × (Str × Nat × Pos) × Nat × Pos)} {es : List Expr} {body : List Stmt} {p1 p2 tp lp pos : Pos} {D : Ends} {s : Shared} {W : Nat → L2.St → Hp → Prop} (h0 : 1 ≤ s.toks) (I : Inv X pins σ H s) (hes : es = cs.map mkP) (hp : PassesOwn (model X.prog X.w) X.A X.env X.xe) (hc : X.calm = true)
    (hN : X.N.Nodup) (hi : X.N[ix]? = some x) (hj : X.N[iy]? = some y) (hkx : X.env.scope.names.lookup x = some .local) (hky : X.env.scope.names.lookup y = some .local) (ne : x ≠ y) (hz : cs.length ≤ sizeLine)
    (w0 : W 0 σ H) (wn : ∀ σ H, W cs.length σ H → D.nx σ H)
    (hb : ∀ (i : Nat) c (t : Nat) (pins : List (Addr × Obj)) (s : Shared) (σ : L2.St) (H : Hp), cs[i]? = some c → 1 ≤ s.toks → Inv X pins ((σ.set ix (some (.str c.1.1))).set iy (some (.str c.2.1.1))) H s → W i σ H → Slot X s x (.str c.1.1 t) → Slot X s y (.str c.2.1.1 (t + 1)) → t ≠ 0 → t + 1 < s.toks →
      wpAny (model X.prog X.w) X.A (execs body X.env) (SP X pins { nx := W (i + 1), rt := fun _ _ => False, bk := fun _ _ => False, ct := fun _ _ => False }) X.xe s)
    (hs : ∀ v, foldedSetIterable (.List es lp) X.env v = pure v := by intro _; rfl) : wpAny (model X.prog X.w) X.A (exec (.For (.Tuple [.Name x p1, .Name y p2] kt tp) (.List es lp) body [] pos) X.env) (SP X pins D) X.xe s := by
  subst hes
  refine wpAny_For (wpAny_List_spliced (pairs_wp cs s _ fun raw h1 k1 ext szz tk len laid => ⟨by rw [len]; exact hz, ?_⟩)) hs
  let lo : Obj := { cls := .type "list", data := .seq raw.toArray }
  have I0 : Inv X pins σ H { s with heap := h1, toks := k1 } := I.kept (t' := k1) ext
  have I1 : Inv X pins σ H { s with heap := h1.push lo, toks := k1 } := I0.kept (t' := k1) fun b u e => Heap.get?_push_of_some _ e
  have fa : FpOk X pins H h1.objs.size := I0.fpOk (Nat.le_refl _) (I0.hok.fresh (Nat.le_refl _))
  have la : (h1.push lo).get? h1.objs.size = some lo := Heap.get?_push_size _ rfl
  have each : ∀ b ∈ addrs raw, ∃ (i : Nat) (c : (Str × Nat × Pos) × (Str × Nat × Pos) × Nat × Pos), cs[i]? = some c ∧ raw[i]? = some (Value.ref b) ∧ LaidP h1 s.heap.objs.size s.toks k1 c.1.1 c.2.1.1 (Value.ref b) := fun b hb => by
    obtain ⟨i, hi', e⟩ := List.getElem_of_mem (mem_addrs.mp hb)
    have e' : raw[i]? = some (Value.ref b) := by rw [List.getElem?_eq_getElem hi', e]
    have hc' : cs[i]? = some cs[i] := List.getElem?_eq_getElem (by omega)
    exact ⟨i, _, hc', e', laid i _ _ hc' e'⟩
  have ft : ∀ b ∈ addrs raw, FpOk X pins H b ∧ ∃ o, (h1.push lo).get? b = some o ∧ ∀ v, o.data ≠ .cell v := fun b hb => by
    obtain ⟨_, _, _, _, b', t, e, l, g, _, _⟩ := each b hb
    cases e
    exact ⟨I.fpOk l (I.hok.fresh l), _, Heap.get?_push_of_some _ g, fun v z => nomatch z⟩
  have I2 := I1.pinned (fp := h1.objs.size :: addrs raw) (fun b hb => by
    rcases List.mem_cons.mp hb with rfl | hb
    · exact fa
    · exact (ft b hb).1) (fun b hb => by
    rcases List.mem_cons.mp hb with rfl | hb
    · exact ⟨lo, la, fun v z => nomatch z⟩
    · exact (ft b hb).2)
  have pa : (h1.objs.size, lo) ∈ pinsAt (h1.objs.size :: addrs raw) (h1.push lo) := mem_pinsAt List.mem_cons_self la
  have pt : ∀ b ∈ addrs raw, ∀ o, h1.get? b = some o → (b, o) ∈ pinsAt (h1.objs.size :: addrs raw) (h1.push lo) := fun b hb o e => mem_pinsAt (List.mem_cons_of_mem _ hb) (Heap.get?_push_of_some _ e)
  generalize pinsAt (h1.objs.size :: addrs raw) (h1.push lo) = pl at I2 pa pt
  generalize h1.objs.size = a at I2 pa ⊢
  have isL : ∀ {pins' : List (Addr × Obj)} {σ' : L2.St} {H' : Hp} {s' : Shared}, (∀ p ∈ pl, p ∈ pins') → Inv X pins' σ' H' s' → s'.heap.IsList a raw.toArray := fun {pins' σ' H' s'} hp I' => ⟨lo, (I'.pin (a, lo) (List.mem_append_right _ (hp _ pa))).1, rfl, 0, rfl⟩
  refine wpAny_pyIter_list (isL (pins' := pins ++ pl) (fun p hp => List.mem_append_right _ hp) I2) ?_
  have I3 := I2.kept (t' := k1) (h' := (h1.push lo).push { cls := .type "list_iterator", data := .fields #[.ref a, .int 0 0] }) fun b u e => Heap.get?_push_of_some _ e
  have fi := I2.fpOk (Nat.le_refl _) (I2.hok.fresh (Nat.le_refl _))
  have st : ((h1.push lo).push { cls := .type "list_iterator", data := .fields #[.ref a, .int 0 0] }).IsListIter (h1.push lo).objs.size a 0 := ⟨_, Heap.get?_push_size _ rfl, rfl, rfl⟩
  generalize eit : (h1.push lo).objs.size = it at fi st ⊢
  have stat : ∀ {H' : Hp}, H' it = none → FpOk X (pins ++ pl) H' it := fun h => ⟨h, fi.2⟩
  refine codeAny_forLoop_any (fun n s' => ∃ i σ' H', n = cs.length - i ∧ i ≤ cs.length ∧ Inv X (pins ++ pl) σ' H' s' ∧ s'.heap.IsListIter it a i ∧ H' it = none ∧ k1 ≤ s'.toks ∧ W i σ' H') ?_ cs.length ⟨0, σ, H, rfl, Nat.zero_le _, I3, st, fi.1, Nat.le_refl _, w0⟩
  rintro n s3 ⟨i, σ3, H3, en, hle, I4, st3, fr3, tk3, w3⟩
  obtain ⟨f0, f1, f2, f3, f4, f5⟩ := stat fr3
  have L4 := isL (fun p hp => List.mem_append_right _ hp) I4
  by_cases last : i = cs.length
  · refine wpAny_passesOwn hp (wpAny_pyNext_list_end (I4.ok.hd hc) st3 L4 (by simp [len, last]) fun h' eb => ?_)
    have I5 : Inv X (pins ++ pl) σ3 H3 { s3 with heap := h' } := I4.turned (t' := s3.toks) (fun b o hb e => eb b o hb e) f0 f1 f3 f4 f5
    subst last
    exact wpAny_execs_nil ⟨σ3, H3, I5.unpinned, wn _ _ w3⟩
  · have hc' : cs[i]? = some cs[i] := List.getElem?_eq_getElem (by omega)
    generalize cs[i] = c at hc'
    obtain ⟨r, er⟩ : ∃ r, raw[i]? = some r := ⟨raw[i]'(by omega), List.getElem?_eq_getElem _⟩
    have lp' := laid i c r hc' er
    obtain ⟨b, t, rfl, lb, gb, lt0, lt1⟩ := lp'
    refine wpAny_passesOwn hp (wpAny_pyNext_list_item st3 L4 (x := .ref b) (by simpa using er) fun h' st' sb => ?_)
    have I5 : Inv X (pins ++ pl) σ3 H3 { s3 with heap := h' } := I4.turned (t' := s3.toks) (fun b o hb e => (sb.2 b hb).trans e) f0 f1 f3 f4 f5
    obtain ⟨o, e, c1, d⟩ := id st'
    refine wpAny_passesOwn hp (go_of (s := { s3 with heap := h' }) e c1 d (by decide) ?_)
    have I6 := I5.pinned (fp := [it]) (fun b hb => by rw [List.mem_singleton.mp hb]; exact stat fr3) (fun b hb => by rw [List.mem_singleton.mp hb]; exact ⟨o, e, fun v z => by rw [d] at z; exact nomatch z⟩)
    have pit : (it, o) ∈ pinsAt [it] h' := mem_pinsAt (List.mem_singleton.mpr rfl) e
    have gt := (I6.pin (b, _) (List.mem_append_right _ (List.mem_append_left _ (List.mem_append_right _ (pt b (mem_addrs.mpr (List.mem_of_getElem? er)) _ gb))))).1
    refine wpAny_passesOwn hp (wpAny_mono (store_pair (c := c.1.1) (d := c.2.1.1) (t := t) (u := t + 1) I6 (I4.ok.hd hc) hN hi hj hkx hky ne ⟨_, gt, rfl, 0, rfl⟩) (fun _ s6 z => ?_) fun _ _ z => z)
    obtain ⟨I7, sx, sy, t6⟩ := z
    have t6' : s3.toks ≤ s6.toks := t6
    refine wpAny_passesOwn hp (wpAny_mono (PySem.wpAny_toks (hb i c t _ s6 σ3 H3 hc' (by omega) I7 w3 sx sy (by omega) (by omega))) (fun f s7 q7 => ?_) fun _ _ z => z.2)
    obtain ⟨tk7, q7⟩ := q7
    cases f with
    | next =>
      obtain ⟨σ7, H7, I8, w7⟩ := q7
      obtain ⟨gi, ni, _⟩ := I8.pin (it, o) (List.mem_append_right _ (List.mem_append_right _ pit))
      exact ⟨cs.length - (i + 1), by omega, i + 1, σ7, H7, rfl, by omega, I8.unpinned, ⟨o, gi, c1, d⟩, ni, by omega, w7⟩
    | cont => obtain ⟨_, _, _, w7⟩ := q7; exact w7.elim
    | brk => obtain ⟨_, _, _, w7⟩ := q7; exact w7.elim
    | ret v => obtain ⟨_, _, _, _, _, w7⟩ := q7; exact w7.elim
end
end RW

set_option Elab.async false
set_option linter.all false
set_option maxRecDepth 100000
set_option maxHeartbeats 2000000
/-! for x in written texts: l.append(text.replace(c, x)) -/
namespace RW
open PySem PySem.Spec PyProof.Rows L2
section
variable {X : Cx}
def tRepP (ix iy ik il n b : Nat) : TS := fun D σ H => ∃ (tx : Str) (l : Addr) (xs : List V), σ[ik]? = some (some (.str tx)) ∧ σ[il]? = some (some (.ref l)) ∧ H l = some (.lst xs) ∧ xs.length + n ≤ sizeLine ∧ tx.length + (tx.length + 1) * b ≤ 16777216 ∧
  ∀ v w ys, ys.length = n → Short (tx.length + (tx.length + 1) * b) ys → D.nx ((σ.set ix v).set iy w) (upd H l (.lst (xs ++ ys)))
theorem pst_repP {x y kx lx : Str} {ix iy ik il b kt : Nat} {cs : List ((Str × Nat × Pos) × (Str × Nat × Pos) × Nat × Pos)} {es : List Expr} {p1 p1b p2 p3 p4 p5 tp ap1 ap2 cp1 cp2 ep lp pos : Pos} (hes : es = cs.map mkP) (hp : PassesOwn (model X.prog X.w) X.A X.env X.xe) (hc : X.calm = true)
    (hN : X.N.Nodup) (hi : X.N[ix]? = some x) (hj : X.N[iy]? = some y) (hkx : X.env.scope.names.lookup x = some .local) (hky : X.env.scope.names.lookup y = some .local) (ne : x ≠ y) (hNk : X.N[ik]? = some kx) (hvk : Vis X.env.scope kx) (hNl : X.N[il]? = some lx) (hvl : Vis X.env.scope lx) (nk : ix ≠ ik) (nl : ix ≠ il) (mk' : iy ≠ ik) (ml : iy ≠ il) (nxy : ix ≠ iy)
    (hb : ∀ c ∈ cs, c.2.1.1.length ≤ b ∧ (c.1.1 == c.2.1.1) = false)
    (dx : (x == ("__debug__" : Str)) = false := by decide) (dy : (y == ("__debug__" : Str)) = false := by decide) (dk : (kx == ("__debug__" : Str)) = false := by decide) (ck : (kx == ("__classdict__" : Str)) = false := by decide) (dl : (lx == ("__debug__" : Str)) = false := by decide) (cl : (lx == ("__classdict__" : Str)) = false := by decide)
    (h1 : starEach [.Name x p4, .Name y p5] X.env = [(false, eval (.Name x p4) X.env), (false, eval (.Name y p5) X.env)] := by rfl)
    (h2 : attributeBase (.Name kx p3) "replace" X.env (eval (.Name kx p3) X.env) = eval (.Name kx p3) X.env := by rfl) (h3 : (ap2.endLine == cp2.line) = true := by rfl)
    (h4 : attributeBase (.Name lx p2) "append" X.env (eval (.Name lx p2) X.env) = eval (.Name lx p2) X.env := by rfl) (h5 : (ap1.endLine == cp1.line) = true := by rfl)
    (hs : ∀ v, foldedSetIterable (.List es lp) X.env v = pure v := by intro _; rfl) :
    PQ X (.For (.Tuple [.Name x p1, .Name y p1b] kt tp) (.List es lp) [.Expr (.Call (.Attribute (.Name lx p2) "append" ap1) [.Call (.Attribute (.Name kx p3) "replace" ap2) [.Name x p4, .Name y p5] [] cp2] [] cp1) ep] [] pos) (tRepP ix iy ik il cs.length b) := by
  refine ⟨?_⟩
  intro pins s σ0 H0 D h0 I h
  obtain ⟨tx, l, xs, ek, el, eH, hz, hB, fin⟩ := h
  have ixl : ix < σ0.length := by rw [I.len]; exact (List.getElem?_eq_some_iff.mp hi).1
  have iyl : iy < σ0.length := by rw [I.len]; exact (List.getElem?_eq_some_iff.mp hj).1
  refine pst_forP (W := fun i σ H => ∃ v w ys, σ = (σ0.set ix v).set iy w ∧ ys.length = i ∧ Short (tx.length + (tx.length + 1) * b) ys ∧ H = upd H0 l (.lst (xs ++ ys))) h0 I hes hp hc hN hi hj hkx hky ne (by omega)
    ⟨σ0[ix], σ0[iy], [], by simp, rfl, (fun _ z => nomatch z), ?_⟩ (fun σ H ⟨v, w, ys, e1, e2, e3, e4⟩ => by subst e1 e4; exact fin v w ys e2 e3) ?_ hs
  · funext q
    by_cases hq : q = l
    · rw [hq, upd_same, eH, List.append_nil]
    · rw [upd_ne hq]
  · rintro i c t pins s1 σ H hc' t1 I1 ⟨v, w, ys, rfl, ey, sh, rfl⟩ sx sy tn tl
    have cc := hb c (List.mem_of_getElem? hc')
    have il' : i < cs.length := (List.getElem?_eq_some_iff.mp hc').1
    have le : (tx.length + 1) * c.2.1.1.length ≤ (tx.length + 1) * b := Nat.mul_le_mul_left _ cc.1
    have flat : ∀ v' w' : Option V, ((((σ0.set ix v).set iy w).set ix v').set iy w') = (σ0.set ix v').set iy w' := fun v' w' => by
      rw [List.set_comm _ _ (Ne.symm nxy), List.set_set, List.set_set]
    rw [flat] at I1
    have ek' : ((σ0.set ix (some (.str c.1.1))).set iy (some (.str c.2.1.1)))[ik]? = some (some (.str tx)) := by rw [List.getElem?_set_ne mk', List.getElem?_set_ne nk]; exact ek
    have el' : ((σ0.set ix (some (.str c.1.1))).set iy (some (.str c.2.1.1)))[il]? = some (some (.ref l)) := by rw [List.getElem?_set_ne ml, List.getElem?_set_ne nl]; exact el
    refine wpAny_execs_cons (wpAny_mono (app_wp (D := { nx := fun σ' H' => σ' = (σ0.set ix (some (.str c.1.1))).set iy (some (.str c.2.1.1)) ∧ H' = upd H0 l (.lst (xs ++ (ys ++ [.str (Txt.replace tx c.1.1 c.2.1.1)]))), rt := fun _ _ => False, bk := fun _ _ => False, ct := fun _ _ => False }) hNl hvl I1 el' upd_same (by rw [List.length_append]; omega)
      (fun Q q => repl_wp (t1 := fun _ => t) (t2 := fun _ => t + 1) hNk hvk I1 ek' (gives_slot I1 hkx sx dx) (gives_slot I1 hky sy dy) tn (fun _ _ => Nat.succ_ne_zero t) (fun _ _ => Nat.ne_of_lt (Nat.lt_succ_self t)) cc.2 (by omega) q dk ck h1 h2 h3) ⟨rfl, ?_⟩ dl cl h4 rfl h5 rfl rfl) (fun f s2 q => ?_) fun _ _ z => z)
    · rw [List.append_assoc]; funext q
      by_cases hq : q = l
      · rw [hq, upd_same, upd_same]
      · rw [upd_ne hq, upd_ne hq, upd_ne hq]
    · cases f with
      | next =>
        obtain ⟨σ2, H2, I2, e1, e2⟩ := q
        refine wpAny_execs_nil ⟨σ2, H2, I2, _, _, ys ++ [.str (Txt.replace tx c.1.1 c.2.1.1)], e1, by rw [List.length_append, ey]; rfl, fun y hy => ?_, e2⟩
        rcases List.mem_append.mp hy with hy | hy
        · exact sh y hy
        · rw [List.mem_singleton.mp hy]; exact ⟨_, rfl, Nat.le_trans (TK.replace_len tx c.1.1 c.2.1.1) (by omega)⟩
      | cont => obtain ⟨_, _, _, z⟩ := q; exact z.elim
      | brk => obtain ⟨_, _, _, z⟩ := q; exact z.elim
      | ret v => obtain ⟨_, _, _, _, _, z⟩ := q; exact z.elim
end
end RW

set_option Elab.async false
set_option linter.all false
set_option maxRecDepth 100000
set_option maxHeartbeats 4000000
/-! A list of short texts that is written on; the raw loops over written texts, read off the text. -/
namespace RW
open PySem PySem.Spec PyProof.Rows L2
def unmk : Expr → Str × Nat × Pos
  | .Constant (.str c) j p => (c, j, p)
  | _ => ("", 0, ⟨0, 0, 0, 0⟩)
def unmkP : Expr → (Str × Nat × Pos) × (Str × Nat × Pos) × Nat × Pos
  | .Tuple [a, b] k p => (unmk a, unmk b, k, p)
  | e => (unmk e, unmk e, 0, ⟨0, 0, 0, 0⟩)
end RW
namespace B
open PySem PySem.Spec PyProof.Rows L2
theorem glueL_mem {z : List Nat} {c : Nat} : ∀ {r : List Str}, c ∈ StrLaws.glueL z r → c ∈ z ∨ ∃ p ∈ r, c ∈ p.cps.toList
  | [], h => by cases h
  | p :: r, h => by
    rcases List.mem_append.mp h with h | h
    · exact .inl h
    · rcases List.mem_append.mp h with h | h
      · exact .inr ⟨p, List.mem_cons_self, h⟩
      · rcases glueL_mem h with h | ⟨q, h1, h2⟩
        · exact .inl h
        · exact .inr ⟨q, List.mem_cons_of_mem _ h1, h2⟩
theorem asc_join {x : Str} {ys : List Str} (hx : Asc x) (hy : ∀ y ∈ ys, Asc y) : Asc (Txt.join x ys) := by
  cases ys with
  | nil => intro c hc; exact absurd (show c ∈ ([] : List Nat) from hc) (fun z => nomatch z)
  | cons p r =>
    intro c hc
    have hc : c ∈ (Builtin.Str.glued x (p :: r)).cps.toList := hc
    rw [StrLaws.glued_list] at hc
    rcases List.mem_append.mp hc with hc | hc
    · exact hy p List.mem_cons_self c hc
    · rcases glueL_mem hc with h | ⟨q, h1, h2⟩
      · exact hx c h
      · exact hy q (List.mem_cons_of_mem _ h1) c h2
theorem join_len (x : Str) (ys : List Str) : (Txt.join x ys).length = (ys.map (·.length)).sum + (ys.length - 1) * x.length := size_glued x ys
theorem empty_app (x : Str) : Str.empty ++ x = x := by
  show (⟨#[] ++ x.cps⟩ : Str) = x
  rw [Array.empty_append]
/-- a text of n signs at most -/
def Sx (n : Nat) : V → Hp → Prop := fun v _ => ∃ r : Str, v = .str r ∧ r.length ≤ n
/-- the list of short texts, made here, written on -/
structure Bn (F0 H0 : Hp) (n : Nat) (l : Addr) (F H : Hp) : Prop where
  g : Gr [] F0 H0 F H
  new : H0 l = none
  e : ∃ xs, H l = some (.lst xs) ∧ F l = none ∧ xs.length ≤ n ∧ RW.Short 900 xs
/-- several short texts -/
def Ls (t : TA) (σ : L2.St) (F H : Hp) (n : Nat) : Prop := ∀ Q : List V → Hp → Prop, (∀ vs F2 H2, Gr [] F H F2 H2 → RW.Short 900 vs → vs.length = n → Q vs H2) → t σ H Q
section
variable {K : PySem.W.Frag} {te ta tb : TE} {tl : TA} {σ : L2.St} {F H F0 H0 F' H' : Hp} {n m : Nat} {v : V} {l : Addr} {i j : Nat} {N Bk Ct : L2.St → Hp → Prop} {Rt : VK} {x y : Str}
theorem sx_of (h : Vg K te σ F H (.str x)) (hl : x.length ≤ n) : Vp te σ F H (Sx n) := vp_imp h fun _ _ _ _ p => by cases p; exact ⟨x, rfl, hl⟩
theorem ls_nil (s : Same F H) : Ls tNil σ F H 0 := fun Q q => q [] F H (Gr.refl s) (fun _ h => nomatch h) rfl
theorem ls_cons (h : Vp te σ F H (Sx 900)) (r : Ev F H fun F2 H2 => Ls tl σ F2 H2 n) : Ls (tCons te tl) σ F H (n + 1) := fun Q q => h _ fun v F2 H2 g p => r F2 H2 g _ fun vs F3 H3 g3 p3 e => q _ F3 H3 (g.trans g3) (fun x hx => by
  rcases List.mem_cons.mp hx with rfl | hx
  · exact p
  · exact p3 x hx) (by rw [List.length_cons, e])
theorem Bn.on (b : Bn F0 H0 n l F H) (g : Gr [] F H F' H') : Bn F0 H0 n l F' H' := by
  obtain ⟨xs, e, f, a, s⟩ := b.e
  exact ⟨b.g.trans g, b.new, xs, g.hh l _ (fun z => nomatch z) e, g.offF e f, a, s⟩
theorem Bn.le (b : Bn F0 H0 n l F H) (h : n ≤ m) : Bn F0 H0 m l F H := by
  obtain ⟨xs, e, f, a, s⟩ := b.e
  exact ⟨b.g, b.new, xs, e, f, Nat.le_trans a h, s⟩
theorem short_app {k : Nat} {xs ys : List V} (h1 : RW.Short k xs) (h2 : RW.Short k ys) : RW.Short k (xs ++ ys) := fun x hx => (List.mem_append.mp hx).elim (h1 x) (h2 x)
theorem short_le {k k' : Nat} {xs : List V} (h1 : RW.Short k xs) (h : k ≤ k') : RW.Short k' xs := fun x hx => by
  obtain ⟨r, e, z⟩ := h1 x hx
  exact ⟨r, e, Nat.le_trans z h⟩
/-- more at its end -/
theorem Bn.put {xs ys : List V} (b : Bn F0 H0 n l F H) (e : H l = some (.lst xs)) (hs : RW.Short 900 ys) (hm : n + ys.length ≤ m) : Bn F0 H0 m l F (upd H l (.lst (xs ++ ys))) := by
  obtain ⟨xs', e', f, a, s⟩ := b.e
  rw [e] at e'; cases e'
  exact ⟨b.g.put f (.inr b.new), b.new, xs ++ ys, upd_same, f, by rw [List.length_append]; omega, short_app s hs⟩
theorem bn_app (hj : σ[j]? = some (some (.ref l))) (b : Bn F0 H0 n l F H) (h : Vp te σ F H (Sx 900)) (hn : n + 1 ≤ 1000) (k : ∀ F2 H2, Gr [l] F H F2 H2 → Bn F0 H0 (n + 1) l F2 H2 → N σ H2) : tDrop (tBM K "list" rAppend (tVar j) (tCons te tNil)) ⟨N, Rt, Bk, Ct⟩ σ H := by
  obtain ⟨xs, e, f, a, s⟩ := b.e
  refine ⟨_, hj, .inl ⟨rfl, _, Evl.sq_of e⟩, h _ fun v F2 H2 g p => ?_⟩
  have b2 := b.on g
  have e2 := g.hh l _ (fun z => nomatch z) e
  have f2 := g.offF e f
  refine ⟨l, xs, v, rfl, rfl, e2, Nat.lt_of_lt_of_le (show xs.length < 1001 by omega) (by decide), ?_⟩
  refine k F2 _ (g.zero.put f2 (.inl (List.mem_singleton.mpr rfl))) (b2.put e2 (fun x hx => ?_) (Nat.le_refl _))
  rw [List.mem_singleton.mp hx]; exact p
theorem bn_cat (hj : σ[j]? = some (some (.ref l))) (b : Bn F0 H0 n l F H) (h : Ls tl σ F H m) (hn : n + m ≤ 1000) (k : ∀ l' F2 H2, Gr [] F H F2 H2 → Bn F0 H0 (n + m) l' F2 H2 → N (σ.set i (some (.ref l'))) H2) : tAsg (tOp rCat (tVar j) (tLst tl)) (gName i) ⟨N, Rt, Bk, Ct⟩ σ H := by
  refine ⟨_, hj, h _ fun vs F2 H2 g sh len => ⟨by rw [len]; exact Nat.le_trans (show m ≤ 1000 by omega) (by decide), fun w hw => ?_⟩⟩
  obtain ⟨xs, e, f, a, s⟩ := b.e
  have gw := g.new (o := .lst vs) hw
  have ew := gw.hh l _ (fun z => nomatch z) e
  refine ⟨l, w, xs, vs, rfl, rfl, ew, upd_same, Nat.le_trans (show xs.length + vs.length ≤ 1000 by omega) (by decide), fun p hp => ?_⟩
  exact k p _ _ (gw.own hp) ⟨(b.g.trans gw).own hp, (b.g.trans gw).fresh hp, xs ++ vs, upd_same, gw.freshF hp, by rw [List.length_append]; omega, short_app s sh⟩
theorem bn_new (g : Gr [] F0 H0 F H) (h : Ls tl σ F H m) (hn : m ≤ 1000) (k : ∀ l' F2 H2, Gr [] F H F2 H2 → Bn F0 H0 m l' F2 H2 → N (σ.set i (some (.ref l'))) H2) : tAsg (tLst tl) (gName i) ⟨N, Rt, Bk, Ct⟩ σ H :=
  h _ fun vs F2 H2 g2 sh len => ⟨by rw [len]; exact Nat.le_trans hn (by decide), fun p hp => k p _ _ (g2.own hp) ⟨(g.trans g2).own hp, (g.trans g2).fresh hp, vs, upd_same, g2.freshF hp, by rw [len]; exact Nat.le_refl _, sh⟩⟩
theorem vg_cutS {t1 t2 : TO} {lo hi : Option Int} (ha : Vg K te σ F H (.str x)) (hx : x.length ≤ 10000) (hl : ∀ H1 Q, Q lo H1 → t1 σ H1 Q) (hh : ∀ H1 Q, Q hi H1 → t2 σ H1 Q) : Vg K (tSl rSlS te t1 t2) σ F H (.str (cutS x lo hi)) := fun Q q => ha _ fun v F2 H2 g p => by
  cases p
  exact hl _ _ (hh _ _ ⟨x, rfl, Nat.le_trans hx (by decide), q _ F2 H2 g (.str _)⟩)
theorem vg_upper (ha : Vg K te σ F H (.str x)) (hx : x.length ≤ 10000) : Vg K (tM0 (fun x xs H Q => ∃ a, x = .str a ∧ xs = [] ∧ a.length ≤ 5592405 ∧ Q (.str (Txt.upper a)) H) te) σ F H (.str (Txt.upper x)) := fun Q q => ha _ fun v F2 H2 g p => by
  cases p
  exact ⟨⟨_, rfl⟩, x, rfl, rfl, Nat.le_trans hx (by decide), q _ F2 H2 g (.str _)⟩
/-- str(n) -/
theorem vg_strI {a : Int} (ha : Vg K te σ F H (.int a)) (hs : a.natAbs < 10 ^ 30) : Vg K (tCB (fun xs H Q => ∃ i, xs = [.int i] ∧ i.natAbs.log2 < 1920 ∧ Q (.str (toString i : String)) H) (tCons te tNil)) σ F H (.str (toString a : String)) := fun Q q => ha _ fun v F2 H2 g p => by
  cases p
  exact ⟨a, rfl, log2_small hs, q _ F2 H2 g (.str _)⟩
/-- short texts as data -/
theorem short_dp {k : Nat} : ∀ {xs : List V}, RW.Short k xs → ∃ ys : List Str, DpAll K F xs (ys.map PyData.str) ∧ ∀ y ∈ ys, y.length ≤ k
  | [], _ => ⟨[], .nil, fun _ h => nomatch h⟩
  | x :: xs, h => by
    obtain ⟨ys, h1, h2⟩ := short_dp (xs := xs) fun y hy => h y (List.mem_cons_of_mem _ hy)
    obtain ⟨r, e, hr⟩ := h x List.mem_cons_self
    subst e
    refine ⟨r :: ys, .cons (.str r) h1, fun y hy => ?_⟩
    rcases List.mem_cons.mp hy with rfl | hy
    · exact hr
    · exact h2 y hy
end
end B

set_option Elab.async false
set_option linter.all false
set_option maxRecDepth 100000
set_option maxHeartbeats 4000000
namespace K93
open PySem PySem.Spec PyProof.Rows L2 B TL
theorem verdict_ar {ls : List Lt} (h : verdict ls = none) : ∀ p ∈ ls, p.2 = 0 ∨ p.2 = 1 ∨ p.2 = 2 := fun p hp => by
  have m := of_decide_eq_true (badAt_none (verdict_bad h) p hp).2
  simp only [List.mem_cons, List.mem_nil_iff, or_false] at m
  exact m
theorem dig_of {n : Int} (h : n = 0 ∨ n = 1 ∨ n = 2) : ((toString n : String) : Str).length = 1 ∧ Asc ((toString n : String) : Str) := by
  rcases h with rfl | rfl | rfl <;> exact ⟨by decide +kernel, by unfold Asc; decide +kernel⟩
theorem asc_slash : Asc ("/" : Str) := by unfold Asc; decide +kernel
theorem asc_blank : Asc (" " : Str) := by unfold Asc; decide +kernel
theorem ltText_eq (p : Lt) : ltText p = (p.1 ++ ("/" : Str)) ++ (toString p.2 : String) := by
  unfold ltText; rw [empty_app]
theorem ltText_small {ls : List Lt} (h : verdict ls = none) {p : Lt} (hp : p ∈ ls) : (ltText p).length ≤ 10 ∧ Asc (ltText p) := by
  have f := verdict_fine h p hp
  have d := dig_of (verdict_ar h p hp)
  have e4 : ("/" : Str).length = 1 := by decide +kernel
  rw [ltText_eq]
  exact ⟨by rw [Str.length_append, Str.length_append, e4, d.1]; have := f.2.1; omega, asc_app (asc_app f.1 asc_slash) d.2⟩
theorem sigText_small {ls : List Lt} (h : verdict ls = none) : (sigText ls).length ≤ 131 ∧ Asc (sigText ls) := by
  have l12 := verdict_len h
  refine ⟨?_, asc_join asc_blank fun y hy => ?_⟩
  · unfold sigText
    rw [join_len, List.map_map, List.length_map, show (" " : Str).length = 1 by decide +kernel]
    have := sum_le (fun p => (ltText p).length) 10 ls fun p hp => (ltText_small h hp).1
    show (ls.map fun p => (ltText p).length).sum + _ ≤ _
    omega
  · obtain ⟨p, hp, rfl⟩ := List.mem_map.mp hy
    exact (ltText_small h hp).2
theorem fine_readD (x : Str) : Fine 60 60000 (readD x) := by
  have bad : Fine 60 60000 (refD (errD "BadText" 0)) := (fine_ref (fine_err (by unfold Asc; decide +kernel) (by decide +kernel) 0 (by decide)) (by decide)).mono (Nat.le_refl _) (by decide)
  unfold readD
  cases readL x with
  | none => exact bad
  | some ls =>
    show Fine 60 60000 (match verdict ls with | none => toldD ls | some _ => refD (errD "BadText" 0))
    cases h : verdict ls with
    | none => exact fine_toldD h
    | some _ => exact bad
/-- a word of the wide text -/
def wd (k : Nat) : Str := (sgn k ++ ("/" : Str)) ++ (toString (Int.fmod ((k : Nat) * (k : Nat)) 3) : String)
theorem sq3 (k : Nat) : Int.fmod ((k : Nat) * (k : Nat)) 3 = 0 ∨ Int.fmod ((k : Nat) * (k : Nat)) 3 = 1 ∨ Int.fmod ((k : Nat) * (k : Nat)) 3 = 2 := by
  rw [Int.fmod_eq_emod_of_nonneg _ (by decide)]
  omega
theorem wd_len (k : Nat) : (wd k).length ≤ 10 := by
  unfold wd
  rw [Str.length_append, Str.length_append, (dig_of (sq3 k)).1, show ("/" : Str).length = 1 by decide +kernel, show (sgn k).length = 1 from rfl]
  decide
section
variable {K : PySem.W.Frag} {σ : L2.St} {F H : Hp}
theorem vg_text {ls : List Lt} {sg : V} {i : Nat} (s : Same F H) (hi : σ[i]? = some (some sg)) (sv : SigAt K F sg ls) : Vg K (tCall (spText K) [] E0 (tCons (tVar i) tNil)) σ F H (.str (sigText ls)) :=
  fun Q q => ⟨_, hi, F, sg, ls, rfl, s, sv, fun F2 H2 g => q _ F2 H2 g (.str _)⟩
theorem vg_told {x : Str} {i : Nat} (s : Same F H) (hi : σ[i]? = some (some (.str x))) (hl : x.length ≤ 900) : Vg K (tCall (spTold K) [] E0 (tCons (tVar i) tNil)) σ F H (readD x) :=
  fun Q q => ⟨_, hi, F, x, rfl, s, hl, fun u F2 H2 g du => q u F2 H2 g du⟩
end
section
variable {P : Program} {w : World} {K : PySem.W.Frag} {mg : Str → Option Value} {b0 : Heap}
def forEs : Stmt → List Expr
  | .For _ (.List es _) _ _ _ => es
  | _ => []
abbrev es5 : List Expr := forEs ((defBody s__law_texts).getD 5 (.Pass ⟨0, 0, 0, 0⟩))
abbrev es6 : List Expr := forEs ((defBody s__law_texts).getD 6 (.Pass ⟨0, 0, 0, 0⟩))
abbrev es7 : List Expr := forEs ((defBody s__law_texts).getD 7 (.Pass ⟨0, 0, 0, 0⟩))
def cs5 : List (Str × Nat × Pos) := es5.map RW.unmk
def cs6 : List (Str × Nat × Pos) := es6.map RW.unmk
def cs7 : List ((Str × Nat × Pos) × (Str × Nat × Pos) × Nat × Pos) := es7.map RW.unmkP
theorem es5_eq : es5 = cs5.map RW.mk := by kernel_rfl
theorem es6_eq : es6 = cs6.map RW.mk := by kernel_rfl
theorem es7_eq : es7 = cs7.map RW.mkP := by kernel_rfl
theorem ok_texts (T : Txt K mg) : HasG P w K mg b0 CX0 9 (He.ga K "_law_texts") ["sig", "letters"] (spTexts K) := by
  refine T.hG__law_texts fun fd F => Fun.okG F sc__law_texts (fun vs H Q E h => ?_) (fun cdv A g outer s H vs Q E hr h => ?_)
  · obtain ⟨_, _, _, _, rfl, _⟩ := h; rfl
  · obtain ⟨F0, sg, lv, ls, rfl, s0, sv, dl, l12, k⟩ := h
    have S := sc__law_texts
    refine ⟨_, RW.pss_setT (i := 2) S.nd rfl rfl (pe_join pe_str (pe_lc (own := [("name", 12), ("arity", 13)]) (g := gTup K 2 (gCons (gName 12) (gCons (gName 13) gNil))) rfl S.nd (pi_sq (pv 1)) (blkOk_by (N := n__law_texts) (sc := defScope s__law_texts) (by decide +kernel))
        (fun _ _ _ _ _ => pg_tup rfl (pgs_cons (pg_name (i := 12) S.nd rfl (Or.inl rfl)) (pgs_cons (pg_name (i := 13) S.nd rfl (Or.inl rfl)) pgs_nil))) (fun _ _ _ _ _ => pts_nil)
        (fun _ _ _ _ _ => pe_op op_add_str (pe_op op_add_str (pv 12) pe_str) (pe_callTy call_str_int rfl T.n_str (by decide +kernel) (pa_cons (pv 13) pa_nil)))))
      (RW.pqs_cons (RW.pq_of (ps_if (pt_not (pt_val (pcG (E := E0) (ok_same T) T.g__law_same g hr noX (pa_cons (pc (E := E0) (ok_text T) T.g_signature_text hr noX (pa_cons (pv 0) pa_nil)) (pa_cons (pv 2) pa_nil))))) (pss_one (ps_ret pe_bl)) pss_nil))
      (RW.pqs_cons (RW.pq_of (ps_set (i := 3) S.nd rfl (Or.inl rfl) (pe_lst (pa_cons (pv 2) (pa_cons pe_str (pa_cons pe_str (pa_cons pe_str (pa_cons (pe_slice sl_str (pv 2) (po_some pe_int) po_none) (pa_cons (pe_slice sl_str (pv 2) po_none (po_some (pe_un un_neg pe_int))) (pa_cons (pe_upper (pv 2)) pa_nil))))))))))
      (RW.pqs_cons (RW.pq_of (ps_expr (pe_bm PySem.F.plainAttrs_list PySem.F.slot_list_append PySem.F.type_list_append mt_append (pv 3) (pa_cons (pe_op op_add_str (pe_op op_add_str (pv 2) pe_str) (pv 2)) pa_nil))))
      (RW.pqs_cons (RW.pq_of (ps_for PassesOwn.never rfl (pi_sq (pe_lst (pa_cons pe_str (pa_cons pe_str (pa_cons pe_str pa_nil))))) (pg_name (i := 4) S.nd rfl (Or.inl rfl))
        (pss_one (ps_set (i := 3) S.nd rfl (Or.inl rfl) (pe_op op_cat (pv 3) (pe_lst (pa_cons (pe_op op_add_str (pv 2) (pv 4)) (pa_cons (pe_op op_add_str (pv 4) (pv 2)) pa_nil))))))))
      (RW.pqs_cons (RW.pst_repC (ix := 4) (ik := 2) (il := 3) (b := 3) (cs := cs5) es5_eq PassesOwn.never rfl S.nd rfl rfl rfl (Or.inl rfl) rfl (Or.inl rfl) (by decide) (by decide) (by decide +kernel))
      (RW.pqs_cons (RW.pst_repC (ix := 4) (ik := 2) (il := 3) (b := 3) (cs := cs6) es6_eq PassesOwn.never rfl S.nd rfl rfl rfl (Or.inl rfl) rfl (Or.inl rfl) (by decide) (by decide) (by decide +kernel))
      (RW.pqs_cons (RW.pst_repP (ix := 5) (iy := 6) (ik := 2) (il := 3) (b := 3) (cs := cs7) es7_eq PassesOwn.never rfl S.nd rfl rfl rfl rfl (by decide +kernel) rfl (Or.inl rfl) rfl (Or.inl rfl) (by decide) (by decide) (by decide) (by decide) (by decide) (by decide +kernel))
      (RW.pqs_of (pss_cons (ps_for PassesOwn.never rfl (pi_sq (pe_lst (pa_cons pe_str (pa_cons pe_str (pa_cons pe_str (pa_cons pe_str (pa_cons pe_str (pa_cons pe_str (pa_cons pe_str (pa_cons pe_str (pa_cons pe_str (pa_cons pe_str (pa_cons pe_str pa_nil))))))))))))) (pg_name (i := 7) S.nd rfl (Or.inl rfl))
        (pss_one (ps_set (i := 3) S.nd rfl (Or.inl rfl) (pe_op op_cat (pv 3) (pe_lst (pa_cons (pe_op op_add_str (pe_op op_add_str (pv 2) pe_str) (pv 7)) (pa_cons (pe_op op_add_str (pe_op op_add_str (pv 7) pe_str) (pv 2)) (pa_cons (pv 7) pa_nil))))))))
      (pss_cons (ps_setLc (i := 9) (own := [("k", 8)]) (g := gName 8) (te := tOp (fun x y H Q => ∃ i j, x = .str i ∧ y = .str j ∧ i.length + j.length ≤ sizeLine ∧ Q (.str (i ++ j)) H) (tOp (fun x y H Q => ∃ i j, x = .str i ∧ y = .str j ∧ i.length + j.length ≤ sizeLine ∧ Q (.str (i ++ j)) H) (tOp (rIx K) (tC (.str "abcdefghijklm")) (tVar 8)) (tC (.str "/")))
            (tCB (fun xs H Q => ∃ i, xs = [.int i] ∧ i.natAbs.log2 < 1920 ∧ Q (.str (toString i : String)) H) (tCons (tOp (rI (fun _ j => j ≠ 0) fun i j => .int (i.fmod j)) (tOp (rI CMul fun i j => .int (i * j)) (tVar 8) (tVar 8)) (tC (.int 3))) tNil))) rfl S.nd rfl rfl rfl (pi_range1 rfl T.n_range (pa_cons pe_int pa_nil)) (blkOk_by (N := n__law_texts) (sc := defScope s__law_texts) (by decide +kernel)) (fun _ _ _ _ _ => pg_name (i := 8) S.nd rfl (Or.inl rfl)) (fun _ _ _ _ _ => pts_nil)
          (fun _ _ _ _ _ => pe_op op_add_str (pe_op op_add_str (pe_ix ix_seq pe_str (pv 8) (fun _ _ => rfl)) pe_str) (pe_callTy call_str_int rfl T.n_str (by decide +kernel) (pa_cons (pe_op op_modN (pe_op op_mul (pv 8) (pv 8)) pe_int) pa_nil))))
      (pss_cons (ps_for PassesOwn.never rfl (pi_sq (pe_lst (pa_cons pe_int (pa_cons pe_int (pa_cons pe_int pa_nil))))) (pg_name (i := 8) S.nd rfl (Or.inl rfl))
        (pss_one (ps_expr (pe_bm PySem.F.plainAttrs_list PySem.F.slot_list_append PySem.F.type_list_append mt_append (pv 3) (pa_cons (pe_join pe_str (pe_slice sl_list (pv 9) po_none (po_some (pv 8)))) pa_nil)))))
      (pss_cons (ps_for PassesOwn.never rfl (pi_sq (pe_op op_cat (pv 3) (pe_lst (pa_cons (pe_join pe_str (pe_slice sl_list (pv 9) (po_some pe_int) (po_some pe_int))) pa_nil)))) (pg_name (i := 10) S.nd rfl (Or.inl rfl))
        (pss_cons (ps_set (i := 11) S.nd rfl (Or.inl rfl) (pc (E := E0) (ok_told T) T.g__law_letters_told hr noX (pa_cons (pv 10) pa_nil)))
        (pss_one (ps_if (pt_not (pt_val (pcG (E := E0) (ok_same T) T.g__law_same g hr noX (pa_cons (pc (E := E0) (ok_asked T) T.g__law_asked hr noX (pa_cons pe_int (pa_cons pe_non (pa_cons (pv 10) pa_nil)))) (pa_cons (pv 11) pa_nil))))) (pss_one (ps_ret pe_bl)) pss_nil))))
      (pss_one (ps_ret pe_bl)))))))))))))), ?_⟩
    have v0 : verdict ls = none := by
      obtain ⟨a, dx, fs, ea, hx, hsp, hv, okl⟩ := sv
      exact hv
    have fine := verdict_fine v0
    have tl131 := (sigText_small v0).1
    have asc := (sigText_small v0).2
    have lsz : ls.length ≤ sizeLine := Nat.le_trans l12 (by decide)
    refine at_ (σ' := [some sg, some lv, none, none, none, none, none, none, none, none, none, none, none, none]) rfl ?_
    refine sq (asgP (vg_join (K := K) (F := F0) (x := " ") (ys := ls.map ltText) (vg_str s0) (fun F2 H2 g2 => ?_) (join_ok fine (Nat.le_trans l12 (by decide)))) fun v F1 H1 g1 dv => ?_)
    · have src : Vp (tVar 1) [some sg, some lv, none, none, none, none, none, none, none, none, none, none, none, none] F2 H2 fun v F3 => Qp K F3 v (ls.map ltD) := vp_var g2.fh rfl (Lp.mono g2.ff dl).qp
      rw [show (ls.map ltText).map PyData.str = ls.map fun p => .str (ltText p) by rw [List.map_map]; rfl]
      refine vl_lcM (K := K) (as := ls) (D := ltD) (fun p => .str (ltText p)) src lsz ?_
      intro i q x F4 H4 Y e1 g4 dq kY
      obtain ⟨u, rfl, st⟩ := lt_of dq
      have f := fine q (List.mem_of_getElem? e1)
      have e4 : ("/" : Str).length = 1 := by decide +kernel
      have d := dig_of (verdict_ar v0 q (List.mem_of_getElem? e1))
      refine ⟨u, _, rfl, Same.sqt g4.fh st, rfl, _, _, rfl, _, _, rfl, rfl, rfl, ?_⟩
      refine (vg_cat (K := K) (F := F4) (m := q.1 ++ "/") (n := (toString q.2 : String)) (vg_cat (vp_var g4.fh rfl (.str _)) (fun _ _ g => vg_str g.fh) ?_) (fun _ _ g => vg_strI (vp_var g.fh rfl (.int _)) f.2.2) ?_) Y fun y F5 H5 g5 dy => kY y F5 H5 g5 ?_
      · rw [e4]; exact Nat.le_trans (show q.1.length + 1 ≤ 100 by have := f.2.1; omega) (by decide)
      · rw [Str.length_append, e4, d.1]; exact Nat.le_trans (show q.1.length + 1 + 1 ≤ 100 by have := f.2.1; omega) (by decide)
      · rw [ltText_eq]; exact dy
    cases dv
    generalize etx : sigText ls = tx at tl131 asc
    have etx' : Txt.join " " (ls.map ltText) = tx := etx
    rw [etx']
    refine at_ (σ' := [some sg, some lv, some (.str tx), none, none, none, none, none, none, none, none, none, none, none]) rfl ?_
    refine sq (if_ag1 (F := F1) (b := !true) (ag_not (ag_val (K := K) (vg_same (k := 2000) (d := .str tx) (lg_cons (etx ▸ vg_text g1.fh rfl (sv.mono g1.ff)) fun F3 H3 g3 => lg_one g3.fh (vp_var g3.fh rfl (.str _))) ((fine_str asc tl131).mono (Nat.zero_le _) (by decide)) (by decide)))) (fun e => by cases e) fun _ F2 H2 g2 => ?_)
    have g02 := g1.trans g2
    have ab : ∀ n m : Nat, m ≤ 10000 → n ≤ m → n ≤ sizeLine := fun n m h1 h2 => Nat.le_trans h2 (Nat.le_trans h1 (by decide))
    have tv : ∀ {σ : L2.St} {F5 H5 : Hp}, σ[2]? = some (some (V.str tx)) → Same F5 H5 → Vg K (tVar 2) σ F5 H5 (.str tx) := fun h s => vp_var s h (.str _)
    have b1 : (" " : Str).length = 1 := by decide +kernel
    refine sq (bn_new (m := 7) g02 (ls_cons (sx_of (K := K) (tv rfl g02.fh) (by omega)) fun _ _ ga => ls_cons (sx_of (K := K) (vg_str ga.fh) (by decide +kernel)) fun _ _ gb => ls_cons (sx_of (K := K) (vg_str gb.fh) (by decide +kernel)) fun _ _ gc => ls_cons (sx_of (K := K) (vg_str gc.fh) (by decide +kernel)) fun _ _ gd =>
      ls_cons (sx_of (K := K) (vg_cutS (lo := some 1) (hi := none) (tv rfl gd.fh) (by omega) (fun H1 Q q => ⟨_, rfl, q⟩) (fun H1 Q q => q)) (Nat.le_trans (cutS_length _ _ _) (by omega))) fun _ _ ge =>
      ls_cons (sx_of (K := K) (vg_cutS (lo := none) (hi := some (-1)) (tv rfl ge.fh) (by omega) (fun H1 Q q => q) (fun H1 Q q => ⟨_, rfl, _, rfl, q⟩)) (Nat.le_trans (cutS_length _ _ _) (by omega))) fun _ _ gf =>
      ls_cons (sx_of (K := K) (vg_upper (tv rfl gf.fh) (by omega)) (by have := PyProof.Rows.len_upper tx; omega)) fun _ _ gg => ls_nil gg.fh) (by decide) fun l F3 H3 g3 b3 => ?_)
    refine at_ (σ' := [some sg, some lv, some (.str tx), some (.ref l), none, none, none, none, none, none, none, none, none, none]) rfl ?_
    refine sq (bn_app rfl b3 (sx_of (K := K) (x := tx ++ " " ++ tx) (vg_cat (vg_cat (tv rfl b3.g.fh) (fun _ _ g => vg_str g.fh) (ab _ 132 (by decide) (by omega))) (fun _ _ g => tv rfl g.fh) (ab _ 300 (by decide) (by rw [Str.length_append]; omega))) (by rw [Str.length_append, Str.length_append]; omega)) (by decide) fun F4 H4 g4 b4 => ?_)
    refine sq (forD [] (as := ([" ", "\n", "/"] : List Str)) (D := PyData.str) (vp_imp (vl_lst (K := K) (ds := ([" ", "\n", "/"] : List Str).map .str) (lg_cons (vg_str b4.g.fh) fun _ _ ga => lg_cons (vg_str ga.fh) fun _ _ gb => lg_one gb.fh (vg_str gb.fh)) (show 3 ≤ sizeLine by decide)) fun _ _ _ _ p => p.qp)
      (fun i σ' F' H' => ∃ l v4, Bn F0 H (8 + 2 * i) l F' H' ∧ σ' = [some sg, some lv, some (.str tx), some (.ref l), v4, none, none, none, none, none, none, none, none, none]) (fun F5 H5 g5 => ⟨l, _, b4.on g5, rfl⟩) ?_ ?_)
    · rintro i x u F5 H5 σ' F6 H6 g5 ex y ⟨l5, v4, b6, rfl⟩ dx
      cases dx
      have hi : i < 3 := (List.getElem?_eq_some_iff.mp ex).1
      have xl : x.length ≤ 1 := (by decide +kernel : ∀ x ∈ ([" ", "\n", "/"] : List Str), x.length ≤ 1) x (List.mem_of_getElem? ex)
      refine gn (at_ (σ' := [some sg, some lv, some (.str tx), some (.ref l5), some (.str x), none, none, none, none, none, none, none, none, none]) rfl ?_)
      exact bn_cat (n := 8 + 2 * i) (m := 2) rfl b6 (ls_cons (sx_of (K := K) (x := tx ++ x) (vg_cat (tv rfl b6.g.fh) (fun _ _ g => vp_var g.fh rfl (.str _)) (ab _ 132 (by decide) (by omega))) (by rw [Str.length_append]; omega)) fun _ _ ga => ls_cons (sx_of (K := K) (x := x ++ tx) (vg_cat (vp_var ga.fh rfl (.str _)) (fun _ _ g => tv rfl g.fh) (ab _ 132 (by decide) (by omega))) (by rw [Str.length_append]; omega)) fun _ _ gb => ls_nil gb.fh) (by omega) fun l7 F7 H7 g7 b7 => ⟨F7, y.trans g7, l7, _, b7, rfl⟩
    rintro F5 H5 σ' F6 H6 g5 y6 ⟨l6, v4, b6, rfl⟩
    have b6 : Bn F0 H 14 l6 F6 H6 := b6
    obtain ⟨xs, e6, f6, a6, s6⟩ := id b6.e
    refine sq ⟨tx, l6, xs, rfl, rfl, e6, ?_, by omega, fun v7 ys ey sh => ?_⟩
    · rw [show cs5.length = 4 by kernel_rfl]; exact ab _ 100 (by decide) (by omega)
    rw [show cs5.length = 4 by kernel_rfl] at ey
    have b7 : Bn F0 H 18 l6 F6 _ := b6.put e6 (short_le sh (by omega)) (by omega)
    generalize upd H6 l6 (.lst (xs ++ ys)) = H7 at b7
    clear sh ey s6 a6 e6 f6
    refine at_ (σ' := [some sg, some lv, some (.str tx), some (.ref l6), v7, none, none, none, none, none, none, none, none, none]) rfl ?_
    obtain ⟨xs, e6, f6, a6, s6⟩ := id b7.e
    refine sq ⟨tx, l6, xs, rfl, rfl, e6, ?_, by omega, fun v8 ys ey sh => ?_⟩
    · rw [show cs6.length = 9 by kernel_rfl]; exact ab _ 100 (by decide) (by omega)
    rw [show cs6.length = 9 by kernel_rfl] at ey
    have b8 : Bn F0 H 27 l6 F6 _ := b7.put e6 (short_le sh (by omega)) (by omega)
    generalize upd H7 l6 (.lst (xs ++ ys)) = H8 at b8
    clear sh ey s6 a6 e6 f6
    refine at_ (σ' := [some sg, some lv, some (.str tx), some (.ref l6), v8, none, none, none, none, none, none, none, none, none]) rfl ?_
    obtain ⟨xs, e6, f6, a6, s6⟩ := id b8.e
    refine sq ⟨tx, l6, xs, rfl, rfl, e6, ?_, by omega, fun v9 w9 ys ey sh => ?_⟩
    · rw [show cs7.length = 6 by kernel_rfl]; exact ab _ 100 (by decide) (by omega)
    rw [show cs7.length = 6 by kernel_rfl] at ey
    have b9 : Bn F0 H 33 l6 F6 _ := b8.put e6 (short_le sh (by omega)) (by omega)
    generalize upd H8 l6 (.lst (xs ++ ys)) = H9 at b9
    clear sh ey s6 a6 e6 f6
    refine at_ (σ' := [some sg, some lv, some (.str tx), some (.ref l6), v8, v9, w9, none, none, none, none, none, none, none]) rfl ?_
    let ws : List Str := ["q/0", "q/1", "q/3", "q/-1", "q/00", "q", "q/", "/1", "Q/1", "abcdefghi/1", "q /1"]
    refine sq (forD [] (as := ws) (D := PyData.str) (vp_imp (vl_lst (K := K) (ds := ws.map .str) (lg_cons (vg_str b9.g.fh) fun _ _ ga => lg_cons (vg_str ga.fh) fun _ _ gb => lg_cons (vg_str gb.fh) fun _ _ gc => lg_cons (vg_str gc.fh) fun _ _ gd => lg_cons (vg_str gd.fh) fun _ _ ge => lg_cons (vg_str ge.fh) fun _ _ gf => lg_cons (vg_str gf.fh) fun _ _ gg => lg_cons (vg_str gg.fh) fun _ _ gh => lg_cons (vg_str gh.fh) fun _ _ gi => lg_cons (vg_str gi.fh) fun _ _ gj => lg_one gj.fh (vg_str gj.fh)) (show 11 ≤ sizeLine by decide)) fun _ _ _ _ p => p.qp)
      (fun i σ' F' H' => ∃ l v7, Bn F0 H (33 + 3 * i) l F' H' ∧ σ' = [some sg, some lv, some (.str tx), some (.ref l), v8, v9, w9, v7, none, none, none, none, none, none]) (fun F5 H5 g5 => ⟨l6, _, b9.on g5, rfl⟩) ?_ ?_)
    · rintro i x u F5 H5 σ' F7 H7 g5 ex y ⟨l5, v7, b7, rfl⟩ dx
      cases dx
      have hi : i < 11 := (List.getElem?_eq_some_iff.mp ex).1
      have xl : x.length ≤ 11 := (by decide +kernel : ∀ x ∈ (["q/0", "q/1", "q/3", "q/-1", "q/00", "q", "q/", "/1", "Q/1", "abcdefghi/1", "q /1"] : List Str), x.length ≤ 11) x (List.mem_of_getElem? ex)
      refine gn (at_ (σ' := [some sg, some lv, some (.str tx), some (.ref l5), v8, v9, w9, some (.str x), none, none, none, none, none, none]) rfl ?_)
      have xv : ∀ {F5 H5 : Hp}, Same F5 H5 → Vg K (tVar 7) [some sg, some lv, some (.str tx), some (.ref l5), v8, v9, w9, some (.str x), none, none, none, none, none, none] F5 H5 (.str x) := fun s => vp_var s rfl (.str _)
      exact bn_cat (n := 33 + 3 * i) (m := 3) rfl b7 (ls_cons (sx_of (K := K) (x := tx ++ " " ++ x) (vg_cat (vg_cat (tv rfl b7.g.fh) (fun _ _ g => vg_str g.fh) (ab _ 132 (by decide) (by omega))) (fun _ _ g => xv g.fh) (ab _ 300 (by decide) (by rw [Str.length_append]; omega))) (by rw [Str.length_append, Str.length_append]; omega)) fun _ _ ga => ls_cons (sx_of (K := K) (x := x ++ " " ++ tx) (vg_cat (vg_cat (xv ga.fh) (fun _ _ g => vg_str g.fh) (ab _ 132 (by decide) (by omega))) (fun _ _ g => tv rfl g.fh) (ab _ 300 (by decide) (by rw [Str.length_append]; omega))) (by rw [Str.length_append, Str.length_append]; omega)) fun _ _ gb => ls_cons (sx_of (K := K) (xv gb.fh) (by omega)) fun _ _ gc => ls_nil gc.fh) (by omega) fun l7 F7 H7 g7 b7 => ⟨F7, y.trans g7, l7, _, b7, rfl⟩
    rintro F5 H5 σ' F7 H7 g5 y7 ⟨l7, v7, b7, rfl⟩
    have b7 : Bn F0 H 66 l7 F7 H7 := b7
    have al13 : ("abcdefghijklm" : Str).length ≤ sizeLine := Nat.le_trans (show ("abcdefghijklm" : Str).length ≤ 13 by decide +kernel) (by decide)
    have sl1 : ("/" : Str).length = 1 := by decide +kernel
    have wideV : Vp (tLc (iRng1 (tCons (tC (.int 13)) tNil)) (gName 8) tYes (tOp (fun x y H Q => ∃ i j, x = .str i ∧ y = .str j ∧ i.length + j.length ≤ sizeLine ∧ Q (.str (i ++ j)) H) (tOp (fun x y H Q => ∃ i j, x = .str i ∧ y = .str j ∧ i.length + j.length ≤ sizeLine ∧ Q (.str (i ++ j)) H) (tOp (rIx K) (tC (.str "abcdefghijklm")) (tVar 8)) (tC (.str "/")))
            (tCB (fun xs H Q => ∃ i, xs = [.int i] ∧ i.natAbs.log2 < 1920 ∧ Q (.str (toString i : String)) H) (tCons (tOp (rI (fun _ j => j ≠ 0) fun i j => .int (i.fmod j)) (tOp (rI CMul fun i j => .int (i * j)) (tVar 8) (tVar 8)) (tC (.int 3))) tNil))) [8])
        [some sg, some lv, some (.str tx), some (.ref l7), v8, v9, w9, v7, none, none, none, none, none, none] F7 H7 fun v F => Lp K F v ((List.range 13).map fun k : Nat => PyData.str (wd k)) := by
      refine vl_lcRng (K := K) (tl := tCons (tC (.int 13)) tNil) (n := 13) (fun k : Nat => PyData.str (wd k)) (fun Q z => z) b7.g.fh (by decide) ?_
      intro k9 FA HA Y hk gA kY
      refine gn ⟨rfl, ?_⟩
      have dg := dig_of (sq3 k9)
      refine (vg_cat (K := K) (F := FA) (m := sgn k9 ++ "/") (n := (toString (Int.fmod ((k9 : Nat) * (k9 : Nat)) 3) : String)) (vg_cat (vg_ixS (vg_str gA.fh) (fun _ _ g => vp_var g.fh rfl (.int _)) al13 (sgn_at k9 hk)) (fun _ _ g => vg_str g.fh) ?_) (fun _ _ g => vg_strI (vg_I (cc := fun _ j => j ≠ 0) (g := fun i j => i.fmod j) (vg_I (cc := CMul) (g := fun i j => i * j) (vp_var g.fh rfl (.int _)) (fun _ _ gb => vp_var gb.fh rfl (.int _)) (.inl ⟨by omega, by omega⟩)) (fun _ _ gc => vg_int gc.fh) (by decide)) ?_) ?_) Y kY
      · rw [sl1]; exact ab _ 100 (by decide) (show 1 + 1 ≤ 100 by decide)
      · rcases sq3 k9 with e | e | e <;> rw [e] <;> decide
      · rw [Str.length_append, sl1, dg.1]; exact ab _ 100 (by decide) (show 1 + 1 + 1 ≤ 100 by decide)
    refine sq (asgP wideV fun wv F8 H8 g8 wd8 => ?_)
    refine at_ (σ' := [some sg, some lv, some (.str tx), some (.ref l7), v8, v9, w9, v7, none, some wv, none, none, none, none]) rfl ?_
    have b8 := b7.on g8
    have joinW : ∀ {σ : L2.St} {F9 H9 : Hp} {t1 t2 : TO} {lo hi : Option Int}, σ[9]? = some (some wv) → Same F8 F9 → Same F9 H9 → (∀ H1 Q, Q lo H1 → t1 σ H1 Q) → (∀ H1 Q, Q hi H1 → t2 σ H1 Q) →
        Vp (tM1 (fun x xs H Q => ∃ a p, ∃ ys : List Str, x = .str a ∧ xs = [.ref p] ∧ (SqL K H p (ys.map V.str) ∨ SqT K H p (ys.map V.str)) ∧ (ys.map (·.length)).sum + ys.length * a.length ≤ 16777216 ∧ Q (.str (Txt.join a ys)) H) (tC (.str " ")) (tSl (rSlL K) (tVar 9) t1 t2)) σ F9 H9 (Sx 900) := by
      intro σ F9 H9 t1 t2 lo hi h s1 s2 hl hh
      have len13 : ((List.range 13).map fun k : Nat => PyData.str (wd k)).length = 13 := by rw [List.length_map, List.length_range]
      let ys : List Str := (((List.range 13).map wd).drop (HT.sIx 13 0 lo)).take (HT.sIx 13 13 hi - HT.sIx 13 0 lo)
      have yl : ys.length ≤ 13 := by
        show ((((List.range 13).map wd).drop _).take _).length ≤ 13
        rw [List.length_take, List.length_drop, List.length_map, List.length_range]; omega
      have ym : ∀ y ∈ ys, y.length ≤ 10 := fun y hy => by
        obtain ⟨k, _, rfl⟩ := List.mem_map.mp (List.mem_of_mem_drop (List.mem_of_mem_take hy))
        exact wd_len k
      have sm : (ys.map (·.length)).sum ≤ 130 := Nat.le_trans (sum_le (fun y : Str => y.length) 10 ys ym) (by omega)
      refine sx_of (K := K) (x := Txt.join " " ys) (vg_join (vg_str s2) (fun FA HA gA => vp_imp (vl_slL (K := K) (lo := lo) (hi := hi) (vp_var gA.fh h (Lp.mono (s1.trans gA.ff) wd8).dp) hl hh) fun v FB HB gB p => ?_) ?_) ?_
      · rw [len13] at p
        have e : ((((List.range 13).map fun k : Nat => PyData.str (wd k)).drop (HT.sIx 13 0 lo)).take (HT.sIx 13 13 hi - HT.sIx 13 0 lo)) = ys.map PyData.str := by
          show _ = ((((List.range 13).map wd).drop _).take _).map PyData.str
          rw [List.map_take, List.map_drop, List.map_map]; rfl
        rw [e] at p; exact p
      · rw [b1]; omega
      · rw [join_len, b1]; omega
    refine sq (forD [l7] (F := F8) (as := ([11, 12, 13] : List Int)) (D := PyData.int) (vp_imp (vl_lst (K := K) (ds := ([11, 12, 13] : List Int).map .int) (lg_cons (vg_int b8.g.fh) fun _ _ ga => lg_cons (vg_int ga.fh) fun _ _ gb => lg_one gb.fh (vg_int gb.fh)) (show 3 ≤ sizeLine by decide)) fun _ _ _ _ p => p.qp)
      (fun i σ' F' H' => Bn F0 H (66 + i) l7 F' H' ∧ Same F8 F' ∧ ∃ u8, σ' = [some sg, some lv, some (.str tx), some (.ref l7), v8, v9, w9, v7, u8, some wv, none, none, none, none]) (fun FA HA gA => ⟨b8.on gA, gA.ff, _, rfl⟩) ?_ ?_)
    · rintro i x u FA HA σ' FB HB gA ex yB ⟨bB, sB, w8, rfl⟩ dx
      cases dx
      have hi : i < 3 := (List.getElem?_eq_some_iff.mp ex).1
      refine gn (at_ (σ' := [some sg, some lv, some (.str tx), some (.ref l7), v8, v9, w9, v7, some (.int x), some wv, none, none, none, none]) rfl ?_)
      exact bn_app (n := 66 + i) rfl bB (joinW (lo := none) (hi := some x) rfl sB bB.g.fh (fun H1 Q q => q) (fun H1 Q q => ⟨_, rfl, _, rfl, q⟩)) (by omega) fun FC HC gC bC => ⟨FC, yB.trans gC, bC, sB.trans gC.ff, _, rfl⟩
    rintro FA HA σ' FB HB gA yB ⟨bB, sB, w8, rfl⟩
    have bB : Bn F0 H 69 l7 FB HB := bB
    obtain ⟨xs, eB, fB, aB, shB⟩ := id bB.e
    -- the last walk: bent + [..]
    have src : ∀ Q : VK, (∀ v FC HC, Gr [] FB HB FC HC → (∃ ys : List Str, Qp K FC v (ys.map PyData.str) ∧ ∀ y ∈ ys, y.length ≤ 900) → Q v HC) →
        tOp rCat (tVar 3) (tLst (tCons (tM1 (fun x xs H Q => ∃ a p, ∃ ys : List Str, x = .str a ∧ xs = [.ref p] ∧ (SqL K H p (ys.map V.str) ∨ SqT K H p (ys.map V.str)) ∧ (ys.map (·.length)).sum + ys.length * a.length ≤ 16777216 ∧ Q (.str (Txt.join a ys)) H) (tC (.str " ")) (tSl (rSlL K) (tVar 9) (tPart (tC (.int 1))) (tPart (tC (.int 3))))) tNil)) [some sg, some lv, some (.str tx), some (.ref l7), v8, v9, w9, v7, w8, some wv, none, none, none, none] HB Q := by
      intro Q q
      refine ⟨_, rfl, (ls_cons (joinW (lo := some 1) (hi := some 3) rfl sB bB.g.fh (fun H1 Q q => ⟨_, rfl, q⟩) (fun H1 Q q => ⟨_, rfl, q⟩)) fun _ _ g => ls_nil g.fh) _ fun vs FC HC gC sh len => ⟨by rw [len]; decide, fun w hw => ?_⟩⟩
      have gw := gC.new (o := .lst vs) hw
      have ew := gw.hh l7 _ (fun z => nomatch z) eB
      refine ⟨l7, w, xs, vs, rfl, rfl, ew, upd_same, Nat.le_trans (show xs.length + vs.length ≤ 1000 by omega) (by decide), fun p hp => ?_⟩
      obtain ⟨ys, d1, d2⟩ := short_dp (K := K) (F := upd (upd FC w (.lst vs)) p (.lst (xs ++ vs))) (short_app shB sh)
      exact q _ _ _ (gw.new hp) ⟨ys, Lp.qp ⟨p, _, rfl, upd_same, d1⟩, d2⟩
    refine sq (src _ fun v FC HC gC ⟨ys, qp, yl⟩ => ?_)
    have g0C : Gr [] F0 H FC HC := bB.g.trans gC
    have big : 60000 ≤ sizeLine := by decide
    refine (forD (K := K) (te := fun _ H Q => Q v H) (Bk := fun _ _ => False) (Ct := fun _ _ => False) [] (F := FC) (H := HC) (as := ys) (D := PyData.str) (fun Q q => q v FC HC (Gr.refl gC.fh) qp)
      (fun i σ' F' H' => ∃ w10 w11, σ' = [some sg, some lv, some (.str tx), some (.ref l7), v8, v9, w9, v7, w8, some wv, w10, w11, none, none]) (fun FD HD gD => ⟨_, _, rfl⟩) ?_ ?_)
    · rintro i x u FD HD σ' FE HE gD ex yE ⟨w10, w11, rfl⟩ dx
      cases dx
      have xl := yl x (List.mem_of_getElem? ex)
      have gE := gD.trans yE
      refine gn (at_ (σ' := [some sg, some lv, some (.str tx), some (.ref l7), v8, v9, w9, v7, w8, some wv, some (.str x), w11, none, none]) rfl ?_)
      refine sq (asgP (vg_told (K := K) gE.fh rfl xl) fun du FG HG gG dd => ?_)
      refine at_ (σ' := [some sg, some lv, some (.str tx), some (.ref l7), v8, v9, w9, v7, w8, some wv, some (.str x), some du, none, none]) rfl ?_
      exact if_ag1 (F := FG) (b := !true) (ag_not (ag_val (K := K) (vg_same (k := 60000) (lg_cons (vg_asked0 gG.fh rfl (.rd xl)) fun FI HI gI => lg_one gI.fh (vp_var gI.fh rfl (Dp.mono gI.ff dd))) (fine_readD x) big))) (fun e => by cases e) fun _ FI HI gI => ⟨FI, (yE.trans gG).trans gI, _, _, rfl⟩
    · rintro FD HD σ' FE HE gD yE ⟨w10, w11, rfl⟩
      exact B.ret (k FE HE ((g0C.trans gD).trans yE))
end
end K93
set_option Elab.async false
set_option linter.all false
set_option maxRecDepth 100000 in
set_option maxHeartbeats 8000000 in
theorem PySem.Challenge.cw_learntbyasking_k93_signatures_kept_holds : PySem.Challenge.rw_learntbyasking_k93_signatures_kept.Holds := by
  exact k93_of fun T => K93.ok_texts T

