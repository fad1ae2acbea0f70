import PyProof.Rows.All
import Wide.All
import OpenK.AllK
import Wide.FinOn
import HandS.ForMost
import HandS.ForExc
import HandS.Style
import HandS.TupLe
import HandS.TupAny
import HandS.TupMul
import HandS.IsInst
import HandS.Wide
import HandS.Flow
import HandS.TryOnly
import KE.KExcIs
import HandS.More
import HandS.ExcInit
import HandS.RaiseMore
import KE.SortCalls
import HandS.Defaults
import HandS.Head0
import HandS.Head1
import HandS.Head2
import HandS.HeadEnd
import HandS.HeadHook1
import HandS.HeadHook2
import PySem.Challenge.RW_cutpatch_k01_nets_judged
set_option Elab.async false
set_option linter.all false
set_option maxRecDepth 100000
namespace Mx
open PySem PySem.Spec PyProof.Rows L2

/-! ### promises that hold where no guard runs (repr asks it) -/
structure FnG (P : Program) (w : World) (K : PySem.W.Frag) (mg : Str → Option Value) (base : Heap) (CX : CXT) (k : Nat) (f : Addr) (fd : FuncData) (ps : List Str) (sp : Sp) : Prop where
  len : ∀ vs H Q E, sp vs H Q E → vs.length = ps.length
  go : ∀ (B : Around) (out : List Env) (t : Shared) (H : Hp) (ar : Args) (us : List Value) (vs : List V) (Q : VK) (E : XK), B.guards = some [] → Room k B → Env0 P w K mg base B out t H → BindsTo t fd ar (ps.zip us) →
    Vals vs us → sp vs H Q E → codeAny (model P w) B (.call (.ref f) ar) (CR CX out P w H t Q E) t
section
variable {P : Program} {w : World} {K : PySem.W.Frag} {mg : Str → Option Value} {base : Heap} {CX : CXT} {f : Addr} {fd : FuncData} {ps : List Str} {sp : Sp}
theorem FnG.mono {j k : Nat} (F : FnG P w K mg base CX j f fd ps sp) (h : j ≤ k) : FnG P w K mg base CX k f fd ps sp :=
  ⟨F.len, fun B out t H ar us vs Q E hg hr => F.go B out t H ar us vs Q E hg (hr.mono h)⟩
theorem FnG.of {x qual : Str} {st : Stmt} {N : List Str} {k : Nat} (F : Fun K x qual st f fd) (Sc : FnScope N ps (defScope st)) (len : ∀ vs H Q E, sp vs H Q E → vs.length = ps.length)
    (hb : ∀ (cdv : Value) (B : Around) (out : List Env) (t : Shared) (H : Hp) (vs : List V) (Q : VK) (E : XK), B.guards = some [] → Room k (B.deeper (envOfC qual (defScope st) t.heap.objs.size f cdv)) → sp vs H Q E →
      ∃ r, PSs (cxOf CX P w K mg base N qual (defScope st) f cdv B out t H E) (defBody st) r ∧ r { nx := fun _ H' => Q .non H', rt := Q } (start N vs) H) : FnG P w K mg base CX (k + 1) f fd ps sp := by
  obtain ⟨oc, od, kV, doc, pm, an, cdv, ct, osl, rfl, lk, hcd⟩ := F.ex
  refine ⟨len, fun B out t H ar us vs Q E hg hr e0 hbd rv hsp => ?_⟩
  have hlen := len _ _ _ _ hsp
  have kin : K.In t.heap := e0.mod.kin.keeps fun b o e => (e0.bs b o e).1
  have nol : t.heap.NoLimit := e0.mod.nolimit.keeps fun b o e => (e0.bs b o e).1
  have knd : ∀ y ∈ ps.zip us, (defScope st).names.lookup y.1 = some .local ∨ ((defScope st).names.lookup y.1 = some .cell ∧ ((cellsFrom (t.heap.objs.size + 1) (defScope st).names []).lookup y.1).isSome = true) := by
    intro q hq
    obtain ⟨n, v⟩ := q
    rcases Sc.par n (List.of_mem_zip hq).1 with z | z
    · left; exact z
    · right; exact ⟨z, PySem.W.cellsFrom_some _ _ _ (.inl z)⟩
  refine codeAny_call_function hr.depth (kin _ _ lk) rfl Sc.co Sc.gen rfl (PySem.W.codeRec_of kin hcd) (hbd _ _ _ _ ?_)
  refine wpAny_newFunctionEnv_cells Sc.kind knd fun en hen t1 x => ?_
  subst hen
  refine ⟨nol.keeps x.toInCall.keep, codeAny_func ?_⟩
  obtain ⟨r, hr1, hq⟩ := hb cdv B out t H vs Q E hg (hr.deeper _) hsp
  have J0 : Inv (cxOf CX P w K mg base N qual (defScope st) f cdv B out t H E) [] (start N vs) H t1 := inv_start Sc hr.hd e0 hlen rv x
  refine wpAny_mono (hr1.run [] t1 (start N vs) H _ J0 hq) (fun fl t' hs => ?_) fun e t' hs => hs
  have done : ∀ {τ : L2.St} {H' : Hp} {v : V} {u : Value}, Inv (cxOf CX P w K mg base N qual (defScope st) f cdv B out t H E) [] τ H' t' → RelV v u → Q v H' → CE out P w H t Q u t' :=
    fun {τ H' v u} J ru q => ⟨v, H', J.os, J.bare, J.base, J.hok, ru, q⟩
  cases fl with
  | brk => obtain ⟨_, _, _, z⟩ := hs; exact z.elim
  | cont => obtain ⟨_, _, _, z⟩ := hs; exact z.elim
  | next => obtain ⟨τ, H', J, q⟩ := hs; exact done (v := .non) (u := .none) J rfl q
  | ret u => obtain ⟨v, τ, H', J, ru, q⟩ := hs; exact done J ru q
end
section
variable {X : Cx} {CX : CXT} {k : Nat} {f : Addr} {fd : FuncData} {ps : List Str} {sp : Sp} {E : XK} {x : Str} {p pos : Pos} {e : Expr} {es : List Expr} {t : TA}
theorem FnG.run (F : FnG X.prog X.w X.K X.mg X.base CX k f fd ps sp) (gd : X.A.guards = some []) (hr : Room k X.A) (hx : Passes CX X E) {pins : List (Addr × Obj)} {σ : L2.St} {H : Hp} {s : Shared} {Q : VK} {us : List Value} {vs : List V} {ar : Args}
    (I : Inv X pins σ H s) (hb : BindsTo s fd ar (ps.zip us)) (r : Vals vs us) (h : sp vs H Q E) : codeAny (model X.prog X.w) X.A (.call (.ref f) ar) (fun q s' => match q with
      | .error e => X.xe e s'
      | .ok (.ret u) => EP X pins σ Q u s'
      | .ok _ => False) s := by
  refine codeAny_mono (F.go X.A X.stack s H ar us vs Q E gd hr I.env0 hb r h) fun q s' hq => ?_
  cases q with
  | error e => exact hx pins σ H s e s' I hq
  | ok fl => cases fl <;> first | exact I.after hq | exact hq
theorem FnG.call (F : FnG X.prog X.w X.K X.mg X.base CX k f fd ps sp) (gd : X.A.guards = some []) (hr : Room k X.A) (hb : Binds X.K fd ps []) (hx : Passes CX X E) {pins : List (Addr × Obj)} {σ : L2.St} {H : Hp} {s : Shared} {Q : VK} {us : List Value} {vs : List V}
    (I : Inv X pins σ H s) (r : Vals vs us) (h : sp vs H Q E) : wpAny (model X.prog X.w) X.A (PySem.call (.ref f) us) (EP X pins σ Q) X.xe s := by
  have hl : us.length = ps.length := by rw [← r.length]; exact F.len _ _ _ _ h
  have bd := hb s us I.kIn (by rw [List.append_nil]; exact hl)
  rw [List.append_nil] at bd
  refine wpAny_call (codeAny_mono (F.run gd hr hx I bd r h) fun q s' hq => ?_)
  cases q with
  | error e => exact hq
  | ok fl => cases fl <;> first | exact hq | exact hq.elim
theorem pe_callG (F : FnG X.prog X.w X.K X.mg X.base CX k f fd ps sp) (gd : X.A.guards = some []) (hr : Room k X.A) (hg : Gl X x) (hm : X.mg x = some (.ref f)) (hk : PySem.W.keepIn X.K (.ref f) = true) (hb : Binds X.K fd ps []) (hx : Passes CX X E)
    (ha : PA X (e :: es) t) (hdb : (x == ("__debug__" : Str)) = false := by decide) (he : starEach (e :: es) X.env = (false, eval e X.env) :: starEach es X.env := by rfl) (hpl : (backTo pos (starEach es X.env)).any (·.1) = false := by rfl) :
    PE X (.Call (.Name x p) (e :: es) [] pos) (tCall sp [] E t) := by
  constructor
  intro pins s σ H Q I h
  refine wpAny_Call_Name_kw (ld_glob I hg hm ?_ hdb)
  refine PySem.W.callWith_K (h₀ := X.base) I.ok.mod.kin hk (thn (ha.run pos pins s σ H _ I h) fun us s1 hh => ?_) he hpl
  obtain ⟨vs, H1, I1, r, q⟩ := hh
  rw [List.append_nil] at q
  exact ⟨I1.kIn, F.call gd hr hb hx I1 r q⟩
theorem pe_callG0 (F : FnG X.prog X.w X.K X.mg X.base CX k f fd ps sp) (gd : X.A.guards = some []) (hr : Room k X.A) (hg : Gl X x) (hm : X.mg x = some (.ref f)) (hk : PySem.W.keepIn X.K (.ref f) = true) (hb : Binds X.K fd ps []) (hx : Passes CX X E)
    (hdb : (x == ("__debug__" : Str)) = false := by decide) : PE X (.Call (.Name x p) [] [] pos) (tCall sp [] E tNil) := by
  constructor
  intro pins s σ H Q I h
  refine wpAny_Call_Name_kw (ld_glob I hg hm ?_ hdb)
  exact PySem.W.callWith_K0 I.kIn hk (F.call (us := []) gd hr hb hx I .nil h)
end
end Mx

set_option Elab.async false
set_option linter.all false
set_option maxRecDepth 100000
namespace Mx
open PySem PySem.Spec PyProof.Rows L2

/-! ### plain data -/
inductive D where
  | non | bl (b : Bool) | int (i : Int) | str (x : Str)
  | lst (xs : List D) | tup (xs : List D)
  /-- a list that is only read -/
  | rol (xs : List D)
  | dic (kvs : List (Key × D))
  | exc (c : Str) (fs : List (Str × D))

abbrev Mg := Str → Option Value

/-- a dict that is read -/
def RdD (K : PySem.W.Frag) (G : Hp) (a : Addr) (kvs : List (Key × V)) : Prop := Rd G a (.dK kvs)

/-- what is told of an error's class -/
structure XcK (K : PySem.W.Frag) (C : Addr) : Prop where
  hcl : (PySem.W.clsIn K C).isSome = true
  hga : PySem.W.findIn K (.ref C) "__getattribute__" = some (some (.builtin "BaseException.__getattribute__"))
  hgt : PySem.W.findIn K (.ref C) "__getattr__" = some none
  hsub : PySem.W.subIn K (.ref C) (.type "BaseException") = some true
  ha : PySem.W.findIn K (.ref C) "__class__" = some (some (.builtin "object.__class__"))
  hn : PySem.W.specialIn K (.builtin "object.__class__") "__get__" = some (some (.builtin "getset_descriptor.__get__"))
  htk : PySem.W.takesIn K (.builtin "object.__class__") = some true
  hm : PySem.W.mroIn K C (.type "object") = some true
  hd : PySem.W.hasDictIn K C = true
  no : ∀ T ∈ (["int", "bool", "str", "list", "tuple", "dict"] : List String), PySem.W.kitOne K (.ref C) (.type T) = some false
mutual
/-- v stands for the datum in what never changes (G) -/
def Rep (K : PySem.W.Frag) (mg : Mg) (G : Hp) : D → V → Prop
  | .non, v => v = .non
  | .bl b, v => v = .bl b
  | .int i, v => v = .int i
  | .str x, v => v = .str x
  | .lst ds, v => ∃ a vs, v = .ref a ∧ G a = some (.lst vs) ∧ Reps K mg G ds vs
  | .rol ds, v => ∃ a vs, v = .ref a ∧ SqL K G a vs ∧ Reps K mg G ds vs
  | .tup ds, v => ∃ a vs, v = .ref a ∧ SqT K G a vs ∧ Reps K mg G ds vs
  | .dic kvs, v => ∃ a vs, v = .ref a ∧ RdD K G a vs ∧ RepKs K mg G kvs vs
  | .exc c fs, v => ∃ a C d vs, v = .ref a ∧ mg c = some (.ref C) ∧ XcK K C ∧ (∃ φ, G a = some (.ext φ) ∧ ∀ h, φ h → ∃ t1 : Addr, h.get? a = some ({ cls := .ref C, dict := some d, data := .fields #[.ref t1, .none, .none, .none, .bool false, .none] } : Obj)) ∧ G d = some (.xd vs) ∧ RepFs K mg G fs vs
def Reps (K : PySem.W.Frag) (mg : Mg) (G : Hp) : List D → List V → Prop
  | [], vs => vs = []
  | d :: ds, vs => ∃ v r, vs = v :: r ∧ Rep K mg G d v ∧ Reps K mg G ds r
def RepKs (K : PySem.W.Frag) (mg : Mg) (G : Hp) : List (Key × D) → List (Key × V) → Prop
  | [], vs => vs = []
  | kd :: ds, vs => ∃ v r, vs = (kd.1, v) :: r ∧ Rep K mg G kd.2 v ∧ RepKs K mg G ds r
def RepFs (K : PySem.W.Frag) (mg : Mg) (G : Hp) : List (Str × D) → List (Str × V) → Prop
  | [], vs => vs = []
  | kd :: ds, vs => ∃ v r, vs = (kd.1, v) :: r ∧ Rep K mg G kd.2 v ∧ RepFs K mg G ds r
end

theorem Same.tseq {K : PySem.W.Frag} {H H' : Hp} {a : Addr} {xs : List V} (e : Same H H') (h : SqT K H a xs) : SqT K H' a xs := by
  rcases h with (h | ⟨o, h⟩) | h
  · exact .inl (.inl (e _ _ h))
  · exact .inl (.inr ⟨o, e _ _ h⟩)
  · exact .inr h
theorem Same.rd {H H' : Hp} {a : Addr} {u : HO} (e : Same H H') (h : Rd H a u) : Rd H' a u := by
  rcases h with h | ⟨o, h⟩
  · exact .inl (e _ _ h)
  · exact .inr ⟨o, e _ _ h⟩

section
variable {K : PySem.W.Frag} {mg : Mg} {G G' : Hp}
mutual
theorem Rep.mono (s : Same G G') : ∀ (d : D) (v : V), Rep K mg G d v → Rep K mg G' d v
  | .non, _, h => by simpa only [Rep] using h
  | .bl _, _, h => by simpa only [Rep] using h
  | .int _, _, h => by simpa only [Rep] using h
  | .str _, _, h => by simpa only [Rep] using h
  | .lst ds, v, h => by
    simp only [Rep] at h ⊢
    obtain ⟨a, vs, e, q, r⟩ := h
    exact ⟨a, vs, e, s _ _ q, Reps.mono s ds vs r⟩
  | .rol ds, v, h => by
    simp only [Rep] at h ⊢
    obtain ⟨a, vs, e, q, r⟩ := h
    exact ⟨a, vs, e, s.seq q, Reps.mono s ds vs r⟩
  | .tup ds, v, h => by
    simp only [Rep] at h ⊢
    obtain ⟨a, vs, e, q, r⟩ := h
    exact ⟨a, vs, e, Same.tseq s q, Reps.mono s ds vs r⟩
  | .dic kvs, v, h => by
    simp only [Rep] at h ⊢
    obtain ⟨a, vs, e, q, r⟩ := h
    exact ⟨a, vs, e, Same.rd s q, RepKs.mono s kvs vs r⟩
  | .exc c fs, v, h => by
    simp only [Rep] at h ⊢
    obtain ⟨a, C, d, vs, e, m, xk, ⟨φ, q, hφ⟩, q2, r⟩ := h
    exact ⟨a, C, d, vs, e, m, xk, ⟨φ, s _ _ q, hφ⟩, s _ _ q2, RepFs.mono s fs vs r⟩
theorem Reps.mono (s : Same G G') : ∀ (ds : List D) (vs : List V), Reps K mg G ds vs → Reps K mg G' ds vs
  | [], _, h => by simpa only [Reps] using h
  | d :: ds, vs, h => by
    simp only [Reps] at h ⊢
    obtain ⟨v, r, e, h1, h2⟩ := h
    exact ⟨v, r, e, Rep.mono s d v h1, Reps.mono s ds r h2⟩
theorem RepKs.mono (s : Same G G') : ∀ (ds : List (Key × D)) (vs : List (Key × V)), RepKs K mg G ds vs → RepKs K mg G' ds vs
  | [], _, h => by simpa only [RepKs] using h
  | d :: ds, vs, h => by
    simp only [RepKs] at h ⊢
    obtain ⟨v, r, e, h1, h2⟩ := h
    exact ⟨v, r, e, Rep.mono s d.2 v h1, RepKs.mono s ds r h2⟩
theorem RepFs.mono (s : Same G G') : ∀ (ds : List (Str × D)) (vs : List (Str × V)), RepFs K mg G ds vs → RepFs K mg G' ds vs
  | [], _, h => by simpa only [RepFs] using h
  | d :: ds, vs, h => by
    simp only [RepFs] at h ⊢
    obtain ⟨v, r, e, h1, h2⟩ := h
    exact ⟨v, r, e, Rep.mono s d.2 v h1, RepFs.mono s ds r h2⟩
end

theorem Reps.nil : Reps K mg G [] [] := by simp only [Reps]
theorem Reps.cons {d : D} {v : V} {ds : List D} {vs : List V} (h : Rep K mg G d v) (t : Reps K mg G ds vs) : Reps K mg G (d :: ds) (v :: vs) := by
  simp only [Reps]
  exact ⟨v, vs, rfl, h, t⟩
theorem Reps.len : ∀ {ds : List D} {vs : List V}, Reps K mg G ds vs → ds.length = vs.length
  | [], _, h => by simp only [Reps] at h; subst h; rfl
  | d :: ds, vs, h => by
    simp only [Reps] at h
    obtain ⟨v, r, rfl, _, t⟩ := h
    simp only [List.length_cons, Reps.len t]
theorem Reps.get : ∀ {ds : List D} {vs : List V} {i : Nat} {d : D}, Reps K mg G ds vs → ds[i]? = some d → ∃ v, vs[i]? = some v ∧ Rep K mg G d v
  | [], _, i, d, h, e => by simp at e
  | d0 :: ds, vs, i, d, h, e => by
    simp only [Reps] at h
    obtain ⟨v, r, rfl, h1, t⟩ := h
    cases i with
    | zero => simp at e; subst e; exact ⟨v, rfl, h1⟩
    | succ i =>
      obtain ⟨u, e1, e2⟩ := Reps.get (i := i) (d := d) t (by simpa using e)
      exact ⟨u, by simpa using e1, e2⟩
theorem Reps.append : ∀ {ds es : List D} {vs us : List V}, Reps K mg G ds vs → Reps K mg G es us → Reps K mg G (ds ++ es) (vs ++ us)
  | [], es, vs, us, h, t => by simp only [Reps] at h; subst h; exact t
  | d :: ds, es, vs, us, h, t => by
    simp only [Reps] at h
    obtain ⟨v, r, rfl, h1, h2⟩ := h
    exact Reps.cons h1 (Reps.append h2 t)
theorem Reps.take : ∀ {ds : List D} {vs : List V} (n : Nat), Reps K mg G ds vs → Reps K mg G (ds.take n) (vs.take n)
  | [], vs, n, h => by simp only [Reps] at h; subst h; simp; exact Reps.nil
  | d :: ds, vs, n, h => by
    simp only [Reps] at h
    obtain ⟨v, r, rfl, h1, h2⟩ := h
    cases n with
    | zero => exact Reps.nil
    | succ n => exact Reps.cons h1 (Reps.take n h2)
theorem Reps.drop : ∀ {ds : List D} {vs : List V} (n : Nat), Reps K mg G ds vs → Reps K mg G (ds.drop n) (vs.drop n)
  | [], vs, n, h => by simp only [Reps] at h; subst h; simp; exact Reps.nil
  | d :: ds, vs, n, h => by
    simp only [Reps] at h
    obtain ⟨v, r, rfl, h1, h2⟩ := h
    cases n with
    | zero => exact Reps.cons h1 h2
    | succ n => exact Reps.drop n h2
theorem Reps.reverse : ∀ {ds : List D} {vs : List V}, Reps K mg G ds vs → Reps K mg G ds.reverse vs.reverse
  | [], vs, h => by simp only [Reps] at h; subst h; exact Reps.nil
  | d :: ds, vs, h => by
    simp only [Reps] at h
    obtain ⟨v, r, rfl, h1, h2⟩ := h
    rw [List.reverse_cons, List.reverse_cons]
    exact Reps.append (Reps.reverse h2) (Reps.cons h1 Reps.nil)
theorem Reps.set : ∀ {ds : List D} {vs : List V} (i : Nat) {d : D} {v : V}, Reps K mg G ds vs → Rep K mg G d v → Reps K mg G (ds.set i d) (vs.set i v)
  | [], vs, i, d, v, h, _ => by simp only [Reps] at h; subst h; exact Reps.nil
  | d0 :: ds, vs, i, d, v, h, hd => by
    simp only [Reps] at h
    obtain ⟨v0, r, rfl, h1, h2⟩ := h
    cases i with
    | zero => exact Reps.cons hd h2
    | succ i => exact Reps.cons h1 (Reps.set i h2 hd)
theorem Reps.eraseIdx : ∀ {ds : List D} {vs : List V} (i : Nat), Reps K mg G ds vs → Reps K mg G (ds.eraseIdx i) (vs.eraseIdx i)
  | [], vs, i, h => by simp only [Reps] at h; subst h; exact Reps.nil
  | d0 :: ds, vs, i, h => by
    simp only [Reps] at h
    obtain ⟨v0, r, rfl, h1, h2⟩ := h
    cases i with
    | zero => exact h2
    | succ i => exact Reps.cons h1 (Reps.eraseIdx i h2)
theorem Reps.getV {ds : List D} {vs : List V} {i : Nat} {v : V} (h : Reps K mg G ds vs) (e : vs[i]? = some v) : ∃ d, ds[i]? = some d ∧ Rep K mg G d v := by
  have hl := h.len
  have hi : i < vs.length := (List.getElem?_eq_some_iff.mp e).1
  have e2 : ds[i]? = some ds[i] := List.getElem?_eq_getElem (by omega)
  obtain ⟨u, e3, r⟩ := h.get e2
  rw [e] at e3
  cases e3
  exact ⟨_, e2, r⟩
theorem Reps.each : ∀ {ds : List D} {vs : List V}, ds.length = vs.length → (∀ (i : Nat) (d : D) (v : V), ds[i]? = some d → vs[i]? = some v → Rep K mg G d v) → Reps K mg G ds vs
  | [], [], _, _ => Reps.nil
  | d :: ds, v :: vs, hl, h => Reps.cons (h 0 d v rfl rfl) (Reps.each (by simpa using hl) fun i d' v' e1 e2 => h (i + 1) d' v' (by simpa using e1) (by simpa using e2))
theorem Reps.ints : ∀ (ns : List Int), Reps K mg G (ns.map D.int) (ns.map V.int)
  | [] => Reps.nil
  | n :: ns => Reps.cons (by simp only [Rep]) (Reps.ints ns)
end

/-! ### owned objects -/
/-- an object that may be changed: its items are fixed, it is not -/
def Own (K : PySem.W.Frag) (mg : Mg) (G H : Hp) : D → Addr → Prop
  | .lst ds, a => ∃ vs, H a = some (.lst vs) ∧ G a = none ∧ Reps K mg G ds vs
  | .dic kvs, a => ∃ vs, H a = some (.dK vs) ∧ G a = none ∧ RepKs K mg G kvs vs
  | _, _ => False
/-- what may be read: its head as it is now, its items fixed -/
def Rdb (K : PySem.W.Frag) (mg : Mg) (G H : Hp) : D → V → Prop
  | .lst ds, v => ∃ a vs, v = .ref a ∧ H a = some (.lst vs) ∧ Reps K mg G ds vs
  | .dic kvs, v => ∃ a vs, v = .ref a ∧ RdD K H a vs ∧ RepKs K mg G kvs vs
  | d, v => Rep K mg G d v

section
variable {K : PySem.W.Frag} {mg : Mg} {G G' H H' : Hp}
theorem Own.there {d : D} {a : Addr} (h : Own K mg G H d a) : H a ≠ none ∧ G a = none := by
  cases d <;> simp only [Own] at h
  · obtain ⟨vs, e, g, _⟩ := h
    exact ⟨by rw [e]; simp, g⟩
  · obtain ⟨vs, e, g, _⟩ := h
    exact ⟨by rw [e]; simp, g⟩
theorem Own.move {d : D} {a : Addr} (h : Own K mg G H d a) (s : Same G G') (e : H' a = H a) (g : G' a = none) : Own K mg G' H' d a := by
  cases d <;> simp only [Own] at h ⊢
  · obtain ⟨vs, e1, _, r⟩ := h
    exact ⟨vs, e.trans e1, g, r.mono s⟩
  · obtain ⟨vs, e1, _, r⟩ := h
    exact ⟨vs, e.trans e1, g, RepKs.mono s _ _ r⟩
theorem Rdb.of_rep (s : Same G H) : ∀ {d : D} {v : V}, Rep K mg G d v → Rdb K mg G H d v := by
  intro d v h
  cases d with
  | lst ds => simp only [Rep, Rdb] at h ⊢; obtain ⟨a, vs, e, q, r⟩ := h; exact ⟨a, vs, e, s _ _ q, r⟩
  | dic kvs => simp only [Rep, Rdb] at h ⊢; obtain ⟨a, vs, e, q, r⟩ := h; exact ⟨a, vs, e, Same.rd s q, r⟩
  | _ => exact h
theorem Rdb.of_own {d : D} {a : Addr} (h : Own K mg G H d a) : Rdb K mg G H d (.ref a) := by
  cases d <;> simp only [Own, Rdb] at h ⊢
  · obtain ⟨vs, e, _, r⟩ := h
    exact ⟨a, vs, rfl, e, r⟩
  · obtain ⟨vs, e, _, r⟩ := h
    exact ⟨a, vs, rfl, .inl e, r⟩
/-- all of it, as it is now -/
theorem Rdb.now (s : Same G H) {d : D} {v : V} (h : Rdb K mg G H d v) : Rep K mg H d v := by
  cases d with
  | lst ds => simp only [Rep, Rdb] at h ⊢; obtain ⟨a, vs, e, q, r⟩ := h; exact ⟨a, vs, e, q, r.mono s⟩
  | dic kvs => simp only [Rep, Rdb] at h ⊢; obtain ⟨a, vs, e, q, r⟩ := h; exact ⟨a, vs, e, q, RepKs.mono s _ _ r⟩
  | _ => exact Rep.mono s _ _ h
/-- an owned object is fixed from now on -/
theorem Own.fix {d : D} {a : Addr} (h : Own K mg G H d a) (s : Same G H) : ∃ o, H a = some o ∧ Same G (upd G a o) ∧ Same (upd G a o) H ∧ Rep K mg (upd G a o) d (.ref a) := by
  cases d <;> simp only [Own] at h
  · obtain ⟨vs, e, g, r⟩ := h
    have s1 : Same G (upd G a (.lst vs)) := fun b o q => by rw [upd_ne (ne_of_none q g)]; exact q
    refine ⟨_, e, s1, fun b o q => ?_, ?_⟩
    · by_cases hb : b = a
      · subst hb; rw [upd_same] at q; cases q; exact e
      · rw [upd_ne hb] at q; exact s b o q
    · simp only [Rep]; exact ⟨a, vs, rfl, upd_same, r.mono s1⟩
  · obtain ⟨vs, e, g, r⟩ := h
    have s1 : Same G (upd G a (.dK vs)) := fun b o q => by rw [upd_ne (ne_of_none q g)]; exact q
    refine ⟨_, e, s1, fun b o q => ?_, ?_⟩
    · by_cases hb : b = a
      · subst hb; rw [upd_same] at q; cases q; exact e
      · rw [upd_ne hb] at q; exact s b o q
    · simp only [Rep]; exact ⟨a, vs, rfl, .inl upd_same, RepKs.mono s1 _ _ r⟩
end

/-! ### the state -/
inductive Cell where
  | un | sh (d : D) | ow (d : D) | al (p : Nat)
/-- sl: a cell a slot; pr: a cell a parameter that was handed in as an object one may change -/
structure S where
  sl : List Cell
  pr : List Cell
/-- a value: data; a new object; what a slot, a parameter holds -/
inductive Rv where
  | sh (d : D) | fr (d : D) | bs (i : Nat) | bp (p : Nat)

section
variable (K : PySem.W.Frag) (mg : Mg) (H0 G H : Hp) (L : Addr → Prop) (pv : List V)
def Cl (x : Option (Option V)) : Cell → Prop
  | .un => True
  | .sh d => ∃ v, x = some (some v) ∧ Rep K mg G d v
  | .ow d => ∃ a, x = some (some (.ref a)) ∧ Own K mg G H d a ∧ L a ∧ H0 a = none
  | .al p => ∃ v, x = some (some v) ∧ pv[p]? = some v
def Pc (x : Option V) : Cell → Prop
  | .sh d => ∃ v, x = some v ∧ Rep K mg G d v
  | .ow d => ∃ a, x = some (.ref a) ∧ Own K mg G H d a ∧ L a ∧ H0 a ≠ none
  | _ => True
structure SRep (σ : List (Option V)) (s : S) : Prop where
  same : Same G H
  old : ∀ a, H0 a ≠ none → H a ≠ none
  lv : ∀ a, L a → H a ≠ none
  len : σ.length = s.sl.length
  plen : pv.length = s.pr.length
  cell : ∀ (i : Nat) (c : Cell), s.sl[i]? = some c → Cl K mg H0 G H L pv σ[i]? c
  par : ∀ (p : Nat) (c : Cell), s.pr[p]? = some c → Pc K mg H0 G H L pv[p]? c
  ap : ∀ (i j : Nat) (d e : D) (v : V), s.sl[i]? = some (.ow d) → s.sl[j]? = some (.ow e) → σ[i]? = some (some v) → σ[j]? = some (some v) → i = j
  app : ∀ (p q : Nat) (d e : D) (v : V), s.pr[p]? = some (.ow d) → s.pr[q]? = some (.ow e) → pv[p]? = some v → pv[q]? = some v → p = q
def RvRep (σ : List (Option V)) : Rv → V → Prop
  | .sh d, v => Rep K mg G d v
  | .fr d, v => ∃ a, v = .ref a ∧ Own K mg G H d a ∧ ¬ L a ∧ H0 a = none
  | .bs i, v => σ[i]? = some (some v)
  | .bp p, v => pv[p]? = some v
end
structure Ext (G H : Hp) (L : Addr → Prop) (G' H' : Hp) (L' : Addr → Prop) : Prop where
  gg : Same G G'
  keep : ∀ a o, H a = some o → ¬ L a → H' a = some o
  fresh : ∀ a, G' a ≠ none → G a ≠ none ∨ H a = none ∨ L a
  live : ∀ a, L' a → L a ∨ H a = none
  there : ∀ a, H a ≠ none → H' a ≠ none
theorem Ext.refl (G H : Hp) (L : Addr → Prop) : Ext G H L G H L := ⟨fun _ _ h => h, fun _ _ h _ => h, fun _ h => .inl h, fun _ h => .inl h, fun _ h => h⟩
theorem Ext.trans {G H G1 H1 G2 H2 : Hp} {L L1 L2 : Addr → Prop} (a : Ext G H L G1 H1 L1) (b : Ext G1 H1 L1 G2 H2 L2) : Ext G H L G2 H2 L2 where
  gg := a.gg.trans b.gg
  keep := fun x o h n => b.keep x o (a.keep x o h n) fun l1 => by
    rcases a.live x l1 with q | q
    · exact n q
    · rw [h] at q; cases q
  fresh := fun x h => by
    rcases b.fresh x h with q | q | q
    · exact a.fresh x q
    · by_cases e : H x = none
      · exact .inr (.inl e)
      · exact absurd q (a.there x e)
    · rcases a.live x q with q | q
      · exact .inr (.inr q)
      · exact .inr (.inl q)
  live := fun x h => by
    rcases b.live x h with q | q
    · exact a.live x q
    · by_cases e : H x = none
      · exact .inr e
      · exact absurd q (a.there x e)
  there := fun x h => b.there x (a.there x h)

/-- nothing but new objects -/
structure New (G H G' H' : Hp) : Prop where
  gg : Same G G'
  hh : Same H H'
  gh : Same G' H'
  fresh : ∀ a, G' a ≠ none → G a ≠ none ∨ H a = none
theorem New.refl {G H : Hp} (s : Same G H) : New G H G H := ⟨fun _ _ h => h, fun _ _ h => h, s, fun _ h => .inl h⟩
theorem New.ext {G H G' H' : Hp} {L : Addr → Prop} (n : New G H G' H') : Ext G H L G' H' L :=
  ⟨n.gg, fun a o h _ => n.hh a o h, fun a h => (n.fresh a h).elim .inl fun q => .inr (.inl q), fun _ h => .inl h, fun a h => by
    cases q : H a with
    | none => exact absurd q h
    | some o => rw [n.hh a o q]; simp⟩

section
variable {K : PySem.W.Frag} {mg : Mg} {H0 G H G' H' : Hp} {L L' : Addr → Prop} {pv : List V} {σ : List (Option V)} {s : S}
theorem Own.ext {d : D} {a : Addr} (h : Own K mg G H d a) (nl : ¬ L a) (e : Ext G H L G' H' L') : Own K mg G' H' d a := by
  obtain ⟨h1, h2⟩ := h.there
  refine h.move e.gg ?_ ?_
  · cases q : H a with
    | none => exact absurd q h1
    | some o => exact e.keep a o q nl
  · cases q : G' a with
    | none => rfl
    | some o =>
      rcases e.fresh a (by rw [q]; simp) with z | z | z
      · exact absurd h2 z
      · exact absurd z h1
      · exact absurd z nl
/-- a value that waits -/
theorem RvRep.ext {rv : Rv} {v : V} (h : RvRep K mg H0 G H L pv σ rv v) (e : Ext G H L G' H' L') : RvRep K mg H0 G' H' L' pv σ rv v := by
  cases rv with
  | sh d => exact Rep.mono e.gg d v h
  | fr d =>
    obtain ⟨a, rfl, o, nl, h0⟩ := h
    refine ⟨a, rfl, o.ext nl e, fun l => ?_, h0⟩
    rcases e.live a l with z | z
    · exact nl z
    · exact o.there.1 z
  | bs i => exact h
  | bp p => exact h
theorem Own.new {d : D} {a : Addr} (h : Own K mg G H d a) (n : New G H G' H') : Own K mg G' H' d a := by
  obtain ⟨h1, h2⟩ := h.there
  refine h.move n.gg ?_ ?_
  · cases q : H a with
    | none => exact absurd q h1
    | some o => exact n.hh a o q
  · cases q : G' a with
    | none => rfl
    | some o =>
      rcases n.fresh a (by rw [q]; simp) with z | z
      · exact absurd h2 z
      · exact absurd z h1
theorem Cl.new {x : Option (Option V)} {c : Cell} (h : Cl K mg H0 G H L pv x c) (n : New G H G' H') : Cl K mg H0 G' H' L pv x c := by
  cases c with
  | un => trivial
  | sh d => obtain ⟨v, e, r⟩ := h; exact ⟨v, e, r.mono n.gg⟩
  | ow d => obtain ⟨a, e, o, l⟩ := h; exact ⟨a, e, o.new n, l⟩
  | al p => exact h
theorem Pc.new {x : Option V} {c : Cell} (h : Pc K mg H0 G H L x c) (n : New G H G' H') : Pc K mg H0 G' H' L x c := by
  cases c with
  | un => trivial
  | sh d => obtain ⟨v, e, r⟩ := h; exact ⟨v, e, r.mono n.gg⟩
  | ow d => obtain ⟨a, e, o, l⟩ := h; exact ⟨a, e, o.new n, l⟩
  | al p => trivial
theorem New.there (n : New G H G' H') {a : Addr} (h : H a ≠ none) : H' a ≠ none := by
  cases q : H a with
  | none => exact absurd q h
  | some o => rw [n.hh a o q]; simp
theorem SRep.new (r : SRep K mg H0 G H L pv σ s) (n : New G H G' H') : SRep K mg H0 G' H' L pv σ s :=
  ⟨n.gh, fun a h => n.there (r.old a h), fun a h => n.there (r.lv a h), r.len, r.plen, fun i c h => (r.cell i c h).new n, fun p c h => (r.par p c h).new n, r.ap, r.app⟩
end
end Mx

set_option Elab.async false
set_option linter.all false
set_option maxRecDepth 100000
namespace Mx
open PySem PySem.Spec PyProof.Rows L2

/-! ### what a piece of code comes to -/
abbrev Fs := List (Str × D)
inductive Res where
  | ok (rv : Rv) (s : S) | ex (c : Str) (fs : Fs) (s : S) | no
def Res.bind (r : Res) (k : Rv → S → Res) : Res := match r with
  | .ok rv s => k rv s
  | .ex c fs s => .ex c fs s
  | .no => .no
inductive SR where
  | nx (s : S) | rt (rv : Rv) (s : S) | bk (s : S) | ct (s : S) | ex (c : Str) (fs : Fs) (s : S) | no
def Res.thn (r : Res) (k : Rv → S → SR) : SR := match r with
  | .ok rv s => k rv s
  | .ex c fs s => .ex c fs s
  | .no => .no
def SR.seq (r : SR) (k : S → SR) : SR := match r with
  | .nx s => k s
  | r => r
abbrev Mm := S → Res
abbrev Ms := S → SR

/-- new since H -/
def NewRv (H : Hp) : Rv → V → Prop
  | .fr _, v => ∀ a, v = .ref a → H a = none
  | _, _ => True

section
variable (K : PySem.W.Frag) (mg : Mg) (E : XK)
def PrRep (G H : Hp) (pv : List V) (pr : List Cell) : Prop := ∀ (p : Nat) (c : Cell), pr[p]? = some c → match c with
  | .sh d => ∃ v, pv[p]? = some v ∧ Rep K mg G d v
  | .ow d => ∃ a, pv[p]? = some (.ref a) ∧ Own K mg G H d a
  | _ => True
/-- the way out by an exception -/
def GoX (G H : Hp) (L : Addr → Prop) (pv : List V) (c : Str) (fs : Fs) (pr : List Cell) : Prop :=
  ∀ G' H' L' C d vs, Same G' H' → Ext G H L G' H' L' → PrRep K mg G' H' pv pr → mg c = some (.ref C) → H' d = some (.xd vs) → RepFs K mg G' fs vs → E (.ref C) (some d) H'
def Go (H0 G H : Hp) (L : Addr → Prop) (pv : List V) (σ : List (Option V)) (Q : VK) : Res → Prop
  | .ok rv s' => ∀ G' H' L' v, SRep K mg H0 G' H' L' pv σ s' → Ext G H L G' H' L' → RvRep K mg H0 G' H' L' pv σ rv v → NewRv H rv v → Q v H'
  | .ex c fs s' => GoX K mg E G H L pv c fs s'.pr
  | .no => False
def GoS (H0 G H : Hp) (L : Addr → Prop) (pv : List V) (D : Ends) : SR → Prop
  | .nx s' => ∀ G' H' L' σ', SRep K mg H0 G' H' L' pv σ' s' → Ext G H L G' H' L' → D.nx σ' H'
  | .bk s' => ∀ G' H' L' σ', SRep K mg H0 G' H' L' pv σ' s' → Ext G H L G' H' L' → D.bk σ' H'
  | .ct s' => ∀ G' H' L' σ', SRep K mg H0 G' H' L' pv σ' s' → Ext G H L G' H' L' → D.ct σ' H'
  | .rt rv s' => ∀ G' H' L' σ' v, SRep K mg H0 G' H' L' pv σ' s' → Ext G H L G' H' L' → RvRep K mg H0 G' H' L' pv σ' rv v → D.rt v H'
  | .ex c fs s' => GoX K mg E G H L pv c fs s'.pr
  | .no => False
def denE (m : Mm) : TE := fun σ H Q => ∃ H0 G L pv s, SRep K mg H0 G H L pv σ s ∧ Go K mg E H0 G H L pv σ Q (m s)
def denT (m : Mm) : TT := fun σ H Q => denE K mg E m σ H fun v H' => ∃ b, v = .bl b ∧ Q b H'
def denS (m : Ms) : TS := fun D σ H => ∃ H0 G L pv s, SRep K mg H0 G H L pv σ s ∧ GoS K mg E H0 G H L pv D (m s)
end

section
variable {K : PySem.W.Frag} {mg : Mg} {E : XK} {H0 G H G1 H1 G' H' : Hp} {L L1 L' : Addr → Prop} {pv : List V} {σ : List (Option V)} {s s1 : S} {Q : VK}
theorem NewRv.base {rv : Rv} {v : V} (h : NewRv H1 rv v) (e : Ext G H L G1 H1 L1) : NewRv H rv v := by
  cases rv with
  | fr d =>
    intro a ha
    have q := h a ha
    cases z : H a with
    | none => rfl
    | some o => exact absurd q (e.there a (by rw [z]; simp))
  | sh d => trivial
  | bs i => trivial
  | bp p => trivial
theorem GoX.base {c : Str} {fs : Fs} {pr : List Cell} (h : GoX K mg E G H L pv c fs pr) (e : Ext G H L G1 H1 L1) : GoX K mg E G1 H1 L1 pv c fs pr :=
  fun G' H' L' C d vs sm e' => h G' H' L' C d vs sm (e.trans e')
theorem Go.base {r : Res} (h : Go K mg E H0 G H L pv σ Q r) (e : Ext G H L G1 H1 L1) : Go K mg E H0 G1 H1 L1 pv σ Q r := by
  cases r with
  | ok rv s' => exact fun G' H' L' v R e' r n => h G' H' L' v R (e.trans e') r (n.base e)
  | ex c fs s' => exact GoX.base h e
  | no => exact h
theorem GoS.base {D : Ends} {r : SR} (h : GoS K mg E H0 G H L pv D r) (e : Ext G H L G1 H1 L1) : GoS K mg E H0 G1 H1 L1 pv D r := by
  cases r with
  | nx s' => exact fun G' H' L' σ' R e' => h G' H' L' σ' R (e.trans e')
  | bk s' => exact fun G' H' L' σ' R e' => h G' H' L' σ' R (e.trans e')
  | ct s' => exact fun G' H' L' σ' R e' => h G' H' L' σ' R (e.trans e')
  | rt rv s' => exact fun G' H' L' σ' v R e' r => h G' H' L' σ' v R (e.trans e') r
  | ex c fs s' => exact GoX.base h e
  | no => exact h
/-- what is known behind an expression -/
structure Aft (K : PySem.W.Frag) (mg : Mg) (E : XK) (H0 G H : Hp) (L : Addr → Prop) (pv : List V) (σ : List (Option V)) (rv : Rv) (s1 : S) (v : V) (G1 H1 : Hp) (L1 : Addr → Prop) : Prop where
  R : SRep K mg H0 G1 H1 L1 pv σ s1
  e : Ext G H L G1 H1 L1
  r : RvRep K mg H0 G1 H1 L1 pv σ rv v
  n : NewRv H rv v
theorem go_bind {f : Mm} {k : Rv → S → Res} (R : SRep K mg H0 G H L pv σ s) (h : Go K mg E H0 G H L pv σ Q ((f s).bind k)) :
    denE K mg E f σ H (fun x H1 => ∃ G1 L1 rv s1, Aft K mg E H0 G H L pv σ rv s1 x G1 H1 L1 ∧ Go K mg E H0 G1 H1 L1 pv σ Q (k rv s1)) := by
  refine ⟨H0, G, L, pv, s, R, ?_⟩
  cases e : f s with
  | ok rv s' =>
    rw [e] at h
    exact fun G' H' L' v R' e' r n => ⟨G', L', rv, s', ⟨R', e', r, n⟩, h.base e'⟩
  | ex c fs s' => rw [e] at h; exact h
  | no => rw [e] at h; exact h
theorem go_thn {D : Ends} {f : Mm} {k : Rv → S → SR} (R : SRep K mg H0 G H L pv σ s) (h : GoS K mg E H0 G H L pv D ((f s).thn k)) :
    denE K mg E f σ H (fun x H1 => ∃ G1 L1 rv s1, Aft K mg E H0 G H L pv σ rv s1 x G1 H1 L1 ∧ GoS K mg E H0 G1 H1 L1 pv D (k rv s1)) := by
  refine ⟨H0, G, L, pv, s, R, ?_⟩
  cases e : f s with
  | ok rv s' =>
    rw [e] at h
    exact fun G' H' L' v R' e' r n => ⟨G', L', rv, s', ⟨R', e', r, n⟩, h.base e'⟩
  | ex c fs s' => rw [e] at h; exact h
  | no => rw [e] at h; exact h
/-- the end of an expression that leaves the state -/
theorem Go.done {rv : Rv} {v : V} (R : SRep K mg H0 G H L pv σ s) (h : Go K mg E H0 G H L pv σ Q (.ok rv s)) (r : RvRep K mg H0 G H L pv σ rv v) (n : NewRv H rv v) : Q v H :=
  h G H L v R (Ext.refl ..) r n
/-- .. with new objects -/
def ResRep (K : PySem.W.Frag) (mg : Mg) (H G' H' : Hp) : Rv → V → Prop
  | .sh d, v => Rep K mg G' d v
  | .fr d, v => ∃ a, v = .ref a ∧ Own K mg G' H' d a ∧ H a = none
  | _, _ => False
theorem Go.fin {rv : Rv} {v : V} (R : SRep K mg H0 G H L pv σ s) (h : Go K mg E H0 G H L pv σ Q (.ok rv s)) (n : New G H G' H') (r : ResRep K mg H G' H' rv v) : Q v H' := by
  refine h G' H' L v (R.new n) n.ext ?_ ?_
  · cases rv with
    | sh d => exact r
    | fr d =>
      obtain ⟨a, rfl, o, q⟩ := r
      refine ⟨a, rfl, o, fun l => R.lv a l q, ?_⟩
      cases z : H0 a with
      | none => rfl
      | some o' => exact absurd q (R.old a (by rw [z]; simp))
    | bs i => exact r.elim
    | bp p => exact r.elim
  · cases rv with
    | sh d => trivial
    | fr d =>
      obtain ⟨a, rfl, o, q⟩ := r
      intro b hb
      cases hb
      exact q
    | bs i => trivial
    | bp p => trivial
end

/-! ### consequences -/
section
variable {X : Cx}
theorem PE.imp {e : Expr} {t t' : TE} (h : PE X e t) (i : ∀ σ H Q, t' σ H Q → t σ H Q) : PE X e t' := ⟨fun pins s σ H Q I hw => h.run pins s σ H Q I (i σ H Q hw)⟩
theorem PT.imp {e : Expr} {t t' : TT} (h : PT X e t) (i : ∀ σ H Q, t' σ H Q → t σ H Q) : PT X e t' := ⟨fun pins s σ H Q I hw => h.run pins s σ H Q I (i σ H Q hw)⟩
theorem PW.imp {e : Expr} {t t' : TT} (h : PW X e t) (i : ∀ σ H Q, t' σ H Q → t σ H Q) : PW X e t' := ⟨fun w pins s σ H Q I hw => h.run w pins s σ H Q I (i σ H Q hw)⟩
theorem PA.imp {es : List Expr} {t t' : TA} (h : PA X es t) (i : ∀ σ H Q, t' σ H Q → t σ H Q) : PA X es t' := ⟨fun p pins s σ H Q I hw => h.run p pins s σ H Q I (i σ H Q hw)⟩
theorem PS.imp {e : Stmt} {t t' : TS} (h : PS X e t) (i : ∀ D σ H, t' D σ H → t D σ H) : PS X e t' := ⟨fun pins s σ H D I hw => h.run pins s σ H D I (i D σ H hw)⟩
theorem PSs.imp {e : List Stmt} {t t' : TS} (h : PSs X e t) (i : ∀ D σ H, t' D σ H → t D σ H) : PSs X e t' := ⟨fun pins s σ H D I hw => h.run pins s σ H D I (i D σ H hw)⟩
end
/-- readings grow with their ends -/
def Mono (t : TE) : Prop := ∀ σ H (Q Q' : VK), (∀ v H', Q v H' → Q' v H') → t σ H Q → t σ H Q'
theorem den_mono {K : PySem.W.Frag} {mg : Mg} {E : XK} {m : Mm} : Mono (denE K mg E m) := fun σ H Q Q' i h => by
  obtain ⟨H0, G, L, pv, s, R, h⟩ := h
  refine ⟨H0, G, L, pv, s, R, ?_⟩
  cases e : m s with
  | ok rv s' => rw [e] at h; exact fun G' H' L' v R' e' r n => i v H' (h G' H' L' v R' e' r n)
  | ex c fs s' => rw [e] at h; exact h
  | no => rw [e] at h; exact h

/-! ### judgements -/
abbrev ME (X : Cx) (E : XK) (e : Expr) (m : Mm) : Prop := PE X e (denE X.K X.mg E m)
abbrev MT (X : Cx) (E : XK) (e : Expr) (m : Mm) : Prop := PT X e (denT X.K X.mg E m)
abbrev MW (X : Cx) (E : XK) (e : Expr) (m : Mm) : Prop := PW X e (denT X.K X.mg E m)
abbrev MS (X : Cx) (E : XK) (e : Stmt) (m : Ms) : Prop := PS X e (denS X.K X.mg E m)
abbrev MSs (X : Cx) (E : XK) (e : List Stmt) (m : Ms) : Prop := PSs X e (denS X.K X.mg E m)

/-! ### names and constants -/
def mVar (i : Nat) : Mm := fun s => match s.sl[i]? with
  | some (.sh d) => .ok (.sh d) s
  | some (.ow _) => .ok (.bs i) s
  | some (.al p) => match s.pr[p]? with
    | some (.ow _) => .ok (.bp p) s
    | some (.sh d) => .ok (.sh d) s
    | _ => .no
  | _ => .no
def mC (d : D) : Mm := fun s => .ok (.sh d) s
section
variable {X : Cx} {E : XK}
theorem den_var {K : PySem.W.Frag} {mg : Mg} {i : Nat} (σ : L2.St) (H : Hp) (Q : VK) (h : denE K mg E (mVar i) σ H Q) : tVar i σ H Q := by
  obtain ⟨H0, G, L, pv, s, R, h⟩ := h
  unfold mVar at h
  cases e : s.sl[i]? with
  | none => rw [e] at h; exact h.elim
  | some c =>
    have hc := R.cell i c e
    rw [e] at h
    cases c with
    | un => exact h.elim
    | sh d =>
      obtain ⟨v, e1, r⟩ := hc
      exact ⟨v, e1, h.done R r trivial⟩
    | ow d =>
      obtain ⟨a, e1, _⟩ := hc
      exact ⟨_, e1, h.done R e1 trivial⟩
    | al p =>
      obtain ⟨v, e1, e2⟩ := hc
      refine ⟨v, e1, ?_⟩
      simp only at h
      cases e3 : s.pr[p]? with
      | none => rw [e3] at h; exact h.elim
      | some c =>
        rw [e3] at h
        have hp := R.par p c e3
        cases c with
        | un => exact h.elim
        | al q => exact h.elim
        | ow d => exact h.done R e2 trivial
        | sh d =>
          obtain ⟨w, e4, r⟩ := hp
          rw [e2] at e4
          cases e4
          exact h.done R r trivial
theorem me_var {i : Nat} {x : Str} {pos : Pos} (hN : X.N[i]? = some x := by rfl) (hv : Vis X.env.scope x := by first | exact Or.inl rfl | exact Or.inr (Or.inl rfl) | exact Or.inr (Or.inr rfl)) (hd : (x == ("__debug__" : Str)) = false := by decide)
    (hcd : (x == ("__classdict__" : Str)) = false := by decide) : ME X E (.Name x pos) (mVar i) := PE.imp (pe_var hN hv hd hcd) den_var
theorem den_c {K : PySem.W.Frag} {mg : Mg} {d : D} {v : V} (hv : ∀ G, Rep K mg G d v) (σ : L2.St) (H : Hp) (Q : VK) (h : denE K mg E (mC d) σ H Q) : tC v σ H Q := by
  obtain ⟨H0, G, L, pv, s, R, h⟩ := h
  exact h.done R (hv G) trivial
theorem me_int {i j pos} : ME X E (.Constant (.int i) j pos) (mC (.int i)) := PE.imp pe_int (den_c fun G => by simp only [Rep])
theorem me_bl {b j pos} : ME X E (.Constant (.bool b) j pos) (mC (.bl b)) := PE.imp pe_bl (den_c fun G => by simp only [Rep])
theorem me_non {j pos} : ME X E (.Constant .none j pos) (mC .non) := PE.imp pe_non (den_c fun G => by simp only [Rep])
theorem me_str {x j pos} : ME X E (.Constant (.str x) j pos) (mC (.str x)) := PE.imp pe_str (den_c fun G => by simp only [Rep])
/-- a module's constant -/
theorem me_glob {x : Str} {d : D} {v : V} {u : Value} {pos : Pos} (hg : Gl X x) (hm : X.mg x = some u) (r : RelV v u) (hv : ∀ G, Rep X.K X.mg G d v) (hd : (x == ("__debug__" : Str)) = false := by decide) : ME X E (.Name x pos) (mC d) :=
  PE.imp (pe_glob hg hm r hd) (den_c hv)
end

/-! ### reading what waits -/
def rd (s : S) : Rv → Option D
  | .sh d => some d
  | .fr d => some d
  | .bs i => match s.sl[i]? with
    | some (.ow d) => some d
    | _ => none
  | .bp p => match s.pr[p]? with
    | some (.ow d) => some d
    | some (.sh d) => some d
    | _ => none
section
variable {K : PySem.W.Frag} {mg : Mg} {E : XK} {H0 G H G1 H1 G' H' : Hp} {L L1 L' : Addr → Prop} {pv : List V} {σ : List (Option V)} {s s1 : S} {Q : VK}
theorem rd_ok {rv : Rv} {v : V} {d : D} (R : SRep K mg H0 G H L pv σ s) (r : RvRep K mg H0 G H L pv σ rv v) (h : rd s rv = some d) : Rdb K mg G H d v := by
  cases rv with
  | sh d' => cases h; exact Rdb.of_rep R.same r
  | fr d' => cases h; obtain ⟨a, rfl, o, _⟩ := r; exact Rdb.of_own o
  | bs i =>
    unfold rd at h
    cases e : s.sl[i]? with
    | none => simp only [e] at h; cases h
    | some c =>
      have hc := R.cell i c e
      simp only [e] at h
      cases c with
      | ow d' =>
        cases h
        obtain ⟨a, e1, o, _⟩ := hc
        have r : σ[i]? = some (some v) := r
        rw [r] at e1
        cases e1
        exact Rdb.of_own o
      | un => cases h
      | sh d' => cases h
      | al p => cases h
  | bp p =>
    unfold rd at h
    cases e : s.pr[p]? with
    | none => simp only [e] at h; cases h
    | some c =>
      have hc := R.par p c e
      simp only [e] at h
      have r : pv[p]? = some v := r
      cases c with
      | ow d' =>
        cases h
        obtain ⟨a, e1, o, _⟩ := hc
        rw [r] at e1
        cases e1
        exact Rdb.of_own o
      | sh d' =>
        cases h
        obtain ⟨w, e1, o⟩ := hc
        rw [r] at e1
        cases e1
        exact Rdb.of_rep R.same o
      | un => cases h
      | al q => cases h
end

/-! ### operators by data -/
/-- an operator's rule does what the function on data says -/
def OpD (K : PySem.W.Frag) (mg : Mg) (r : R2) (f : D → D → Option Rv) : Prop :=
  ∀ G H x y dx dy res, Same G H → Rdb K mg G H dx x → Rdb K mg G H dy y → f dx dy = some res → ∀ Q : VK, (∀ G' H' v, New G H G' H' → ResRep K mg H G' H' res v → Q v H') → r x y H Q
def mBin (op : D → D → Option Rv) (f g : Mm) : Mm := fun s => (f s).bind fun r1 s1 => (g s1).bind fun r2 s2 =>
  match rd s2 r1 with
  | some d1 => match rd s2 r2 with
    | some d2 => match op d1 d2 with
      | some r => .ok r s2
      | none => .no
    | none => .no
  | none => .no
section
variable {X : Cx} {E : XK} {a b : Expr} {f g : Mm} {pos : Pos}
theorem den_bin {K : PySem.W.Frag} {mg : Mg} {r : R2} {op : D → D → Option Rv} (ho : OpD K mg r op) (σ : L2.St) (H : Hp) (Q : VK) (h : denE K mg E (mBin op f g) σ H Q) :
    tOp r (denE K mg E f) (denE K mg E g) σ H Q := by
  obtain ⟨H0, G, L, pv, s, R, h⟩ := h
  refine den_mono _ _ _ _ (fun x H1 ⟨G1, L1, r1, s1, A1, h1⟩ => ?_) (go_bind R h)
  refine den_mono _ _ _ _ (fun y H2 ⟨G2, L2, r2, s2, A2, h2⟩ => ?_) (go_bind A1.R h1)
  have w1 := A1.r.ext A2.e
  cases e1 : rd s2 r1 with
  | none => rw [e1] at h2; exact h2.elim
  | some d1 =>
    cases e2 : rd s2 r2 with
    | none => rw [e1, e2] at h2; exact h2.elim
    | some d2 =>
      rw [e1, e2] at h2
      simp only at h2
      cases e3 : op d1 d2 with
      | none => rw [e3] at h2; exact h2.elim
      | some res =>
        rw [e3] at h2
        exact ho G2 H2 x y d1 d2 res A2.R.same (rd_ok A2.R w1 e1) (rd_ok A2.R A2.r e2) e3 Q fun G' H' v n rr => Go.fin A2.R h2 n rr
theorem me_bin {o : Operator} {r : R2} {op : D → D → Option Rv} (hop : OpR X (binaryOp o) r) (ho : OpD X.K X.mg r op) (ha : ME X E a f) (hb : ME X E b g) : ME X E (.BinOp a o b pos) (mBin op f g) :=
  PE.imp (pe_op hop ha hb) (den_bin ho)
theorem me_cmp {o : CmpOp} {r : R2} {op : D → D → Option Rv} (hop : OpR X (compareOp o) r) (ho : OpD X.K X.mg r op) (ha : ME X E a f) (hb : ME X E b g) (hm : behindInMarks o b = false := by first | exact nomark _ | rfl) : ME X E (.Compare a [o] [b] pos) (mBin op f g) :=
  PE.imp (pe_cmpR hop ha hb hm) (den_bin ho)
theorem mt_cmp {o : CmpOp} {r : R2} {op : D → D → Option Rv} (hop : OpR X (compareOp o) r) (ho : OpD X.K X.mg r op) (ha : ME X E a f) (hb : ME X E b g) (hm : behindInMarks o b = false := by first | exact nomark _ | rfl) : MT X E (.Compare a [o] [b] pos) (mBin op f g) :=
  PT.imp (pt_cmpR hop ha hb hm) fun σ H Q h => den_bin ho σ H _ h
/-- a value that is True or False, as a test -/
theorem mt_val {e : Expr} {m : Mm} (h : ME X E e m) (he : ∀ whole, isTrue e X.env whole = (do let v ← whole; standAt e.pos; holding [v] (truthy v)) := by intro _; rfl) : MT X E e m :=
  PT.imp (pt_val h he) fun σ H Q h => h
/-- unary -/
def UnD (K : PySem.W.Frag) (mg : Mg) (r : V → Hp → VK → Prop) (f : D → Option Rv) : Prop :=
  ∀ G H x dx res, Same G H → Rdb K mg G H dx x → f dx = some res → ∀ Q : VK, (∀ G' H' v, New G H G' H' → ResRep K mg H G' H' res v → Q v H') → r x H Q
def mUn (op : D → Option Rv) (f : Mm) : Mm := fun s => (f s).bind fun r1 s1 =>
  match rd s1 r1 with
  | some d1 => match op d1 with
    | some r => .ok r s1
    | none => .no
  | none => .no
theorem den_un {K : PySem.W.Frag} {mg : Mg} {r : V → Hp → VK → Prop} {op : D → Option Rv} (ho : UnD K mg r op) (σ : L2.St) (H : Hp) (Q : VK) (h : denE K mg E (mUn op f) σ H Q) :
    tUn r (denE K mg E f) σ H Q := by
  obtain ⟨H0, G, L, pv, s, R, h⟩ := h
  refine den_mono _ _ _ _ (fun x H1 ⟨G1, L1, r1, s1, A1, h1⟩ => ?_) (go_bind R h)
  cases e1 : rd s1 r1 with
  | none => rw [e1] at h1; exact h1.elim
  | some d1 =>
    rw [e1] at h1
    simp only at h1
    cases e3 : op d1 with
    | none => rw [e3] at h1; exact h1.elim
    | some res =>
      rw [e3] at h1
      exact ho G1 H1 x d1 res A1.R.same (rd_ok A1.R A1.r e1) e3 Q fun G' H' v n rr => Go.fin A1.R h1 n rr
theorem me_un {o : UnaryOp} {r : V → Hp → VK → Prop} {op : D → Option Rv} (hop : UnR X (unaryOp o) r) (ho : UnD X.K X.mg r op) (ha : ME X E a f) : ME X E (.UnaryOp o a pos) (mUn op f) :=
  PE.imp (pe_un hop ha) (den_un ho)

/-! ### and, or, not, if else -/
def asB : Rv → Option Bool
  | .sh (.bl b) => some b
  | _ => none
theorem asB_some {r : Rv} {b : Bool} (h : asB r = some b) : r = .sh (.bl b) := by
  cases r with
  | sh d => cases d <;> first | (cases h; rfl) | cases h
  | _ => cases h
def mAnd (f g : Mm) : Mm := fun s => (f s).bind fun r s1 => match asB r with
  | some true => g s1
  | some false => .ok (.sh (.bl false)) s1
  | none => .no
def mOr (f g : Mm) : Mm := fun s => (f s).bind fun r s1 => match asB r with
  | some true => .ok (.sh (.bl true)) s1
  | some false => g s1
  | none => .no
def mNot (f : Mm) : Mm := fun s => (f s).bind fun r s1 => match asB r with
  | some b => .ok (.sh (.bl (!b))) s1
  | none => .no
def mIfE (c f g : Mm) : Mm := fun s => (c s).bind fun r s1 => match asB r with
  | some true => f s1
  | some false => g s1
  | none => .no
variable {rest : List Expr}
theorem rep_bl {K : PySem.W.Frag} {mg : Mg} {G : Hp} {b : Bool} {v : V} (h : Rep K mg G (.bl b) v) : v = .bl b := by simpa only [Rep] using h
theorem bl_rep {K : PySem.W.Frag} {mg : Mg} {G : Hp} {b : Bool} : Rep K mg G (.bl b) (.bl b) := by simp only [Rep]
theorem bl_rv {K : PySem.W.Frag} {mg : Mg} {H0 G H : Hp} {L : Addr → Prop} {pv : List V} {σ : List (Option V)} {b : Bool} : RvRep K mg H0 G H L pv σ (.sh (.bl b)) (.bl b) := bl_rep (K := K) (mg := mg) (G := G)
theorem asB_rep {K : PySem.W.Frag} {mg : Mg} {H0 G H : Hp} {L : Addr → Prop} {pv : List V} {σ : List (Option V)} {r : Rv} {b : Bool} {v : V} (h : asB r = some b) (q : RvRep K mg H0 G H L pv σ r v) : v = .bl b := by
  rw [asB_some h] at q
  exact rep_bl (K := K) (mg := mg) (G := G) q
theorem den_and {K : PySem.W.Frag} {mg : Mg} (σ : L2.St) (H : Hp) (Q : VK) (h : denE K mg E (mAnd f g) σ H Q) : tAndV (denE K mg E f) (denE K mg E g) σ H Q := by
  obtain ⟨H0, G, L, pv, s, R, h⟩ := h
  refine den_mono _ _ _ _ (fun x H1 ⟨G1, L1, r1, s1, A1, h1⟩ => ?_) (go_bind R h)
  cases e : asB r1 with
  | none => rw [e] at h1; exact h1.elim
  | some b =>
    rw [e] at h1
    refine ⟨b, asB_rep e A1.r, ?_⟩
    cases b with
    | true => rw [if_pos rfl]; exact ⟨H0, G1, L1, pv, s1, A1.R, h1⟩
    | false => rw [if_neg Bool.false_ne_true]; exact Go.done A1.R h1 bl_rv trivial
theorem den_or {K : PySem.W.Frag} {mg : Mg} (σ : L2.St) (H : Hp) (Q : VK) (h : denE K mg E (mOr f g) σ H Q) : tOrV (denE K mg E f) (denE K mg E g) σ H Q := by
  obtain ⟨H0, G, L, pv, s, R, h⟩ := h
  refine den_mono _ _ _ _ (fun x H1 ⟨G1, L1, r1, s1, A1, h1⟩ => ?_) (go_bind R h)
  cases e : asB r1 with
  | none => rw [e] at h1; exact h1.elim
  | some b =>
    rw [e] at h1
    refine ⟨b, asB_rep e A1.r, ?_⟩
    cases b with
    | true => rw [if_pos rfl]; exact Go.done A1.R h1 bl_rv trivial
    | false => rw [if_neg Bool.false_ne_true]; exact ⟨H0, G1, L1, pv, s1, A1.R, h1⟩
theorem den_not {K : PySem.W.Frag} {mg : Mg} (σ : L2.St) (H : Hp) (Q : VK) (h : denE K mg E (mNot f) σ H Q) : tNotV (denE K mg E f) σ H Q := by
  obtain ⟨H0, G, L, pv, s, R, h⟩ := h
  refine den_mono _ _ _ _ (fun x H1 ⟨G1, L1, r1, s1, A1, h1⟩ => ?_) (go_bind R h)
  cases e : asB r1 with
  | none => rw [e] at h1; exact h1.elim
  | some b =>
    rw [e] at h1
    exact ⟨b, asB_rep e A1.r, Go.done A1.R h1 bl_rv trivial⟩
theorem den_tand {K : PySem.W.Frag} {mg : Mg} (σ : L2.St) (H : Hp) (Q : Bool → Hp → Prop) (h : denT K mg E (mAnd f g) σ H Q) : tAnd (denT K mg E f) (denT K mg E g) σ H Q := by
  obtain ⟨H0, G, L, pv, s, R, h⟩ := h
  refine den_mono _ _ _ _ (fun x H1 ⟨G1, L1, r1, s1, A1, h1⟩ => ?_) (go_bind R h)
  cases e : asB r1 with
  | none => rw [e] at h1; exact h1.elim
  | some b =>
    rw [e] at h1
    refine ⟨b, asB_rep e A1.r, ?_⟩
    cases b with
    | true => rw [if_pos rfl]; exact ⟨H0, G1, L1, pv, s1, A1.R, h1⟩
    | false =>
      rw [if_neg Bool.false_ne_true]
      obtain ⟨b, e, q⟩ := Go.done (rv := .sh (.bl false)) (v := .bl false) A1.R h1 bl_rv trivial
      cases e
      exact q
theorem den_tor {K : PySem.W.Frag} {mg : Mg} (σ : L2.St) (H : Hp) (Q : Bool → Hp → Prop) (h : denT K mg E (mOr f g) σ H Q) : tOr (denT K mg E f) (denT K mg E g) σ H Q := by
  obtain ⟨H0, G, L, pv, s, R, h⟩ := h
  refine den_mono _ _ _ _ (fun x H1 ⟨G1, L1, r1, s1, A1, h1⟩ => ?_) (go_bind R h)
  cases e : asB r1 with
  | none => rw [e] at h1; exact h1.elim
  | some b =>
    rw [e] at h1
    refine ⟨b, asB_rep e A1.r, ?_⟩
    cases b with
    | true =>
      rw [if_pos rfl]
      obtain ⟨b, e, q⟩ := Go.done (rv := .sh (.bl true)) (v := .bl true) A1.R h1 bl_rv trivial
      cases e
      exact q
    | false => rw [if_neg Bool.false_ne_true]; exact ⟨H0, G1, L1, pv, s1, A1.R, h1⟩
theorem den_tnot {K : PySem.W.Frag} {mg : Mg} (σ : L2.St) (H : Hp) (Q : Bool → Hp → Prop) (h : denT K mg E (mNot f) σ H Q) : tNot (denT K mg E f) σ H Q := by
  obtain ⟨H0, G, L, pv, s, R, h⟩ := h
  refine den_mono _ _ _ _ (fun x H1 ⟨G1, L1, r1, s1, A1, h1⟩ => ?_) (go_bind R h)
  cases e : asB r1 with
  | none => rw [e] at h1; exact h1.elim
  | some b =>
    rw [e] at h1
    obtain ⟨c, e2, q⟩ := Go.done (rv := .sh (.bl (!b))) (v := .bl (!b)) A1.R h1 bl_rv trivial
    cases e2
    exact ⟨b, asB_rep e A1.r, q⟩
theorem den_ifE {K : PySem.W.Frag} {mg : Mg} {c : Mm} (σ : L2.St) (H : Hp) (Q : VK) (h : denE K mg E (mIfE c f g) σ H Q) : tIf (denT K mg E c) (denE K mg E f) (denE K mg E g) σ H Q := by
  obtain ⟨H0, G, L, pv, s, R, h⟩ := h
  refine den_mono _ _ _ _ (fun x H1 ⟨G1, L1, r1, s1, A1, h1⟩ => ?_) (go_bind R h)
  cases e : asB r1 with
  | none => rw [e] at h1; exact h1.elim
  | some b =>
    rw [e] at h1
    refine ⟨b, asB_rep e A1.r, ?_⟩
    cases b with
    | true => rw [if_pos rfl]; exact ⟨H0, G1, L1, pv, s1, A1.R, h1⟩
    | false => rw [if_neg Bool.false_ne_true]; exact ⟨H0, G1, L1, pv, s1, A1.R, h1⟩
theorem me_one {op} (h : ME X E a f) : ME X E (.BoolOp op [a] pos) f := pe_one h
theorem me_and (ha : ME X E a f) (hb : ME X E (.BoolOp .And (b :: rest) pos) g) : ME X E (.BoolOp .And (a :: b :: rest) pos) (mAnd f g) := PE.imp (pe_and ha hb) den_and
theorem me_or (ha : ME X E a f) (hb : ME X E (.BoolOp .Or (b :: rest) pos) g) : ME X E (.BoolOp .Or (a :: b :: rest) pos) (mOr f g) := PE.imp (pe_or ha hb) den_or
theorem me_not (ha : ME X E a f) : ME X E (.UnaryOp .Not a pos) (mNot f) := PE.imp (pe_not ha) den_not
theorem mw_and1 (ha : MT X E a f) : MW X E (.BoolOp .And [a] pos) f := pw_and1 ha
theorem mw_or1 (ha : MT X E a f) : MW X E (.BoolOp .Or [a] pos) f := pw_or1 ha
theorem mw_and (ha : MT X E a f) (hb : MW X E (.BoolOp .And (b :: rest) pos) g) : MW X E (.BoolOp .And (a :: b :: rest) pos) (mAnd f g) := PW.imp (pw_and ha hb) den_tand
theorem mw_or (ha : MT X E a f) (hb : MW X E (.BoolOp .Or (b :: rest) pos) g) : MW X E (.BoolOp .Or (a :: b :: rest) pos) (mOr f g) := PW.imp (pw_or ha hb) den_tor
theorem mt_not (ha : MT X E a f) : MT X E (.UnaryOp .Not a pos) (mNot f) := PT.imp (pt_not ha) den_tnot
theorem me_ifE {c : Expr} {t : Mm} (hc : MT X E c t) (ha : ME X E a f) (hb : ME X E b g) : ME X E (.IfExp c a b pos) (mIfE t f g) := PE.imp (pe_ifExp hc ha hb) den_ifE
end
end Mx

set_option Elab.async false
set_option linter.all false
set_option maxRecDepth 100000
namespace Mx
open PySem PySem.Spec PyProof.Rows L2

section
variable {K : PySem.W.Frag} {mg : Mg} {E : XK} {H0 G H G1 H1 G' H' : Hp} {L L1 L' : Addr → Prop} {pv : List V} {σ σ' : List (Option V)} {s s1 : S} {Q : VK}
/-- behind an expression, in a statement: the end is wanted from where it began -/
theorem go_thn0 {D : Ends} {f : Mm} {k : Rv → S → SR} (R : SRep K mg H0 G H L pv σ s) (h : GoS K mg E H0 G H L pv D ((f s).thn k)) :
    denE K mg E f σ H (fun x H1 => ∃ G1 L1 rv s1, Aft K mg E H0 G H L pv σ rv s1 x G1 H1 L1 ∧ GoS K mg E H0 G H L pv D (k rv s1)) := by
  refine ⟨H0, G, L, pv, s, R, ?_⟩
  cases e : f s with
  | ok rv s' =>
    rw [e] at h
    exact fun G' H' L' v R' e' r n => ⟨G', L', rv, s', ⟨R', e', r, n⟩, h⟩
  | ex c fs s' => rw [e] at h; exact h
  | no => rw [e] at h; exact h
theorem go_bind0 {f : Mm} {k : Rv → S → Res} (R : SRep K mg H0 G H L pv σ s) (h : Go K mg E H0 G H L pv σ Q ((f s).bind k)) :
    denE K mg E f σ H (fun x H1 => ∃ G1 L1 rv s1, Aft K mg E H0 G H L pv σ rv s1 x G1 H1 L1 ∧ Go K mg E H0 G H L pv σ Q (k rv s1)) := by
  refine ⟨H0, G, L, pv, s, R, ?_⟩
  cases e : f s with
  | ok rv s' =>
    rw [e] at h
    exact fun G' H' L' v R' e' r n => ⟨G', L', rv, s', ⟨R', e', r, n⟩, h⟩
  | ex c fs s' => rw [e] at h; exact h
  | no => rw [e] at h; exact h

/-! ### fixing an owned object -/
/-- a is fixed in G as it stands in H -/
structure Fix (G H G' : Hp) (a : Addr) : Prop where
  gg : Same G G'
  gh : Same G' H
  only : ∀ b, b ≠ a → G' b = G b
theorem Own.fixed {d : D} {a : Addr} (h : Own K mg G H d a) (s : Same G H) : ∃ G', Fix G H G' a ∧ Rep K mg G' d (.ref a) := by
  obtain ⟨o, e, s1, s2, r⟩ := h.fix s
  exact ⟨upd G a o, ⟨s1, s2, fun b hb => upd_ne hb⟩, r⟩
theorem Own.other {d : D} {a b : Addr} (h : Own K mg G H d b) (f : Fix G H G' a) (ne : b ≠ a) : Own K mg G' H d b := h.move f.gg rfl (by rw [f.only b ne]; exact h.there.2)
/-- a waiting value, when another object is fixed -/
theorem RvRep.fix {rv : Rv} {v : V} {a : Addr} (h : RvRep K mg H0 G H L pv σ rv v) (f : Fix G H G' a) (ne : ∀ d, rv = .fr d → v ≠ .ref a) : RvRep K mg H0 G' H L pv σ rv v := by
  cases rv with
  | sh d => exact Rep.mono f.gg d v h
  | fr d =>
    obtain ⟨b, rfl, o, nl⟩ := h
    exact ⟨b, rfl, o.other f fun e => ne d rfl (by rw [e]), nl⟩
  | bs i => exact h
  | bp p => exact h
/-- fixing an object that no cell owns -/
theorem SRep.fixFree {a : Addr} (R : SRep K mg H0 G H L pv σ s) (f : Fix G H G' a) (nl : ¬ L a) : SRep K mg H0 G' H L pv σ s := by
  refine ⟨f.gh, R.old, R.lv, R.len, R.plen, fun i c h => ?_, fun p c h => ?_, R.ap, R.app⟩
  · have q := R.cell i c h
    cases c with
    | un => trivial
    | sh d => obtain ⟨v, e, r⟩ := q; exact ⟨v, e, r.mono f.gg⟩
    | ow d => obtain ⟨b, e, o, l, z⟩ := q; exact ⟨b, e, o.other f fun y => nl (y ▸ l), l, z⟩
    | al p => exact q
  · have q := R.par p c h
    cases c with
    | un => trivial
    | sh d => obtain ⟨v, e, r⟩ := q; exact ⟨v, e, r.mono f.gg⟩
    | ow d => obtain ⟨b, e, o, l, z⟩ := q; exact ⟨b, e, o.other f fun y => nl (y ▸ l), l, z⟩
    | al p => trivial
theorem getElem?_set_of {α : Type} {l : List α} {i j : Nat} {x y : α} (h : (l.set i x)[j]? = some y) : (j = i ∧ y = x) ∨ (j ≠ i ∧ l[j]? = some y) := by
  by_cases e : j = i
  · subst e
    by_cases hl : j < l.length
    · rw [List.getElem?_set_self hl] at h; cases h; exact .inl ⟨rfl, rfl⟩
    · rw [List.getElem?_eq_none (by simpa using hl)] at h; cases h
  · rw [List.getElem?_set_ne (Ne.symm e)] at h
    exact .inr ⟨e, h⟩
/-- .. that a slot owns: the slot then holds data -/
theorem SRep.fixSlot {a : Addr} {i : Nat} {d : D} (R : SRep K mg H0 G H L pv σ s) (f : Fix G H G' a) (r : Rep K mg G' d (.ref a)) (hi : s.sl[i]? = some (.ow d)) (hσ : σ[i]? = some (some (.ref a))) :
    SRep K mg H0 G' H L pv σ { s with sl := s.sl.set i (.sh d) } := by
  obtain ⟨a', ea, oa, la, za⟩ := R.cell i _ hi
  rw [hσ] at ea
  cases ea
  refine ⟨f.gh, R.old, R.lv, by rw [List.length_set]; exact R.len, R.plen, fun j c h => ?_, fun p c h => ?_, fun j k d1 d2 v h1 h2 => ?_, R.app⟩
  · rcases getElem?_set_of h with ⟨rfl, rfl⟩ | ⟨ne, h⟩
    · exact ⟨_, hσ, r⟩
    · have q := R.cell j c h
      cases c with
      | un => trivial
      | sh d => obtain ⟨v, e, r⟩ := q; exact ⟨v, e, r.mono f.gg⟩
      | ow d1 =>
        obtain ⟨b, e, o, l, z⟩ := q
        exact ⟨b, e, o.other f fun y => ne (R.ap j i _ _ (.ref a) h hi (by rw [e, y]) hσ), l, z⟩
      | al p => exact q
  · have q := R.par p c h
    cases c with
    | un => trivial
    | sh d => obtain ⟨v, e, r⟩ := q; exact ⟨v, e, r.mono f.gg⟩
    | ow d => obtain ⟨b, e, o, l, z⟩ := q; exact ⟨b, e, o.other f fun y => z (y ▸ za), l, z⟩
    | al p => trivial
  · rcases getElem?_set_of h1 with ⟨_, q⟩ | ⟨_, h1⟩
    · cases q
    · rcases getElem?_set_of h2 with ⟨_, q⟩ | ⟨_, h2⟩
      · cases q
      · exact R.ap j k d1 d2 v h1 h2
/-- .. that a parameter owns -/
theorem SRep.fixPar {a : Addr} {p : Nat} {d : D} (R : SRep K mg H0 G H L pv σ s) (f : Fix G H G' a) (r : Rep K mg G' d (.ref a)) (hp : s.pr[p]? = some (.ow d)) (hv : pv[p]? = some (.ref a)) :
    SRep K mg H0 G' H L pv σ { s with pr := s.pr.set p (.sh d) } := by
  obtain ⟨a', ea, oa, la, za⟩ := R.par p _ hp
  rw [hv] at ea
  cases ea
  refine ⟨f.gh, R.old, R.lv, R.len, by rw [List.length_set]; exact R.plen, fun i c h => ?_, fun q c h => ?_, R.ap, fun q k d1 d2 v h1 h2 => ?_⟩
  · have q := R.cell i c h
    cases c with
    | un => trivial
    | sh d => obtain ⟨v, e, r⟩ := q; exact ⟨v, e, r.mono f.gg⟩
    | ow d => obtain ⟨b, e, o, l, z⟩ := q; exact ⟨b, e, o.other f fun y => za (y ▸ z), l, z⟩
    | al p => exact q
  · rcases getElem?_set_of h with ⟨rfl, rfl⟩ | ⟨ne, h⟩
    · exact ⟨_, hv, r⟩
    · have z := R.par q c h
      cases c with
      | un => trivial
      | sh d => obtain ⟨v, e, r⟩ := z; exact ⟨v, e, r.mono f.gg⟩
      | ow d1 =>
        obtain ⟨b, e, o, l, z⟩ := z
        exact ⟨b, e, o.other f fun y => ne (R.app q p _ _ (.ref a) h hp (by rw [e, y]) hv), l, z⟩
      | al p => trivial
  · rcases getElem?_set_of h1 with ⟨_, q⟩ | ⟨_, h1⟩
    · cases q
    · rcases getElem?_set_of h2 with ⟨_, q⟩ | ⟨_, h2⟩
      · cases q
      · exact R.app q k d1 d2 v h1 h2
end

/-! ### a value that goes into data -/
def esc (s : S) : Rv → Option (D × S)
  | .sh d => some (d, s)
  | .fr d => some (d, s)
  | .bs i => match s.sl[i]? with
    | some (.ow d) => some (d, { s with sl := s.sl.set i (.sh d) })
    | some (.sh d) => some (d, s)
    | _ => none
  | .bp p => match s.pr[p]? with
    | some (.ow d) => some (d, { s with pr := s.pr.set p (.sh d) })
    | some (.sh d) => some (d, s)
    | _ => none
section
variable {K : PySem.W.Frag} {mg : Mg} {E : XK} {H0 Gb Hb G H G1 H1 G' H' : Hp} {Lb L L1 L' : Addr → Prop} {pv : List V} {σ σ' : List (Option V)} {s s1 s2 : S} {Q : VK}
/-- a fresh object: new since the base -/
def Frs (Hb : Hp) (L : Addr → Prop) (v : V) : Prop := ∀ a, v = .ref a → Hb a = none ∧ ¬ L a
theorem Ext.fix {a : Addr} (e : Ext Gb Hb Lb G H L) (f : Fix G H G' a) (h : Hb a = none ∨ L a) : Ext Gb Hb Lb G' H L :=
  ⟨e.gg.trans f.gg, e.keep, fun b hb => by
    by_cases q : b = a
    · subst q
      rcases h with h | h
      · exact .inr (.inl h)
      · rcases e.live b h with z | z
        · exact .inr (.inr z)
        · exact .inr (.inl z)
    · rw [f.only b q] at hb
      exact e.fresh b hb, e.live, e.there⟩
theorem esc_ok {rv : Rv} {v : V} {d : D} (R : SRep K mg H0 G H L pv σ s) (e : Ext Gb Hb Lb G H L) (r : RvRep K mg H0 G H L pv σ rv v) (n : NewRv Hb rv v) (h : esc s rv = some (d, s2)) :
    ∃ G', SRep K mg H0 G' H L pv σ s2 ∧ Ext Gb Hb Lb G' H L ∧ Rep K mg G' d v ∧ Same G G' ∧
      ∀ rw w, RvRep K mg H0 G H L pv σ rw w → (∀ d d', rv = .fr d → rw = .fr d' → v ≠ w) → RvRep K mg H0 G' H L pv σ rw w := by
  cases rv with
  | sh d' =>
    simp only [esc, Option.some.injEq, Prod.mk.injEq] at h
    obtain ⟨rfl, rfl⟩ := h
    exact ⟨G, R, e, r, fun _ _ h => h, fun _ _ h _ => h⟩
  | fr d' =>
    simp only [esc, Option.some.injEq, Prod.mk.injEq] at h
    obtain ⟨rfl, rfl⟩ := h
    obtain ⟨a, rfl, o, nl, z⟩ := r
    obtain ⟨G', f, r⟩ := o.fixed R.same
    exact ⟨G', R.fixFree f nl, e.fix f (.inl (n a rfl)), r, f.gg, fun rw w hw ne => hw.fix f fun d2 e2 e3 => ne d' d2 rfl e2 e3.symm⟩
  | bs i =>
    simp only [esc] at h
    cases hi : s.sl[i]? with
    | none => rw [hi] at h; cases h
    | some c =>
      rw [hi] at h
      have r : σ[i]? = some (some v) := r
      cases c with
      | un => cases h
      | al p => cases h
      | sh d' =>
        simp only [Option.some.injEq, Prod.mk.injEq] at h
        obtain ⟨rfl, rfl⟩ := h
        obtain ⟨w, e1, q⟩ := R.cell i _ hi
        rw [r] at e1
        cases e1
        exact ⟨G, R, e, q, fun _ _ h => h, fun _ _ h _ => h⟩
      | ow d' =>
        simp only [Option.some.injEq, Prod.mk.injEq] at h
        obtain ⟨rfl, rfl⟩ := h
        obtain ⟨a, e1, o, l, z⟩ := R.cell i _ hi
        rw [r] at e1
        cases e1
        obtain ⟨G', f, q⟩ := o.fixed R.same
        refine ⟨G', R.fixSlot f q hi r, e.fix f (.inr l), q, f.gg, fun rw w hw _ => hw.fix f fun d2 e2 e3 => ?_⟩
        subst e2
        obtain ⟨b, e4, _, nl, _⟩ := hw
        rw [e3] at e4
        cases e4
        exact nl l
  | bp p =>
    simp only [esc] at h
    cases hi : s.pr[p]? with
    | none => rw [hi] at h; cases h
    | some c =>
      rw [hi] at h
      have r : pv[p]? = some v := r
      cases c with
      | un => cases h
      | al p => cases h
      | sh d' =>
        simp only [Option.some.injEq, Prod.mk.injEq] at h
        obtain ⟨rfl, rfl⟩ := h
        obtain ⟨w, e1, q⟩ := R.par p _ hi
        rw [r] at e1
        cases e1
        exact ⟨G, R, e, q, fun _ _ h => h, fun _ _ h _ => h⟩
      | ow d' =>
        simp only [Option.some.injEq, Prod.mk.injEq] at h
        obtain ⟨rfl, rfl⟩ := h
        obtain ⟨a, e1, o, l, z⟩ := R.par p _ hi
        rw [r] at e1
        cases e1
        obtain ⟨G', f, q⟩ := o.fixed R.same
        refine ⟨G', R.fixPar f q hi r, e.fix f (.inr l), q, f.gg, fun rw w hw _ => hw.fix f fun d2 e2 e3 => ?_⟩
        subst e2
        obtain ⟨b, e4, _, nl, _⟩ := hw
        rw [e3] at e4
        cases e4
        exact nl l
end

/-! ### argument lists -/
inductive ResL where
  | ok (rs : List Rv) (s : S) | ex (c : Str) (fs : Fs) (s : S) | no
def ResL.bind (r : ResL) (k : List Rv → S → Res) : Res := match r with
  | .ok rs s => k rs s
  | .ex c fs s => .ex c fs s
  | .no => .no
def ResL.thn (r : ResL) (k : List Rv → S → SR) : SR := match r with
  | .ok rs s => k rs s
  | .ex c fs s => .ex c fs s
  | .no => .no
def mArgs : List Mm → S → ResL
  | [], s => .ok [] s
  | f :: fs, s => match f s with
    | .ok r s1 => match mArgs fs s1 with
      | .ok rs s2 => .ok (r :: rs) s2
      | .ex c x s2 => .ex c x s2
      | .no => .no
    | .ex c x s1 => .ex c x s1
    | .no => .no
/-- waiting values: each as it is told; the new ones apart -/
inductive Wait (K : PySem.W.Frag) (mg : Mg) (H0 Hb G H : Hp) (L : Addr → Prop) (pv : List V) (σ : List (Option V)) : List Rv → List V → Prop
  | nil : Wait K mg H0 Hb G H L pv σ [] []
  | cons {r : Rv} {v : V} {rs : List Rv} {vs : List V} (h : RvRep K mg H0 G H L pv σ r v) (n : NewRv Hb r v) (ap : ∀ d, r = .fr d → ∀ (i : Nat) (d' : D), rs[i]? = some (.fr d') → vs[i]? ≠ some v)
      (t : Wait K mg H0 Hb G H L pv σ rs vs) : Wait K mg H0 Hb G H L pv σ (r :: rs) (v :: vs)
section
variable {K : PySem.W.Frag} {mg : Mg} {E : XK} {H0 Gb Hb G H G1 H1 G' H' : Hp} {Lb L L1 L' : Addr → Prop} {pv : List V} {σ σ' : List (Option V)} {s s1 s2 : S} {Q : VK}
theorem Wait.len {rs : List Rv} {vs : List V} (w : Wait K mg H0 Hb G H L pv σ rs vs) : rs.length = vs.length := by
  induction w with
  | nil => rfl
  | cons _ _ _ _ ih => simp only [List.length_cons, ih]
theorem Wait.get {rs : List Rv} {vs : List V} (w : Wait K mg H0 Hb G H L pv σ rs vs) : ∀ {i : Nat} {r : Rv}, rs[i]? = some r → ∃ v, vs[i]? = some v ∧ RvRep K mg H0 G H L pv σ r v ∧ NewRv Hb r v := by
  induction w with
  | nil => intro i r e; simp at e
  | cons h n ap t ih =>
    intro i r e
    cases i with
    | zero => simp at e; subst e; exact ⟨_, rfl, h, n⟩
    | succ i => obtain ⟨v, e1, q⟩ := ih (i := i) (r := r) (by simpa using e); exact ⟨v, by simpa using e1, q⟩
theorem Wait.apart {rs : List Rv} {vs : List V} (w : Wait K mg H0 Hb G H L pv σ rs vs) : ∀ {i j : Nat} {d d' : D} {v : V}, rs[i]? = some (.fr d) → rs[j]? = some (.fr d') → vs[i]? = some v → vs[j]? = some v → i = j := by
  induction w with
  | nil => intro i j d d' v e; simp at e
  | cons h n ap t ih =>
    intro i j d d' v e1 e2 e3 e4
    cases i with
    | zero =>
      cases j with
      | zero => rfl
      | succ j =>
        simp at e1 e3
        subst e1 e3
        exact absurd (by simpa using e4) (ap d rfl j d' (by simpa using e2))
    | succ i =>
      cases j with
      | zero =>
        simp at e2 e4
        subst e2 e4
        exact absurd (by simpa using e3) (ap d' rfl i d (by simpa using e1))
      | succ j => rw [ih (i := i) (j := j) (by simpa using e1) (by simpa using e2) (by simpa using e3) (by simpa using e4)]
def GoA (K : PySem.W.Frag) (mg : Mg) (E : XK) (H0 G H : Hp) (L : Addr → Prop) (pv : List V) (σ : List (Option V)) (Q : List V → Hp → Prop) : ResL → Prop
  | .ok rs s' => ∀ G' H' L' vs, SRep K mg H0 G' H' L' pv σ s' → Ext G H L G' H' L' → Wait K mg H0 H G' H' L' pv σ rs vs → Q vs H'
  | .ex c fs s' => GoX K mg E G H L pv c fs s'.pr
  | .no => False
def denA (K : PySem.W.Frag) (mg : Mg) (E : XK) (fs : List Mm) : TA := fun σ H Q => ∃ H0 G L pv s, SRep K mg H0 G H L pv σ s ∧ GoA K mg E H0 G H L pv σ Q (mArgs fs s)
abbrev MA (X : Cx) (E : XK) (es : List Expr) (fs : List Mm) : Prop := PA X es (denA X.K X.mg E fs)
theorem GoA.mono {Q Q' : List V → Hp → Prop} {r : ResL} (i : ∀ vs H', Q vs H' → Q' vs H') (h : GoA K mg E H0 G H L pv σ Q r) : GoA K mg E H0 G H L pv σ Q' r := by
  cases r with
  | ok rs s' => exact fun G' H' L' vs R e w => i _ _ (h G' H' L' vs R e w)
  | ex c fs s' => exact h
  | no => exact h
theorem denA_mono {fs : List Mm} {σ : List (Option V)} {H : Hp} {Q Q' : List V → Hp → Prop} (i : ∀ vs H', Q vs H' → Q' vs H') (h : denA K mg E fs σ H Q) : denA K mg E fs σ H Q' := by
  obtain ⟨H0, G, L, pv, s, R, h⟩ := h
  exact ⟨H0, G, L, pv, s, R, h.mono i⟩
theorem den_nil (σ : L2.St) (H : Hp) (Q : List V → Hp → Prop) (h : denA K mg E [] σ H Q) : tNil σ H Q := by
  obtain ⟨H0, G, L, pv, s, R, h⟩ := h
  exact h G H L [] R (Ext.refl ..) .nil
theorem den_cons {f : Mm} {fs : List Mm} (σ : L2.St) (H : Hp) (Q : List V → Hp → Prop) (h : denA K mg E (f :: fs) σ H Q) : tCons (denE K mg E f) (denA K mg E fs) σ H Q := by
  obtain ⟨H0, G, L, pv, s, R, h⟩ := h
  refine ⟨H0, G, L, pv, s, R, ?_⟩
  unfold mArgs at h
  cases e : f s with
  | ex c x s1 => rw [e] at h; exact h
  | no => rw [e] at h; exact h
  | ok r s1 =>
    rw [e] at h
    simp only at h
    intro G1 H1 L1 v R1 e1 r1 n1
    refine ⟨H0, G1, L1, pv, s1, R1, ?_⟩
    cases e2 : mArgs fs s1 with
    | ex c x s2 => rw [e2] at h; exact GoX.base h e1
    | no => rw [e2] at h; exact h
    | ok rs s2 =>
      rw [e2] at h
      intro G2 H2 L2 vs R2 e3 w2
      refine h G2 H2 L2 (v :: vs) R2 (e1.trans e3) ?_
      have up : ∀ {rs : List Rv} {vs : List V}, Wait K mg H0 H1 G2 H2 L2 pv σ rs vs → Wait K mg H0 H G2 H2 L2 pv σ rs vs := by
        intro rs vs w
        induction w with
        | nil => exact .nil
        | cons h n ap t ih => exact .cons h (n.base e1) ap ih
      refine .cons (r1.ext e3) n1 (fun d hd i d' hi hv => ?_) (up w2)
      subst hd
      obtain ⟨a, rfl, o, _⟩ := r1
      obtain ⟨w, hw, rw', nw⟩ := w2.get hi
      rw [hv] at hw
      cases hw
      exact o.there.1 (nw a rfl)
theorem ma_nil {X : Cx} {E : XK} : MA X E [] [] := PA.imp pa_nil den_nil
theorem ma_cons {X : Cx} {E : XK} {e : Expr} {es : List Expr} {f : Mm} {fs : List Mm} (ha : ME X E e f) (hr : MA X E es fs) (hs : starEach (e :: es) X.env = (false, eval e X.env) :: starEach es X.env := by rfl) : MA X E (e :: es) (f :: fs) :=
  PA.imp (pa_cons ha hr hs) den_cons
theorem go_args {fs : List Mm} {k : List Rv → S → Res} (R : SRep K mg H0 G H L pv σ s) (h : Go K mg E H0 G H L pv σ Q ((mArgs fs s).bind k)) :
    denA K mg E fs σ H (fun vs H1 => ∃ G1 L1 rs s1, SRep K mg H0 G1 H1 L1 pv σ s1 ∧ Ext G H L G1 H1 L1 ∧ Wait K mg H0 H G1 H1 L1 pv σ rs vs ∧ Go K mg E H0 G H L pv σ Q (k rs s1)) := by
  refine ⟨H0, G, L, pv, s, R, ?_⟩
  cases e : mArgs fs s with
  | ok rs s' => rw [e] at h; exact fun G' H' L' vs R' e' w => ⟨G', L', rs, s', R', e', w, h⟩
  | ex c x s' => rw [e] at h; exact h
  | no => rw [e] at h; exact h
theorem go_argsS {D : Ends} {fs : List Mm} {k : List Rv → S → SR} (R : SRep K mg H0 G H L pv σ s) (h : GoS K mg E H0 G H L pv D ((mArgs fs s).thn k)) :
    denA K mg E fs σ H (fun vs H1 => ∃ G1 L1 rs s1, SRep K mg H0 G1 H1 L1 pv σ s1 ∧ Ext G H L G1 H1 L1 ∧ Wait K mg H0 H G1 H1 L1 pv σ rs vs ∧ GoS K mg E H0 G H L pv D (k rs s1)) := by
  refine ⟨H0, G, L, pv, s, R, ?_⟩
  cases e : mArgs fs s with
  | ok rs s' => rw [e] at h; exact fun G' H' L' vs R' e' w => ⟨G', L', rs, s', R', e', w, h⟩
  | ex c x s' => rw [e] at h; exact h
  | no => rw [e] at h; exact h

/-! ### displays -/
def escs (s : S) : List Rv → Option (List D × S)
  | [] => some ([], s)
  | r :: rs => match esc s r with
    | some (d, s1) => match escs s1 rs with
      | some (ds, s2) => some (d :: ds, s2)
      | none => none
    | none => none
theorem escs_ok : ∀ {rs : List Rv} {vs : List V} {ds : List D} {G : Hp} {s s2 : S}, SRep K mg H0 G H L pv σ s → Ext Gb Hb Lb G H L → Wait K mg H0 Hb G H L pv σ rs vs → escs s rs = some (ds, s2) →
    ∃ G', SRep K mg H0 G' H L pv σ s2 ∧ Ext Gb Hb Lb G' H L ∧ Reps K mg G' ds vs ∧ Same G G'
  | [], vs, ds, G, s, s2, R, e, w, h => by
    simp only [escs, Option.some.injEq, Prod.mk.injEq] at h
    obtain ⟨rfl, rfl⟩ := h
    cases w
    exact ⟨G, R, e, Reps.nil, fun _ _ h => h⟩
  | r :: rs, vs, ds, G, s, s2, R, e, w, h => by
    cases w with
    | @cons _ v _ vs' hr n ap t =>
    simp only [escs] at h
    cases e1 : esc s r with
    | none => rw [e1] at h; cases h
    | some p =>
      obtain ⟨d, s1⟩ := p
      rw [e1] at h
      simp only at h
      cases e2 : escs s1 rs with
      | none => rw [e2] at h; cases h
      | some p =>
        obtain ⟨ds', s3⟩ := p
        rw [e2] at h
        simp only [Option.some.injEq, Prod.mk.injEq] at h
        obtain ⟨rfl, rfl⟩ := h
        obtain ⟨G', R', e', r', gg, oth⟩ := esc_ok R e hr n e1
        have t' : Wait K mg H0 Hb G' H L pv σ rs vs' := by
          have go : ∀ {qs : List Rv} {us : List V}, Wait K mg H0 Hb G H L pv σ qs us → (∀ d, r = .fr d → ∀ (i : Nat) (d' : D), qs[i]? = some (.fr d') → us[i]? ≠ some v) → Wait K mg H0 Hb G' H L pv σ qs us := by
            intro qs us w
            induction w with
            | nil => intro _; exact .nil
            | cons h1 n1 ap1 t1 ih =>
              intro hap
              exact .cons (oth _ _ h1 fun d1 d2 z1 z2 z3 => hap d1 z1 0 d2 (by simp [z2]) (by simp [z3])) n1 ap1 (ih fun d1 z1 i d2 z2 z3 => hap d1 z1 (i + 1) d2 (by simpa using z2) (by simpa using z3))
          exact go t ap
        obtain ⟨G2, R2, e3, rs2, g2⟩ := escs_ok R' e' t' e2
        exact ⟨G2, R2, e3, Reps.cons (Rep.mono g2 _ _ r') rs2, gg.trans g2⟩
end
end Mx

set_option Elab.async false
set_option linter.all false
set_option maxRecDepth 100000
namespace Mx
open PySem PySem.Spec PyProof.Rows L2

theorem mArgs_len : ∀ {fs : List Mm} {s s' : S} {rs : List Rv}, mArgs fs s = .ok rs s' → rs.length = fs.length
  | [], s, s', rs, h => by simp only [mArgs, ResL.ok.injEq] at h; rw [← h.1]; rfl
  | f :: fs, s, s', rs, h => by
    simp only [mArgs] at h
    cases e : f s with
    | ok r s1 =>
      rw [e] at h
      simp only at h
      cases e2 : mArgs fs s1 with
      | ok rs2 s2 =>
        rw [e2] at h
        simp only [ResL.ok.injEq] at h
        rw [← h.1, List.length_cons, List.length_cons, mArgs_len e2]
      | ex c x s2 => rw [e2] at h; cases h
      | no => rw [e2] at h; cases h
    | ex c x s1 => rw [e] at h; cases h
    | no => rw [e] at h; cases h
theorem escs_len : ∀ {rs : List Rv} {s s' : S} {ds : List D}, escs s rs = some (ds, s') → ds.length = rs.length
  | [], s, s', ds, h => by simp only [escs, Option.some.injEq, Prod.mk.injEq] at h; rw [← h.1]; rfl
  | r :: rs, s, s', ds, h => by
    simp only [escs] at h
    cases e : esc s r with
    | none => rw [e] at h; cases h
    | some p =>
      obtain ⟨d, s1⟩ := p
      rw [e] at h
      simp only at h
      cases e2 : escs s1 rs with
      | none => rw [e2] at h; cases h
      | some p =>
        obtain ⟨ds2, s2⟩ := p
        rw [e2] at h
        simp only [Option.some.injEq, Prod.mk.injEq] at h
        rw [← h.1, List.length_cons, List.length_cons, escs_len e2]

section
variable {K : PySem.W.Frag} {mg : Mg} {E : XK} {H0 Gb Hb G H G1 H1 G' H' : Hp} {Lb L L1 L' : Addr → Prop} {pv : List V} {σ σ' : List (Option V)} {s s1 s2 : S} {Q : VK}
theorem New.tup {p : Addr} {vs : List V} (s : Same G H) (hp : H p = none) : New G H (upd G p (.tup vs)) (upd H p (.tup vs)) := by
  have gp : G p = none := s.free hp
  refine ⟨fun b o q => by rw [upd_ne (ne_of_none q gp)]; exact q, fun b o q => by rw [upd_ne (ne_of_none q hp)]; exact q, fun b o q => ?_, fun b q => ?_⟩
  · by_cases hb : b = p
    · subst hb; rw [upd_same] at q ⊢; exact q
    · rw [upd_ne hb] at q ⊢; exact s b o q
  · by_cases hb : b = p
    · subst hb; exact .inr hp
    · rw [upd_ne hb] at q; exact .inl q
theorem New.obj {p : Addr} {o : HO} (s : Same G H) (hp : H p = none) : New G H G (upd H p o) :=
  ⟨fun _ _ q => q, fun b o q => by rw [upd_ne (ne_of_none q hp)]; exact q, fun b o q => by rw [upd_ne (ne_of_none (s b o q) hp)]; exact s b o q, fun _ q => .inl q⟩
theorem own_lst {p : Addr} {vs : List V} {ds : List D} (s : Same G H) (hp : H p = none) (r : Reps K mg G ds vs) : ∃ a, V.ref p = .ref a ∧ Own K mg G (upd H p (.lst vs)) (.lst ds) a ∧ H a = none := by
  refine ⟨p, rfl, ?_, hp⟩
  simp only [Own]
  exact ⟨vs, upd_same, s.free hp, r⟩
theorem rep_tup {p : Addr} {vs : List V} {ds : List D} (s : Same G H) (hp : H p = none) (r : Reps K mg G ds vs) : Rep K mg (upd G p (.tup vs)) (.tup ds) (.ref p) := by
  simp only [Rep]
  exact ⟨p, vs, rfl, .inl (.inl upd_same), r.mono (New.tup (vs := vs) s hp).gg⟩
end

/-! ### displays -/
def mTup (fs : List Mm) : Mm := fun s => (mArgs fs s).bind fun rs s1 => match escs s1 rs with
  | some (ds, s2) => .ok (.sh (.tup ds)) s2
  | none => .no
def mLst (fs : List Mm) : Mm := fun s => (mArgs fs s).bind fun rs s1 => match escs s1 rs with
  | some (ds, s2) => .ok (.fr (.lst ds)) s2
  | none => .no
section
variable {X : Cx} {E : XK} {es : List Expr} {fs : List Mm} {pos : Pos}
theorem wait_len {K : PySem.W.Frag} {mg : Mg} {H0 Hb G H : Hp} {L : Addr → Prop} {pv : List V} {σ : List (Option V)} {rs : List Rv} {vs : List V} (w : Wait K mg H0 Hb G H L pv σ rs vs) {n : Nat} (h : rs.length = n) (hn : n ≤ 1000) : vs.length ≤ sizeLine := by
  rw [← w.len, h, sizeLine_eq]
  omega
theorem go_argsN {K : PySem.W.Frag} {mg : Mg} {H0 G H : Hp} {L : Addr → Prop} {pv : List V} {σ : List (Option V)} {s : S} {Q : VK} {k : List Rv → S → Res} (R : SRep K mg H0 G H L pv σ s) (h : Go K mg E H0 G H L pv σ Q ((mArgs fs s).bind k)) :
    denA K mg E fs σ H (fun vs H1 => ∃ G1 L1 rs s1, SRep K mg H0 G1 H1 L1 pv σ s1 ∧ Ext G H L G1 H1 L1 ∧ Wait K mg H0 H G1 H1 L1 pv σ rs vs ∧ rs.length = fs.length ∧ Go K mg E H0 G H L pv σ Q (k rs s1)) := by
  refine ⟨H0, G, L, pv, s, R, ?_⟩
  cases e : mArgs fs s with
  | ok rs s' => rw [e] at h; exact fun G' H' L' vs R' e' w => ⟨G', L', rs, s', R', e', w, mArgs_len e, h⟩
  | ex c x s' => rw [e] at h; exact h
  | no => rw [e] at h; exact h
theorem den_tup {K : PySem.W.Frag} {mg : Mg} (hl : fs.length ≤ 1000) (σ : L2.St) (H : Hp) (Q : VK) (h : denE K mg E (mTup fs) σ H Q) : tTup (denA K mg E fs) σ H Q := by
  obtain ⟨H0, G, L, pv, s, R, h⟩ := h
  refine denA_mono (fun vs H1 ⟨G1, L1, rs, s1, R1, e1, w, hn, h1⟩ => ⟨wait_len w hn hl, fun p hp => ?_⟩) (go_argsN R h)
  cases e : escs s1 rs with
  | none => rw [e] at h1; exact h1.elim
  | some q =>
    obtain ⟨ds, s2⟩ := q
    rw [e] at h1
    obtain ⟨G2, R2, e2, r2, _⟩ := escs_ok R1 e1 w e
    exact Go.fin R2 (Go.base h1 e2) (New.tup R2.same hp) (rep_tup R2.same hp r2)
theorem den_lst {K : PySem.W.Frag} {mg : Mg} (hl : fs.length ≤ 1000) (σ : L2.St) (H : Hp) (Q : VK) (h : denE K mg E (mLst fs) σ H Q) : tLst (denA K mg E fs) σ H Q := by
  obtain ⟨H0, G, L, pv, s, R, h⟩ := h
  refine denA_mono (fun vs H1 ⟨G1, L1, rs, s1, R1, e1, w, hn, h1⟩ => ⟨wait_len w hn hl, fun p hp => ?_⟩) (go_argsN R h)
  cases e : escs s1 rs with
  | none => rw [e] at h1; exact h1.elim
  | some q =>
    obtain ⟨ds, s2⟩ := q
    rw [e] at h1
    obtain ⟨G2, R2, e2, r2, _⟩ := escs_ok R1 e1 w e
    exact Go.fin R2 (Go.base h1 e2) (New.obj R2.same hp) (own_lst R2.same hp r2)
theorem me_tup {x1} (h : MA X E es fs) (hl : fs.length ≤ 1000 := by decide) : ME X E (.Tuple es x1 pos) (mTup fs) := PE.imp (pe_tup h) (den_tup hl)
theorem me_lst (h : MA X E es fs) (hl : fs.length ≤ 1000 := by decide) : ME X E (.List es pos) (mLst fs) := PE.imp (pe_lst h) (den_lst hl)
end

/-! ### stores -/
def stor (i : Nat) (r : Rv) (s : S) : SR := match r with
  | .sh d => .nx { s with sl := s.sl.set i (.sh d) }
  | .fr d => .nx { s with sl := s.sl.set i (.ow d) }
  | .bs j => match esc s (.bs j) with
    | some (d, s1) => .nx { s1 with sl := s1.sl.set i (.sh d) }
    | none => .no
  | .bp p => match s.pr[p]? with
    | some (.ow _) => .nx { s with sl := s.sl.set i (.al p) }
    | some (.sh d) => .nx { s with sl := s.sl.set i (.sh d) }
    | _ => .no
section
variable {K : PySem.W.Frag} {mg : Mg} {E : XK} {H0 Gb Hb G H G1 H1 G' H' : Hp} {Lb L L1 L' : Addr → Prop} {pv : List V} {σ σ' : List (Option V)} {s s1 s2 : S} {Q : VK}
theorem SRep.setCell {i : Nat} {c : Cell} {v : V} (R : SRep K mg H0 G H L pv σ s) (hc : Cl K mg H0 G H L pv (some (some v)) c) (ho : ∀ d, c ≠ .ow d) :
    SRep K mg H0 G H L pv (σ.set i (some v)) { s with sl := s.sl.set i c } := by
  refine ⟨R.same, R.old, R.lv, by simp only [List.length_set]; exact R.len, R.plen, fun j c' h => ?_, R.par, fun j k d1 d2 w h1 h2 h3 h4 => ?_, R.app⟩
  · have hl : j < s.sl.length := by have := (List.getElem?_eq_some_iff.mp h).1; simpa using this
    rcases getElem?_set_of h with ⟨rfl, rfl⟩ | ⟨ne, h⟩
    · rw [List.getElem?_set_self (by rw [R.len]; exact hl)]; exact hc
    · rw [List.getElem?_set_ne (Ne.symm ne)]; exact R.cell j c' h
  · rcases getElem?_set_of h1 with ⟨_, q⟩ | ⟨n1, h1⟩
    · exact absurd q.symm (ho d1)
    · rcases getElem?_set_of h2 with ⟨_, q⟩ | ⟨n2, h2⟩
      · exact absurd q.symm (ho d2)
      · rw [List.getElem?_set_ne (Ne.symm n1)] at h3
        rw [List.getElem?_set_ne (Ne.symm n2)] at h4
        exact R.ap j k d1 d2 w h1 h2 h3 h4
theorem SRep.setNew {i : Nat} {d : D} {a : Addr} (R : SRep K mg H0 G H L pv σ s) (o : Own K mg G H d a) (nl : ¬ L a) (z : H0 a = none) :
    SRep K mg H0 G H (fun b => L b ∨ b = a) pv (σ.set i (some (.ref a))) { s with sl := s.sl.set i (.ow d) } := by
  refine ⟨R.same, R.old, fun b l => l.elim (R.lv b) fun e => e ▸ o.there.1, by simp only [List.length_set]; exact R.len, R.plen, fun j c' h => ?_, fun p c h => ?_, fun j k d1 d2 w h1 h2 h3 h4 => ?_, R.app⟩
  · have hl : j < s.sl.length := by have := (List.getElem?_eq_some_iff.mp h).1; simpa using this
    rcases getElem?_set_of h with ⟨rfl, rfl⟩ | ⟨ne, h⟩
    · rw [List.getElem?_set_self (by rw [R.len]; exact hl)]; exact ⟨a, rfl, o, .inr rfl, z⟩
    · rw [List.getElem?_set_ne (Ne.symm ne)]
      have q := R.cell j c' h
      cases c' with
      | ow d' => obtain ⟨b, e, o', l, z'⟩ := q; exact ⟨b, e, o', .inl l, z'⟩
      | un => trivial
      | sh d => exact q
      | al p => exact q
  · have q := R.par p c h
    cases c with
    | ow d' => obtain ⟨b, e, o', l, z'⟩ := q; exact ⟨b, e, o', .inl l, z'⟩
    | un => trivial
    | sh d => exact q
    | al p => trivial
  · have inL : ∀ (m : Nat) (dm : D), s.sl[m]? = some (.ow dm) → σ[m]? = some (some w) → w ≠ .ref a := fun m dm e1 e2 e3 => by
      obtain ⟨b, e, _, l, _⟩ := R.cell m _ e1
      rw [e2, e3] at e
      cases e
      exact nl l
    have hl1 : j < σ.length := by have := (List.getElem?_eq_some_iff.mp h3).1; simpa using this
    have hl2 : k < σ.length := by have := (List.getElem?_eq_some_iff.mp h4).1; simpa using this
    rcases getElem?_set_of h1 with ⟨e1, q1⟩ | ⟨n1, g1⟩
    · rcases getElem?_set_of h2 with ⟨e2, q2⟩ | ⟨n2, g2⟩
      · rw [e1, e2]
      · rw [e1, List.getElem?_set_self (by rw [← e1]; exact hl1)] at h3
        rw [List.getElem?_set_ne (Ne.symm n2)] at h4
        cases h3
        exact absurd rfl (inL k d2 g2 h4)
    · rw [List.getElem?_set_ne (Ne.symm n1)] at h3
      rcases getElem?_set_of h2 with ⟨e2, q2⟩ | ⟨n2, g2⟩
      · rw [e2, List.getElem?_set_self (by rw [← e2]; exact hl2)] at h4
        cases h4
        exact absurd rfl (inL j d1 g1 h3)
      · rw [List.getElem?_set_ne (Ne.symm n2)] at h4
        exact R.ap j k d1 d2 w g1 g2 h3 h4
theorem stor_ok {i : Nat} {rv : Rv} {v : V} (R : SRep K mg H0 G H L pv σ s) (e : Ext Gb Hb Lb G H L) (r : RvRep K mg H0 G H L pv σ rv v) (n : NewRv Hb rv v) (h : stor i rv s = .nx s2) :
    ∃ G' L', SRep K mg H0 G' H L' pv (σ.set i (some v)) s2 ∧ Ext Gb Hb Lb G' H L' := by
  cases rv with
  | sh d =>
    simp only [stor, SR.nx.injEq] at h
    subst h
    exact ⟨G, L, R.setCell ⟨v, rfl, r⟩ (fun d z => by cases z), e⟩
  | fr d =>
    simp only [stor, SR.nx.injEq] at h
    subst h
    obtain ⟨a, rfl, o, nl, z⟩ := r
    exact ⟨G, _, R.setNew o nl z, ⟨e.gg, e.keep, e.fresh, fun b l => l.elim (e.live b) fun q => .inr (q ▸ n a rfl), e.there⟩⟩
  | bs j =>
    simp only [stor] at h
    cases q : esc s (.bs j) with
    | none => rw [q] at h; cases h
    | some p =>
      obtain ⟨d, s1⟩ := p
      rw [q] at h
      simp only [SR.nx.injEq] at h
      subst h
      obtain ⟨G', R', e', r', _, _⟩ := esc_ok R e r n q
      exact ⟨G', L, R'.setCell ⟨v, rfl, r'⟩ (fun d z => by cases z), e'⟩
  | bp p =>
    simp only [stor] at h
    have r : pv[p]? = some v := r
    cases q : s.pr[p]? with
    | none => rw [q] at h; cases h
    | some c =>
      rw [q] at h
      cases c with
      | un => cases h
      | al p => cases h
      | ow d =>
        simp only [SR.nx.injEq] at h
        subst h
        exact ⟨G, L, R.setCell ⟨v, rfl, r⟩ (fun d z => by cases z), e⟩
      | sh d =>
        simp only [SR.nx.injEq] at h
        subst h
        obtain ⟨w, e1, rr⟩ := R.par p _ q
        rw [r] at e1
        cases e1
        exact ⟨G, L, R.setCell ⟨v, rfl, rr⟩ (fun d z => by cases z), e⟩
theorem stor_nx (i : Nat) (r : Rv) (s : S) : (∃ s2, stor i r s = .nx s2) ∨ stor i r s = .no := by
  cases r with
  | sh d => exact .inl ⟨_, rfl⟩
  | fr d => exact .inl ⟨_, rfl⟩
  | bs j =>
    simp only [stor]
    cases esc s (.bs j) with
    | none => exact .inr rfl
    | some p => exact .inl ⟨_, rfl⟩
  | bp p =>
    simp only [stor]
    cases s.pr[p]? with
    | none => exact .inr rfl
    | some c => cases c <;> first | exact .inr rfl | exact .inl ⟨_, rfl⟩
end

/-! ### statements -/
def mNx : Ms := fun s => .nx s
def mSeq (a b : Ms) : Ms := fun s => (a s).seq b
def mExpr (f : Mm) : Ms := fun s => (f s).thn fun _ s1 => .nx s1
def mRet (f : Mm) : Ms := fun s => (f s).thn fun r s1 => .rt r s1
def mRetN : Ms := fun s => .rt (.sh .non) s
def mBrk : Ms := fun s => .bk s
def mCnt : Ms := fun s => .ct s
def mIf (c : Mm) (a b : Ms) : Ms := fun s => (c s).thn fun r s1 => match asB r with
  | some true => a s1
  | some false => b s1
  | none => .no
def mSet (i : Nat) (f : Mm) : Ms := fun s => (f s).thn fun r s1 => stor i r s1
section
variable {X : Cx} {E : XK} {e : Expr} {es : List Expr} {f : Mm} {fs : List Mm} {st : Stmt} {rest : List Stmt} {a b : Ms} {pos : Pos}
theorem mss_nil : MSs X E [] mNx := PSs.imp pss_nil fun D σ H h => by
  obtain ⟨H0, G, L, pv, s, R, h⟩ := h
  exact h G H L σ R (Ext.refl ..)
theorem mss_cons (h1 : MS X E st a) (h2 : MSs X E rest b) : MSs X E (st :: rest) (mSeq a b) := PSs.imp (pss_cons h1 h2) fun D σ H h => by
  obtain ⟨H0, G, L, pv, s, R, h⟩ := h
  refine ⟨H0, G, L, pv, s, R, ?_⟩
  unfold mSeq at h
  cases e : a s with
  | nx s1 =>
    rw [e] at h
    exact fun G1 H1 L1 σ1 R1 e1 => ⟨H0, G1, L1, pv, s1, R1, GoS.base h e1⟩
  | rt rv s1 => rw [e] at h; exact h
  | bk s1 => rw [e] at h; exact h
  | ct s1 => rw [e] at h; exact h
  | ex c x s1 => rw [e] at h; exact h
  | no => rw [e] at h; exact h
theorem mss_one (h1 : MS X E st a) : MSs X E [st] a := pss_one h1
theorem ms_pass : MS X E (.Pass pos) mNx := PS.imp ps_pass fun D σ H h => by
  obtain ⟨H0, G, L, pv, s, R, h⟩ := h
  exact h G H L σ R (Ext.refl ..)
theorem ms_break : MS X E (.Break pos) mBrk := PS.imp ps_break fun D σ H h => by
  obtain ⟨H0, G, L, pv, s, R, h⟩ := h
  exact h G H L σ R (Ext.refl ..)
theorem ms_continue : MS X E (.Continue pos) mCnt := PS.imp ps_continue fun D σ H h => by
  obtain ⟨H0, G, L, pv, s, R, h⟩ := h
  exact h G H L σ R (Ext.refl ..)
theorem ms_expr (he : ME X E e f) (hs : swapsWith e none pos.line X.env = pure false := by rfl) : MS X E (.Expr e pos) (mExpr f) := PS.imp (ps_expr he hs) fun D σ H h => by
  obtain ⟨H0, G, L, pv, s, R, h⟩ := h
  exact den_mono _ _ _ _ (fun x H1 ⟨G1, L1, r1, s1, A1, h1⟩ => h1 G1 H1 L1 σ A1.R A1.e) (go_thn0 R h)
theorem ms_ret (he : ME X E e f) : MS X E (.Return (some e) pos) (mRet f) := PS.imp (ps_ret he) fun D σ H h => by
  obtain ⟨H0, G, L, pv, s, R, h⟩ := h
  exact den_mono _ _ _ _ (fun x H1 ⟨G1, L1, r1, s1, A1, h1⟩ => h1 G1 H1 L1 σ x A1.R A1.e A1.r) (go_thn0 R h)
theorem ms_retN : MS X E (.Return none pos) mRetN := PS.imp ps_retN fun D σ H h => by
  obtain ⟨H0, G, L, pv, s, R, h⟩ := h
  refine h G H L σ .non R (Ext.refl ..) ?_
  simp only [RvRep, Rep]
theorem ms_if {c : Expr} {ba bb : List Stmt} {t : Mm} (hc : MT X E c t) (ha : MSs X E ba a) (hb : MSs X E bb b) : MS X E (.If c ba bb pos) (mIf t a b) := PS.imp (ps_if hc ha hb) fun D σ H h => by
  obtain ⟨H0, G, L, pv, s, R, h⟩ := h
  refine den_mono _ _ _ _ (fun x H1 ⟨G1, L1, r1, s1, A1, h1⟩ => ?_) (go_thn0 R h)
  cases e : asB r1 with
  | none => rw [e] at h1; exact h1.elim
  | some b =>
    rw [e] at h1
    refine ⟨b, asB_rep e A1.r, ?_⟩
    cases b with
    | true => rw [if_pos rfl]; exact ⟨H0, G1, L1, pv, s1, A1.R, GoS.base h1 A1.e⟩
    | false => rw [if_neg Bool.false_ne_true]; exact ⟨H0, G1, L1, pv, s1, A1.R, GoS.base h1 A1.e⟩
theorem den_set {K : PySem.W.Frag} {mg : Mg} {i : Nat} (D : Ends) (σ : L2.St) (H : Hp) (h : denS K mg E (mSet i f) D σ H) : tAsg (denE K mg E f) (gName i) D σ H := by
  obtain ⟨H0, G, L, pv, s, R, h⟩ := h
  refine den_mono _ _ _ _ (fun x H1 ⟨G1, L1, r1, s1, A1, h1⟩ => ?_) (go_thn0 R h)
  rcases stor_nx i r1 s1 with ⟨s2, e⟩ | e
  · rw [e] at h1
    obtain ⟨G2, L2, R2, e2⟩ := stor_ok A1.R A1.e A1.r A1.n e
    exact h1 G2 H1 L2 _ R2 e2
  · rw [e] at h1; exact h1.elim
/-- x = e; e no comprehension -/
theorem ms_set {i : Nat} {x : Str} {pos' : Pos} (hN : X.N.Nodup) (he : ME X E e f) (hi : X.N[i]? = some x := by rfl) (hx : Loc X.env.scope x := by first | exact Or.inl rfl | exact Or.inr rfl) (hs : swapsWith e (some (.Name x pos')) pos.line X.env = pure false := by rfl)
    (hf : X.fn x = true ∨ X.env.scope.names.lookup x = some .local := by first | exact .inl rfl | exact .inr rfl | assumption) : MS X E (.Assign [.Name x pos'] e pos) (mSet i f) :=
  PS.imp (ps_set hN hi hx he hs hf) den_set
end
end Mx

set_option Elab.async false
set_option linter.all false
set_option maxRecDepth 100000
namespace Mx
open PySem PySem.Spec PyProof.Rows L2

/-! ### defs -/
inductive FRes where
  | ret (rv : Rv) (pr : List Cell) | ex (c : Str) (fs : Fs) (pr : List Cell) | no
abbrev Fn := List Cell → FRes
def ini : Nat → List Cell → List Cell
  | _, [] => []
  | k, .ow _ :: cs => .al k :: ini (k + 1) cs
  | k, c :: cs => c :: ini (k + 1) cs
def prs : List Cell → List Cell
  | [] => []
  | .ow d :: cs => .ow d :: prs cs
  | _ :: cs => .un :: prs cs
def init (n : Nat) (as : List Cell) : S := { sl := ini 0 as ++ List.replicate (n - as.length) .un, pr := prs as }
def finR (s : S) : Rv → FRes
  | .sh d => .ret (.sh d) s.pr
  | .fr d => .ret (.fr d) s.pr
  | .bs i => match s.sl[i]? with
    | some (.ow d) => .ret (.fr d) s.pr
    | some (.sh d) => .ret (.sh d) s.pr
    | _ => .no
  | .bp p => match s.pr[p]? with
    | some (.ow d) => .ret (.sh d) (s.pr.set p (.sh d))
    | some (.sh d) => .ret (.sh d) s.pr
    | _ => .no
def finS : SR → FRes
  | .nx s => .ret (.sh .non) s.pr
  | .rt rv s => finR s rv
  | .ex c fs s => .ex c fs s.pr
  | _ => .no
def mFn (np n : Nat) (body : Ms) : Fn := fun as => if as.length = np then finS (body (init n as)) else .no

section
variable (K : PySem.W.Frag) (mg : Mg)
structure ArgOk (G H : Hp) (L : Addr → Prop) (vs : List V) (as : List Cell) : Prop where
  len : vs.length = as.length
  arg : ∀ (p : Nat) (c : Cell), as[p]? = some c → match c with
    | .sh d => ∃ v, vs[p]? = some v ∧ Rep K mg G d v
    | .ow d => ∃ a, vs[p]? = some (.ref a) ∧ Own K mg G H d a ∧ L a
    | _ => False
  ap : ∀ (p q : Nat) (d e : D) (v : V), as[p]? = some (.ow d) → as[q]? = some (.ow e) → vs[p]? = some v → vs[q]? = some v → p = q
  lv : ∀ a, L a → H a ≠ none
def spF (F : Fn) : Sp := fun vs H Q E => ∃ G L as, Same G H ∧ ArgOk K mg G H L vs as ∧ match F as with
  | .ret rv pr => ∀ G' H' L' v, Same G' H' → Ext G H L G' H' L' → (∀ a, L' a → H' a ≠ none) → PrRep K mg G' H' vs pr → ResRep K mg H G' H' rv v → Q v H'
  | .ex c fs pr => GoX K mg E G H L vs c fs pr
  | .no => False
end

theorem ini_len : ∀ (k : Nat) (as : List Cell), (ini k as).length = as.length
  | _, [] => rfl
  | k, c :: cs => by cases c <;> simp only [ini, List.length_cons, ini_len (k + 1) cs]
theorem prs_len : ∀ (as : List Cell), (prs as).length = as.length
  | [] => rfl
  | c :: cs => by cases c <;> simp only [prs, List.length_cons, prs_len cs]
theorem ini_get : ∀ {as : List Cell} {k i : Nat} {c : Cell}, (ini k as)[i]? = some c → (∃ d, as[i]? = some (.ow d) ∧ c = .al (k + i)) ∨ (as[i]? = some c ∧ ∀ d, c ≠ .ow d)
  | [], k, i, c, h => by simp [ini] at h
  | c0 :: cs, k, 0, c, h => by
    cases c0 with
    | ow d => simp only [ini, List.getElem?_cons_zero, Option.some.injEq] at h; subst h; exact .inl ⟨d, rfl, rfl⟩
    | un => simp only [ini, List.getElem?_cons_zero, Option.some.injEq] at h; subst h; exact .inr ⟨rfl, fun d z => by cases z⟩
    | sh d => simp only [ini, List.getElem?_cons_zero, Option.some.injEq] at h; subst h; exact .inr ⟨rfl, fun d z => by cases z⟩
    | al p => simp only [ini, List.getElem?_cons_zero, Option.some.injEq] at h; subst h; exact .inr ⟨rfl, fun d z => by cases z⟩
  | c0 :: cs, k, i + 1, c, h => by
    have h' : (ini (k + 1) cs)[i]? = some c := by cases c0 <;> simpa only [ini, List.getElem?_cons_succ] using h
    rcases ini_get h' with ⟨d, e1, e2⟩ | ⟨e1, e2⟩
    · exact .inl ⟨d, by simpa using e1, by rw [e2]; congr 1; omega⟩
    · exact .inr ⟨by simpa using e1, e2⟩
theorem prs_get : ∀ {as : List Cell} {i : Nat} {c : Cell}, (prs as)[i]? = some c → (∃ d, as[i]? = some (.ow d) ∧ c = .ow d) ∨ c = .un
  | [], i, c, h => by simp [prs] at h
  | c0 :: cs, 0, c, h => by
    cases c0 with
    | ow d => simp only [prs, List.getElem?_cons_zero, Option.some.injEq] at h; subst h; exact .inl ⟨d, rfl, rfl⟩
    | un => simp only [prs, List.getElem?_cons_zero, Option.some.injEq] at h; exact .inr h.symm
    | sh d => simp only [prs, List.getElem?_cons_zero, Option.some.injEq] at h; exact .inr h.symm
    | al p => simp only [prs, List.getElem?_cons_zero, Option.some.injEq] at h; exact .inr h.symm
  | c0 :: cs, i + 1, c, h => by
    have h' : (prs cs)[i]? = some c := by cases c0 <;> simpa only [prs, List.getElem?_cons_succ] using h
    rcases prs_get h' with ⟨d, e1, e2⟩ | e
    · exact .inl ⟨d, by simpa using e1, e2⟩
    · exact .inr e

section
variable {K : PySem.W.Frag} {mg : Mg} {E : XK} {H0 Gb Hb G H G1 H1 G' H' : Hp} {Lb L L1 L' : Addr → Prop} {pv : List V} {σ σ' : List (Option V)} {s s1 s2 : S} {Q : VK}
theorem srep_start {N : List Str} {vs : List V} {as : List Cell} (sm : Same G H) (A : ArgOk K mg G H L vs as) (hn : as.length ≤ N.length) : SRep K mg H G H L vs (start N vs) (init N.length as) := by
  have hl : vs.length = as.length := A.len
  refine ⟨sm, fun _ h => h, A.lv, ?_, by show vs.length = (prs as).length; rw [prs_len]; exact hl, fun i c h => ?_, fun p c h => ?_, fun i j d e v h1 => ?_, fun p q d e v h1 h2 => ?_⟩
  · show (vs.map some ++ List.replicate (N.length - vs.length) none).length = (ini 0 as ++ List.replicate (N.length - as.length) Cell.un).length
    simp only [List.length_append, List.length_map, List.length_replicate, ini_len, hl]
  · have h : (ini 0 as ++ List.replicate (N.length - as.length) Cell.un)[i]? = some c := h
    by_cases hi : i < as.length
    · rw [List.getElem?_append_left (by rw [ini_len]; exact hi)] at h
      have at_ : ∀ v, vs[i]? = some v → (start N vs)[i]? = some (some v) := fun v e => by
        show (vs.map some ++ List.replicate (N.length - vs.length) none)[i]? = _
        rw [List.getElem?_append_left (by rw [List.length_map, hl]; exact hi), List.getElem?_map, e]
        rfl
      rcases ini_get h with ⟨d, e1, e2⟩ | ⟨e1, e2⟩
      · subst e2
        obtain ⟨a, e3, _⟩ := A.arg i _ e1
        exact ⟨_, at_ _ e3, by rw [Nat.zero_add]; exact e3⟩
      · have q := A.arg i _ e1
        cases c with
        | un => exact q.elim
        | al p => exact q.elim
        | ow d => exact absurd rfl (e2 d)
        | sh d => obtain ⟨v, e3, r⟩ := q; exact ⟨v, at_ v e3, r⟩
    · rw [List.getElem?_append_right (by rw [ini_len]; omega)] at h
      have e : c = .un := by
        have := List.mem_of_getElem? h
        exact (List.mem_replicate.mp this).2
      subst e
      trivial
  · rcases prs_get h with ⟨d, e1, e2⟩ | e
    · subst e2
      obtain ⟨a, e3, o, l⟩ := A.arg p _ e1
      exact ⟨a, e3, o, l, o.there.1⟩
    · subst e; trivial
  · have h1 : (ini 0 as ++ List.replicate (N.length - as.length) Cell.un)[i]? = some (.ow d) := h1
    by_cases hi : i < as.length
    · rw [List.getElem?_append_left (by rw [ini_len]; exact hi)] at h1
      rcases ini_get h1 with ⟨d, _, e2⟩ | ⟨_, e2⟩
      · cases e2
      · exact absurd rfl (e2 d)
    · rw [List.getElem?_append_right (by rw [ini_len]; omega)] at h1
      have := List.mem_of_getElem? h1
      cases (List.mem_replicate.mp this).2
  · rcases prs_get h1 with ⟨d1, e1, z1⟩ | e
    · rcases prs_get h2 with ⟨d2, e2, z2⟩ | e
      · exact fun h3 h4 => A.ap p q d1 d2 v e1 e2 h3 h4
      · cases e
    · cases e
theorem SRep.prRep (R : SRep K mg H0 G H L pv σ s) : PrRep K mg G H pv s.pr := fun p c h => by
  have q := R.par p c h
  cases c with
  | un => trivial
  | al p => trivial
  | sh d => exact q
  | ow d => obtain ⟨a, e, o, _⟩ := q; exact ⟨a, e, o⟩
/-- the end of a def -/
theorem go_fin {as : List Cell} {r : SR} (A : ArgOk K mg G H L pv as)
    (h : match finS r with
      | .ret rv pr => ∀ G' H' L' v, Same G' H' → Ext G H L G' H' L' → (∀ a, L' a → H' a ≠ none) → PrRep K mg G' H' pv pr → ResRep K mg H G' H' rv v → Q v H'
      | .ex c fs pr => GoX K mg E G H L pv c fs pr
      | .no => False) : GoS K mg E H G H L pv { nx := fun _ H' => Q .non H', rt := Q } r := by
  cases r with
  | nx s => exact fun G' H' L' σ' R e => h G' H' L' .non R.same e R.lv R.prRep (by simp only [ResRep, Rep])
  | bk s => exact h.elim
  | ct s => exact h.elim
  | no => exact h.elim
  | ex c fs s => exact h
  | rt rv s =>
    intro G' H' L' σ' v R e r
    cases rv with
    | sh d => exact h G' H' L' v R.same e R.lv R.prRep r
    | fr d =>
      obtain ⟨a, rfl, o, _, z⟩ := r
      exact h G' H' L' _ R.same e R.lv R.prRep ⟨a, rfl, o, z⟩
    | bs i =>
      have r : σ'[i]? = some (some v) := r
      simp only [finS, finR] at h
      cases q : s.sl[i]? with
      | none => rw [q] at h; exact h.elim
      | some c =>
        have hc := R.cell i c q
        rw [q] at h
        cases c with
        | un => exact h.elim
        | al p => exact h.elim
        | sh d =>
          obtain ⟨w, e1, rr⟩ := hc
          rw [r] at e1
          cases e1
          exact h G' H' L' v R.same e R.lv R.prRep rr
        | ow d =>
          obtain ⟨a, e1, o, _, z⟩ := hc
          rw [r] at e1
          cases e1
          exact h G' H' L' _ R.same e R.lv R.prRep ⟨a, rfl, o, z⟩
    | bp p =>
      have r : pv[p]? = some v := r
      simp only [finS, finR] at h
      cases q : s.pr[p]? with
      | none => rw [q] at h; exact h.elim
      | some c =>
        have hc := R.par p c q
        rw [q] at h
        cases c with
        | un => exact h.elim
        | al p => exact h.elim
        | sh d =>
          obtain ⟨w, e1, rr⟩ := hc
          rw [r] at e1
          cases e1
          exact h G' H' L' v R.same e R.lv R.prRep rr
        | ow d =>
          obtain ⟨a, e1, o, l, z⟩ := hc
          rw [r] at e1
          cases e1
          obtain ⟨G2, f, rr⟩ := o.fixed R.same
          have R2 := R.fixPar f rr q r
          exact h G2 H' L' _ R2.same (e.fix f (.inr l)) R2.lv R2.prRep rr
end
section
variable {P : Program} {w : World} {K : PySem.W.Frag} {mg : Mg} {base : Heap}
theorem fnScope_le {N ps : List Str} {sc : Scope} (S : FnScope N ps sc) : ps.length ≤ N.length := by
  have h := congrArg List.length S.pre
  rw [List.length_take] at h
  omega
theorem spF_len {np n : Nat} {body : Ms} {vs : List V} {H : Hp} {Q : VK} {E : XK} (h : spF K mg (mFn np n body) vs H Q E) : vs.length = np := by
  obtain ⟨G, L, as, sm, A, h⟩ := h
  unfold mFn at h
  by_cases e : as.length = np
  · rw [A.len, e]
  · rw [if_neg e] at h; exact h.elim
theorem fn_ok {x qual : Str} {st : Stmt} {f : Addr} {fd : FuncData} {N ps : List Str} {k : Nat} {body : Ms} (F : Fun K x qual st f fd) (Sc : FnScope N ps (defScope st))
    (hbody : ∀ (cdv : Value) (A : Around) (outer : List Env) (s : Shared) (H : Hp) (E : XK), A.guards = some [] → Room k (A.deeper (envOfC qual (defScope st) s.heap.objs.size f cdv)) →
      MSs (cxOf (L2.CX P w) P w K mg base N qual (defScope st) f cdv A outer s H E) E (defBody st) body) : FnG P w K mg base (L2.CX P w) (k + 1) f fd ps (spF K mg (mFn ps.length N.length body)) := by
  refine FnG.of F Sc (fun vs H Q E h => spF_len h) (fun cdv A outer s H vs Q E hg hr h => ⟨_, hbody cdv A outer s H E hg hr, ?_⟩)
  obtain ⟨G, L, as, sm, Aa, h⟩ := h
  unfold mFn at h
  by_cases e : as.length = ps.length
  · rw [if_pos e] at h
    exact ⟨H, G, L, vs, init N.length as, srep_start sm Aa (by rw [e]; exact fnScope_le Sc), go_fin Aa h⟩
  · rw [if_neg e] at h; exact h.elim
/-- what a caller needs of a def -/
structure Kn (P : Program) (w : World) (K : PySem.W.Frag) (mg : Mg) (base : Heap) (x : Str) (ps : List Str) (k : Nat) (F : Fn) : Prop where
  ex : ∃ f fd, mg x = some (.ref f) ∧ PySem.W.keepIn K (.ref f) = true ∧ Binds K fd ps [] ∧ FnG P w K mg base (L2.CX P w) k f fd ps (spF K mg F)
theorem Kn.mono {x : Str} {ps : List Str} {j k : Nat} {F : Fn} (h : Kn P w K mg base x ps j F) (l : j ≤ k) : Kn P w K mg base x ps k F :=
  let ⟨f, fd, a, b, c, d⟩ := h.ex
  ⟨f, fd, a, b, c, d.mono l⟩
end

/-! ### calls -/
def argC (s : S) : Rv → Option Cell
  | .sh d => some (.sh d)
  | .fr d => some (.ow d)
  | .bs i => match s.sl[i]? with
    | some (.ow d) => some (.ow d)
    | some (.sh d) => some (.sh d)
    | _ => none
  | .bp p => match s.pr[p]? with
    | some (.ow d) => some (.ow d)
    | some (.sh d) => some (.sh d)
    | _ => none
def argCs (s : S) : List Rv → Option (List Cell)
  | [] => some []
  | r :: rs => match argC s r with
    | some c => match argCs s rs with
      | some cs => some (c :: cs)
      | none => none
    | none => none
def dist : List Rv → Bool
  | [] => true
  | .bs i :: rs => (rs.all fun q => match q with | .bs j => i != j | _ => true) && dist rs
  | .bp p :: rs => (rs.all fun q => match q with | .bp j => p != j | _ => true) && dist rs
  | _ :: rs => dist rs
def putB : List Rv → List Cell → List Cell → S → Option S
  | [], _, _, s => some s
  | .bs i :: rs, .ow _ :: as, .ow d :: pr, s => putB rs as pr { s with sl := s.sl.set i (.ow d) }
  | .bs i :: rs, .ow _ :: as, .sh d :: pr, s => putB rs as pr { s with sl := s.sl.set i (.sh d) }
  | .bp i :: rs, .ow _ :: as, .ow d :: pr, s => putB rs as pr { s with pr := s.pr.set i (.ow d) }
  | .bp i :: rs, .ow _ :: as, .sh d :: pr, s => putB rs as pr { s with pr := s.pr.set i (.sh d) }
  | .bs _ :: _, .ow _ :: _, _, _ => none
  | .bp _ :: _, .ow _ :: _, _, _ => none
  | _ :: rs, _ :: as, _ :: pr, s => putB rs as pr s
  | _, _, _, _ => none
def mCallR (F : Fn) (rs : List Rv) (s1 : S) : Res := match argCs s1 rs with
  | some as => if dist rs = true then (match F as with
    | .ret (.sh d) pr => (match putB rs as pr s1 with | some s2 => .ok (.sh d) s2 | none => .no)
    | .ret (.fr d) pr => (match putB rs as pr s1 with | some s2 => .ok (.fr d) s2 | none => .no)
    | .ret _ _ => .no
    | .ex c x pr => (match putB rs as pr s1 with | some s2 => .ex c x s2 | none => .no)
    | .no => .no) else .no
  | none => .no
def mCall (F : Fn) (fs : List Mm) : Mm := fun s => (mArgs fs s).bind fun rs s1 => mCallR F rs s1
end Mx

set_option Elab.async false
set_option linter.all false
set_option maxRecDepth 100000
namespace Mx
open PySem PySem.Spec PyProof.Rows L2

theorem argCs_len : ∀ {rs : List Rv} {s : S} {as : List Cell}, argCs s rs = some as → as.length = rs.length
  | [], s, as, h => by simp only [argCs, Option.some.injEq] at h; rw [← h]; rfl
  | r :: rs, s, as, h => by
    simp only [argCs] at h
    cases e : argC s r with
    | none => rw [e] at h; cases h
    | some c =>
      rw [e] at h
      simp only at h
      cases e2 : argCs s rs with
      | none => rw [e2] at h; cases h
      | some cs =>
        rw [e2] at h
        simp only [Option.some.injEq] at h
        rw [← h, List.length_cons, List.length_cons, argCs_len e2]
theorem argCs_get : ∀ {rs : List Rv} {s : S} {as : List Cell} {k : Nat} {c : Cell}, argCs s rs = some as → as[k]? = some c → ∃ r, rs[k]? = some r ∧ argC s r = some c
  | [], s, as, k, c, h, hk => by simp only [argCs, Option.some.injEq] at h; rw [← h] at hk; simp at hk
  | r :: rs, s, as, k, c, h, hk => by
    simp only [argCs] at h
    cases e : argC s r with
    | none => rw [e] at h; cases h
    | some c0 =>
      rw [e] at h
      simp only at h
      cases e2 : argCs s rs with
      | none => rw [e2] at h; cases h
      | some cs =>
        rw [e2] at h
        simp only [Option.some.injEq] at h
        rw [← h] at hk
        cases k with
        | zero => simp only [List.getElem?_cons_zero, Option.some.injEq] at hk; subst hk; exact ⟨r, rfl, e⟩
        | succ k => obtain ⟨q, e3, e4⟩ := argCs_get (k := k) (c := c) e2 (by simpa using hk); exact ⟨q, by simpa using e3, e4⟩
theorem dist_bs : ∀ {rs : List Rv} {p q i : Nat}, dist rs = true → rs[p]? = some (.bs i) → rs[q]? = some (.bs i) → p = q
  | [], p, q, i, h, hp, hq => by simp at hp
  | r :: rs, p, q, i, h, hp, hq => by
    have ht : dist rs = true := by
      cases r <;> simp only [dist, Bool.and_eq_true] at h <;> first | exact h.2 | exact h
    have no : ∀ k : Nat, rs[k]? = some (.bs i) → r = .bs i → False := fun k e1 e2 => by
      subst e2
      simp only [dist, Bool.and_eq_true, List.all_eq_true] at h
      have := h.1 _ (List.mem_of_getElem? e1)
      simp at this
    cases p with
    | zero =>
      cases q with
      | zero => rfl
      | succ q => simp at hp hq; exact (no q hq hp).elim
    | succ p =>
      cases q with
      | zero => simp at hp hq; exact (no p hp hq).elim
      | succ q => simp at hp hq; rw [dist_bs ht hp hq]
theorem dist_bp : ∀ {rs : List Rv} {p q i : Nat}, dist rs = true → rs[p]? = some (.bp i) → rs[q]? = some (.bp i) → p = q
  | [], p, q, i, h, hp, hq => by simp at hp
  | r :: rs, p, q, i, h, hp, hq => by
    have ht : dist rs = true := by
      cases r <;> simp only [dist, Bool.and_eq_true] at h <;> first | exact h.2 | exact h
    have no : ∀ k : Nat, rs[k]? = some (.bp i) → r = .bp i → False := fun k e1 e2 => by
      subst e2
      simp only [dist, Bool.and_eq_true, List.all_eq_true] at h
      have := h.1 _ (List.mem_of_getElem? e1)
      simp at this
    cases p with
    | zero =>
      cases q with
      | zero => rfl
      | succ q => simp at hp hq; exact (no q hq hp).elim
    | succ p =>
      cases q with
      | zero => simp at hp hq; exact (no p hp hq).elim
      | succ q => simp at hp hq; rw [dist_bp ht hp hq]
/-- data or an object, as a cell -/
def Shw (c : Cell) : Prop := ∃ d, c = .ow d ∨ c = .sh d
structure PutOk (rs : List Rv) (as pr : List Cell) (s s' : S) : Prop where
  l1 : s'.sl.length = s.sl.length
  l2 : s'.pr.length = s.pr.length
  sl : ∀ (i : Nat) (c : Cell), s'.sl[i]? = some c → (∃ (k : Nat) (d : D), rs[k]? = some (.bs i) ∧ as[k]? = some (.ow d) ∧ pr[k]? = some c ∧ Shw c) ∨ (s.sl[i]? = some c ∧ ∀ (k : Nat) (d : D), rs[k]? = some (.bs i) → as[k]? ≠ some (.ow d))
  pr : ∀ (i : Nat) (c : Cell), s'.pr[i]? = some c → (∃ (k : Nat) (d : D), rs[k]? = some (.bp i) ∧ as[k]? = some (.ow d) ∧ pr[k]? = some c ∧ Shw c) ∨ (s.pr[i]? = some c ∧ ∀ (k : Nat) (d : D), rs[k]? = some (.bp i) → as[k]? ≠ some (.ow d))
theorem PutOk.skip {r : Rv} {a p : Cell} {rs : List Rv} {as pr : List Cell} {s s' : S} (h : PutOk rs as pr s s') (hb : ∀ i d, r = .bs i → a ≠ .ow d) (hp : ∀ i d, r = .bp i → a ≠ .ow d) : PutOk (r :: rs) (a :: as) (p :: pr) s s' := by
  refine ⟨h.l1, h.l2, fun i c e => ?_, fun i c e => ?_⟩
  · rcases h.sl i c e with ⟨k, d, e1, e2, e3, e4⟩ | ⟨e1, e2⟩
    · exact .inl ⟨k + 1, d, by simpa using e1, by simpa using e2, by simpa using e3, e4⟩
    · refine .inr ⟨e1, fun k d e3 e4 => ?_⟩
      cases k with
      | zero => simp at e3 e4; exact hb i d e3 e4
      | succ k => exact e2 k d (by simpa using e3) (by simpa using e4)
  · rcases h.pr i c e with ⟨k, d, e1, e2, e3, e4⟩ | ⟨e1, e2⟩
    · exact .inl ⟨k + 1, d, by simpa using e1, by simpa using e2, by simpa using e3, e4⟩
    · refine .inr ⟨e1, fun k d e3 e4 => ?_⟩
      cases k with
      | zero => simp at e3 e4; exact hp i d e3 e4
      | succ k => exact e2 k d (by simpa using e3) (by simpa using e4)
theorem PutOk.setS {j : Nat} {d0 : D} {p : Cell} {rs : List Rv} {as pr : List Cell} {s s' : S} (h : PutOk rs as pr { s with sl := s.sl.set j p } s') (hp : Shw p) : PutOk (.bs j :: rs) (.ow d0 :: as) (p :: pr) s s' := by
  refine ⟨by rw [h.l1]; simp only [List.length_set], h.l2, fun i c e => ?_, fun i c e => ?_⟩
  · rcases h.sl i c e with ⟨k, d, e1, e2, e3, e4⟩ | ⟨e1, e2⟩
    · exact .inl ⟨k + 1, d, by simpa using e1, by simpa using e2, by simpa using e3, e4⟩
    · rcases getElem?_set_of e1 with ⟨z1, z2⟩ | ⟨z1, z2⟩
      · subst z1 z2; exact .inl ⟨0, d0, rfl, rfl, rfl, hp⟩
      · refine .inr ⟨z2, fun k d e3 e4 => ?_⟩
        cases k with
        | zero => simp at e3; exact z1 e3.symm
        | succ k => exact e2 k d (by simpa using e3) (by simpa using e4)
  · rcases h.pr i c e with ⟨k, d, e1, e2, e3, e4⟩ | ⟨e1, e2⟩
    · exact .inl ⟨k + 1, d, by simpa using e1, by simpa using e2, by simpa using e3, e4⟩
    · refine .inr ⟨e1, fun k d e3 e4 => ?_⟩
      cases k with
      | zero => simp at e3
      | succ k => exact e2 k d (by simpa using e3) (by simpa using e4)
theorem PutOk.setP {j : Nat} {d0 : D} {p : Cell} {rs : List Rv} {as pr : List Cell} {s s' : S} (h : PutOk rs as pr { s with pr := s.pr.set j p } s') (hp : Shw p) : PutOk (.bp j :: rs) (.ow d0 :: as) (p :: pr) s s' := by
  refine ⟨h.l1, by rw [h.l2]; simp only [List.length_set], fun i c e => ?_, fun i c e => ?_⟩
  · rcases h.sl i c e with ⟨k, d, e1, e2, e3, e4⟩ | ⟨e1, e2⟩
    · exact .inl ⟨k + 1, d, by simpa using e1, by simpa using e2, by simpa using e3, e4⟩
    · refine .inr ⟨e1, fun k d e3 e4 => ?_⟩
      cases k with
      | zero => simp at e3
      | succ k => exact e2 k d (by simpa using e3) (by simpa using e4)
  · rcases h.pr i c e with ⟨k, d, e1, e2, e3, e4⟩ | ⟨e1, e2⟩
    · exact .inl ⟨k + 1, d, by simpa using e1, by simpa using e2, by simpa using e3, e4⟩
    · rcases getElem?_set_of e1 with ⟨z1, z2⟩ | ⟨z1, z2⟩
      · subst z1 z2; exact .inl ⟨0, d0, rfl, rfl, rfl, hp⟩
      · refine .inr ⟨z2, fun k d e3 e4 => ?_⟩
        cases k with
        | zero => simp at e3; exact z1 e3.symm
        | succ k => exact e2 k d (by simpa using e3) (by simpa using e4)
theorem putB_ok : ∀ {rs : List Rv} {as pr : List Cell} {s s' : S}, putB rs as pr s = some s' → PutOk rs as pr s s' := by
  intro rs
  induction rs with
  | nil =>
    intro as pr s s' h
    simp only [putB, Option.some.injEq] at h
    subst h
    exact ⟨rfl, rfl, fun i c e => .inr ⟨e, fun k d z => by simp at z⟩, fun i c e => .inr ⟨e, fun k d z => by simp at z⟩⟩
  | cons r rs ih =>
    intro as pr s s' h
    cases as with
    | nil => cases r <;> simp [putB] at h
    | cons a as =>
      cases pr with
      | nil => cases r <;> cases a <;> simp [putB] at h
      | cons p pr =>
        cases r with
        | sh d => cases a <;> cases p <;> (simp only [putB] at h; exact (ih h).skip (fun i d z => by cases z) (fun i d z => by cases z))
        | fr d => cases a <;> cases p <;> (simp only [putB] at h; exact (ih h).skip (fun i d z => by cases z) (fun i d z => by cases z))
        | bs j =>
          cases a with
          | ow d0 =>
            cases p with
            | un => simp [putB] at h
            | al q => simp [putB] at h
            | ow d => simp only [putB] at h; exact (ih h).setS ⟨d, .inl rfl⟩
            | sh d => simp only [putB] at h; exact (ih h).setS ⟨d, .inr rfl⟩
          | un => cases p <;> (simp only [putB] at h; exact (ih h).skip (fun i d z y => by cases y) (fun i d z => by cases z))
          | sh d0 => cases p <;> (simp only [putB] at h; exact (ih h).skip (fun i d z y => by cases y) (fun i d z => by cases z))
          | al d0 => cases p <;> (simp only [putB] at h; exact (ih h).skip (fun i d z y => by cases y) (fun i d z => by cases z))
        | bp j =>
          cases a with
          | ow d0 =>
            cases p with
            | un => simp [putB] at h
            | al q => simp [putB] at h
            | ow d => simp only [putB] at h; exact (ih h).setP ⟨d, .inl rfl⟩
            | sh d => simp only [putB] at h; exact (ih h).setP ⟨d, .inr rfl⟩
          | un => cases p <;> (simp only [putB] at h; exact (ih h).skip (fun i d z => by cases z) (fun i d z y => by cases y))
          | sh d0 => cases p <;> (simp only [putB] at h; exact (ih h).skip (fun i d z => by cases z) (fun i d z y => by cases y))
          | al d0 => cases p <;> (simp only [putB] at h; exact (ih h).skip (fun i d z => by cases z) (fun i d z y => by cases y))

section
variable {K : PySem.W.Frag} {mg : Mg} {E : XK} {H0 Gb Hb G H G1 H1 G' H' : Hp} {Lb L L1 L' : Addr → Prop} {pv : List V} {σ σ' : List (Option V)} {s s1 s2 : S} {Q : VK}
/-- the objects that are handed in -/
def Lc (as : List Cell) (vs : List V) : Addr → Prop := fun a => ∃ (k : Nat) (d : D), as[k]? = some (.ow d) ∧ vs[k]? = some (.ref a)
theorem argC_ow {r : Rv} {d : D} (h : argC s r = some (.ow d)) : r = .fr d ∨ (∃ i, r = .bs i ∧ s.sl[i]? = some (.ow d)) ∨ ∃ p, r = .bp p ∧ s.pr[p]? = some (.ow d) := by
  cases r with
  | sh d' => simp [argC] at h
  | fr d' => simp [argC] at h; exact .inl (by rw [h])
  | bs i =>
    simp only [argC] at h
    cases q : s.sl[i]? with
    | none => rw [q] at h; cases h
    | some c => rw [q] at h; cases c <;> simp at h; subst h; exact .inr (.inl ⟨i, rfl, q⟩)
  | bp i =>
    simp only [argC] at h
    cases q : s.pr[i]? with
    | none => rw [q] at h; cases h
    | some c => rw [q] at h; cases c <;> simp at h; subst h; exact .inr (.inr ⟨i, rfl, q⟩)
structure ArgIn (K : PySem.W.Frag) (mg : Mg) (H0 Hb G H : Hp) (L : Addr → Prop) (pv : List V) (σ : List (Option V)) (s : S) (rs : List Rv) (vs : List V) (as : List Cell) : Prop where
  R : SRep K mg H0 G H L pv σ s
  w : Wait K mg H0 Hb G H L pv σ rs vs
  h : argCs s rs = some as
  d : dist rs = true
variable {rs : List Rv} {vs : List V} {as pr : List Cell}
/-- where an object that is handed in comes from -/
theorem ArgIn.ow (I : ArgIn K mg H0 Hb G H L pv σ s rs vs as) {k : Nat} {d : D} (hk : as[k]? = some (.ow d)) : ∃ a, vs[k]? = some (.ref a) ∧ Own K mg G H d a ∧
    ((rs[k]? = some (.fr d) ∧ ¬ L a ∧ Hb a = none) ∨ (∃ i, rs[k]? = some (.bs i) ∧ s.sl[i]? = some (.ow d) ∧ σ[i]? = some (some (.ref a)) ∧ L a ∧ H0 a = none) ∨ (∃ p, rs[k]? = some (.bp p) ∧ s.pr[p]? = some (.ow d) ∧ pv[p]? = some (.ref a) ∧ L a ∧ H0 a ≠ none)) := by
  obtain ⟨r, e1, e2⟩ := argCs_get I.h hk
  obtain ⟨v, e3, rr, nn⟩ := I.w.get e1
  rcases argC_ow e2 with rfl | ⟨i, rfl, q⟩ | ⟨p, rfl, q⟩
  · obtain ⟨a, rfl, o, nl, _⟩ := rr
    exact ⟨a, e3, o, .inl ⟨e1, nl, nn a rfl⟩⟩
  · obtain ⟨a, e4, o, l, z⟩ := I.R.cell i _ q
    have rr : σ[i]? = some (some v) := rr
    rw [rr] at e4
    cases e4
    exact ⟨a, e3, o, .inr (.inl ⟨i, e1, q, rr, l, z⟩)⟩
  · obtain ⟨a, e4, o, l, z⟩ := I.R.par p _ q
    have rr : pv[p]? = some v := rr
    rw [rr] at e4
    cases e4
    exact ⟨a, e3, o, .inr (.inr ⟨p, e1, q, rr, l, z⟩)⟩
theorem ArgIn.ok (I : ArgIn K mg H0 Hb G H L pv σ s rs vs as) : ArgOk K mg G H (Lc as vs) vs as := by
  refine ⟨by rw [argCs_len I.h, I.w.len], fun k c hk => ?_, fun p q d e v hp hq hvp hvq => ?_, fun a ⟨k, d, h1, h2⟩ => ?_⟩
  · cases c with
    | ow d =>
      obtain ⟨a, e1, o, _⟩ := I.ow hk
      exact ⟨a, e1, o, k, d, hk, e1⟩
    | sh d =>
      obtain ⟨r, e1, e2⟩ := argCs_get I.h hk
      obtain ⟨v, e3, rr, nn⟩ := I.w.get e1
      cases r with
      | sh d' => simp only [argC, Option.some.injEq, Cell.sh.injEq] at e2; subst e2; exact ⟨v, e3, rr⟩
      | fr d' => simp [argC] at e2
      | bs i =>
        simp only [argC] at e2
        cases q : s.sl[i]? with
        | none => rw [q] at e2; cases e2
        | some c =>
          rw [q] at e2
          have hc := I.R.cell i _ q
          cases c <;> simp at e2
          subst e2
          obtain ⟨u, e4, r4⟩ := hc
          have rr : σ[i]? = some (some v) := rr
          rw [rr] at e4
          cases e4
          exact ⟨v, e3, r4⟩
      | bp i =>
        simp only [argC] at e2
        cases q : s.pr[i]? with
        | none => rw [q] at e2; cases e2
        | some c =>
          rw [q] at e2
          have hc := I.R.par i _ q
          cases c <;> simp at e2
          subst e2
          obtain ⟨u, e4, r4⟩ := hc
          have rr : pv[i]? = some v := rr
          rw [rr] at e4
          cases e4
          exact ⟨v, e3, r4⟩
    | un => obtain ⟨r, e1, e2⟩ := argCs_get I.h hk; cases r <;> simp [argC] at e2 <;> (split at e2 <;> simp at e2)
    | al p => obtain ⟨r, e1, e2⟩ := argCs_get I.h hk; cases r <;> simp [argC] at e2 <;> (split at e2 <;> simp at e2)
  · obtain ⟨a, e1, o1, w1⟩ := I.ow hp
    obtain ⟨b, e2, o2, w2⟩ := I.ow hq
    rw [hvp] at e1
    rw [hvq] at e2
    cases e1
    cases e2
    rcases w1 with ⟨r1, nl, _⟩ | ⟨i, r1, c1, v1, l1, z1⟩ | ⟨i, r1, c1, v1, l1, z1⟩
    · rcases w2 with ⟨r2, _, _⟩ | ⟨j, r2, c2, v2, l2, z2⟩ | ⟨j, r2, c2, v2, l2, z2⟩
      · exact I.w.apart r1 r2 hvp hvq
      · exact absurd l2 nl
      · exact absurd l2 nl
    · rcases w2 with ⟨r2, nl, _⟩ | ⟨j, r2, c2, v2, l2, z2⟩ | ⟨j, r2, c2, v2, l2, z2⟩
      · exact absurd l1 nl
      · have := I.R.ap i j _ _ _ c1 c2 v1 v2
        subst this
        exact dist_bs I.d r1 r2
      · exact absurd z1 z2
    · rcases w2 with ⟨r2, nl, _⟩ | ⟨j, r2, c2, v2, l2, z2⟩ | ⟨j, r2, c2, v2, l2, z2⟩
      · exact absurd l1 nl
      · exact absurd z2 z1
      · have := I.R.app i j _ _ _ c1 c2 v1 v2
        subst this
        exact dist_bp I.d r1 r2
  · obtain ⟨b, e1, o, _⟩ := I.ow h1
    rw [h2] at e1
    cases e1
    exact o.there.1
theorem ArgIn.lc (I : ArgIn K mg H0 Hb G H L pv σ s rs vs as) {a : Addr} (l : Lc as vs a) : L a ∨ Hb a = none := by
  obtain ⟨k, d, h1, h2⟩ := l
  obtain ⟨b, e1, o, w⟩ := I.ow h1
  rw [h2] at e1
  cases e1
  rcases w with ⟨_, _, z⟩ | ⟨i, _, _, _, l, _⟩ | ⟨i, _, _, _, l, _⟩
  · exact .inr z
  · exact .inl l
  · exact .inl l
theorem ArgIn.ext (I : ArgIn K mg H0 H G1 H1 L1 pv σ s1 rs vs as) (e : Ext G H L G1 H1 L1) (c : Ext G1 H1 (Lc as vs) G' H' L') : Ext G H L G' H' L1 := by
  have up : ∀ a, Lc as vs a → L a ∨ H a = none := fun a l => (I.lc l).elim (e.live a) .inr
  have nn : ∀ a, H1 a = none → H a = none := fun a h => by
    cases q : H a with
    | none => rfl
    | some o => exact absurd h (e.there a (by rw [q]; simp))
  refine ⟨e.gg.trans c.gg, fun a o h nl => ?_, fun a h => ?_, fun a l => ?_, fun a h => c.there a (e.there a h)⟩
  · refine c.keep a o (e.keep a o h nl) fun l => ?_
    rcases up a l with z | z
    · exact nl z
    · rw [h] at z; cases z
  · rcases c.fresh a h with z | z | z
    · exact e.fresh a z
    · exact .inr (.inl (nn a z))
    · exact (up a z).elim (fun q => .inr (.inr q)) fun q => .inr (.inl q)
  · exact e.live a l
theorem ArgIn.back (I : ArgIn K mg H0 Hb G1 H1 L1 pv σ s1 rs vs as) (c : Ext G1 H1 (Lc as vs) G' H' L') (sm : Same G' H') (p : PrRep K mg G' H' vs pr) (hb : putB rs as pr s1 = some s2) :
    SRep K mg H0 G' H' L1 pv σ s2 := by
  have B := putB_ok hb
  have R := I.R
  refine ⟨sm, fun a h => c.there a (R.old a h), fun a l => c.there a (R.lv a l), by rw [B.l1]; exact R.len, by rw [B.l2]; exact R.plen, fun i cl hi => ?_, fun i cl hi => ?_, fun i j d e v hi hj hvi hvj => ?_, fun i j d e v hi hj hvi hvj => ?_⟩
  · rcases B.sl i cl hi with ⟨k, d, e1, e2, e3, d', e4⟩ | ⟨e1, e2⟩
    · obtain ⟨a, f1, o, w⟩ := I.ow e2
      rcases w with ⟨r2, _⟩ | ⟨j, r2, c2, v2, l2, z2⟩ | ⟨j, r2, _⟩
      · rw [e1] at r2; cases r2
      · rw [e1] at r2
        cases r2
        have q := p k _ e3
        rcases e4 with rfl | rfl
        · obtain ⟨b, g1, o'⟩ := q
          rw [f1] at g1
          cases g1
          exact ⟨a, v2, o', l2, z2⟩
        · obtain ⟨b, g1, o'⟩ := q
          rw [f1] at g1
          cases g1
          exact ⟨_, v2, o'⟩
      · rw [e1] at r2; cases r2
    · have q := R.cell i cl e1
      cases cl with
      | un => trivial
      | al p => exact q
      | sh d => obtain ⟨v, g1, r⟩ := q; exact ⟨v, g1, r.mono c.gg⟩
      | ow d =>
        obtain ⟨a, g1, o, l, z⟩ := q
        refine ⟨a, g1, o.ext (fun lc => ?_) c, l, z⟩
        obtain ⟨k, d2, h1, h2⟩ := lc
        obtain ⟨b, f1, o2, w⟩ := I.ow h1
        rw [h2] at f1
        cases f1
        rcases w with ⟨_, nl, _⟩ | ⟨j, r2, c2, v2, l2, z2⟩ | ⟨j, _, _, _, _, z2⟩
        · exact nl l
        · have := R.ap i j _ _ _ e1 c2 g1 v2
          subst this
          exact e2 k d2 r2 h1
        · exact z2 z
  · rcases B.pr i cl hi with ⟨k, d, e1, e2, e3, d', e4⟩ | ⟨e1, e2⟩
    · obtain ⟨a, f1, o, w⟩ := I.ow e2
      rcases w with ⟨r2, _⟩ | ⟨j, r2, _⟩ | ⟨j, r2, c2, v2, l2, z2⟩
      · rw [e1] at r2; cases r2
      · rw [e1] at r2; cases r2
      · rw [e1] at r2
        cases r2
        have q := p k _ e3
        rcases e4 with rfl | rfl
        · obtain ⟨b, g1, o'⟩ := q
          rw [f1] at g1
          cases g1
          exact ⟨a, v2, o', l2, z2⟩
        · obtain ⟨b, g1, o'⟩ := q
          rw [f1] at g1
          cases g1
          exact ⟨_, v2, o'⟩
    · have q := R.par i cl e1
      cases cl with
      | un => trivial
      | al p => trivial
      | sh d => obtain ⟨v, g1, r⟩ := q; exact ⟨v, g1, r.mono c.gg⟩
      | ow d =>
        obtain ⟨a, g1, o, l, z⟩ := q
        refine ⟨a, g1, o.ext (fun lc => ?_) c, l, z⟩
        obtain ⟨k, d2, h1, h2⟩ := lc
        obtain ⟨b, f1, o2, w⟩ := I.ow h1
        rw [h2] at f1
        cases f1
        rcases w with ⟨_, nl, _⟩ | ⟨j, _, _, _, _, z2⟩ | ⟨j, r2, c2, v2, l2, z2⟩
        · exact nl l
        · exact z z2
        · have := R.app i j _ _ _ e1 c2 g1 v2
          subst this
          exact e2 k d2 r2 h1
  · have was : ∀ {i : Nat} {d : D}, s2.sl[i]? = some (.ow d) → ∃ d', s1.sl[i]? = some (.ow d') := fun {i d} hi => by
      rcases B.sl i _ hi with ⟨k, d, e1, e2, _⟩ | ⟨e1, _⟩
      · obtain ⟨a, f1, o, w⟩ := I.ow e2
        rcases w with ⟨r2, _⟩ | ⟨j, r2, c2, _⟩ | ⟨j, r2, _⟩
        · rw [e1] at r2; cases r2
        · rw [e1] at r2; cases r2; exact ⟨_, c2⟩
        · rw [e1] at r2; cases r2
      · exact ⟨_, e1⟩
    obtain ⟨d1, w1⟩ := was hi
    obtain ⟨d2, w2⟩ := was hj
    exact R.ap i j d1 d2 v w1 w2 hvi hvj
  · have was : ∀ {i : Nat} {d : D}, s2.pr[i]? = some (.ow d) → ∃ d', s1.pr[i]? = some (.ow d') := fun {i d} hi => by
      rcases B.pr i _ hi with ⟨k, d, e1, e2, _⟩ | ⟨e1, _⟩
      · obtain ⟨a, f1, o, w⟩ := I.ow e2
        rcases w with ⟨r2, _⟩ | ⟨j, r2, _⟩ | ⟨j, r2, c2, _⟩
        · rw [e1] at r2; cases r2
        · rw [e1] at r2; cases r2
        · rw [e1] at r2; cases r2; exact ⟨_, c2⟩
      · exact ⟨_, e1⟩
    obtain ⟨d1, w1⟩ := was hi
    obtain ⟨d2, w2⟩ := was hj
    exact R.app i j d1 d2 v w1 w2 hvi hvj
theorem call_in {F : Fn} {H0 G H G1 H1 : Hp} {L L1 : Addr → Prop} {pv : List V} {σ : List (Option V)} {s1 : S} {Q : VK} {rs : List Rv} {vs : List V} (R1 : SRep K mg H0 G1 H1 L1 pv σ s1) (e1 : Ext G H L G1 H1 L1) (w : Wait K mg H0 H G1 H1 L1 pv σ rs vs) (h1 : Go K mg E H0 G H L pv σ Q (mCallR F rs s1)) : spF K mg F vs H1 Q E := by
  unfold mCallR at h1
  cases q : argCs s1 rs with
  | none => rw [q] at h1; exact h1.elim
  | some as =>
    rw [q] at h1
    simp only at h1
    by_cases hd : dist rs = true
    · rw [if_pos hd] at h1
      have I : ArgIn K mg H0 H G1 H1 L1 pv σ s1 rs vs as := ⟨R1, w, q, hd⟩
      have nn : ∀ a, H1 a = none → H a = none := fun a h => by
        cases q : H a with
        | none => rfl
        | some o => exact absurd h (e1.there a (by rw [q]; simp))
      refine ⟨G1, Lc as vs, as, R1.same, I.ok, ?_⟩
      cases f : F as with
      | no => rw [f] at h1; exact h1
      | ex c x pr =>
        rw [f] at h1
        simp only at h1
        cases b : putB rs as pr s1 with
        | none => rw [b] at h1; exact h1.elim
        | some s2 =>
          rw [b] at h1
          intro G' H' L' C d us sm c' p hc hx hf
          refine h1 G' H' L1 C d us sm (I.ext e1 c') ?_ hc hx hf
          -- the parameters
          intro i cl hi
          have hi : s2.pr[i]? = some cl := hi
          rcases (putB_ok b).pr i cl hi with ⟨k, d, z1, z2, z3, d', z4⟩ | ⟨z1, z2⟩
          · obtain ⟨a, f1, o, w⟩ := I.ow z2
            rcases w with ⟨r2, _⟩ | ⟨j, r2, _⟩ | ⟨j, r2, c2, v2, l2, y2⟩
            · rw [z1] at r2; cases r2
            · rw [z1] at r2; cases r2
            · rw [z1] at r2
              cases r2
              have q := p k _ z3
              rcases z4 with rfl | rfl
              · obtain ⟨b, g1, o'⟩ := q
                rw [f1] at g1
                cases g1
                exact ⟨a, v2, o'⟩
              · obtain ⟨b, g1, o'⟩ := q
                rw [f1] at g1
                cases g1
                exact ⟨_, v2, o'⟩
          · have q := R1.par i cl z1
            cases cl with
            | un => trivial
            | al p => trivial
            | sh d => obtain ⟨v, g1, r⟩ := q; exact ⟨v, g1, r.mono c'.gg⟩
            | ow d =>
              obtain ⟨a, g1, o, l, z⟩ := q
              refine ⟨a, g1, o.ext (fun lc => ?_) c'⟩
              obtain ⟨k, d2, y1, y2⟩ := lc
              obtain ⟨b, f1, o2, w⟩ := I.ow y1
              rw [y2] at f1
              cases f1
              rcases w with ⟨_, nl, _⟩ | ⟨j, _, _, _, _, x2⟩ | ⟨j, r2, c2, v2, l2, x2⟩
              · exact nl l
              · exact z x2
              · have := R1.app i j _ _ _ z1 c2 g1 v2
                subst this
                exact z2 k d2 r2 y1
      | ret rv pr =>
        rw [f] at h1
        cases rv with
        | bs i => exact h1.elim
        | bp i => exact h1.elim
        | sh d =>
          simp only at h1
          cases b : putB rs as pr s1 with
          | none => rw [b] at h1; exact h1.elim
          | some s2 =>
            rw [b] at h1
            intro G' H' L' v sm c' lv p r
            exact h1 G' H' _ v (I.back c' sm p b) (I.ext e1 c') r trivial
        | fr d =>
          simp only at h1
          cases b : putB rs as pr s1 with
          | none => rw [b] at h1; exact h1.elim
          | some s2 =>
            rw [b] at h1
            intro G' H' L' v sm c' lv p r
            obtain ⟨a, rfl, o, z⟩ := r
            have zH : H a = none := nn a z
            refine h1 G' H' L1 _ (I.back c' sm p b) (I.ext e1 c') ⟨a, rfl, o, fun l => R1.lv a l z, ?_⟩ fun b hb => ?_
            · cases q : H0 a with
              | none => rfl
              | some o => exact absurd z (R1.old a (by rw [q]; simp))
            · cases hb; exact zH
    · rw [if_neg hd] at h1; exact h1.elim
theorem den_call {F : Fn} {fs : List Mm} (σ : L2.St) (H : Hp) (Q : VK) (h : denE K mg E (mCall F fs) σ H Q) : tCall (spF K mg F) [] E (denA K mg E fs) σ H Q := by
  obtain ⟨H0, G, L, pv, s, R, h⟩ := h
  refine denA_mono (fun vs H1 ⟨G1, L1, rs, s1, R1, e1, w, hn, h1⟩ => ?_) (go_argsN R h)
  rw [List.append_nil]
  exact call_in R1 e1 w h1
end
end Mx

set_option Elab.async false
set_option linter.all false
set_option maxRecDepth 100000
namespace Mx
open PySem PySem.Spec PyProof.Rows L2

/-! ### calls of defs -/
section
variable {X : Cx} {E : XK} {x : Str} {ps : List Str} {k : Nat} {F : Fn} {e : Expr} {es : List Expr} {fs : List Mm} {p pos : Pos}
theorem me_call (h : Kn X.prog X.w X.K X.mg X.base x ps k F) (gd : X.A.guards = some []) (hr : Room k X.A) (px : Passes (L2.CX X.prog X.w) X E) (ha : MA X E (e :: es) fs) (hg : Gl X x := by rfl) (hdb : (x == ("__debug__" : Str)) = false := by decide)
    (he : starEach (e :: es) X.env = (false, eval e X.env) :: starEach es X.env := by rfl) (hpl : (backTo pos (starEach es X.env)).any (·.1) = false := by rfl) : ME X E (.Call (.Name x p) (e :: es) [] pos) (mCall F fs) := by
  obtain ⟨f, fd, hm, hk, hb, hF⟩ := h.ex
  exact PE.imp (pe_callG hF gd hr hg hm hk hb px ha hdb he hpl) den_call
theorem den_call0 {K : PySem.W.Frag} {mg : Mg} (σ : L2.St) (H : Hp) (Q : VK) (h : denE K mg E (mCall F []) σ H Q) : tCall (spF K mg F) [] E tNil σ H Q := by
  have q := den_call σ H Q h
  have q : denA K mg E [] σ H fun vs H1 => spF K mg F (vs ++ []) H1 Q E := q
  exact den_nil σ H _ q
theorem me_call0 (h : Kn X.prog X.w X.K X.mg X.base x ps k F) (gd : X.A.guards = some []) (hr : Room k X.A) (px : Passes (L2.CX X.prog X.w) X E) (hg : Gl X x := by rfl) (hdb : (x == ("__debug__" : Str)) = false := by decide) : ME X E (.Call (.Name x p) [] [] pos) (mCall F []) := by
  obtain ⟨f, fd, hm, hk, hb, hF⟩ := h.ex
  exact PE.imp (pe_callG0 hF gd hr hg hm hk hb px hdb) den_call0
end

/-! ### targets that take data -/
abbrev Tm := D → S → Option S
def tNm (i : Nat) : Tm := fun d s => some { s with sl := s.sl.set i (.sh d) }
def tAll : List Tm → List D → S → Option S
  | [], [], s => some s
  | t :: ts, d :: ds, s => match t d s with
    | some s1 => tAll ts ds s1
    | none => none
  | _, _, _ => none
def tTp (ts : List Tm) : Tm := fun d s => match d with
  | .tup ds => tAll ts ds s
  | .lst ds => tAll ts ds s
  | _ => none
def Offs (is : List Nat) (σ σ' : List (Option V)) : Prop := σ'.length = σ.length ∧ ∀ j : Nat, j ∉ is → σ'[j]? = σ[j]?
theorem Offs.refl {is : List Nat} {σ : List (Option V)} : Offs is σ σ := ⟨rfl, fun _ _ => rfl⟩
theorem Offs.trans {is js : List Nat} {σ σ1 σ2 : List (Option V)} (a : Offs is σ σ1) (b : Offs js σ1 σ2) : Offs (is ++ js) σ σ2 :=
  ⟨b.1.trans a.1, fun j h => (b.2 j fun z => h (List.mem_append_right _ z)).trans (a.2 j fun z => h (List.mem_append_left _ z))⟩
def denG (K : PySem.W.Frag) (mg : Mg) (is : List Nat) (tm : Tm) : TG := fun v σ H Q => ∃ H0 G L pv s d, SRep K mg H0 G H L pv σ s ∧ Rep K mg G d v ∧ ∃ s', tm d s = some s' ∧ ∀ σ', SRep K mg H0 G H L pv σ' s' → Offs is σ σ' → Q σ' H
def denGs (K : PySem.W.Frag) (mg : Mg) (is : List Nat) (ts : List Tm) : TGs := fun vs σ H Q => ∃ H0 G L pv s ds, SRep K mg H0 G H L pv σ s ∧ Reps K mg G ds vs ∧ ∃ s', tAll ts ds s = some s' ∧ ∀ σ', SRep K mg H0 G H L pv σ' s' → Offs is σ σ' → Q σ' H
theorem PG.imp {X : Cx} {e : Expr} {t t' : TG} (h : PG X e t) (i : ∀ v σ H Q, t' v σ H Q → t v σ H Q) : PG X e t' := ⟨fun pins s σ H v u Q I r hw => h.run pins s σ H v u Q I r (i v σ H Q hw)⟩
theorem PGs.imp {X : Cx} {e : List Expr} {t t' : TGs} (h : PGs X e t) (i : ∀ v σ H Q, t' v σ H Q → t v σ H Q) : PGs X e t' := ⟨fun pins s σ H v u Q I r hw => h.run pins s σ H v u Q I r (i v σ H Q hw)⟩
theorem PG.or {X : Cx} {e : Expr} {t t' : TG} (h : PG X e t) (h' : PG X e t') : PG X e (fun v σ H Q => t v σ H Q ∨ t' v σ H Q) := ⟨fun pins s σ H v u Q I r hw => hw.elim (h.run pins s σ H v u Q I r) (h'.run pins s σ H v u Q I r)⟩
abbrev MG (X : Cx) (e : Expr) (is : List Nat) (t : Tm) : Prop := PG X e (denG X.K X.mg is t)
abbrev MGs (X : Cx) (e : List Expr) (is : List Nat) (t : List Tm) : Prop := PGs X e (denGs X.K X.mg is t)
section
variable {X : Cx} {pos : Pos}
theorem mg_name {i : Nat} {x : Str} (hN : X.N.Nodup) (hi : X.N[i]? = some x := by rfl) (hx : Loc X.env.scope x := by first | exact Or.inl rfl | exact Or.inr rfl) (hf : X.fn x = true ∨ X.env.scope.names.lookup x = some .local := by first | exact .inl rfl | exact .inr rfl | assumption) :
    MG X (.Name x pos) [i] (tNm i) := PG.imp (pg_name hN hi hx hf) fun v σ H Q h => by
  obtain ⟨H0, G, L, pv, s, d, R, r, s', e, h⟩ := h
  simp only [tNm, Option.some.injEq] at e
  subst e
  exact h _ (R.setCell ⟨v, rfl, r⟩ fun d z => by cases z) ⟨by simp, fun j hj => by rw [List.getElem?_set_ne]; simpa using fun z => hj (by simp [z])⟩
theorem mgs_nil : MGs X [] [] [] := PGs.imp pgs_nil fun vs σ H Q h => by
  obtain ⟨H0, G, L, pv, s, ds, R, r, s', e, h⟩ := h
  cases ds with
  | nil =>
    simp only [Reps] at r
    simp only [tAll, Option.some.injEq] at e
    subst e
    exact ⟨r, h σ R .refl⟩
  | cons d ds => simp [tAll] at e
theorem mgs_cons {e : Expr} {es : List Expr} {is js : List Nat} {t : Tm} {ts : List Tm} (h1 : MG X e is t) (h2 : MGs X es js ts) (hs : (assignEach (e :: es) X.env).map (·.2) = assign e X.env :: (assignEach es X.env).map (·.2) := by rfl) :
    MGs X (e :: es) (is ++ js) (t :: ts) := PGs.imp (pgs_cons h1 h2 hs) fun vs σ H Q h => by
  obtain ⟨H0, G, L, pv, s, ds, R, r, s', e, h⟩ := h
  cases ds with
  | nil => simp [tAll] at e
  | cons d ds =>
    simp only [Reps] at r
    obtain ⟨v, rest, rfl, r1, r2⟩ := r
    simp only [tAll] at e
    cases q : t d s with
    | none => rw [q] at e; cases e
    | some s1 =>
      rw [q] at e
      refine ⟨v, rest, rfl, H0, G, L, pv, s, d, R, r1, s1, q, fun σ1 R1 o1 => ?_⟩
      exact ⟨H0, G, L, pv, s1, ds, R1, r2, s', e, fun σ2 R2 o2 => h σ2 R2 (o1.trans o2)⟩
theorem tAll_len : ∀ {ts : List Tm} {ds : List D} {s s' : S}, tAll ts ds s = some s' → ts.length = ds.length
  | [], [], s, s', h => rfl
  | t :: ts, d :: ds, s, s', h => by
    simp only [tAll] at h
    cases q : t d s with
    | none => rw [q] at h; cases h
    | some s1 => rw [q] at h; rw [List.length_cons, List.length_cons, tAll_len h]
  | [], d :: ds, s, s', h => by simp [tAll] at h
  | t :: ts, [], s, s', h => by simp [tAll] at h
theorem mg_tup {es : List Expr} {k : Nat} {is : List Nat} {ts : List Tm} (hc : X.calm = true) (h : MGs X es is ts) (hn : (assignEach es X.env).length = ts.length := by rfl) (hst : (assignEach es X.env).findIdx? (·.1) = none := by rfl) :
    MG X (.Tuple es k pos) is (tTp ts) := by
  refine PG.imp (PG.or (pg_tup hc h hn hst) (pg_lst hc h hn hst)) fun v σ H Q h => ?_
  obtain ⟨H0, G, L, pv, s, d, R, r, s', e, h⟩ := h
  cases d with
  | tup ds =>
    simp only [Rep] at r
    obtain ⟨a, vs, rfl, q, rs⟩ := r
    have e : tAll ts ds s = some s' := e
    exact .inl ⟨a, vs, rfl, Same.tseq R.same q, by rw [← rs.len, ← tAll_len e], H0, G, L, pv, s, ds, R, rs, s', e, h⟩
  | lst ds =>
    simp only [Rep] at r
    obtain ⟨a, vs, rfl, q, rs⟩ := r
    have e : tAll ts ds s = some s' := e
    exact .inr ⟨a, vs, rfl, .inl (.inl (R.same _ _ q)), by rw [← rs.len, ← tAll_len e], H0, G, L, pv, s, ds, R, rs, s', e, h⟩
  | _ => simp [tTp] at e
end

/-! ### a, b, .. = value -/
def mAsg (f : Mm) (tm : Tm) : Ms := fun s => (f s).thn fun r s1 => match esc s1 r with
  | some (d, s2) => match tm d s2 with
    | some s3 => .nx s3
    | none => .no
  | none => .no
section
variable {X : Cx} {E : XK} {e tg : Expr} {f : Mm} {is : List Nat} {tm : Tm} {pos : Pos}
theorem ms_asg (he : ME X E e f) (hg : MG X tg is tm) (hs : swapsWithSole [tg] e pos.line X.env = pure false := by rfl) (hw : swappedStores [tg] e X.env = pure none := by rfl)
    (h1 : (assignEach [tg] X.env).map (·.2) = [assign tg X.env] := by rfl) : MS X E (.Assign [tg] e pos) (mAsg f tm) := PS.imp (ps_asg he hg hs hw h1) fun D σ H h => by
  obtain ⟨H0, G, L, pv, s, R, h⟩ := h
  refine den_mono _ _ _ _ (fun x H1 ⟨G1, L1, r1, s1, A1, h1⟩ => ?_) (go_thn0 R h)
  cases q : esc s1 r1 with
  | none => rw [q] at h1; exact h1.elim
  | some p =>
    obtain ⟨d, s2⟩ := p
    rw [q] at h1
    simp only at h1
    obtain ⟨G2, R2, e2, r2, _⟩ := esc_ok A1.R A1.e A1.r A1.n q
    cases q3 : tm d s2 with
    | none => rw [q3] at h1; exact h1.elim
    | some s3 =>
      rw [q3] at h1
      exact ⟨H0, G2, L1, pv, s2, d, R2, r2, s3, q3, fun σ' R3 _ => h1 G2 H1 L1 σ' R3 e2⟩
end

/-! ### for -/
def itemsOf : D → Option (List D)
  | .lst ds => some ds
  | .tup ds => some ds
  | .rol ds => some ds
  | _ => none
def forL (tm : Tm) (body : Ms) : List D → S → SR
  | [], s => .nx s
  | d :: ds, s => match tm d s with
    | none => .no
    | some s1 => match body s1 with
      | .nx s2 => forL tm body ds s2
      | .ct s2 => forL tm body ds s2
      | .bk s2 => .nx s2
      | .rt r s2 => .rt r s2
      | .ex c x s2 => .ex c x s2
      | .no => .no
def mFor (f : Mm) (tm : Tm) (body : Ms) : Ms := fun s => (f s).thn fun r s1 => match esc s1 r with
  | some (d, s2) => match itemsOf d with
    | some ds => forL tm body ds s2
    | none => .no
  | none => .no
/-- lo, lo + 1, .., n of them -/
def upFrom (lo : Int) : Nat → List D
  | 0 => []
  | n + 1 => .int lo :: upFrom (lo + 1) n
def rng1 : List D → Option (Int × Nat)
  | [.int j] => if -(2 ^ 62) ≤ j ∧ j < 2 ^ 62 then some (0, j.toNat) else none
  | _ => none
def rng2 : List D → Option (Int × Nat)
  | [.int i, .int j] => if -(2 ^ 62) ≤ i ∧ i < 2 ^ 62 ∧ -(2 ^ 62) ≤ j ∧ j < 2 ^ 62 then some (i, (j - i).toNat) else none
  | _ => none
def rds (s : S) : List Rv → Option (List D)
  | [] => some []
  | r :: rs => match rd s r with
    | some d => match rds s rs with
      | some ds => some (d :: ds)
      | none => none
    | none => none
def mForR (rg : List D → Option (Int × Nat)) (fs : List Mm) (tm : Tm) (body : Ms) : Ms := fun s => (mArgs fs s).thn fun rs s1 => match rds s1 rs with
  | some ds => match rg ds with
    | some (lo, n) => forL tm body (upFrom lo n) s1
    | none => .no
  | none => .no
theorem upFrom_len : ∀ (lo : Int) (n : Nat), (upFrom lo n).length = n
  | _, 0 => rfl
  | lo, n + 1 => by rw [upFrom, List.length_cons, upFrom_len]
theorem upFrom_get : ∀ (lo : Int) (n i : Nat), i < n → (upFrom lo n)[i]? = some (.int (lo + i))
  | lo, n + 1, 0, _ => by simp [upFrom]
  | lo, n + 1, i + 1, h => by
    rw [upFrom, List.getElem?_cons_succ, upFrom_get (lo + 1) n i (by omega)]
    congr 2
    omega
section
variable {K : PySem.W.Frag} {mg : Mg} {E : XK} {H0 Gb Hb G H G1 H1 G' H' : Hp} {Lb L L1 L' : Addr → Prop} {pv : List V} {σ σ' : List (Option V)} {s s1 s2 : S} {Q : VK}
theorem drop_of {α : Type} {l : List α} {i : Nat} {x : α} (h : l[i]? = some x) : l.drop i = x :: l.drop (i + 1) := by
  obtain ⟨hi, e⟩ := List.getElem?_eq_some_iff.mp h
  rw [List.drop_eq_getElem_cons hi, e]
/-- one turn of a for -/
theorem for_turn {tm : Tm} {is : List Nat} {body : Ms} {D0 : Ends} {d : D} {x : V} {ds : List D} {W : List (Option V) → Hp → Prop} (R : SRep K mg H0 G H L pv σ s) (r : Rep K mg G d x) (h : GoS K mg E H0 G H L pv D0 (forL tm body (d :: ds) s))
    (hW : ∀ G' H' L' σ' s', SRep K mg H0 G' H' L' pv σ' s' → Ext G H L G' H' L' → GoS K mg E H0 G' H' L' pv D0 (forL tm body ds s') → W σ' H') :
    denG K mg is tm x σ H fun σ2 H2 => denS K mg E body { D0 with nx := W, ct := W, bk := D0.nx } σ2 H2 := by
  unfold forL at h
  cases q : tm d s with
  | none => rw [q] at h; exact h.elim
  | some s1 =>
    rw [q] at h
    simp only at h
    refine ⟨H0, G, L, pv, s, d, R, r, s1, q, fun σ1 R1 _ => ⟨H0, G, L, pv, s1, R1, ?_⟩⟩
    cases q2 : body s1 with
    | nx s2 => rw [q2] at h; exact fun G' H' L' σ' R' e => hW G' H' L' σ' s2 R' e (GoS.base h e)
    | ct s2 => rw [q2] at h; exact fun G' H' L' σ' R' e => hW G' H' L' σ' s2 R' e (GoS.base h e)
    | bk s2 => rw [q2] at h; exact h
    | rt rv s2 => rw [q2] at h; exact h
    | ex c y s2 => rw [q2] at h; exact h
    | no => rw [q2] at h; exact h
end
theorem PI.imp {X : Cx} {tg e : Expr} {t t' : TI} (h : PI X tg e t) (i : ∀ σ H Q, t' σ H Q → t σ H Q) : PI X tg e t' := ⟨fun pins s σ H R I hw => h.run pins s σ H R I (i σ H R hw)⟩
theorem PI.orD {X : Cx} {tg e : Expr} {t t' : TI} (h : PI X tg e t) (h' : PI X tg e t') : PI X tg e (fun σ H Q => t σ H Q ∨ t' σ H Q) := ⟨fun pins s σ H R I hw => hw.elim (h.run pins s σ H R I) (h'.run pins s σ H R I)⟩
section
variable {X : Cx} {E : XK} {e tg : Expr} {f : Mm} {is : List Nat} {tm : Tm} {body : List Stmt} {b : Ms} {pos : Pos}
theorem res_of {K : PySem.W.Frag} {mg : Mg} {H0 Hb G H : Hp} {L : Addr → Prop} {pv : List V} {σ : List (Option V)} {s : S} (R : SRep K mg H0 G H L pv σ s) : ∀ {rs : List Rv} {vs : List V} {ds : List D}, Wait K mg H0 Hb G H L pv σ rs vs → rds s rs = some ds → ds.length = vs.length ∧ ∀ (i : Nat) (d : D) (v : V), ds[i]? = some d → vs[i]? = some v → Rdb K mg G H d v
  | [], vs, ds, w, h => by cases w; simp only [rds, Option.some.injEq] at h; subst h; exact ⟨rfl, fun i d v e => by simp at e⟩
  | r :: rs, vs, ds, w, h => by
    cases w with
    | @cons _ v _ vs' hr n ap t =>
    simp only [rds] at h
    cases q : rd s r with
    | none => rw [q] at h; cases h
    | some d =>
      rw [q] at h
      simp only at h
      cases q2 : rds s rs with
      | none => rw [q2] at h; cases h
      | some ds' =>
        rw [q2] at h
        simp only [Option.some.injEq] at h
        subst h
        obtain ⟨h1, h2⟩ := res_of R t q2
        refine ⟨by rw [List.length_cons, List.length_cons, h1], fun i d' v' e1 e2 => ?_⟩
        cases i with
        | zero => simp at e1 e2; subst e1 e2; exact rd_ok R hr q
        | succ i => exact h2 i d' v' (by simpa using e1) (by simpa using e2)
theorem ms_for (hp : PassesOwn (model X.prog X.w) X.A X.env X.xe) (hc : X.calm = true) (he : ME X E e f) (hg : MG X tg is tm) (hb : MSs X E body b) (hs : ∀ x, foldedSetIterable e X.env x = pure x := by intro _; rfl) :
    MS X E (.For tg e body [] pos) (mFor f tm b) := by
  refine PS.imp (ps_for hp hc (PI.orD (pi_list he) (pi_tup he)) hg hb hs) fun D0 σ H h => ?_
  obtain ⟨H0, G, L, pv, s, R, h⟩ := h
  have key := go_thn0 R h
  -- which kind: by what the expression comes to
  cases q0 : f s with
  | no => unfold mFor at h; rw [q0] at h; exact h.elim
  | ex c y s1 =>
    refine .inl ⟨H0, G, L, pv, s, R, ?_⟩
    unfold mFor at h
    rw [q0] at h ⊢
    exact h
  | ok r1 s1 =>
    unfold mFor at h
    rw [q0] at h
    have h : GoS X.K X.mg E H0 G H L pv D0 (match esc s1 r1 with | some (d, s2) => (match itemsOf d with | some ds => forL tm b ds s2 | none => .no) | none => .no) := h
    cases q : esc s1 r1 with
    | none => rw [q] at h; exact h.elim
    | some p =>
      obtain ⟨d, s2⟩ := p
      rw [q] at h
      simp only at h
      have run : ∀ ds, itemsOf d = some ds → ∀ (x : V) (G1 H1 : Hp) (L1 : Addr → Prop), SRep X.K X.mg H0 G1 H1 L1 pv σ s1 → Ext G H L G1 H1 L1 → RvRep X.K X.mg H0 G1 H1 L1 pv σ r1 x → NewRv H r1 x →
          ∃ G2, SRep X.K X.mg H0 G2 H1 L1 pv σ s2 ∧ Rep X.K X.mg G2 d x ∧ GoS X.K X.mg E H0 G2 H1 L1 pv D0 (forL tm b ds s2) := fun ds hd x G1 H1 L1 R1 e1 rr nn => by
        obtain ⟨G2, R2, e2, r2, _⟩ := esc_ok R1 e1 rr nn q
        rw [hd] at h
        exact ⟨G2, R2, r2, GoS.base h e2⟩
      cases d with
      | lst ds =>
        refine .inl ⟨H0, G, L, pv, s, R, ?_⟩
        rw [q0]
        intro G1 H1 L1 x R1 e1 rr nn
        obtain ⟨G2, R2, r2, h2⟩ := run ds rfl x G1 H1 L1 R1 e1 rr nn
        simp only [Rep] at r2
        obtain ⟨a, vs, rfl, sq0, rs⟩ := r2
        have sq : SqL X.K G2 a vs := .inl (.inl sq0)
        refine ⟨a, rfl, ⟨vs, R2.same.seq sq⟩, for_list (K := X.K) (a := a) (xs := vs) (fun i σ H => ∃ G L s, SRep X.K X.mg H0 G H L pv σ s ∧ SqL X.K G a vs ∧ Reps X.K X.mg G ds vs ∧ GoS X.K X.mg E H0 G H L pv D0 (forL tm b (ds.drop i) s))
          ⟨G2, L1, s2, R2, sq, rs, h2⟩ (fun i σ H _ ⟨G, L, s, R, sq, _⟩ => R.same.seq sq) ?_ ?_⟩
        · rintro i x σ3 H3 hx ⟨G3, L3, s3, R3, sq3, rs3, h3⟩
          obtain ⟨d, hd, rd⟩ := rs3.getV hx
          rw [drop_of hd] at h3
          exact for_turn R3 rd h3 fun G' H' L' σ' s' R' e' h' => ⟨G', L', s', R', e'.gg.seq sq3, rs3.mono e'.gg, h'⟩
        · rintro σ3 H3 ⟨G3, L3, s3, R3, sq3, rs3, h3⟩
          rw [← rs3.len, List.drop_length] at h3
          exact h3 G3 H3 L3 σ3 R3 (Ext.refl ..)
      | rol ds =>
        refine .inl ⟨H0, G, L, pv, s, R, ?_⟩
        rw [q0]
        intro G1 H1 L1 x R1 e1 rr nn
        obtain ⟨G2, R2, r2, h2⟩ := run ds rfl x G1 H1 L1 R1 e1 rr nn
        simp only [Rep] at r2
        obtain ⟨a, vs, rfl, sq, rs⟩ := r2
        refine ⟨a, rfl, ⟨vs, R2.same.seq sq⟩, for_list (K := X.K) (a := a) (xs := vs) (fun i σ H => ∃ G L s, SRep X.K X.mg H0 G H L pv σ s ∧ SqL X.K G a vs ∧ Reps X.K X.mg G ds vs ∧ GoS X.K X.mg E H0 G H L pv D0 (forL tm b (ds.drop i) s))
          ⟨G2, L1, s2, R2, sq, rs, h2⟩ (fun i σ H _ ⟨G, L, s, R, sq, _⟩ => R.same.seq sq) ?_ ?_⟩
        · rintro i x σ3 H3 hx ⟨G3, L3, s3, R3, sq3, rs3, h3⟩
          obtain ⟨d, hd, rd⟩ := rs3.getV hx
          rw [drop_of hd] at h3
          exact for_turn R3 rd h3 fun G' H' L' σ' s' R' e' h' => ⟨G', L', s', R', e'.gg.seq sq3, rs3.mono e'.gg, h'⟩
        · rintro σ3 H3 ⟨G3, L3, s3, R3, sq3, rs3, h3⟩
          rw [← rs3.len, List.drop_length] at h3
          exact h3 G3 H3 L3 σ3 R3 (Ext.refl ..)
      | tup ds =>
        refine .inr ⟨H0, G, L, pv, s, R, ?_⟩
        rw [q0]
        intro G1 H1 L1 x R1 e1 rr nn
        obtain ⟨G2, R2, r2, h2⟩ := run ds rfl x G1 H1 L1 R1 e1 rr nn
        simp only [Rep] at r2
        obtain ⟨a, vs, rfl, sq, rs⟩ := r2
        refine ⟨a, rfl, ⟨vs, Same.tseq R2.same sq⟩, for_tup (K := X.K) (a := a) (xs := vs) (fun i σ H => ∃ G L s, SRep X.K X.mg H0 G H L pv σ s ∧ SqT X.K G a vs ∧ Reps X.K X.mg G ds vs ∧ GoS X.K X.mg E H0 G H L pv D0 (forL tm b (ds.drop i) s))
          ⟨G2, L1, s2, R2, sq, rs, h2⟩ (fun i σ H _ ⟨G, L, s, R, sq, _⟩ => Same.tseq R.same sq) ?_ ?_⟩
        · rintro i x σ3 H3 hx ⟨G3, L3, s3, R3, sq3, rs3, h3⟩
          obtain ⟨d, hd, rd⟩ := rs3.getV hx
          rw [drop_of hd] at h3
          exact for_turn R3 rd h3 fun G' H' L' σ' s' R' e' h' => ⟨G', L', s', R', Same.tseq e'.gg sq3, rs3.mono e'.gg, h'⟩
        · rintro σ3 H3 ⟨G3, L3, s3, R3, sq3, rs3, h3⟩
          rw [← rs3.len, List.drop_length] at h3
          exact h3 G3 H3 L3 σ3 R3 (Ext.refl ..)
      | _ => exact h.elim
theorem rdb_int {K : PySem.W.Frag} {mg : Mg} {G H : Hp} {i : Int} {v : V} (h : Rdb K mg G H (.int i) v) : v = .int i := by simpa only [Rdb, Rep] using h
theorem for_rng {K : PySem.W.Frag} {mg : Mg} {H0 G H : Hp} {L : Addr → Prop} {pv : List V} {σ : List (Option V)} {s : S} {D0 : Ends} {lo : Int} {n : Nat} (R : SRep K mg H0 G H L pv σ s) (h : GoS K mg E H0 G H L pv D0 (forL tm b (upFrom lo n) s)) :
    ∃ W : Nat → Nat → L2.St → Hp → Prop, (∃ m, W 0 m σ H) ∧ ∀ i m σ H, W i m σ H →
      ((Itr lo n).stop i H ∧ D0.nx σ H) ∨ ((Itr lo n).go i H ∧ ∃ N : L2.St → Hp → Prop, (∀ σ' H', N σ' H' → ∃ m', m' < m ∧ W (i + 1) m' σ' H') ∧ ∀ x H', (Itr lo n).yld i H x H' → denG K mg is tm x σ H' fun σ2 H2 => denS K mg E b { D0 with nx := N, ct := N, bk := D0.nx } σ2 H2) := by
  refine for_range (fun i σ H => ∃ G L s, SRep K mg H0 G H L pv σ s ∧ GoS K mg E H0 G H L pv D0 (forL tm b ((upFrom lo n).drop i) s)) ⟨G, L, s, R, h⟩ ?_ ?_
  · rintro i σ3 H3 hi ⟨G3, L3, s3, R3, h3⟩
    rw [drop_of (upFrom_get lo n i hi)] at h3
    exact for_turn R3 (by simp only [Rep]) h3 fun G' H' L' σ' s' R' e' h' => ⟨G', L', s', R', h'⟩
  · rintro σ3 H3 ⟨G3, L3, s3, R3, h3⟩
    rw [List.drop_eq_nil_of_le (by rw [upFrom_len]; exact Nat.le_refl _)] at h3
    exact h3 G3 H3 L3 σ3 R3 (Ext.refl ..)
theorem rng1_some {ds : List D} {lo : Int} {n : Nat} (h : rng1 ds = some (lo, n)) : ∃ j, ds = [.int j] ∧ -(2 ^ 62) ≤ j ∧ j < 2 ^ 62 ∧ lo = 0 ∧ n = j.toNat := by
  match ds, h with
  | [.int j], h =>
    simp only [rng1] at h
    by_cases hb : -(2 ^ 62) ≤ j ∧ j < 2 ^ 62
    · rw [if_pos hb] at h
      simp only [Option.some.injEq, Prod.mk.injEq] at h
      exact ⟨j, rfl, hb.1, hb.2, h.1.symm, h.2.symm⟩
    · rw [if_neg hb] at h; cases h
theorem rng2_some {ds : List D} {lo : Int} {n : Nat} (h : rng2 ds = some (lo, n)) : ∃ j, ds = [.int lo, .int j] ∧ -(2 ^ 62) ≤ lo ∧ lo < 2 ^ 62 ∧ -(2 ^ 62) ≤ j ∧ j < 2 ^ 62 ∧ n = (j - lo).toNat := by
  match ds, h with
  | [.int i, .int j], h =>
    simp only [rng2] at h
    by_cases hb : -(2 ^ 62) ≤ i ∧ i < 2 ^ 62 ∧ -(2 ^ 62) ≤ j ∧ j < 2 ^ 62
    · rw [if_pos hb] at h
      simp only [Option.some.injEq, Prod.mk.injEq] at h
      obtain ⟨rfl, rfl⟩ := h
      exact ⟨j, rfl, hb.1, hb.2.1, hb.2.2.1, hb.2.2.2, rfl⟩
    · rw [if_neg hb] at h; cases h
theorem vals_1 {K : PySem.W.Frag} {mg : Mg} {G H : Hp} {j : Int} {vs : List V} (hl : [D.int j].length = vs.length) (hr : ∀ (i : Nat) (d : D) (v : V), [D.int j][i]? = some d → vs[i]? = some v → Rdb K mg G H d v) : vs = [.int j] := by
  match vs, hl with
  | [v], _ =>
    have := rdb_int (hr 0 _ _ rfl rfl)
    rw [this]
theorem vals_2 {K : PySem.W.Frag} {mg : Mg} {G H : Hp} {i j : Int} {vs : List V} (hl : [D.int i, D.int j].length = vs.length) (hr : ∀ (k : Nat) (d : D) (v : V), [D.int i, D.int j][k]? = some d → vs[k]? = some v → Rdb K mg G H d v) : vs = [.int i, .int j] := by
  match vs, hl with
  | [v, w], _ =>
    have h1 := rdb_int (hr 0 _ _ rfl rfl)
    have h2 := rdb_int (hr 1 _ _ rfl rfl)
    rw [h1, h2]
theorem ms_forR1 {a : Expr} {fa : Mm} {p cpos : Pos} (hp : PassesOwn (model X.prog X.w) X.A X.env X.xe) (hc : X.calm = true) (hm : X.mg "range" = none) (ha : ME X E a fa) (hg : MG X tg is tm) (hb : MSs X E body b) (hgl : Gl X "range" := by rfl)
    (h1 : starEach [a] X.env = [(false, eval a X.env)] := by rfl) (h2 : starEach [a] X.env = (false, eval a X.env) :: starEach [] X.env := by rfl) (hs : ∀ x, foldedSetIterable (.Call (.Name "range" p) [a] [] cpos) X.env x = pure x := by intro _; rfl) : MS X E (.For tg (.Call (.Name "range" p) [a] [] cpos) body [] pos) (mForR rng1 [fa] tm b) := by
  refine PS.imp (ps_for hp hc (pi_range1 hgl hm (ma_cons ha ma_nil h2) h1) hg hb hs) fun D0 σ H h => ?_
  obtain ⟨H0, G, L, pv, s, R, h⟩ := h
  refine denA_mono (fun vs H1 ⟨G1, L1, rs, s1, R1, e1, w, h1⟩ => ?_) (go_argsS R h)
  cases q : rds s1 rs with
  | none => rw [q] at h1; exact h1.elim
  | some ds =>
    rw [q] at h1
    obtain ⟨hl, hr⟩ := res_of R1 w q
    simp only at h1
    cases q2 : rng1 ds with
    | none => rw [q2] at h1; exact h1.elim
    | some p =>
      obtain ⟨lo, n⟩ := p
      rw [q2] at h1
      obtain ⟨j, rfl, b1, b2, rfl, rfl⟩ := rng1_some q2
      exact ⟨j, vals_1 hl hr, b1, b2, for_rng R1 (GoS.base h1 e1)⟩
theorem ms_forR2 {a1 a2 : Expr} {f1 f2 : Mm} {p cpos : Pos} (hp : PassesOwn (model X.prog X.w) X.A X.env X.xe) (hc : X.calm = true) (hm : X.mg "range" = none) (ha1 : ME X E a1 f1) (ha2 : ME X E a2 f2) (hg : MG X tg is tm) (hb : MSs X E body b) (hgl : Gl X "range" := by rfl)
    (h1 : starEach [a1, a2] X.env = [(false, eval a1 X.env), (false, eval a2 X.env)] := by rfl) (h2 : starEach [a2] X.env = [(false, eval a2 X.env)] := by rfl) (h3 : starEach [a1, a2] X.env = (false, eval a1 X.env) :: starEach [a2] X.env := by rfl) (h4 : starEach [a2] X.env = (false, eval a2 X.env) :: starEach [] X.env := by rfl)
    (hs : ∀ x, foldedSetIterable (.Call (.Name "range" p) [a1, a2] [] cpos) X.env x = pure x := by intro _; rfl) : MS X E (.For tg (.Call (.Name "range" p) [a1, a2] [] cpos) body [] pos) (mForR rng2 [f1, f2] tm b) := by
  refine PS.imp (ps_for hp hc (pi_range2 hgl hm (ma_cons ha1 (ma_cons ha2 ma_nil h4) h3) h1 h2) hg hb hs) fun D0 σ H h => ?_
  obtain ⟨H0, G, L, pv, s, R, h⟩ := h
  refine denA_mono (fun vs H1 ⟨G1, L1, rs, s1, R1, e1, w, h1⟩ => ?_) (go_argsS R h)
  cases q : rds s1 rs with
  | none => rw [q] at h1; exact h1.elim
  | some ds =>
    rw [q] at h1
    obtain ⟨hl, hr⟩ := res_of R1 w q
    simp only at h1
    cases q2 : rng2 ds with
    | none => rw [q2] at h1; exact h1.elim
    | some p =>
      obtain ⟨lo, n⟩ := p
      rw [q2] at h1
      obtain ⟨j, rfl, b1, b2, b3, b4, rfl⟩ := rng2_some q2
      exact ⟨lo, j, vals_2 hl hr, ⟨b1, b2, b3, b4⟩, for_rng R1 (GoS.base h1 e1)⟩
end
end Mx

set_option Elab.async false
set_option linter.all false
set_option maxRecDepth 100000
namespace Mx
open PySem PySem.Spec PyProof.Rows L2

/-! ### what is walked, with its length known -/
section
variable {X : Cx} {tg : Expr}
def iListZ (K : PySem.W.Frag) (tl : TE) : TI := fun σ H R => tl σ H fun x H1 => ∃ a, x = .ref a ∧ (∃ xs, SqL K H1 a xs) ∧ ((∀ xs, SqL K H1 a xs → xs.length ≤ sizeLine) → R (Itl K a) H1)
def iTupZ (K : PySem.W.Frag) (tl : TE) : TI := fun σ H R => tl σ H fun x H1 => ∃ a, x = .ref a ∧ (∃ xs, SqT K H1 a xs) ∧ ((∀ xs, SqT K H1 a xs → xs.length ≤ sizeLine) → R (Itt K a) H1)
theorem pi_listZ {l : Expr} {tl : TE} (hl : PE X l tl) : PI X tg l (iListZ X.K tl) := by
  refine ⟨fun pins s σ H R I h => ?_⟩
  refine thn (hl.run pins s σ H _ I h) fun v s1 ⟨x, H1, I1, r1, q1⟩ => ?_
  obtain ⟨a, e, ⟨xs, hq⟩, q⟩ := q1
  subst e
  cases r1
  obtain ⟨its, rv, p, hz⟩ := I1.list hq
  refine wpAny_pyIter_list p.isList ?_
  refine ⟨s1.heap.objs.size, [s1.heap.objs.size], _, _, H1, rfl, I1.kept (t' := s1.toks) fun b o e => Heap.get?_push_of_some _ e, turn_list a _, ⟨_, Heap.get?_push_size _ rfl, rfl, rfl⟩, fun b hb => ?_, q fun ys hy => let ⟨_, _, _, z⟩ := I1.list hy; z⟩
  have e : b = s1.heap.objs.size := by simpa using hb
  subst e
  exact I1.fpOk (Nat.le_refl _) (I1.hok.fresh (Nat.le_refl _))
theorem pi_tupZ {l : Expr} {tl : TE} (hl : PE X l tl) : PI X tg l (iTupZ X.K tl) := by
  refine ⟨fun pins s σ H R I h => ?_⟩
  refine thn (hl.run pins s σ H _ I h) fun v s1 ⟨x, H1, I1, r1, q1⟩ => ?_
  obtain ⟨a, e, ⟨xs, hq⟩, q⟩ := q1
  subst e
  cases r1
  obtain ⟨its, rv, p, hz⟩ := I1.tuple hq
  refine wpAny_pyIter_tuple (show s1.heap.IsTuple a its.toArray from p) ?_
  refine ⟨s1.heap.objs.size, [s1.heap.objs.size], _, _, H1, rfl, I1.kept (t' := s1.toks) fun b o e => Heap.get?_push_of_some _ e, turn_tuple a _, ⟨_, Heap.get?_push_size _ rfl, rfl, rfl⟩, fun b hb => ?_, q fun ys hy => let ⟨_, _, _, z⟩ := I1.tuple hy; z⟩
  have e : b = s1.heap.objs.size := by simpa using hb
  subst e
  exact I1.fpOk (Nat.le_refl _) (I1.hok.fresh (Nat.le_refl _))
end

/-! ### slots forgotten and told again -/
theorem wipe_get {σ : List (Option V)} : ∀ {vs : List Nat} (i : Nat), (wipe σ vs)[i]? = if i ∈ vs then (if i < σ.length then some none else none) else σ[i]?
  | [], i => by simp [wipe]
  | v :: vs, i => by
    rw [wipe]
    by_cases e : i = v
    · subst e
      by_cases hl : i < σ.length
      · rw [List.getElem?_set_self (by rw [wipe_length]; exact hl), if_pos (by simp), if_pos hl]
      · rw [List.getElem?_eq_none (by rw [List.length_set, wipe_length]; omega), if_pos (by simp), if_neg hl]
    · rw [List.getElem?_set_ne (Ne.symm e), wipe_get i]
      by_cases h : i ∈ vs
      · rw [if_pos h, if_pos (List.mem_cons_of_mem _ h)]
      · rw [if_neg h, if_neg (by simp [e, h])]
theorem wipe_offs {σ σ2 : List (Option V)} {is vs : List Nat} (h : Offs is (wipe σ vs) σ2) (hi : ∀ i ∈ is, i ∈ vs) : wipe σ2 vs = wipe σ vs := by
  have hl : σ2.length = σ.length := by rw [h.1, wipe_length]
  apply List.ext_getElem?
  intro i
  rw [wipe_get, wipe_get, hl]
  by_cases m : i ∈ vs
  · rw [if_pos m, if_pos m]
  · rw [if_neg m, if_neg m, h.2 i fun z => m (hi i z), wipe_get, if_neg m]
def wip (s : S) : List Nat → S
  | [] => s
  | v :: vs => { (wip s vs) with sl := (wip s vs).sl.set v .un }
def noOw (s : S) (vs : List Nat) : Bool := vs.all fun v => match s.sl[v]? with
  | some (.ow _) => false
  | _ => true
def rst (s0 s : S) : List Nat → S
  | [] => s
  | v :: vs => match s0.sl[v]? with
    | some c => { (rst s0 s vs) with sl := (rst s0 s vs).sl.set v c }
    | none => rst s0 s vs
section
variable {K : PySem.W.Frag} {mg : Mg} {E : XK} {H0 Gb Hb G H G1 H1 G' H' : Hp} {Lb L L1 L' : Addr → Prop} {pv : List V} {σ σ' : List (Option V)} {s s0 s1 s2 : S} {Q : VK}
theorem SRep.unset {v : Nat} (R : SRep K mg H0 G H L pv σ s) : SRep K mg H0 G H L pv (σ.set v none) { s with sl := s.sl.set v .un } := by
  refine ⟨R.same, R.old, R.lv, by simp only [List.length_set]; exact R.len, R.plen, fun i c h => ?_, R.par, fun i j d e w h1 h2 h3 h4 => ?_, R.app⟩
  · rcases getElem?_set_of h with ⟨_, rfl⟩ | ⟨ne, h⟩
    · trivial
    · rw [List.getElem?_set_ne (Ne.symm ne)]; exact R.cell i c h
  · rcases getElem?_set_of h1 with ⟨_, q⟩ | ⟨n1, h1⟩
    · cases q
    · rcases getElem?_set_of h2 with ⟨_, q⟩ | ⟨n2, h2⟩
      · cases q
      · rw [List.getElem?_set_ne (Ne.symm n1)] at h3
        rw [List.getElem?_set_ne (Ne.symm n2)] at h4
        exact R.ap i j d e w h1 h2 h3 h4
theorem SRep.wip : ∀ {vs : List Nat}, SRep K mg H0 G H L pv σ s → SRep K mg H0 G H L pv (wipe σ vs) (wip s vs)
  | [], R => R
  | v :: vs, R => (SRep.wip (vs := vs) R).unset
theorem rst_len : ∀ (vs : List Nat), (rst s0 s vs).sl.length = s.sl.length ∧ (rst s0 s vs).pr = s.pr
  | [] => ⟨rfl, rfl⟩
  | v :: vs => by
    unfold rst
    cases e : s0.sl[v]? with
    | none => exact rst_len vs
    | some c => simp only [List.length_set]; exact rst_len vs
theorem rst_get : ∀ {vs : List Nat} {i : Nat} {c : Cell}, (∀ v ∈ vs, v < s0.sl.length) → (rst s0 s vs).sl[i]? = some c → (i ∈ vs ∧ s0.sl[i]? = some c) ∨ (i ∉ vs ∧ s.sl[i]? = some c)
  | [], i, c, hl, h => .inr ⟨by simp, h⟩
  | v :: vs, i, c, hl, h => by
    unfold rst at h
    cases e : s0.sl[v]? with
    | none =>
      have := List.getElem?_eq_none_iff.mp e
      have := hl v (by simp)
      omega
    | some c0 =>
      rw [e] at h
      simp only at h
      rcases getElem?_set_of h with ⟨z1, z2⟩ | ⟨z1, z2⟩
      · subst z1 z2; exact .inl ⟨by simp, e⟩
      · rcases rst_get (vs := vs) (fun w hw => hl w (List.mem_cons_of_mem _ hw)) z2 with ⟨y1, y2⟩ | ⟨y1, y2⟩
        · exact .inl ⟨List.mem_cons_of_mem _ y1, y2⟩
        · exact .inr ⟨by simp [z1, y1], y2⟩
/-- behind a block: its own slots are as they were -/
theorem SRep.rst {H2 : Hp} {L2' : Addr → Prop} {vs : List Nat} (R : SRep K mg H0 G H L pv (wipe σ vs) s) (R0 : SRep K mg H0 G1 H2 L2' pv σ s0) (g : Same G1 G) (hn : noOw s0 vs = true) (hv : ∀ v ∈ vs, v < s0.sl.length) :
    SRep K mg H0 G H L pv σ (rst s0 s vs) := by
  have hl := rst_len (s0 := s0) (s := s) vs
  have notow : ∀ i d, i ∈ vs → s0.sl[i]? ≠ some (.ow d) := fun i d hi e => by
    have := List.all_eq_true.mp hn i hi
    rw [e] at this
    cases this
  have hlen : σ.length = s.sl.length := by rw [← R.len, wipe_length]
  refine ⟨R.same, R.old, R.lv, by rw [hl.1]; exact hlen, by rw [hl.2]; exact R.plen, fun i c h => ?_, fun p c h => R.par p c (by rw [← hl.2]; exact h), fun i j d e w h1 h2 h3 h4 => ?_, fun p q d e w h1 h2 => R.app p q d e w (by rw [← hl.2]; exact h1) (by rw [← hl.2]; exact h2)⟩
  · rcases rst_get hv h with ⟨hi, h⟩ | ⟨hi, h⟩
    · have q := R0.cell i c h
      cases c with
      | un => trivial
      | al p => exact q
      | ow d => exact absurd h (notow i d hi)
      | sh d => obtain ⟨v, e, r⟩ := q; exact ⟨v, e, r.mono g⟩
    · have q := R.cell i c h
      rw [wipe_get, if_neg hi] at q
      exact q
  · rcases rst_get hv h1 with ⟨hi, g1⟩ | ⟨hi, g1⟩
    · exact absurd g1 (notow i d hi)
    · rcases rst_get hv h2 with ⟨hj, g2⟩ | ⟨hj, g2⟩
      · exact absurd g2 (notow j e hj)
      · exact R.ap i j d e w g1 g2 (by rw [wipe_get, if_neg hi]; exact h3) (by rw [wipe_get, if_neg hj]; exact h4)
/-- an object that nothing owns and nothing is fixed on is changed -/
theorem SRep.updFree {a : Addr} {o : HO} (R : SRep K mg H0 G H L pv σ s) (hg : G a = none) (nl : ¬ L a) : SRep K mg H0 G (upd H a o) L pv σ s := by
  have ok : ∀ b, H b ≠ none → upd H a o b ≠ none := fun b h => by
    by_cases e : b = a
    · rw [e, upd_same]; simp
    · rw [upd_ne e]; exact h
  have mv : ∀ {d b}, Own K mg G H d b → L b → Own K mg G (upd H a o) d b := fun {d b} h l => h.move (fun _ _ q => q) (upd_ne fun e => nl (e ▸ l)) h.there.2
  refine ⟨fun b u q => ?_, fun b h => ok b (R.old b h), fun b l => ok b (R.lv b l), R.len, R.plen, fun i c h => ?_, fun p c h => ?_, R.ap, R.app⟩
  · rw [upd_ne (ne_of_none q hg)]; exact R.same b u q
  · have q := R.cell i c h
    cases c with
    | ow d => obtain ⟨b, e, w, l, z⟩ := q; exact ⟨b, e, mv w l, l, z⟩
    | un => trivial
    | sh d => exact q
    | al p => exact q
  · have q := R.par p c h
    cases c with
    | ow d => obtain ⟨b, e, w, l, z⟩ := q; exact ⟨b, e, mv w l, l, z⟩
    | un => trivial
    | sh d => exact q
    | al p => trivial
theorem Ext.updNew {a : Addr} {o : HO} (e : Ext Gb Hb Lb G H L) (hb : Hb a = none) : Ext Gb Hb Lb G (upd H a o) L :=
  ⟨e.gg, fun b u q n => by rw [upd_ne (ne_of_none q hb)]; exact e.keep b u q n, e.fresh, e.live, fun b h => by
    by_cases z : b = a
    · rw [z, upd_same]; simp
    · rw [upd_ne z]; exact e.there b h⟩
end

/-! ### list comprehensions -/
def lcL (tm : Tm) (tt elt : Mm) (own : List Nat) : List D → S → Option (List D × S)
  | [], s => some ([], s)
  | d :: ds, s => match tm d s with
    | none => none
    | some s1 => match tt s1 with
      | .ok r s2 => match asB r with
        | some true => match elt s2 with
          | .ok rv s3 => match esc s3 rv with
            | some (e, s4) => match lcL tm tt elt own ds (wip s4 own) with
              | some (es, s5) => some (e :: es, s5)
              | none => none
            | none => none
          | _ => none
        | some false => lcL tm tt elt own ds (wip s2 own)
        | none => none
      | _ => none
def lcR (own : List Nat) (tm : Tm) (tt elt : Mm) (ds : List D) (s : S) : Res := if noOw s own = true then (match lcL tm tt elt own ds (wip s own) with
  | some (es, s3) => .ok (.fr (.lst es)) (rst s s3 own)
  | none => .no) else .no
def mLc (own : List Nat) (tm : Tm) (tt elt f : Mm) : Mm := fun s => (f s).bind fun r s1 => match esc s1 r with
  | some (d, s2) => match itemsOf d with
    | some ds => lcR own tm tt elt ds s2
    | none => .no
  | none => .no
def mLcR (rg : List D → Option (Int × Nat)) (own : List Nat) (tm : Tm) (tt elt : Mm) (fs : List Mm) : Mm := fun s => (mArgs fs s).bind fun rs s1 => match rds s1 rs with
  | some ds => match rg ds with
    | some (lo, n) => if n ≤ 16777216 then lcR own tm tt elt (upFrom lo n) s1 else .no
    | none => .no
  | none => .no
def mYes : Mm := fun s => .ok (.sh (.bl true)) s
section
variable {K : PySem.W.Frag} {mg : Mg} {H0 Gb Hb G H G1 H1 G' H' : Hp} {Lb L L1 L' : Addr → Prop} {pv : List V} {σ σ' : List (Option V)} {s s0 s1 s2 : S} {Q : VK}
variable {tm : Tm} {tt elt : Mm} {is own : List Nat} {Da : Addr} {Qd : Hp → Prop}
/-- what is wanted behind the rest of the walk -/
def LG (K : PySem.W.Frag) (mg : Mg) (H0 Ga Gb Hb : Hp) (Lb : Addr → Prop) (pv : List V) (σw : List (Option V)) (Da : Addr) (Qd : Hp → Prop) (acc : List D) : Option (List D × S) → Prop
  | some (es, s') => ∀ G' H' L', SRep K mg H0 G' H' L' pv σw s' → Same Ga G' → Ext Gb Hb Lb G' H' L' → Own K mg G' H' (.lst (acc ++ es)) Da → ¬ L' Da → Qd H'
  | none => False
structure LW (K : PySem.W.Frag) (mg : Mg) (H0 Gb Hb : Hp) (Lb : Addr → Prop) (pv : List V) (σw : List (Option V)) (Da : Addr) (G H : Hp) (L : Addr → Prop) (s : S) (acc : List D) : Prop where
  R : SRep K mg H0 G H L pv σw s
  e : Ext Gb Hb Lb G H L
  o : Own K mg G H (.lst acc) Da
  nl : ¬ L Da
theorem lc_turn {Ga : Hp} {d : D} {x : V} {ds : List D} {acc : List D} {W : Hp → Prop} (his : ∀ i ∈ is, i ∈ own) (hb : Hb Da = none) (I : LW K mg H0 Gb Hb Lb pv (wipe σ own) Da G H L s acc) (r : Rep K mg G d x) (hz : acc.length < sizeLine)
    (h : LG K mg H0 Ga Gb Hb Lb pv (wipe σ own) Da Qd acc (lcL tm tt elt own (d :: ds) s))
    (hW : ∀ G' H' L' s' acc', LW K mg H0 Gb Hb Lb pv (wipe σ own) Da G' H' L' s' acc' → Same G G' → acc'.length ≤ acc.length + 1 → LG K mg H0 Ga Gb Hb Lb pv (wipe σ own) Da Qd acc' (lcL tm tt elt own ds s') → W H') :
    denG K mg is tm x (wipe σ own) H fun σ2 H2 => wipe σ2 own = wipe σ own ∧ denT K mg E0 tt σ2 H2 fun b H3 =>
      if b = true then denE K mg E0 elt σ2 H3 fun y H4 => ∃ accV, H4 Da = some (.lst accV) ∧ accV.length < sizeLine ∧ W (upd H4 Da (.lst (accV ++ [y]))) else W H3 := by
  unfold lcL at h
  cases q : tm d s with
  | none => rw [q] at h; exact h.elim
  | some s1 =>
    rw [q] at h
    simp only at h
    refine ⟨H0, G, L, pv, s, d, I.R, r, s1, q, fun σ1 R1 o1 => ⟨wipe_offs o1 his, H0, G, L, pv, s1, R1, ?_⟩⟩
    have hwipe : ∀ {G H L s'}, SRep K mg H0 G H L pv σ1 s' → SRep K mg H0 G H L pv (wipe σ own) (wip s' own) := fun {G H L s'} R => by
      rw [← wipe_offs o1 his]; exact R.wip
    cases q2 : tt s1 with
    | ex c y s2 => rw [q2] at h; exact h.elim
    | no => rw [q2] at h; exact h.elim
    | ok rv s2 =>
      rw [q2] at h
      simp only at h
      intro G2 H2 L2 v R2 e2 r2 n2
      cases q3 : asB rv with
      | none => rw [q3] at h; exact h.elim
      | some b =>
        rw [q3] at h
        refine ⟨b, asB_rep q3 r2, ?_⟩
        have o2 : Own K mg G2 H2 (.lst acc) Da := I.o.ext I.nl e2
        have nl2 : ¬ L2 Da := fun l => (e2.live Da l).elim I.nl I.o.there.1
        cases b with
        | false =>
          show (if (false : Bool) = true then _ else _)
          rw [if_neg Bool.false_ne_true]
          simp only at h
          exact hW G2 H2 L2 (wip s2 own) acc ⟨hwipe R2, I.e.trans e2, o2, nl2⟩ e2.gg (Nat.le_succ _) h
        | true =>
          show (if (true : Bool) = true then _ else _)
          rw [if_pos rfl]
          simp only at h
          refine ⟨H0, G2, L2, pv, s2, R2, ?_⟩
          cases q4 : elt s2 with
          | ex c y s3 => rw [q4] at h; exact h.elim
          | no => rw [q4] at h; exact h.elim
          | ok rw' s3 =>
            rw [q4] at h
            simp only at h
            intro G3 H3 L3 y R3 e3 r3 n3
            cases q5 : esc s3 rw' with
            | none => rw [q5] at h; exact h.elim
            | some p =>
              obtain ⟨e, s4⟩ := p
              rw [q5] at h
              simp only at h
              obtain ⟨G4, R4, e4, r4, g4, _⟩ := esc_ok R3 e3 r3 n3 q5
              have o4 : Own K mg G4 H3 (.lst acc) Da := o2.ext nl2 e4
              have nl4 : ¬ L3 Da := fun l => (e4.live Da l).elim nl2 o2.there.1
              have o4' := o4
              simp only [Own] at o4'
              obtain ⟨accV, a1, a2, a3⟩ := o4'
              refine ⟨accV, a1, by rw [← a3.len]; exact hz, ?_⟩
              cases q6 : lcL tm tt elt own ds (wip s4 own) with
              | none => rw [q6] at h; exact h.elim
              | some p =>
                obtain ⟨es, s5⟩ := p
                rw [q6] at h
                simp only at h
                refine hW G4 _ L3 (wip s4 own) (acc ++ [e]) ⟨(hwipe R4).updFree a2 nl4, (I.e.trans (e2.trans e4)).updNew hb, ?_, nl4⟩ (e2.gg.trans e4.gg) (by simp) ?_
                · simp only [Own]
                  exact ⟨_, upd_same, a2, a3.append (Reps.cons r4 Reps.nil)⟩
                · rw [q6]
                  intro G' H' L' R' g' e' o' n'
                  exact h G' H' L' R' g' e' (by rw [List.append_assoc] at o'; exact o') n'
/-- the start of a comprehension: nothing is in its list yet -/
theorem lc_begin (R : SRep K mg H0 G H L pv σ s) (e : Ext Gb Hb Lb G H L) (hD : H Da = none) : Hb Da = none ∧ LW K mg H0 Gb Hb Lb pv (wipe σ own) Da G (upd H Da (.lst [])) L (wip s own) [] := by
  have hb : Hb Da = none := by
    cases q : Hb Da with
    | none => rfl
    | some o => exact absurd hD (e.there Da (by rw [q]; simp))
  have hg : G Da = none := R.same.free hD
  refine ⟨hb, R.wip.updFree hg fun l => R.lv Da l hD, e.updNew hb, ?_, fun l => R.lv Da l hD⟩
  simp only [Own]
  exact ⟨[], upd_same, hg, Reps.nil⟩
/-- its end -/
theorem lc_end {es : List D} {s3 : S} {E : XK} (R : SRep K mg H0 G H L pv σ s) (hn : noOw s own = true) (hv : ∀ v ∈ own, v < s.sl.length) (hD : H Da = none) (e : Ext Gb Hb Lb G H L)
    (h : Go K mg E H0 Gb Hb Lb pv σ Q (.ok (.fr (.lst es)) (rst s s3 own))) (R' : SRep K mg H0 G' H' L' pv (wipe σ own) s3) (g : Same G G') (e' : Ext Gb Hb Lb G' H' L') (o' : Own K mg G' H' (.lst es) Da) (nl : ¬ L' Da) : Q (.ref Da) H' := by
  refine h G' H' L' (.ref Da) (R'.rst R g hn hv) e' ⟨Da, rfl, o', nl, ?_⟩ fun a ha => ?_
  · cases q : H0 Da with
    | none => rfl
    | some o => exact absurd hD (R.old Da (by rw [q]; simp))
  · cases ha
    cases q : Hb Da with
    | none => rfl
    | some o => exact absurd hD (e.there Da (by rw [q]; simp))
/-- the invariant of a walk -/
structure LV (K : PySem.W.Frag) (mg : Mg) (H0 Ga Gb Hb : Hp) (Lb : Addr → Prop) (pv : List V) (σw : List (Option V)) (da : Addr) (Qd : Hp → Prop) (tm : Tm) (tt elt : Mm) (own : List Nat) (i : Nat) (ds : List D) (G' H' : Hp) (L' : Addr → Prop) (s' : S) (acc : List D) : Prop where
  I : LW K mg H0 Gb Hb Lb pv σw da G' H' L' s' acc
  g : Same Ga G'
  len : acc.length ≤ i
  lg : LG K mg H0 Ga Gb Hb Lb pv σw da Qd acc (lcL tm tt elt own (ds.drop i) s')
theorem lv_begin {E : XK} {ds : List D} {da : Addr} (hv : ∀ v ∈ own, v < s.sl.length) (R : SRep K mg H0 G H L pv σ s) (e : Ext Gb Hb Lb G H L) (hD : H da = none)
    (h : Go K mg E H0 Gb Hb Lb pv σ Q (lcR own tm tt elt ds s)) : Hb da = none ∧ LV K mg H0 G Gb Hb Lb pv (wipe σ own) da (fun H => Q (.ref da) H) tm tt elt own 0 ds G (upd H da (.lst [])) L (wip s own) [] := by
  unfold lcR at h
  by_cases hn : noOw s own = true
  · rw [if_pos hn] at h
    obtain ⟨hb, I0⟩ := lc_begin (own := own) R e hD
    refine ⟨hb, I0, fun _ _ q => q, Nat.zero_le _, ?_⟩
    rw [List.drop_zero]
    cases q : lcL tm tt elt own ds (wip s own) with
    | none => rw [q] at h; exact h.elim
    | some p =>
      obtain ⟨es, s3⟩ := p
      rw [q] at h
      intro G' H' L' R' g' e' o' n'
      rw [List.nil_append] at o'
      exact lc_end R hn hv hD e h R' g' e' o' n'
  · rw [if_neg hn] at h; exact h.elim
theorem lv_end {Ga : Hp} {ds : List D} {da : Addr} {acc : List D} {i : Nat} (I : LV K mg H0 Ga Gb Hb Lb pv (wipe σ own) da Qd tm tt elt own i ds G H L s acc) (hi : ds.length ≤ i) : Qd H := by
  have h := I.lg
  rw [List.drop_eq_nil_of_le hi] at h
  refine h G H L I.I.R I.g I.I.e ?_ I.I.nl
  rw [List.append_nil]
  exact I.I.o
theorem lv_turn {Ga : Hp} {ds : List D} {da : Addr} {acc : List D} {i : Nat} {d : D} {x : V} {W : Hp → Prop} (his : ∀ i ∈ is, i ∈ own) (hb : Hb da = none) (I : LV K mg H0 Ga Gb Hb Lb pv (wipe σ own) da Qd tm tt elt own i ds G H L s acc)
    (hd : ds[i]? = some d) (r : Rep K mg G d x) (hz : i < sizeLine) (hW : ∀ G' H' L' s' acc', LV K mg H0 Ga Gb Hb Lb pv (wipe σ own) da Qd tm tt elt own (i + 1) ds G' H' L' s' acc' → Same G G' → W H') :
    denG K mg is tm x (wipe σ own) H fun σ2 H2 => wipe σ2 own = wipe σ own ∧ denT K mg E0 tt σ2 H2 fun b H3 =>
      if b = true then denE K mg E0 elt σ2 H3 fun y H4 => ∃ accV, H4 da = some (.lst accV) ∧ accV.length < sizeLine ∧ W (upd H4 da (.lst (accV ++ [y]))) else W H3 := by
  have h := I.lg
  rw [drop_of hd] at h
  exact lc_turn his hb I.I r (Nat.lt_of_le_of_lt I.len hz) h fun G' H' L' s' acc' J g l h' => hW G' H' L' s' acc' ⟨J, I.g.trans g, by have := I.len; omega, h'⟩ g
theorem lc_fromList {E : XK} {a : Addr} {vs : List V} {ds : List D} (his : ∀ i ∈ is, i ∈ own) (hv : ∀ v ∈ own, v < s.sl.length) (R : SRep K mg H0 G H L pv σ s) (e : Ext Gb Hb Lb G H L) (sq : SqL K G a vs) (rs : Reps K mg G ds vs) (hz : vs.length ≤ sizeLine)
    (h : Go K mg E H0 Gb Hb Lb pv σ Q (lcR own tm tt elt ds s)) (da : Addr) (hD : H da = none) :
    ∃ W : Nat → Nat → Hp → Prop, (∃ m, W 0 m (upd H da (.lst []))) ∧ ∀ i m H, W i m H →
      ((Itl K a).stop i H ∧ Q (.ref da) H) ∨ ((Itl K a).go i H ∧ ∃ Nx : Hp → Prop, (∀ H', Nx H' → ∃ m', m' < m ∧ W (i + 1) m' H') ∧ ∀ x H', (Itl K a).yld i H x H' → denG K mg is tm x (wipe σ own) H' fun σ2 H2 => wipe σ2 own = wipe σ own ∧ denT K mg E0 tt σ2 H2 fun b H3 =>
        if b = true then denE K mg E0 elt σ2 H3 fun y H4 => ∃ acc, H4 da = some (.lst acc) ∧ acc.length < sizeLine ∧ Nx (upd H4 da (.lst (acc ++ [y]))) else Nx H3) := by
  obtain ⟨hb, I0⟩ := lv_begin hv R e hD h
  refine lc_list (xs := vs) (Qd := fun H => Q (.ref da) H) (fun i H' => ∃ G' L' s' acc, LV K mg H0 G Gb Hb Lb pv (wipe σ own) da (fun H => Q (.ref da) H) tm tt elt own i ds G' H' L' s' acc ∧ SqL K G' a vs ∧ Reps K mg G' ds vs) ⟨G, L, _, [], I0, sq, rs⟩ ?_ ?_ ?_
  · rintro i H' _ ⟨G', L', s', acc, I, sq', _⟩
    exact I.I.R.same.seq sq'
  · rintro i x H' hx ⟨G', L', s', acc, I, sq', rs'⟩
    obtain ⟨d, hd, rd⟩ := rs'.getV hx
    exact lv_turn his hb I hd rd (Nat.lt_of_lt_of_le (List.getElem?_eq_some_iff.mp hx).1 hz) fun G2 H2 L2 s2 acc2 J g => ⟨G2, L2, s2, acc2, J, g.seq sq', rs'.mono g⟩
  · rintro H' ⟨G', L', s', acc, I, sq', rs'⟩
    exact lv_end I (by rw [rs'.len]; exact Nat.le_refl _)
theorem lc_fromTup {E : XK} {a : Addr} {vs : List V} {ds : List D} (his : ∀ i ∈ is, i ∈ own) (hv : ∀ v ∈ own, v < s.sl.length) (R : SRep K mg H0 G H L pv σ s) (e : Ext Gb Hb Lb G H L) (sq : SqT K G a vs) (rs : Reps K mg G ds vs) (hz : vs.length ≤ sizeLine)
    (h : Go K mg E H0 Gb Hb Lb pv σ Q (lcR own tm tt elt ds s)) (da : Addr) (hD : H da = none) :
    ∃ W : Nat → Nat → Hp → Prop, (∃ m, W 0 m (upd H da (.lst []))) ∧ ∀ i m H, W i m H →
      ((Itt K a).stop i H ∧ Q (.ref da) H) ∨ ((Itt K a).go i H ∧ ∃ Nx : Hp → Prop, (∀ H', Nx H' → ∃ m', m' < m ∧ W (i + 1) m' H') ∧ ∀ x H', (Itt K a).yld i H x H' → denG K mg is tm x (wipe σ own) H' fun σ2 H2 => wipe σ2 own = wipe σ own ∧ denT K mg E0 tt σ2 H2 fun b H3 =>
        if b = true then denE K mg E0 elt σ2 H3 fun y H4 => ∃ acc, H4 da = some (.lst acc) ∧ acc.length < sizeLine ∧ Nx (upd H4 da (.lst (acc ++ [y]))) else Nx H3) := by
  obtain ⟨hb, I0⟩ := lv_begin hv R e hD h
  refine lc_tup (xs := vs) (Qd := fun H => Q (.ref da) H) (fun i H' => ∃ G' L' s' acc, LV K mg H0 G Gb Hb Lb pv (wipe σ own) da (fun H => Q (.ref da) H) tm tt elt own i ds G' H' L' s' acc ∧ SqT K G' a vs ∧ Reps K mg G' ds vs) ⟨G, L, _, [], I0, sq, rs⟩ ?_ ?_ ?_
  · rintro i H' _ ⟨G', L', s', acc, I, sq', _⟩
    exact Same.tseq I.I.R.same sq'
  · rintro i x H' hx ⟨G', L', s', acc, I, sq', rs'⟩
    obtain ⟨d, hd, rd⟩ := rs'.getV hx
    exact lv_turn his hb I hd rd (Nat.lt_of_lt_of_le (List.getElem?_eq_some_iff.mp hx).1 hz) fun G2 H2 L2 s2 acc2 J g => ⟨G2, L2, s2, acc2, J, Same.tseq g sq', rs'.mono g⟩
  · rintro H' ⟨G', L', s', acc, I, sq', rs'⟩
    exact lv_end I (by rw [rs'.len]; exact Nat.le_refl _)
theorem lc_fromRng {E : XK} {lo : Int} {n : Nat} (his : ∀ i ∈ is, i ∈ own) (hv : ∀ v ∈ own, v < s.sl.length) (R : SRep K mg H0 G H L pv σ s) (e : Ext Gb Hb Lb G H L) (hz : n ≤ sizeLine)
    (h : Go K mg E H0 Gb Hb Lb pv σ Q (lcR own tm tt elt (upFrom lo n) s)) (da : Addr) (hD : H da = none) :
    ∃ W : Nat → Nat → Hp → Prop, (∃ m, W 0 m (upd H da (.lst []))) ∧ ∀ i m H, W i m H →
      ((Itr lo n).stop i H ∧ Q (.ref da) H) ∨ ((Itr lo n).go i H ∧ ∃ Nx : Hp → Prop, (∀ H', Nx H' → ∃ m', m' < m ∧ W (i + 1) m' H') ∧ ∀ x H', (Itr lo n).yld i H x H' → denG K mg is tm x (wipe σ own) H' fun σ2 H2 => wipe σ2 own = wipe σ own ∧ denT K mg E0 tt σ2 H2 fun b H3 =>
        if b = true then denE K mg E0 elt σ2 H3 fun y H4 => ∃ acc, H4 da = some (.lst acc) ∧ acc.length < sizeLine ∧ Nx (upd H4 da (.lst (acc ++ [y]))) else Nx H3) := by
  obtain ⟨hb, I0⟩ := lv_begin hv R e hD h
  refine lc_range (Qd := fun H => Q (.ref da) H) (fun i H' => ∃ G' L' s' acc, LV K mg H0 G Gb Hb Lb pv (wipe σ own) da (fun H => Q (.ref da) H) tm tt elt own i (upFrom lo n) G' H' L' s' acc) ⟨G, L, _, [], I0⟩ ?_ ?_
  · rintro i H' hi ⟨G', L', s', acc, I⟩
    exact lv_turn his hb I (upFrom_get lo n i hi) (by simp only [Rep]) (Nat.lt_of_lt_of_le hi hz) fun G2 H2 L2 s2 acc2 J g => ⟨G2, L2, s2, acc2, J⟩
  · rintro H' ⟨G', L', s', acc, I⟩
    exact lv_end I (by rw [upFrom_len]; exact Nat.le_refl _)
end

section
variable {X : Cx} {E : XK} {e tg elt : Expr} {ifs : List Expr} {f tt me : Mm} {is : List Nat} {tm : Tm} {scope : Scope} {own : List (Str × Nat)} {pos : Pos}
abbrev MTs (X : Cx) (E : XK) (es : List Expr) (m : Mm) : Prop := PTs X es (denT X.K X.mg E m)
theorem PTs.imp {X : Cx} {es : List Expr} {t t' : TT} (h : PTs X es t) (i : ∀ σ H Q, t' σ H Q → t σ H Q) : PTs X es t' := ⟨fun pins s σ H Q I hw => h.run pins s σ H Q I (i σ H Q hw)⟩
theorem mts_nil : MTs X E [] mYes := PTs.imp pts_nil fun σ H Q h => by
  obtain ⟨H0, G, L, pv, s, R, h⟩ := h
  obtain ⟨b, e, q⟩ := Go.done (rv := .sh (.bl true)) (v := .bl true) R h bl_rv trivial
  cases e
  exact q
theorem mts_one {c : Expr} {m : Mm} (h : MT X E c m) : MTs X E [c] m := pts_one h
theorem own_lt {K : PySem.W.Frag} {mg : Mg} {H0 G H : Hp} {L : Addr → Prop} {pv : List V} {σ : List (Option V)} {s : S} (R : SRep K mg H0 G H L pv σ s) (hl : σ.length = X.N.length) (ok : BlkOk X.N X.env.scope scope own) : ∀ v ∈ own.map (·.2), v < s.sl.length := fun v hv => by
  obtain ⟨p, hp, rfl⟩ := List.mem_map.mp hv
  have := (List.getElem?_eq_some_iff.mp (ok.ix p hp)).1
  rw [← R.len, hl]
  exact this
/-- the reading of a comprehension over a list or a tuple -/
theorem den_lc {K : PySem.W.Frag} {mg : Mg} {ow : List Nat} (his : ∀ i ∈ is, i ∈ ow) (σ : L2.St) (hv : ∀ v ∈ ow, v < σ.length) (H : Hp) (Q : VK) (h : denE K mg E (mLc ow tm tt me f) σ H Q) :
    tLc (iListZ K (denE K mg E f)) (denG K mg is tm) (denT K mg E0 tt) (denE K mg E0 me) ow σ H Q ∨ tLc (iTupZ K (denE K mg E f)) (denG K mg is tm) (denT K mg E0 tt) (denE K mg E0 me) ow σ H Q := by
  obtain ⟨H0, G, L, pv, s, R, h⟩ := h
  cases q0 : f s with
  | no => unfold mLc at h; rw [q0] at h; exact h.elim
  | ex c y s1 =>
    refine .inl ⟨H0, G, L, pv, s, R, ?_⟩
    unfold mLc at h
    rw [q0] at h ⊢
    exact h
  | ok r1 s1 =>
    unfold mLc at h
    rw [q0] at h
    have h : Go K mg E H0 G H L pv σ Q (match esc s1 r1 with | some (d, s2) => (match itemsOf d with | some ds => lcR ow tm tt me ds s2 | none => .no) | none => .no) := h
    cases q : esc s1 r1 with
    | none => rw [q] at h; exact h.elim
    | some p =>
      obtain ⟨d, s2⟩ := p
      rw [q] at h
      simp only at h
      cases d with
      | lst ds =>
        refine .inl ⟨H0, G, L, pv, s, R, ?_⟩
        rw [q0]
        intro G1 H1 L1 x R1 e1 rr nn
        obtain ⟨G2, R2, e2, r2, _⟩ := esc_ok R1 e1 rr nn q
        simp only [Rep] at r2
        obtain ⟨a, vs, rfl, sq0, rs⟩ := r2
        have sq : SqL K G2 a vs := .inl (.inl sq0)
        exact ⟨a, rfl, ⟨vs, R2.same.seq sq⟩, fun hz da hD => lc_fromList his (fun v h => by rw [← R2.len]; exact hv v h) R2 e2 sq rs (hz vs (R2.same.seq sq)) h da hD⟩
      | rol ds =>
        refine .inl ⟨H0, G, L, pv, s, R, ?_⟩
        rw [q0]
        intro G1 H1 L1 x R1 e1 rr nn
        obtain ⟨G2, R2, e2, r2, _⟩ := esc_ok R1 e1 rr nn q
        simp only [Rep] at r2
        obtain ⟨a, vs, rfl, sq, rs⟩ := r2
        exact ⟨a, rfl, ⟨vs, R2.same.seq sq⟩, fun hz da hD => lc_fromList his (fun v h => by rw [← R2.len]; exact hv v h) R2 e2 sq rs (hz vs (R2.same.seq sq)) h da hD⟩
      | tup ds =>
        refine .inr ⟨H0, G, L, pv, s, R, ?_⟩
        rw [q0]
        intro G1 H1 L1 x R1 e1 rr nn
        obtain ⟨G2, R2, e2, r2, _⟩ := esc_ok R1 e1 rr nn q
        simp only [Rep] at r2
        obtain ⟨a, vs, rfl, sq, rs⟩ := r2
        exact ⟨a, rfl, ⟨vs, Same.tseq R2.same sq⟩, fun hz da hD => lc_fromTup his (fun v h => by rw [← R2.len]; exact hv v h) R2 e2 sq rs (hz vs (Same.tseq R2.same sq)) h da hD⟩
      | _ => exact h.elim
theorem me_lc (hc : X.calm = true) (hN : X.N.Nodup) (he : ME X E e f) (ok : BlkOk X.N X.env.scope scope own) (his : ∀ i ∈ is, i ∈ own.map (·.2))
    (hg : ∀ (s : Shared) (H : Hp) (C : Addr) (cl : List (Str × Addr)) (fp : List Addr), MG (X.blk s H scope (compEnvC scope cl C X.env) fp) tg is tm) (ht : ∀ (s : Shared) (H : Hp) (C : Addr) (cl : List (Str × Addr)) (fp : List Addr), MTs (X.blk s H scope (compEnvC scope cl C X.env) fp) E0 ifs tt)
    (hm : ∀ (s : Shared) (H : Hp) (C : Addr) (cl : List (Str × Addr)) (fp : List Addr), ME (X.blk s H scope (compEnvC scope cl C X.env) fp) E0 elt me) (hs : ∀ x, foldedSetIterable e X.env x = pure x := by intro _; rfl) :
    ME X E (.ListComp elt [⟨tg, e, ifs, 0⟩] scope pos) (mLc (own.map (·.2)) tm tt me f) := by
  have h1 := pe_lc (pos := pos) (elt := elt) (g := denG X.K X.mg is tm) (tt := denT X.K X.mg E0 tt) (te := denE X.K X.mg E0 me) hc hN (pi_listZ (tg := tg) he) ok hg ht hm hs
  have h2 := pe_lc (pos := pos) (elt := elt) (g := denG X.K X.mg is tm) (tt := denT X.K X.mg E0 tt) (te := denE X.K X.mg E0 me) hc hN (pi_tupZ (tg := tg) he) ok hg ht hm hs
  refine ⟨fun pins s σ H Q I hw => ?_⟩
  have hl : σ.length = X.N.length := I.len
  rcases den_lc his σ (fun v hv => by obtain ⟨p, hp, rfl⟩ := List.mem_map.mp hv; rw [hl]; exact (List.getElem?_eq_some_iff.mp (ok.ix p hp)).1) H Q hw with q | q
  · exact h1.run pins s σ H Q I q
  · exact h2.run pins s σ H Q I q
/-- x = [..] -/
theorem ms_setLc {i : Nat} {y : Str} {py spos : Pos} (hc : X.calm = true) (hN : X.N.Nodup) (hyl : X.env.scope.names.lookup y = some .local) (hsw : swapsWith (.ListComp elt [⟨tg, e, ifs, 0⟩] scope pos) (some (.Name y py)) spos.line X.env = pure true)
    (he : ME X E e f) (ok : BlkOk X.N X.env.scope scope own) (his : ∀ i ∈ is, i ∈ own.map (·.2))
    (hg : ∀ (s : Shared) (H : Hp) (C : Addr) (cl : List (Str × Addr)) (fp : List Addr), MG (X.blk s H scope (compEnvC scope cl C X.env) fp) tg is tm) (ht : ∀ (s : Shared) (H : Hp) (C : Addr) (cl : List (Str × Addr)) (fp : List Addr), MTs (X.blk s H scope (compEnvC scope cl C X.env) fp) E0 ifs tt)
    (hm : ∀ (s : Shared) (H : Hp) (C : Addr) (cl : List (Str × Addr)) (fp : List Addr), ME (X.blk s H scope (compEnvC scope cl C X.env) fp) E0 elt me) (hy : X.N[i]? = some y := by rfl) (hs : ∀ x, foldedSetIterable e X.env x = pure x := by intro _; rfl) :
    MS X E (.Assign [.Name y py] (.ListComp elt [⟨tg, e, ifs, 0⟩] scope pos) spos) (mSet i (mLc (own.map (·.2)) tm tt me f)) := by
  have h1 := ps_setLc (elt := elt) (g := denG X.K X.mg is tm) (tt := denT X.K X.mg E0 tt) (te := denE X.K X.mg E0 me) hc hN hy hyl hsw (pi_listZ (tg := tg) he) ok hg ht hm hs
  have h2 := ps_setLc (elt := elt) (g := denG X.K X.mg is tm) (tt := denT X.K X.mg E0 tt) (te := denE X.K X.mg E0 me) hc hN hy hyl hsw (pi_tupZ (tg := tg) he) ok hg ht hm hs
  refine ⟨fun pins s σ H D0 I hw => ?_⟩
  have hl : σ.length = X.N.length := I.len
  rcases den_lc his σ (fun v hv => by obtain ⟨p, hp, rfl⟩ := List.mem_map.mp hv; rw [hl]; exact (List.getElem?_eq_some_iff.mp (ok.ix p hp)).1) H _ (den_set D0 σ H hw) with q | q
  · exact h1.run pins s σ H D0 I q
  · exact h2.run pins s σ H D0 I q
end
end Mx

set_option Elab.async false
set_option linter.all false
set_option maxRecDepth 100000
namespace Mx
open PySem PySem.Spec PyProof.Rows L2

/-! ### reading scalars -/
section
variable {K : PySem.W.Frag} {mg : Mg} {G H : Hp} {v : V}
theorem rdb_bl {b : Bool} (h : Rdb K mg G H (.bl b) v) : v = .bl b := by simpa only [Rdb, Rep] using h
theorem rdb_str {x : Str} (h : Rdb K mg G H (.str x) v) : v = .str x := by simpa only [Rdb, Rep] using h
theorem rdb_non (h : Rdb K mg G H .non v) : v = .non := by simpa only [Rdb, Rep] using h
theorem rdb_lst {ds : List D} (h : Rdb K mg G H (.lst ds) v) : ∃ a vs, v = .ref a ∧ H a = some (.lst vs) ∧ Reps K mg G ds vs := by simpa only [Rdb] using h
theorem rdb_tup {ds : List D} (h : Rdb K mg G H (.tup ds) v) : ∃ a vs, v = .ref a ∧ SqT K G a vs ∧ Reps K mg G ds vs := by simpa only [Rdb, Rep] using h
theorem rdb_rol {ds : List D} (h : Rdb K mg G H (.rol ds) v) : ∃ a vs, v = .ref a ∧ SqL K G a vs ∧ Reps K mg G ds vs := by simpa only [Rdb, Rep] using h
theorem res_int {H' : Hp} {i : Int} : ResRep K mg H G H' (.sh (.int i)) (.int i) := by simp only [ResRep, Rep]
theorem res_bl {H' : Hp} {i : Bool} : ResRep K mg H G H' (.sh (.bl i)) (.bl i) := by simp only [ResRep, Rep]
theorem res_str {H' : Hp} {i : Str} : ResRep K mg H G H' (.sh (.str i)) (.str i) := by simp only [ResRep, Rep]
theorem res_non {H' : Hp} : ResRep K mg H G H' (.sh .non) .non := by simp only [ResRep, Rep]
end

/-! ### arithmetic -/
/-- an operator on ints alone -/
def dInt2 (C : Int → Int → Bool) (g : Int → Int → D) : D → D → Option Rv
  | .int i, .int j => if C i j = true then some (.sh (g i j)) else none
  | _, _ => none
theorem int2_some {C : Int → Int → Bool} {g : Int → Int → D} {x y : D} {r : Rv} (h : dInt2 C g x y = some r) : ∃ i j, x = .int i ∧ y = .int j ∧ C i j = true ∧ r = .sh (g i j) := by
  cases x with
  | int i =>
    cases y with
    | int j =>
      simp only [dInt2] at h
      by_cases c : C i j = true
      · rw [if_pos c] at h; cases h; exact ⟨i, j, rfl, rfl, c, rfl⟩
      · rw [if_neg c] at h; cases h
    | _ => cases h
  | _ => cases h
theorem opd_int {K : PySem.W.Frag} {mg : Mg} {P : Int → Int → Prop} {C : Int → Int → Bool} {g : Int → Int → V} {g' : Int → Int → D} (hC : ∀ i j, C i j = true → P i j) (hg : ∀ i j G, Rep K mg G (g' i j) (g i j)) : OpD K mg (rI P g) (dInt2 C g') := by
  intro G H x y dx dy res s hx hy h Q k
  obtain ⟨i, j, rfl, rfl, c, rfl⟩ := int2_some h
  exact ⟨i, j, rdb_int hx, rdb_int hy, hC i j c, k G H _ (New.refl s) (hg i j G)⟩
theorem opd_int0 {K : PySem.W.Frag} {mg : Mg} {g : Int → Int → V} {g' : Int → Int → D} (hg : ∀ i j G, Rep K mg G (g' i j) (g i j)) : OpD K mg (rI0 g) (dInt2 (fun _ _ => true) g') := by
  intro G H x y dx dy res s hx hy h Q k
  obtain ⟨i, j, rfl, rfl, c, rfl⟩ := int2_some h
  exact ⟨i, j, rdb_int hx, rdb_int hy, k G H _ (New.refl s) (hg i j G)⟩
theorem rep_int {K : PySem.W.Frag} {mg : Mg} {G : Hp} {i : Int} : Rep K mg G (.int i) (.int i) := by simp only [Rep]
abbrev dSub : D → D → Option Rv := dInt2 (fun _ _ => true) fun i j => .int (i - j)
def cDiv (i j : Int) : Bool := decide (0 < j ∧ j < 1073741824)
abbrev dFdiv : D → D → Option Rv := dInt2 cDiv fun i j => .int (i / j)
abbrev dMod : D → D → Option Rv := dInt2 (fun _ j => decide (0 < j)) fun i j => .int (i % j)
def cPow (i j : Int) : Bool := decide (0 ≤ j ∧ j ≤ 1000000 ∧ i.natAbs < 2 ^ 64)
abbrev dPow : D → D → Option Rv := dInt2 cPow fun i j => .int (i ^ j.toNat)
abbrev dLt : D → D → Option Rv := dInt2 (fun _ _ => true) fun i j => .bl (decide (i < j))
abbrev dLe : D → D → Option Rv := dInt2 (fun _ _ => true) fun i j => .bl (decide (i ≤ j))
abbrev dGt : D → D → Option Rv := dInt2 (fun _ _ => true) fun i j => .bl (decide (j < i))
abbrev dGe : D → D → Option Rv := dInt2 (fun _ _ => true) fun i j => .bl (decide (j ≤ i))
def cMul (i j : Int) : Bool := decide (i.natAbs.log2 + j.natAbs.log2 < 1000000)
abbrev dMulI : D → D → Option Rv := dInt2 cMul fun i j => .int (i * j)
theorem cDiv_ok {i j : Int} (h : cDiv i j = true) : CDiv i j := by
  unfold cDiv at h
  have q := of_decide_eq_true h
  exact q
theorem cPow_ok {i j : Int} (h : cPow i j = true) : CPow i j := by
  unfold cPow at h
  have q := of_decide_eq_true h
  exact q
theorem cMul_ok {i j : Int} (h : cMul i j = true) : CMulW i j := by
  unfold cMul at h
  have q := of_decide_eq_true h
  exact q
def dNeg : D → Option Rv
  | .int i => some (.sh (.int (-i)))
  | _ => none
section
variable {X : Cx} {E : XK} {a b c : Expr} {f g h : Mm} {pos : Pos}
theorem me_sub (ha : ME X E a f) (hb : ME X E b g) : ME X E (.BinOp a .Sub b pos) (mBin dSub f g) := me_bin op_sub (opd_int0 fun _ _ _ => rep_int) ha hb
theorem me_fdiv (ha : ME X E a f) (hb : ME X E b g) : ME X E (.BinOp a .FloorDiv b pos) (mBin dFdiv f g) := me_bin op_fdiv (opd_int (fun _ _ q => cDiv_ok q) fun _ _ _ => rep_int) ha hb
theorem me_mod (ha : ME X E a f) (hb : ME X E b g) : ME X E (.BinOp a .Mod b pos) (mBin dMod f g) := me_bin op_mod (opd_int (fun _ _ q => of_decide_eq_true q) fun _ _ _ => rep_int) ha hb
theorem me_pow (ha : ME X E a f) (hb : ME X E b g) : ME X E (.BinOp a .Pow b pos) (mBin dPow f g) := me_bin op_pow (opd_int (fun _ _ q => cPow_ok q) fun _ _ _ => rep_int) ha hb
theorem me_mulI (ha : ME X E a f) (hb : ME X E b g) : ME X E (.BinOp a .Mult b pos) (mBin dMulI f g) := me_bin op_mulW (opd_int (fun _ _ q => cMul_ok q) fun _ _ _ => rep_int) ha hb
theorem me_lt (ha : ME X E a f) (hb : ME X E b g) : ME X E (.Compare a [.Lt] [b] pos) (mBin dLt f g) := me_cmp op_lt (opd_int0 fun _ _ _ => bl_rep) ha hb (nomark _)
theorem me_le (ha : ME X E a f) (hb : ME X E b g) : ME X E (.Compare a [.LtE] [b] pos) (mBin dLe f g) := me_cmp op_le (opd_int0 fun _ _ _ => bl_rep) ha hb (nomark _)
theorem me_gt (ha : ME X E a f) (hb : ME X E b g) : ME X E (.Compare a [.Gt] [b] pos) (mBin dGt f g) := me_cmp op_gt (opd_int0 fun _ _ _ => bl_rep) ha hb (nomark _)
theorem me_ge (ha : ME X E a f) (hb : ME X E b g) : ME X E (.Compare a [.GtE] [b] pos) (mBin dGe f g) := me_cmp op_ge (opd_int0 fun _ _ _ => bl_rep) ha hb (nomark _)
theorem mt_lt (ha : ME X E a f) (hb : ME X E b g) : MT X E (.Compare a [.Lt] [b] pos) (mBin dLt f g) := mt_cmp op_lt (opd_int0 fun _ _ _ => bl_rep) ha hb (nomark _)
theorem mt_le (ha : ME X E a f) (hb : ME X E b g) : MT X E (.Compare a [.LtE] [b] pos) (mBin dLe f g) := mt_cmp op_le (opd_int0 fun _ _ _ => bl_rep) ha hb (nomark _)
theorem mt_gt (ha : ME X E a f) (hb : ME X E b g) : MT X E (.Compare a [.Gt] [b] pos) (mBin dGt f g) := mt_cmp op_gt (opd_int0 fun _ _ _ => bl_rep) ha hb (nomark _)
theorem mt_ge (ha : ME X E a f) (hb : ME X E b g) : MT X E (.Compare a [.GtE] [b] pos) (mBin dGe f g) := mt_cmp op_ge (opd_int0 fun _ _ _ => bl_rep) ha hb (nomark _)
theorem und_neg {K : PySem.W.Frag} {mg : Mg} : UnD K mg (rU fun i => .int (-i)) dNeg := by
  intro G H x dx res s hx h Q k
  cases dx with
  | int i => cases h; exact ⟨i, rdb_int hx, k G H _ (New.refl s) res_int⟩
  | _ => cases h
theorem me_neg (ha : ME X E a f) : ME X E (.UnaryOp .USub a pos) (mUn dNeg f) := me_un un_neg und_neg ha

/-! ### chains a < b < c -/
def mChain (p q : D → D → Option Rv) (f g h : Mm) : Mm := fun s => (f s).bind fun r1 s1 => (g s1).bind fun r2 s2 =>
  match rd s2 r1 with
  | some d1 => match rd s2 r2 with
    | some d2 => match p d1 d2 with
      | some (.sh (.bl true)) => (h s2).bind fun r3 s3 => match rd s3 r2 with
        | some d2' => match rd s3 r3 with
          | some d3 => match q d2' d3 with
            | some (.sh (.bl b)) => .ok (.sh (.bl b)) s3
            | _ => .no
          | none => .no
        | none => .no
      | some (.sh (.bl false)) => .ok (.sh (.bl false)) s2
      | _ => .no
    | none => .no
  | none => .no
def Bls (p : D → D → Option Rv) : Prop := ∀ x y r, p x y = some r → ∃ b, r = .sh (.bl b)
theorem bls_int {C : Int → Int → Bool} {g : Int → Int → Bool} : Bls (dInt2 C fun i j => .bl (g i j)) := fun x y r h => by
  obtain ⟨i, j, _, _, _, rfl⟩ := int2_some h
  exact ⟨_, rfl⟩
theorem den_chain {K : PySem.W.Frag} {mg : Mg} {r r' : R2} {p q : D → D → Option Rv} (hp : OpD K mg r p) (hq : OpD K mg r' q) (bp : Bls p) (bq : Bls q) (σ : L2.St) (H : Hp) (Q : VK) (hh : denE K mg E (mChain p q f g h) σ H Q) :
    tChain r r' (denE K mg E f) (denE K mg E g) (denE K mg E h) σ H Q := by
  obtain ⟨H0, G, L, pv, s, R, hh⟩ := hh
  refine den_mono _ _ _ _ (fun x H1 ⟨G1, L1, r1, s1, A1, h1⟩ => ?_) (go_bind R hh)
  refine den_mono _ _ _ _ (fun y H2 ⟨G2, L2, r2, s2, A2, h2⟩ => ?_) (go_bind A1.R h1)
  have w1 := A1.r.ext A2.e
  cases e1 : rd s2 r1 with
  | none => rw [e1] at h2; exact h2.elim
  | some d1 =>
    cases e2 : rd s2 r2 with
    | none => rw [e1, e2] at h2; exact h2.elim
    | some d2 =>
      rw [e1, e2] at h2
      simp only at h2
      cases e3 : p d1 d2 with
      | none => rw [e3] at h2; exact h2.elim
      | some res =>
        obtain ⟨b, rfl⟩ := bp _ _ _ e3
        rw [e3] at h2
        refine hp G2 H2 x y d1 d2 _ A2.R.same (rd_ok A2.R w1 e1) (rd_ok A2.R A2.r e2) e3 _ fun G3 H3 v n rr => ⟨b, by simpa only [ResRep, Rep] using rr, ?_⟩
        cases b with
        | false =>
          rw [if_neg Bool.false_ne_true]
          exact Go.fin A2.R h2 n (by simp only [ResRep, Rep])
        | true =>
          rw [if_pos rfl]
          have h3 := Go.base h2 (n.ext (L := L2))
          refine den_mono _ _ _ _ (fun z H4 ⟨G4, L4, r4, s4, A4, h4⟩ => ?_) (go_bind (A2.R.new n) h3)
          have w2 := (A2.r.ext (n.ext (L := L2))).ext A4.e
          cases e4 : rd s4 r2 with
          | none => rw [e4] at h4; exact h4.elim
          | some d4 =>
            rw [e4] at h4
            simp only at h4
            cases e5 : rd s4 r4 with
            | none => rw [e5] at h4; exact h4.elim
            | some d5 =>
              rw [e5] at h4
              simp only at h4
              cases e6 : q d4 d5 with
              | none => rw [e6] at h4; exact h4.elim
              | some res =>
                obtain ⟨c, rfl⟩ := bq _ _ _ e6
                rw [e6] at h4
                exact hq G4 H4 y z d4 d5 _ A4.R.same (rd_ok A4.R w2 e4) (rd_ok A4.R A4.r e5) e6 Q fun G5 H5 v n5 rr5 => Go.fin A4.R h4 n5 rr5
theorem me_chain {o o' : CmpOp} {r r' : R2} {p q : D → D → Option Rv} (ho : OpR X (compareOp o) r) (ho' : OpR X (compareOp o') r') (hp : OpD X.K X.mg r p) (hq : OpD X.K X.mg r' q) (bp : Bls p) (bq : Bls q) (ha : ME X E a f) (hb : ME X E b g) (hc : ME X E c h)
    (hm : lastMarks [o, o'] [b, c] = false := by with_unfolding_all rfl) : ME X E (.Compare a [o, o'] [b, c] pos) (mChain p q f g h) := PE.imp (pe_chain ho ho' ha hb hc hm) (den_chain hp hq bp bq)
theorem mt_chain {o o' : CmpOp} {r r' : R2} {p q : D → D → Option Rv} (ho : OpR X (compareOp o) r) (ho' : OpR X (compareOp o') r') (hp : OpD X.K X.mg r p) (hq : OpD X.K X.mg r' q) (bp : Bls p) (bq : Bls q) (ha : ME X E a f) (hb : ME X E b g) (hc : ME X E c h)
    (hm : lastMarks [o, o'] [b, c] = false := by with_unfolding_all rfl) : MT X E (.Compare a [o, o'] [b, c] pos) (mChain p q f g h) := PT.imp (pt_chain ho ho' ha hb hc hm) fun σ H Q hh => den_chain hp hq bp bq σ H _ hh
/-- a op b op' c of ints, by the operators' names -/
structure IntCmp (X : Cx) (o : CmpOp) (p : D → D → Option Rv) : Prop where
  ex : ∃ r, OpR X (compareOp o) r ∧ OpD X.K X.mg r p ∧ Bls p
theorem ic_lt : IntCmp X .Lt dLt := ⟨_, op_lt, opd_int0 fun _ _ _ => bl_rep, bls_int⟩
theorem ic_le : IntCmp X .LtE dLe := ⟨_, op_le, opd_int0 fun _ _ _ => bl_rep, bls_int⟩
theorem ic_gt : IntCmp X .Gt dGt := ⟨_, op_gt, opd_int0 fun _ _ _ => bl_rep, bls_int⟩
theorem ic_ge : IntCmp X .GtE dGe := ⟨_, op_ge, opd_int0 fun _ _ _ => bl_rep, bls_int⟩
theorem me_ch {o o' : CmpOp} {p q : D → D → Option Rv} (h1 : IntCmp X o p) (h2 : IntCmp X o' q) (ha : ME X E a f) (hb : ME X E b g) (hc : ME X E c h) (hm : lastMarks [o, o'] [b, c] = false := by with_unfolding_all rfl) :
    ME X E (.Compare a [o, o'] [b, c] pos) (mChain p q f g h) := by
  obtain ⟨r, a1, a2, a3⟩ := h1.ex
  obtain ⟨r', b1, b2, b3⟩ := h2.ex
  exact me_chain a1 b1 a2 b2 a3 b3 ha hb hc hm
theorem mt_ch {o o' : CmpOp} {p q : D → D → Option Rv} (h1 : IntCmp X o p) (h2 : IntCmp X o' q) (ha : ME X E a f) (hb : ME X E b g) (hc : ME X E c h) (hm : lastMarks [o, o'] [b, c] = false := by with_unfolding_all rfl) :
    MT X E (.Compare a [o, o'] [b, c] pos) (mChain p q f g h) := by
  obtain ⟨r, a1, a2, a3⟩ := h1.ex
  obtain ⟨r', b1, b2, b3⟩ := h2.ex
  exact mt_chain a1 b1 a2 b2 a3 b3 ha hb hc hm
end

/-! ### + of ints, texts, lists, tuples -/
def dAdd : D → D → Option Rv
  | .int i, .int j => some (.sh (.int (i + j)))
  | .str x, .str y => if x.length + y.length ≤ 16777216 then some (.sh (.str (x ++ y))) else none
  | .lst x, .lst y => if x.length + y.length ≤ 16777216 then some (.fr (.lst (x ++ y))) else none
  | .tup x, .tup y => if x.length + y.length ≤ 16777216 then some (.sh (.tup (x ++ y))) else none
  | _, _ => none
def rAddA (K : PySem.W.Frag) : R2 := fun x y H Q => (rI0 (fun i j => .int (i + j)) x y H Q ∨ (∃ i j, x = .str i ∧ y = .str j ∧ i.length + j.length ≤ sizeLine ∧ Q (.str (i ++ j)) H)) ∨ (rCat x y H Q ∨ rCatA K x y H Q)
theorem line_eq : (16777216 : Nat) = sizeLine := by rw [sizeLine_eq]
theorem opd_add {K : PySem.W.Frag} {mg : Mg} : OpD K mg (rAddA K) dAdd := by
  intro G H x y dx dy res s hx hy h Q k
  cases dx with
  | int i =>
    cases dy with
    | int j => cases h; exact .inl (.inl ⟨i, j, rdb_int hx, rdb_int hy, k G H _ (New.refl s) res_int⟩)
    | _ => cases h
  | str i =>
    cases dy with
    | str j =>
      simp only [dAdd] at h
      by_cases c : i.length + j.length ≤ 16777216
      · rw [if_pos c] at h; cases h; exact .inl (.inr ⟨i, j, rdb_str hx, rdb_str hy, by rw [sizeLine_eq]; exact c, k G H _ (New.refl s) res_str⟩)
      · rw [if_neg c] at h; cases h
    | _ => cases h
  | lst i =>
    cases dy with
    | lst j =>
      simp only [dAdd] at h
      by_cases c : i.length + j.length ≤ 16777216
      · rw [if_pos c] at h
        cases h
        obtain ⟨a, vs, rfl, e1, r1⟩ := rdb_lst hx
        obtain ⟨b, us, rfl, e2, r2⟩ := rdb_lst hy
        refine .inr (.inl ⟨a, b, vs, us, rfl, rfl, e1, e2, by rw [sizeLine_eq, ← r1.len, ← r2.len]; exact c, fun p hp => ?_⟩)
        exact k G _ _ (New.obj s hp) (own_lst s hp (r1.append r2))
      · rw [if_neg c] at h; cases h
    | _ => cases h
  | tup i =>
    cases dy with
    | tup j =>
      simp only [dAdd] at h
      by_cases c : i.length + j.length ≤ 16777216
      · rw [if_pos c] at h
        cases h
        obtain ⟨a, vs, rfl, e1, r1⟩ := rdb_tup hx
        obtain ⟨b, us, rfl, e2, r2⟩ := rdb_tup hy
        refine .inr (.inr ⟨a, b, vs, us, rfl, rfl, Same.tseq s e1, Same.tseq s e2, by rw [sizeLine_eq, ← r1.len, ← r2.len]; exact c, fun z => ?_, fun _ z => ?_, fun _ _ p hp => ?_⟩)
        · subst z
          have := r1.len
          have z2 : i = [] := List.eq_nil_of_length_eq_zero this
          subst z2
          refine k G H _ (New.refl s) ?_
          simp only [ResRep, Rep, List.nil_append]
          exact ⟨b, us, rfl, e2, r2⟩
        · subst z
          have := r2.len
          have z2 : j = [] := List.eq_nil_of_length_eq_zero this
          subst z2
          refine k G H _ (New.refl s) ?_
          simp only [ResRep, Rep, List.append_nil]
          exact ⟨a, vs, rfl, e1, r1⟩
        · exact k _ _ _ (New.tup s hp) (rep_tup s hp (r1.append r2))
      · rw [if_neg c] at h; cases h
    | _ => cases h
  | _ => cases h
section
variable {X : Cx} {E : XK} {a b c : Expr} {f g h : Mm} {pos : Pos}
theorem op_addA : OpR X (binaryOp .Add) (rAddA X.K) := (op_add.or op_add_str).or (op_cat.or op_catA)
theorem me_add (ha : ME X E a f) (hb : ME X E b g) : ME X E (.BinOp a .Add b pos) (mBin dAdd f g) := me_bin op_addA opd_add ha hb
end

/-! ### == -/
mutual
def D.py : D → Option PyData
  | .non => some .none
  | .bl b => some (.bool b)
  | .int i => some (.int i)
  | .str x => some (.str x)
  | .lst xs => match D.pys xs with
    | some ds => some (.list ds)
    | none => none
  | .rol xs => match D.pys xs with
    | some ds => some (.list ds)
    | none => none
  | .tup xs => match D.pys xs with
    | some ds => some (.tuple ds)
    | none => none
  | .dic _ => none
  | .exc _ _ => none
def D.pys : List D → Option (List PyData)
  | [] => some []
  | x :: xs => match D.py x with
    | some d => match D.pys xs with
      | some ds => some (d :: ds)
      | none => none
    | none => none
end
section
variable {K : PySem.W.Frag} {mg : Mg} {G H : Hp}
mutual
theorem py_dp (s : Same G H) : ∀ (d : D) (p : PyData) (v : V), D.py d = some p → Rep K mg G d v → Dp K H v p
  | .non, p, v, h, r => by simp only [D.py, Option.some.injEq] at h; subst h; simp only [Rep] at r; subst r; exact .non
  | .bl b, p, v, h, r => by simp only [D.py, Option.some.injEq] at h; subst h; simp only [Rep] at r; subst r; exact .bl _
  | .int b, p, v, h, r => by simp only [D.py, Option.some.injEq] at h; subst h; simp only [Rep] at r; subst r; exact .int _
  | .str b, p, v, h, r => by simp only [D.py, Option.some.injEq] at h; subst h; simp only [Rep] at r; subst r; exact .str _
  | .lst xs, p, v, h, r => by
    simp only [D.py] at h
    cases e : D.pys xs with
    | none => rw [e] at h; cases h
    | some ds =>
      rw [e] at h
      simp only [Option.some.injEq] at h
      subst h
      simp only [Rep] at r
      obtain ⟨a, vs, rfl, q, rs⟩ := r
      exact .lst (.inl (.inl (s _ _ q))) (pys_dp s xs ds vs e rs)
  | .rol xs, p, v, h, r => by
    simp only [D.py] at h
    cases e : D.pys xs with
    | none => rw [e] at h; cases h
    | some ds =>
      rw [e] at h
      simp only [Option.some.injEq] at h
      subst h
      simp only [Rep] at r
      obtain ⟨a, vs, rfl, q, rs⟩ := r
      exact .lst (s.seq q) (pys_dp s xs ds vs e rs)
  | .tup xs, p, v, h, r => by
    simp only [D.py] at h
    cases e : D.pys xs with
    | none => rw [e] at h; cases h
    | some ds =>
      rw [e] at h
      simp only [Option.some.injEq] at h
      subst h
      simp only [Rep] at r
      obtain ⟨a, vs, rfl, q, rs⟩ := r
      exact .tup (Same.tseq s q) (pys_dp s xs ds vs e rs)
  | .dic _, p, v, h, r => by simp [D.py] at h
  | .exc _ _, p, v, h, r => by simp [D.py] at h
theorem pys_dp (s : Same G H) : ∀ (ds : List D) (ps : List PyData) (vs : List V), D.pys ds = some ps → Reps K mg G ds vs → DpAll K H vs ps
  | [], ps, vs, h, r => by simp only [D.pys, Option.some.injEq] at h; subst h; simp only [Reps] at r; subst r; exact .nil
  | d :: ds, ps, vs, h, r => by
    simp only [D.pys] at h
    simp only [Reps] at r
    obtain ⟨v, rest, rfl, r1, r2⟩ := r
    cases e : D.py d with
    | none => rw [e] at h; cases h
    | some p =>
      rw [e] at h
      simp only at h
      cases e2 : D.pys ds with
      | none => rw [e2] at h; cases h
      | some ps' =>
        rw [e2] at h
        simp only [Option.some.injEq] at h
        subst h
        exact .cons (py_dp s d p v e r1) (pys_dp s ds ps' rest e2 r2)
end
theorem rdb_dp (s : Same G H) {d : D} {p : PyData} {v : V} (h : D.py d = some p) (r : Rdb K mg G H d v) : Dp K H v p := by
  cases d with
  | lst xs =>
    obtain ⟨a, vs, rfl, q, rs⟩ := rdb_lst r
    simp only [D.py] at h
    cases e : D.pys xs with
    | none => rw [e] at h; cases h
    | some ds =>
      rw [e] at h
      simp only [Option.some.injEq] at h
      subst h
      exact .lst (.inl (.inl q)) (pys_dp s xs ds vs e rs)
  | dic kvs => simp [D.py] at h
  | _ => exact py_dp (K := K) (mg := mg) (G := G) s _ p v h r
end
/-- an item's == is not asked where one side is empty -/
def dEqB : D → D → Option Bool
  | .lst xs, .lst [] => some xs.isEmpty
  | .lst [], .lst ys => some ys.isEmpty
  | .tup xs, .tup [] => some xs.isEmpty
  | .tup [], .tup ys => some ys.isEmpty
  | x, y => match D.py x with
    | some p => match D.py y with
      | some q => if SeqAt.shaped p = true ∧ SeqAt.shaped q = true then some (PyData.eqv p q) else none
      | none => none
    | none => none
def dEq1 (x y : D) : Option Rv := match dEqB x y with
  | some b => some (.sh (.bl b))
  | none => none
def dNe1 (x y : D) : Option Rv := match dEqB x y with
  | some b => some (.sh (.bl (!b)))
  | none => none
/-- two sequences of which one is empty -/
def rEq0 (K : PySem.W.Frag) (neg : Bool) : R2 := fun x y H Q => ∃ a b xs ys, x = .ref a ∧ y = .ref b ∧ ((SqL K H a xs ∧ SqL K H b ys) ∨ (SqT K H a xs ∧ SqT K H b ys)) ∧ (xs = [] ∨ ys = []) ∧ Q (.bl (neg ^^ (xs.isEmpty && ys.isEmpty))) H
section
variable {X : Cx} {E : XK} {a b c : Expr} {f g h : Mm} {pos : Pos}
theorem empty_size {xs : List V} {its : List Value} (r : Vals xs its) : its.toArray.size = xs.length := by rw [List.size_toArray, r.length]
theorem op_eq0 (hu : X.A.units < cLine) : OpR X (compareOp .Eq) (rEq0 X.K false) := by
  intro pins s σ H x y v u Q I rx ry h
  obtain ⟨a, b, xs, ys, rfl, rfl, hs, h0, q⟩ := h
  cases rx
  cases ry
  rcases hs with ⟨h1, h2⟩ | ⟨h1, h2⟩
  · obtain ⟨i1, r1, p1, z1⟩ := I.list h1
    obtain ⟨i2, r2, p2, z2⟩ := I.list h2
    have n1 := empty_size r1
    have n2 := empty_size r2
    by_cases e : xs.length = ys.length
    · have e1 : xs = [] := by rcases h0 with z | z; exact z; exact List.eq_nil_of_length_eq_zero (by rw [e, z]; rfl)
      have e2 : ys = [] := List.eq_nil_of_length_eq_zero (by rw [← e, e1]; rfl)
      refine SeqAt.RcAt.lists p1.isList p2.isList (e := fun _ => true) (by rw [n1, n2, e]) hu (fun j z _ => by rw [n1, e1] at z; exact absurd z (by simp)) _ _ _ _ ⟨.bl true, H, I, ?_, ?_⟩
      · show Value.bool _ = Value.bool true
        rw [n1, e1]; rfl
      · subst e1 e2; exact q
    · refine SeqAt.RcAt.lists_lengths p1.isList p2.isList (by rw [n1, n2]; simpa using e) hu _ _ _ _ ⟨.bl false, H, I, rfl, ?_⟩
      have : (xs.isEmpty && ys.isEmpty) = false := by
        cases xs <;> cases ys <;> first | rfl | exact absurd rfl e
      rw [this] at q; exact q
  · obtain ⟨i1, r1, p1, z1⟩ := I.tuple h1
    obtain ⟨i2, r2, p2, z2⟩ := I.tuple h2
    have n1 := empty_size r1
    have n2 := empty_size r2
    have m : min i1.toArray.size i2.toArray.size = 0 := by
      rw [n1, n2]
      rcases h0 with z | z <;> subst z <;> simp
    refine SeqAt.RcAt.tuples p1 p2 (e := fun _ => true) hu (fun j z1 z2 => by omega) _ _ _ _ ⟨.bl (xs.isEmpty && ys.isEmpty), H, I, ?_, by simpa using q⟩
    show Value.bool _ = Value.bool _
    rw [m, n1, n2]
    rcases h0 with z | z <;> subst z
    · cases ys <;> rfl
    · cases xs <;> rfl
theorem op_ne0 (hu : X.A.units < cLine) : OpR X (compareOp .NotEq) (rEq0 X.K true) := by
  intro pins s σ H x y v u Q I rx ry h
  obtain ⟨a, b, xs, ys, rfl, rfl, hs, h0, q⟩ := h
  cases rx
  cases ry
  rcases hs with ⟨h1, h2⟩ | ⟨h1, h2⟩
  · obtain ⟨i1, r1, p1, z1⟩ := I.list h1
    obtain ⟨i2, r2, p2, z2⟩ := I.list h2
    have n1 := empty_size r1
    have n2 := empty_size r2
    by_cases e : xs.length = ys.length
    · have e1 : xs = [] := by rcases h0 with z | z; exact z; exact List.eq_nil_of_length_eq_zero (by rw [e, z]; rfl)
      have e2 : ys = [] := List.eq_nil_of_length_eq_zero (by rw [← e, e1]; rfl)
      refine SeqAt.RcNeAt.lists p1.isList p2.isList (e := fun _ => true) (by rw [n1, n2, e]) hu (fun j z _ => by rw [n1, e1] at z; exact absurd z (by simp)) _ _ _ _ ⟨.bl false, H, I, ?_, ?_⟩
      · show Value.bool _ = Value.bool false
        rw [n1, e1]; rfl
      · subst e1 e2; exact q
    · refine SeqAt.RcNeAt.lists_lengths p1.isList p2.isList (by rw [n1, n2]; simpa using e) hu _ _ _ _ ⟨.bl true, H, I, rfl, ?_⟩
      have : (xs.isEmpty && ys.isEmpty) = false := by
        cases xs <;> cases ys <;> first | rfl | exact absurd rfl e
      rw [this] at q; exact q
  · obtain ⟨i1, r1, p1, z1⟩ := I.tuple h1
    obtain ⟨i2, r2, p2, z2⟩ := I.tuple h2
    have n1 := empty_size r1
    have n2 := empty_size r2
    have m : min i1.toArray.size i2.toArray.size = 0 := by
      rw [n1, n2]
      rcases h0 with z | z <;> subst z <;> simp
    refine SeqAt.RcNeAt.tuples p1 p2 (e := fun _ => true) hu (fun j z1 z2 => by omega) _ _ _ _ ⟨.bl (!(xs.isEmpty && ys.isEmpty)), H, I, ?_, by simpa using q⟩
    show Value.bool _ = Value.bool _
    rw [m, n1, n2]
    rcases h0 with z | z <;> subst z
    · cases ys <;> rfl
    · cases xs <;> rfl
theorem dEqB_cases {x y : D} {r : Bool} (h : dEqB x y = some r) :
    (∃ xs ys, ((x = .lst xs ∧ y = .lst ys) ∨ (x = .tup xs ∧ y = .tup ys)) ∧ (xs = [] ∨ ys = []) ∧ r = (xs.isEmpty && ys.isEmpty)) ∨
    (∃ p q, D.py x = some p ∧ D.py y = some q ∧ SeqAt.shaped p = true ∧ SeqAt.shaped q = true ∧ r = PyData.eqv p q) := by
  unfold dEqB at h
  split at h
  · cases h; exact .inl ⟨_, _, .inl ⟨rfl, rfl⟩, .inr rfl, by simp⟩
  · cases h; exact .inl ⟨_, _, .inl ⟨rfl, rfl⟩, .inl rfl, by simp⟩
  · cases h; exact .inl ⟨_, _, .inr ⟨rfl, rfl⟩, .inr rfl, by simp⟩
  · cases h; exact .inl ⟨_, _, .inr ⟨rfl, rfl⟩, .inl rfl, by simp⟩
  · right
    cases e1 : D.py x with
    | none => rw [e1] at h; cases h
    | some p =>
      rw [e1] at h
      simp only at h
      cases e2 : D.py y with
      | none => rw [e2] at h; cases h
      | some q =>
        rw [e2] at h
        simp only at h
        by_cases c : SeqAt.shaped p = true ∧ SeqAt.shaped q = true
        · rw [if_pos c] at h; cases h; exact ⟨p, q, rfl, rfl, c.1, c.2, rfl⟩
        · rw [if_neg c] at h; cases h
theorem opd_eq0 {K : PySem.W.Frag} {mg : Mg} {neg : Bool} {rD : R2} {G H : Hp} {x y : V} {dx dy : D} {r : Bool} (s : Same G H) (hx : Rdb K mg G H dx x) (hy : Rdb K mg G H dy y) (h : dEqB dx dy = some r) {Q : VK} (q : Q (.bl (neg ^^ r)) H)
    (hD : ∀ p p', Dp K H x p → Dp K H y p' → SeqAt.shaped p = true → SeqAt.shaped p' = true → Q (.bl (neg ^^ PyData.eqv p p')) H → rD x y H Q) : rEq0 K neg x y H Q ∨ rD x y H Q := by
  rcases dEqB_cases h with ⟨xs, ys, hh, h0, rfl⟩ | ⟨p, p', e1, e2, s1, s2, rfl⟩
  · left
    rcases hh with ⟨rfl, rfl⟩ | ⟨rfl, rfl⟩
    · obtain ⟨a, vs, rfl, q1, r1⟩ := rdb_lst hx
      obtain ⟨b, us, rfl, q2, r2⟩ := rdb_lst hy
      have l1 := r1.len
      have l2 := r2.len
      refine ⟨a, b, vs, us, rfl, rfl, .inl ⟨.inl (.inl q1), .inl (.inl q2)⟩, ?_, ?_⟩
      · rcases h0 with z | z
        · left; subst z; exact List.eq_nil_of_length_eq_zero l1.symm
        · right; subst z; exact List.eq_nil_of_length_eq_zero l2.symm
      · have e1 : vs.isEmpty = xs.isEmpty := by cases vs <;> cases xs <;> first | rfl | cases l1
        have e2 : us.isEmpty = ys.isEmpty := by cases us <;> cases ys <;> first | rfl | cases l2
        rw [e1, e2]; exact q
    · obtain ⟨a, vs, rfl, q1, r1⟩ := rdb_tup hx
      obtain ⟨b, us, rfl, q2, r2⟩ := rdb_tup hy
      have l1 := r1.len
      have l2 := r2.len
      refine ⟨a, b, vs, us, rfl, rfl, .inr ⟨Same.tseq s q1, Same.tseq s q2⟩, ?_, ?_⟩
      · rcases h0 with z | z
        · left; subst z; exact List.eq_nil_of_length_eq_zero l1.symm
        · right; subst z; exact List.eq_nil_of_length_eq_zero l2.symm
      · have e1 : vs.isEmpty = xs.isEmpty := by cases vs <;> cases xs <;> first | rfl | cases l1
        have e2 : us.isEmpty = ys.isEmpty := by cases us <;> cases ys <;> first | rfl | cases l2
        rw [e1, e2]; exact q
  · exact .inr (hD p p' (rdb_dp s e1 hx) (rdb_dp s e2 hy) s1 s2 q)
theorem opd_eq1 {K : PySem.W.Frag} {mg : Mg} : OpD K mg (fun x y H Q => rEq0 K false x y H Q ∨ rEqD K x y H Q) dEq1 := by
  intro G H x y dx dy res s hx hy h Q k
  unfold dEq1 at h
  cases e : dEqB dx dy with
  | none => rw [e] at h; cases h
  | some b =>
    rw [e] at h
    cases h
    exact opd_eq0 s hx hy e (by simpa using k G H _ (New.refl s) res_bl) fun p p' d1 d2 s1 s2 q => ⟨p, p', d1, d2, s1, s2, by simpa using q⟩
theorem opd_ne1 {K : PySem.W.Frag} {mg : Mg} : OpD K mg (fun x y H Q => rEq0 K true x y H Q ∨ rNeD K x y H Q) dNe1 := by
  intro G H x y dx dy res s hx hy h Q k
  unfold dNe1 at h
  cases e : dEqB dx dy with
  | none => rw [e] at h; cases h
  | some b =>
    rw [e] at h
    cases h
    exact opd_eq0 s hx hy e (by simpa using k G H _ (New.refl s) res_bl) fun p p' d1 d2 s1 s2 q => ⟨p, p', d1, d2, s1, s2, by simpa using q⟩
def dStrB (p : Bool → Bool) : D → D → Option Rv
  | .str x, .str y => some (.sh (.bl (p (x == y))))
  | _, _ => none
def dEq (a b : D) : Option Rv := match dStrB id a b with
  | some r => some r
  | none => dEq1 a b
def dNe (a b : D) : Option Rv := match dStrB not a b with
  | some r => some r
  | none => dNe1 a b
theorem dStrB_some {p : Bool → Bool} {a b : D} {r : Rv} (h : dStrB p a b = some r) : ∃ x y, a = .str x ∧ b = .str y ∧ r = .sh (.bl (p (x == y))) := by
  unfold dStrB at h
  split at h
  · cases h; exact ⟨_, _, rfl, rfl, rfl⟩
  · cases h
theorem opd_eq {K : PySem.W.Frag} {mg : Mg} : OpD K mg (fun x y H Q => rEq x y H Q ∨ (rEq0 K false x y H Q ∨ rEqD K x y H Q)) dEq := by
  intro G H x y dx dy res s hx hy h Q k
  unfold dEq at h
  cases e : dStrB id dx dy with
  | some r =>
    rw [e] at h
    cases h
    obtain ⟨u, v, rfl, rfl, rfl⟩ := dStrB_some e
    have e1 := rdb_str hx
    have e2 := rdb_str hy
    subst e1 e2
    exact .inl ⟨rfl, by rw [dec_str]; exact k G H _ (New.refl s) res_bl⟩
  | none => rw [e] at h; exact .inr (opd_eq1 G H x y dx dy res s hx hy h Q k)
theorem opd_ne {K : PySem.W.Frag} {mg : Mg} : OpD K mg (fun x y H Q => rNe x y H Q ∨ (rEq0 K true x y H Q ∨ rNeD K x y H Q)) dNe := by
  intro G H x y dx dy res s hx hy h Q k
  unfold dNe at h
  cases e : dStrB not dx dy with
  | some r =>
    rw [e] at h
    cases h
    obtain ⟨u, v, rfl, rfl, rfl⟩ := dStrB_some e
    have e1 := rdb_str hx
    have e2 := rdb_str hy
    subst e1 e2
    exact .inl ⟨rfl, by rw [dec_str]; exact k G H _ (New.refl s) res_bl⟩
  | none => rw [e] at h; exact .inr (opd_ne1 G H x y dx dy res s hx hy h Q k)
theorem me_eq {k : Nat} (hr : Room k X.A) (ha : ME X E a f) (hb : ME X E b g) : ME X E (.Compare a [.Eq] [b] pos) (mBin dEq f g) := me_cmp (op_eq.or ((op_eq0 hr.units0).or (op_eqD hr.units))) opd_eq ha hb (nomark _)
theorem me_ne {k : Nat} (hr : Room k X.A) (ha : ME X E a f) (hb : ME X E b g) : ME X E (.Compare a [.NotEq] [b] pos) (mBin dNe f g) := me_cmp (op_ne.or ((op_ne0 hr.units0).or (op_neD hr.units))) opd_ne ha hb (nomark _)
theorem mt_eq {k : Nat} (hr : Room k X.A) (ha : ME X E a f) (hb : ME X E b g) : MT X E (.Compare a [.Eq] [b] pos) (mBin dEq f g) := mt_cmp (op_eq.or ((op_eq0 hr.units0).or (op_eqD hr.units))) opd_eq ha hb (nomark _)
theorem mt_ne {k : Nat} (hr : Room k X.A) (ha : ME X E a f) (hb : ME X E b g) : MT X E (.Compare a [.NotEq] [b] pos) (mBin dNe f g) := mt_cmp (op_ne.or ((op_ne0 hr.units0).or (op_neD hr.units))) opd_ne ha hb (nomark _)

/-! ### is None, is True -/
def dIsNon : D → Bool
  | .non => true
  | _ => false
theorem rdb_non_iff {K : PySem.W.Frag} {mg : Mg} {G H : Hp} {x : D} {v : V} (h : Rdb K mg G H x v) : decide (v = .non) = dIsNon x := by
  cases x with
  | non => rw [rdb_non h]; rfl
  | bl b => rw [rdb_bl h]; rfl
  | int b => rw [rdb_int h]; rfl
  | str b => rw [rdb_str h]; rfl
  | lst xs => obtain ⟨a, vs, rfl, _⟩ := rdb_lst h; rfl
  | tup xs => obtain ⟨a, vs, rfl, _⟩ := rdb_tup h; rfl
  | rol xs => obtain ⟨a, vs, rfl, _⟩ := rdb_rol h; rfl
  | dic xs => simp only [Rdb] at h; obtain ⟨a, vs, rfl, _⟩ := h; rfl
  | exc c fs => simp only [Rdb, Rep] at h; obtain ⟨a, C, d, vs, rfl, _⟩ := h; rfl
def dIsNone : D → D → Option Rv
  | x, .non => some (.sh (.bl (dIsNon x)))
  | .bl a, .bl b => some (.sh (.bl (decide (a = b))))
  | _, _ => none
def dNotNone : D → D → Option Rv
  | x, .non => some (.sh (.bl (!dIsNon x)))
  | .bl a, .bl b => some (.sh (.bl (!decide (a = b))))
  | _, _ => none
theorem opd_is {K : PySem.W.Frag} {mg : Mg} : OpD K mg (fun x y H Q => (y = .non ∧ Q (.bl (decide (x = .non))) H) ∨ rIsB x y H Q) dIsNone := by
  intro G H x y dx dy res s hx hy h Q k
  unfold dIsNone at h
  split at h
  · cases h
    exact .inl ⟨rdb_non hy, by rw [rdb_non_iff hx]; exact k G H _ (New.refl s) res_bl⟩
  · cases h
    exact .inr ⟨_, _, rdb_bl hx, rdb_bl hy, k G H _ (New.refl s) res_bl⟩
  · cases h
theorem opd_not {K : PySem.W.Frag} {mg : Mg} : OpD K mg (fun x y H Q => (y = .non ∧ Q (.bl (!decide (x = .non))) H) ∨ rNotB x y H Q) dNotNone := by
  intro G H x y dx dy res s hx hy h Q k
  unfold dNotNone at h
  split at h
  · cases h
    exact .inl ⟨rdb_non hy, by rw [rdb_non_iff hx]; exact k G H _ (New.refl s) res_bl⟩
  · cases h
    exact .inr ⟨_, _, rdb_bl hx, rdb_bl hy, k G H _ (New.refl s) res_bl⟩
  · cases h
theorem me_is (ha : ME X E a f) (hb : ME X E b g) : ME X E (.Compare a [.Is] [b] pos) (mBin dIsNone f g) := me_cmp (op_isN.or op_isBl) opd_is ha hb (nomark _)
theorem mt_is (ha : ME X E a f) (hb : ME X E b g) : MT X E (.Compare a [.Is] [b] pos) (mBin dIsNone f g) := mt_cmp (op_isN.or op_isBl) opd_is ha hb (nomark _)
theorem me_isnot (ha : ME X E a f) (hb : ME X E b g) : ME X E (.Compare a [.IsNot] [b] pos) (mBin dNotNone f g) := me_cmp (op_notN.or op_notBl) opd_not ha hb (nomark _)
theorem mt_isnot (ha : ME X E a f) (hb : ME X E b g) : MT X E (.Compare a [.IsNot] [b] pos) (mBin dNotNone f g) := mt_cmp (op_notN.or op_notBl) opd_not ha hb (nomark _)
end
end Mx

set_option Elab.async false
set_option linter.all false
set_option maxRecDepth 100000
namespace Mx
open PySem PySem.Spec PyProof.Rows L2

/-! ### a[i] -/
def sh? : Option D → Option Rv
  | some d => some (.sh d)
  | none => none
def dIx : D → D → Option Rv
  | .lst ds, .int i => sh? (atI ds i)
  | .rol ds, .int i => sh? (atI ds i)
  | .tup ds, .int i => sh? (atI ds i)
  | .str z, .int i => if z.length ≤ 16777216 then (match atI z.cps.toList i with
    | some c => some (.sh (.str ⟨#[c]⟩))
    | none => none) else none
  | _, _ => none
theorem atI_rep {K : PySem.W.Frag} {mg : Mg} {G : Hp} {ds : List D} {vs : List V} {i : Int} {d : D} (r : Reps K mg G ds vs) (h : atI ds i = some d) : ∃ v, atI vs i = some v ∧ Rep K mg G d v := by
  unfold atI at h ⊢
  rw [← r.len]
  cases e : ixN ds.length i with
  | none => rw [e] at h; cases h
  | some j =>
    rw [e] at h
    exact r.get h
theorem sh?_some {o : Option D} {r : Rv} (h : sh? o = some r) : ∃ d, o = some d ∧ r = .sh d := by
  cases o with
  | none => cases h
  | some d => cases h; exact ⟨d, rfl, rfl⟩
theorem opd_ix {K : PySem.W.Frag} {mg : Mg} : OpD K mg (rIx K) dIx := by
  intro G H x y dx dy res s hx hy h Q k
  cases dy with
  | int i =>
    cases dx with
    | lst ds =>
      obtain ⟨d, e, rfl⟩ := sh?_some h
      obtain ⟨a, vs, rfl, q, r⟩ := rdb_lst hx
      obtain ⟨v, e1, r1⟩ := atI_rep r e
      exact .inl ⟨a, vs, i, v, rfl, rdb_int hy, .inl (.inl q), e1, k G H v (New.refl s) r1⟩
    | rol ds =>
      obtain ⟨d, e, rfl⟩ := sh?_some h
      obtain ⟨a, vs, rfl, q, r⟩ := rdb_rol hx
      obtain ⟨v, e1, r1⟩ := atI_rep r e
      exact .inl ⟨a, vs, i, v, rfl, rdb_int hy, s.seq q, e1, k G H v (New.refl s) r1⟩
    | tup ds =>
      obtain ⟨d, e, rfl⟩ := sh?_some h
      obtain ⟨a, vs, rfl, q, r⟩ := rdb_tup hx
      obtain ⟨v, e1, r1⟩ := atI_rep r e
      exact .inr (.inl ⟨a, vs, i, v, rfl, rdb_int hy, Same.tseq s q, e1, k G H v (New.refl s) r1⟩)
    | str z =>
      simp only [dIx] at h
      by_cases c : z.length ≤ 16777216
      · rw [if_pos c] at h
        cases e : atI z.cps.toList i with
        | none => rw [e] at h; cases h
        | some ch =>
          rw [e] at h
          cases h
          exact .inr (.inr ⟨z, i, ch, rdb_str hx, rdb_int hy, by rw [sizeLine_eq]; exact c, e, k G H _ (New.refl s) res_str⟩)
      · rw [if_neg c] at h; cases h
    | _ => cases h
  | _ => cases dx <;> cases h
section
variable {X : Cx} {E : XK} {a b c : Expr} {f g h : Mm} {pos : Pos}
theorem me_ix (ha : ME X E a f) (hb : ME X E b g) (hs : PlainIx b := by intro _ _; rfl) : ME X E (.Subscript a b pos) (mBin dIx f g) := PE.imp (pe_ix ix_seq ha hb hs) (den_bin opd_ix)
end

/-! ### a[i:j] -/
def cutL {α : Type} (xs : List α) (lo hi : Option Int) : List α := (xs.drop (HT.sIx xs.length 0 lo)).take (HT.sIx xs.length xs.length hi - HT.sIx xs.length 0 lo)
theorem cutL_rep {K : PySem.W.Frag} {mg : Mg} {G : Hp} {ds : List D} {vs : List V} {lo hi : Option Int} (r : Reps K mg G ds vs) : Reps K mg G (cutL ds lo hi) (cutV vs lo hi) := by
  unfold cutL cutV
  rw [r.len]
  exact (r.drop _).take _
/-- a part that is an int -/
def mI (f : Mm) : Mm := fun s => (f s).bind fun r s1 => match rd s1 r with
  | some (.int i) => .ok (.sh (.int i)) s1
  | _ => .no
def mPart : Option Mm → Mm
  | none => mC .non
  | some f => mI f
def partI : Rv → Option Int
  | .sh (.int i) => some i
  | _ => none
def dSl : D → Option Int → Option Int → Option Rv
  | .lst ds, lo, hi => some (.fr (.lst (cutL ds lo hi)))
  | .rol ds, lo, hi => some (.fr (.lst (cutL ds lo hi)))
  | .tup ds, lo, hi => some (.sh (.tup (cutL ds lo hi)))
  | .str z, lo, hi => if z.length ≤ 16777216 then some (.sh (.str (cutS z lo hi))) else none
  | _, _, _ => none
def mSl (f : Mm) (lo hi : Option Mm) : Mm := fun s => (f s).bind fun r1 s1 => (mPart lo s1).bind fun r2 s2 => (mPart hi s2).bind fun r3 s3 => match rd s3 r1 with
  | some d => match dSl d (partI r2) (partI r3) with
    | some r => .ok r s3
    | none => .no
  | none => .no
section
variable {X : Cx} {E : XK} {a : Expr} {f : Mm} {pos : Pos}
def rSl (K : PySem.W.Frag) : V → Option Int → Option Int → Hp → VK → Prop := fun x lo hi H Q => (rSlL K x lo hi H Q ∨ rSlA K x lo hi H Q) ∨ rSlS x lo hi H Q
theorem sl_any : SlR X (rSl X.K) := (sl_list.or sl_tupA).or sl_str
theorem cut_whole {vs : List V} {lo hi : Option Int} (h : HT.sIx vs.length 0 lo = 0 ∧ HT.sIx vs.length vs.length hi = vs.length) : cutV vs lo hi = vs := by
  unfold cutV
  rw [h.1, h.2]
  simp
theorem sld_ok {K : PySem.W.Frag} {mg : Mg} {G H : Hp} {x : V} {d : D} {lo hi : Option Int} {res : Rv} (s : Same G H) (hx : Rdb K mg G H d x) (h : dSl d lo hi = some res) (Q : VK) (k : ∀ G' H' v, New G H G' H' → ResRep K mg H G' H' res v → Q v H') : rSl K x lo hi H Q := by
  cases d with
  | lst ds =>
    cases h
    obtain ⟨a, vs, rfl, q, r⟩ := rdb_lst hx
    exact .inl (.inl ⟨a, vs, rfl, .inl (.inl q), fun p hp => k G _ _ (New.obj s hp) (own_lst s hp (cutL_rep r))⟩)
  | rol ds =>
    cases h
    obtain ⟨a, vs, rfl, q, r⟩ := rdb_rol hx
    exact .inl (.inl ⟨a, vs, rfl, s.seq q, fun p hp => k G _ _ (New.obj s hp) (own_lst s hp (cutL_rep r))⟩)
  | tup ds =>
    cases h
    obtain ⟨a, vs, rfl, q, r⟩ := rdb_tup hx
    refine .inl (.inr ⟨a, vs, rfl, Same.tseq s q, fun w => ?_, fun w p hp => k _ _ _ (New.tup s hp) (rep_tup s hp (cutL_rep r))⟩)
    refine k G H _ (New.refl s) ?_
    simp only [ResRep, Rep]
    have z := cutL_rep (lo := lo) (hi := hi) r
    rw [cut_whole w] at z
    exact ⟨a, vs, rfl, q, z⟩
  | str z =>
    simp only [dSl] at h
    by_cases c : z.length ≤ 16777216
    · rw [if_pos c] at h
      cases h
      exact .inr ⟨z, rdb_str hx, by rw [sizeLine_eq]; exact c, k G H _ (New.refl s) res_str⟩
    · rw [if_neg c] at h; cases h
  | _ => cases h
abbrev MO (X : Cx) (E : XK) (e : Option Expr) (o : Option Mm) : Prop := match e, o with
  | none, none => True
  | some e, some f => ME X E e f
  | _, _ => False
def denO (K : PySem.W.Frag) (mg : Mg) (E : XK) (o : Option Mm) : TO := fun σ H Q => denE K mg E (mPart o) σ H fun v H' => (v = .non → Q none H') ∧ ∀ i, v = .int i → Q (some i) H'
theorem po_of {e : Option Expr} {o : Option Mm} (h : MO X E e o) : PO X e (denO X.K X.mg E o) := by
  cases e with
  | none =>
    cases o with
    | none =>
      refine ⟨fun pins s σ H Q I hw => po_none.run pins s σ H Q I ?_⟩
      obtain ⟨H0, G, L, pv, s', R, h⟩ := hw
      have := h.done (rv := .sh .non) (v := .non) R (by simp only [RvRep, Rep]) trivial
      exact this.1 rfl
    | some f => exact False.elim h
  | some e =>
    cases o with
    | none => exact False.elim h
    | some f =>
      refine ⟨fun pins s σ H Q I hw => (po_some h).run pins s σ H Q I ?_⟩
      obtain ⟨H0, G, L, pv, s', R, hh⟩ := hw
      refine den_mono _ _ _ _ (fun x H1 ⟨G1, L1, r1, s1, A1, h1⟩ => ?_) (go_bind R hh)
      cases q : rd s1 r1 with
      | none => rw [q] at h1; exact h1.elim
      | some d =>
        rw [q] at h1
        cases d with
        | int i =>
          have ex := rdb_int (rd_ok A1.R A1.r q)
          subst ex
          have := Go.done (rv := .sh (.int i)) (v := .int i) A1.R h1 (by simp only [RvRep, Rep]) trivial
          exact ⟨i, rfl, this.2 i rfl⟩
        | _ => exact h1.elim
theorem part_val {K : PySem.W.Frag} {mg : Mg} {H0 G H : Hp} {L : Addr → Prop} {pv : List V} {σ : List (Option V)} {s : S} {o : Option Mm} {Q : VK} {k : Rv → S → Res} (R : SRep K mg H0 G H L pv σ s) (h : Go K mg E H0 G H L pv σ Q ((mPart o s).bind k)) :
    denO K mg E o σ H fun oi H1 => ∃ G1 L1 r s1, SRep K mg H0 G1 H1 L1 pv σ s1 ∧ Ext G H L G1 H1 L1 ∧ oi = partI r ∧ Go K mg E H0 G1 H1 L1 pv σ Q (k r s1) := by
  cases o with
  | none =>
    refine ⟨H0, G, L, pv, s, R, fun G' H' L' v R' e r n => ⟨fun _ => ⟨G', L', _, _, R', e, rfl, Go.base h e⟩, fun i hi => ?_⟩⟩
    have r : Rep K mg G' .non v := r
    simp only [Rep] at r
    rw [r] at hi
    cases hi
  | some f =>
    refine ⟨H0, G, L, pv, s, R, ?_⟩
    have key : ∀ {rv : Rv} {s' : S}, mI f s = .ok rv s' → ∃ i, rv = .sh (.int i) := fun {rv s'} e => by
      unfold mI at e
      cases q : f s with
      | ok r1 s1 =>
        rw [q] at e
        simp only [Res.bind] at e
        cases q2 : rd s1 r1 with
        | none => rw [q2] at e; cases e
        | some d =>
          rw [q2] at e
          cases d <;> simp only [Res.ok.injEq, reduceCtorEq] at e
          exact ⟨_, e.1.symm⟩
      | ex c x s1 => rw [q] at e; cases e
      | no => rw [q] at e; cases e
    show Go K mg E H0 G H L pv σ _ (mI f s)
    cases e : mI f s with
    | no =>
      have h : Go K mg E H0 G H L pv σ Q ((mI f s).bind k) := h
      rw [e] at h; exact h
    | ex c x s1 =>
      have h : Go K mg E H0 G H L pv σ Q ((mI f s).bind k) := h
      rw [e] at h; exact h
    | ok rv s1 =>
      have h : Go K mg E H0 G H L pv σ Q ((mI f s).bind k) := h
      rw [e] at h
      obtain ⟨i, rfl⟩ := key e
      intro G' H' L' v R' e' r n
      have r : Rep K mg G' (.int i) v := r
      simp only [Rep] at r
      subst r
      refine ⟨fun z => (by cases z), fun j hj => ?_⟩
      cases hj
      exact ⟨G', L', _, _, R', e', rfl, Go.base h e'⟩
theorem denO_mono {K : PySem.W.Frag} {mg : Mg} {o : Option Mm} {σ : List (Option V)} {H : Hp} {Q Q' : Option Int → Hp → Prop} (i : ∀ x H', Q x H' → Q' x H') (h : denO K mg E o σ H Q) : denO K mg E o σ H Q' :=
  den_mono _ _ _ _ (fun v H' z => ⟨fun e => i _ _ (z.1 e), fun j e => i _ _ (z.2 j e)⟩) h
theorem den_sl {K : PySem.W.Frag} {mg : Mg} {lo hi : Option Mm} (σ : L2.St) (H : Hp) (Q : VK) (h : denE K mg E (mSl f lo hi) σ H Q) : tSl (rSl K) (denE K mg E f) (denO K mg E lo) (denO K mg E hi) σ H Q := by
  obtain ⟨H0, G, L, pv, s, R, h⟩ := h
  refine den_mono _ _ _ _ (fun x H1 ⟨G1, L1, r1, s1, A1, h1⟩ => ?_) (go_bind R h)
  refine denO_mono (fun l H2 ⟨G2, L2, r2, s2, R2, e2, el, h2⟩ => ?_) (part_val A1.R h1)
  refine denO_mono (fun u H3 ⟨G3, L3, r3, s3, R3, e3, eu, h3⟩ => ?_) (part_val R2 h2)
  subst el eu
  have w := (A1.r.ext e2).ext e3
  cases q : rd s3 r1 with
  | none => rw [q] at h3; exact h3.elim
  | some d =>
    rw [q] at h3
    simp only at h3
    cases q2 : dSl d (partI r2) (partI r3) with
    | none => rw [q2] at h3; exact h3.elim
    | some res =>
      rw [q2] at h3
      exact sld_ok R3.same (rd_ok R3 w q) q2 Q fun G' H' v n rr => Go.fin R3 h3 n rr
theorem me_sl {lo hi : Option Expr} {ml mh : Option Mm} {p2 : Pos} (ha : ME X E a f) (hl : MO X E lo ml) (hh : MO X E hi mh) : ME X E (.Subscript a (.Slice lo hi none p2) pos) (mSl f ml mh) :=
  PE.imp (pe_slice sl_any ha (po_of hl) (po_of hh)) den_sl
end

/-! ### built-ins by data -/
def BlD (K : PySem.W.Frag) (mg : Mg) (r : List V → Hp → VK → Prop) (op : List D → Option Rv) : Prop :=
  ∀ G H xs ds res, Same G H → ds.length = xs.length → (∀ (i : Nat) (d : D) (v : V), ds[i]? = some d → xs[i]? = some v → Rdb K mg G H d v) → op ds = some res → ∀ Q : VK, (∀ G' H' v, New G H G' H' → ResRep K mg H G' H' res v → Q v H') → r xs H Q
def mBl (op : List D → Option Rv) (fs : List Mm) : Mm := fun s => (mArgs fs s).bind fun rs s1 => match rds s1 rs with
  | some ds => match op ds with
    | some r => .ok r s1
    | none => .no
  | none => .no
/-- of one argument, of two -/
def op1 (f : D → Option Rv) : List D → Option Rv
  | [d] => f d
  | _ => none
def op2 (f : D → D → Option Rv) : List D → Option Rv
  | [d, e] => f d e
  | _ => none
section
variable {X : Cx} {E : XK} {e : Expr} {es : List Expr} {fs : List Mm} {p pos : Pos} {id T : String} {x : Str} {r : List V → Hp → VK → Prop} {op : List D → Option Rv}
theorem den_bl {K : PySem.W.Frag} {mg : Mg} (ho : BlD K mg r op) (σ : L2.St) (H : Hp) (Q : VK) (h : denE K mg E (mBl op fs) σ H Q) : tCB r (denA K mg E fs) σ H Q := by
  obtain ⟨H0, G, L, pv, s, R, h⟩ := h
  refine denA_mono (fun vs H1 ⟨G1, L1, rs, s1, R1, e1, w, h1⟩ => ?_) (go_args R h)
  cases q : rds s1 rs with
  | none => rw [q] at h1; exact h1.elim
  | some ds =>
    rw [q] at h1
    simp only at h1
    obtain ⟨hl, hr⟩ := res_of R1 w q
    cases q2 : op ds with
    | none => rw [q2] at h1; exact h1.elim
    | some res =>
      rw [q2] at h1
      exact ho G1 H1 vs ds res R1.same hl hr q2 Q fun G' H' v n rr => Go.fin R1 (Go.base h1 e1) n rr
theorem me_blt (hc : CallR X (.builtin id) r) (ho : BlD X.K X.mg r op) (hm : X.mg x = none) (ha : MA X E (e :: es) fs) (hv : bootBuiltins x = some (.builtin id)) (hg : Gl X x := by rfl) (hn : x ≠ "__name__" := by decide) (hdb : (x == ("__debug__" : Str)) = false := by decide)
    (h1 : starEach (e :: es) X.env = (false, eval e X.env) :: starEach es X.env := by rfl) (h2 : (backTo pos (starEach es X.env)).any (·.1) = false := by rfl) :
    ME X E (.Call (.Name x p) (e :: es) [] pos) (mBl op fs) := PE.imp (pe_callB hc hg hm hv ha hn hdb h1 h2) (den_bl ho)
theorem me_ty (hc : CallR X (.type T) r) (ho : BlD X.K X.mg r op) (hm : X.mg x = none) (ha : MA X E (e :: es) fs) (hv : bootBuiltins x = some (.type T)) (hg : Gl X x := by rfl) (hn : x ≠ "__name__" := by decide) (hdb : (x == ("__debug__" : Str)) = false := by decide)
    (h1 : starEach (e :: es) X.env = (false, eval e X.env) :: starEach es X.env := by rfl) (h2 : (backTo pos (starEach es X.env)).any (·.1) = false := by rfl) :
    ME X E (.Call (.Name x p) (e :: es) [] pos) (mBl op fs) := PE.imp (pe_callTy hc hg hm hv ha hn hdb h1 h2) (den_bl ho)
theorem bld1 {K : PySem.W.Frag} {mg : Mg} {f : D → Option Rv} (h : ∀ G H x d res, Same G H → Rdb K mg G H d x → f d = some res → ∀ Q : VK, (∀ G' H' v, New G H G' H' → ResRep K mg H G' H' res v → Q v H') → r [x] H Q) : BlD K mg r (op1 f) := by
  intro G H xs ds res s hl hr ho Q k
  match ds, xs, hl, ho with
  | [d], [x], _, ho => exact h G H x d res s (hr 0 d x rfl rfl) ho Q k
theorem bld2 {K : PySem.W.Frag} {mg : Mg} {f : D → D → Option Rv} (h : ∀ G H x y d e res, Same G H → Rdb K mg G H d x → Rdb K mg G H e y → f d e = some res → ∀ Q : VK, (∀ G' H' v, New G H G' H' → ResRep K mg H G' H' res v → Q v H') → r [x, y] H Q) : BlD K mg r (op2 f) := by
  intro G H xs ds res s hl hr ho Q k
  match ds, xs, hl, ho with
  | [d, e], [x, y], _, ho => exact h G H x y d e res s (hr 0 d x rfl rfl) (hr 1 e y rfl rfl) ho Q k

/-! len, abs, int, str, max, min of two -/
def dLen : D → Option Rv
  | .lst ds => some (.sh (.int ds.length))
  | .rol ds => some (.sh (.int ds.length))
  | .tup ds => some (.sh (.int ds.length))
  | .str z => if z.length ≤ 16777216 then some (.sh (.int z.length)) else none
  | _ => none
theorem bld_len {K : PySem.W.Frag} {mg : Mg} : BlD K mg (fun xs H Q => ∃ x n, xs = [x] ∧ LenV K x H n ∧ Q (.int n) H) (op1 dLen) := bld1 fun G H x d res s hx h Q k => by
  cases d with
  | lst ds =>
    cases h
    obtain ⟨a, vs, rfl, q, r⟩ := rdb_lst hx
    exact ⟨_, _, rfl, .inl ⟨vs, .inl (.inl q), r.len⟩, k G H _ (New.refl s) res_int⟩
  | rol ds =>
    cases h
    obtain ⟨a, vs, rfl, q, r⟩ := rdb_rol hx
    exact ⟨_, _, rfl, .inl ⟨vs, s.seq q, r.len⟩, k G H _ (New.refl s) res_int⟩
  | tup ds =>
    cases h
    obtain ⟨a, vs, rfl, q, r⟩ := rdb_tup hx
    exact ⟨_, _, rfl, .inr ⟨vs, Same.tseq s q, r.len⟩, k G H _ (New.refl s) res_int⟩
  | str z =>
    simp only [dLen] at h
    by_cases c : z.length ≤ 16777216
    · rw [if_pos c] at h
      cases h
      have ex := rdb_str hx
      subst ex
      exact ⟨_, _, rfl, ⟨by rw [sizeLine_eq]; exact c, rfl⟩, k G H _ (New.refl s) res_int⟩
    · rw [if_neg c] at h; cases h
  | _ => cases h
def dAbs : D → Option Rv
  | .int i => some (.sh (.int (if i < 0 then -i else i)))
  | _ => none
def dInt : D → Option Rv
  | .int i => some (.sh (.int i))
  | .bl b => some (.sh (.int (if b = true then 1 else 0)))
  | _ => none
def dStr : D → Option Rv
  | .int i => if i.natAbs.log2 < 1920 then some (.sh (.str (toString i))) else none
  | _ => none
def dMax2 : D → D → Option Rv := dInt2 (fun _ _ => true) fun i j => .int (if j > i then j else i)
def dMin2 : D → D → Option Rv := dInt2 (fun _ _ => true) fun i j => .int (if j < i then j else i)
theorem bld_abs {K : PySem.W.Frag} {mg : Mg} : BlD K mg (fun xs H Q => ∃ i, xs = [.int i] ∧ Q (.int (if i < 0 then -i else i)) H) (op1 dAbs) := bld1 fun G H x d res s hx h Q k => by
  cases d with
  | int i => cases h; rw [rdb_int hx]; exact ⟨i, rfl, k G H _ (New.refl s) res_int⟩
  | _ => cases h
theorem bld_int {K : PySem.W.Frag} {mg : Mg} : BlD K mg (fun xs H Q => (∃ i, xs = [.int i] ∧ Q (.int i) H) ∨ ∃ k, xs = [.bl k] ∧ Q (.int (if k then 1 else 0)) H) (op1 dInt) := bld1 fun G H x d res s hx h Q k => by
  cases d with
  | int i => cases h; rw [rdb_int hx]; exact .inl ⟨i, rfl, k G H _ (New.refl s) res_int⟩
  | bl i => cases h; rw [rdb_bl hx]; exact .inr ⟨i, rfl, k G H _ (New.refl s) res_int⟩
  | _ => cases h
theorem bld_str {K : PySem.W.Frag} {mg : Mg} : BlD K mg (fun xs H Q => ∃ i, xs = [.int i] ∧ i.natAbs.log2 < 1920 ∧ Q (.str (toString i)) H) (op1 dStr) := bld1 fun G H x d res s hx h Q k => by
  cases d with
  | int i =>
    simp only [dStr] at h
    by_cases c : i.natAbs.log2 < 1920
    · rw [if_pos c] at h; cases h; rw [rdb_int hx]; exact ⟨i, rfl, c, k G H _ (New.refl s) res_str⟩
    · rw [if_neg c] at h; cases h
  | _ => cases h
theorem bld_max2 {K : PySem.W.Frag} {mg : Mg} : BlD K mg (fun xs H Q => ∃ i j, xs = [.int i, .int j] ∧ Q (.int (if j > i then j else i)) H) (op2 dMax2) := bld2 fun G H x y d e res s hx hy h Q k => by
  obtain ⟨i, j, rfl, rfl, _, rfl⟩ := int2_some h
  rw [rdb_int hx, rdb_int hy]
  exact ⟨i, j, rfl, k G H _ (New.refl s) res_int⟩
theorem bld_min2 {K : PySem.W.Frag} {mg : Mg} : BlD K mg (fun xs H Q => ∃ i j, xs = [.int i, .int j] ∧ Q (.int (if j < i then j else i)) H) (op2 dMin2) := bld2 fun G H x y d e res s hx hy h Q k => by
  obtain ⟨i, j, rfl, rfl, _, rfl⟩ := int2_some h
  rw [rdb_int hx, rdb_int hy]
  exact ⟨i, j, rfl, k G H _ (New.refl s) res_int⟩
theorem me_len {f : Mm} (hm : X.mg "len" = none) (ha : ME X E e f) (hg : Gl X "len" := by rfl) (h1 : starEach [e] X.env = (false, eval e X.env) :: starEach [] X.env := by rfl) (h2 : (backTo pos (starEach [] X.env)).any (·.1) = false := by rfl) :
    ME X E (.Call (.Name "len" p) [e] [] pos) (mBl (op1 dLen) [f]) := me_blt call_len bld_len hm (ma_cons ha ma_nil h1) PySem.boot_len hg (by decide) (by decide) h1 h2
theorem me_abs {f : Mm} (hm : X.mg "abs" = none) (ha : ME X E e f) (hg : Gl X "abs" := by rfl) (h1 : starEach [e] X.env = (false, eval e X.env) :: starEach [] X.env := by rfl) (h2 : (backTo pos (starEach [] X.env)).any (·.1) = false := by rfl) :
    ME X E (.Call (.Name "abs" p) [e] [] pos) (mBl (op1 dAbs) [f]) := me_blt call_abs bld_abs hm (ma_cons ha ma_nil h1) (by decide +kernel) hg (by decide) (by decide) h1 h2
theorem me_intC {f : Mm} (hm : X.mg "int" = none) (ha : ME X E e f) (hg : Gl X "int" := by rfl) (h1 : starEach [e] X.env = (false, eval e X.env) :: starEach [] X.env := by rfl) (h2 : (backTo pos (starEach [] X.env)).any (·.1) = false := by rfl) :
    ME X E (.Call (.Name "int" p) [e] [] pos) (mBl (op1 dInt) [f]) := me_ty call_int1 bld_int hm (ma_cons ha ma_nil h1) PyProof.Rows.boot_int hg (by decide) (by decide) h1 h2
theorem me_strC {f : Mm} (hm : X.mg "str" = none) (ha : ME X E e f) (hg : Gl X "str" := by rfl) (h1 : starEach [e] X.env = (false, eval e X.env) :: starEach [] X.env := by rfl) (h2 : (backTo pos (starEach [] X.env)).any (·.1) = false := by rfl) :
    ME X E (.Call (.Name "str" p) [e] [] pos) (mBl (op1 dStr) [f]) := me_ty call_str_int bld_str hm (ma_cons ha ma_nil h1) PyProof.Rows.boot_str hg (by decide) (by decide) h1 h2
theorem me_max2 {e2 : Expr} {f g : Mm} (hc : X.calm = true) (hm : X.mg "max" = none) (ha : ME X E e f) (hb : ME X E e2 g) (hg : Gl X "max" := by rfl) (h1 : starEach [e, e2] X.env = (false, eval e X.env) :: starEach [e2] X.env := by rfl) (h3 : starEach [e2] X.env = (false, eval e2 X.env) :: starEach [] X.env := by rfl)
    (h2 : (backTo pos (starEach [e2] X.env)).any (·.1) = false := by rfl) : ME X E (.Call (.Name "max" p) [e, e2] [] pos) (mBl (op2 dMax2) [f, g]) := me_blt (call_max2 hc) bld_max2 hm (ma_cons ha (ma_cons hb ma_nil h3) h1) PyProof.Rows.boot_max hg (by decide) (by decide) h1 h2
theorem me_min2 {e2 : Expr} {f g : Mm} (hc : X.calm = true) (hm : X.mg "min" = none) (ha : ME X E e f) (hb : ME X E e2 g) (hg : Gl X "min" := by rfl) (h1 : starEach [e, e2] X.env = (false, eval e X.env) :: starEach [e2] X.env := by rfl) (h3 : starEach [e2] X.env = (false, eval e2 X.env) :: starEach [] X.env := by rfl)
    (h2 : (backTo pos (starEach [e2] X.env)).any (·.1) = false := by rfl) : ME X E (.Call (.Name "min" p) [e, e2] [] pos) (mBl (op2 dMin2) [f, g]) := me_blt (call_min2 hc) bld_min2 hm (ma_cons ha (ma_cons hb ma_nil h3) h1) PyProof.Rows.boot_min hg (by decide) (by decide) h1 h2
end
end Mx

set_option Elab.async false
set_option linter.all false
set_option maxRecDepth 100000
namespace Mx
open PySem PySem.Spec PyProof.Rows L2

/-! ### isinstance(x, a built-in type) -/
def dTyN : D → Option String
  | .non => some "NoneType"
  | .bl _ => some "bool"
  | .int _ => some "int"
  | .str _ => some "str"
  | .lst _ => some "list"
  | .rol _ => some "list"
  | .tup _ => some "tuple"
  | .dic _ => some "dict"
  | .exc _ _ => none
def tyIn (T t : String) : Bool := t == T || (T == "int" && t == "bool")
def dTyps : List String := ["int", "bool", "str", "list", "tuple", "dict"]
def dIsi (T : String) (d : D) : Bool := match dTyN d with
  | some t => tyIn T t
  | none => false
theorem kit_all : ∀ T ∈ dTyps, ∀ t ∈ (["NoneType", "bool", "int", "str", "list", "tuple", "dict"] : List String), kitB t T = some (tyIn T t) := by decide +kernel
section
variable {X : Cx}
def rIsiX (K : PySem.W.Frag) (mg : Mg) : List V → Hp → VK → Prop := fun xs H Q => ∃ (G : Hp) (c : Str) (fs : List (Str × D)) (v : V) (T : String), xs = [v, .ty T] ∧ Same G H ∧ Rep K mg G (.exc c fs) v ∧ T ∈ dTyps ∧ Q (.bl false) H
theorem call_isiX : CallR X (.builtin "isinstance") (rIsiX X.K X.mg) := by
  intro pins s σ H xs us Q I r h
  obtain ⟨G, c, fs, v, T, rfl, sm, rp, hT, q⟩ := h
  obtain ⟨u1, u2, rfl, r1, r2⟩ := vals2 r
  simp only [Rep] at rp
  obtain ⟨a, C, d, vs, rfl, hm, xk, ⟨φ, e1, hφ⟩, e2, rf⟩ := rp
  cases (show u1 = Value.ref a from r1)
  cases (show u2 = Value.type T from r2)
  obtain ⟨p1, _, _⟩ := (show ObjOk X.prog X.w H s.heap a (.ext φ) from I.hok a _ (sm _ _ e1))
  obtain ⟨t1, ho⟩ := hφ _ p1
  obtain ⟨mA, ⟨od, es, ep, hd, _⟩, _⟩ := (show ObjOk X.prog X.w H s.heap d (.xd vs) from I.hok d _ (sm _ _ e2))
  have Z := PySem.W.kitx_exc (K := X.K) (x := a) (C := C) (ox := { cls := .ref C, dict := some d, data := .fields #[.ref t1, .none, .none, .none, .bool false, .none] }) (od := some od) xk.hcl xk.hga xk.hgt xk.hsub xk.ha xk.hn xk.htk xk.hm
  refine PySem.W.kia_one Z I.kIn ?_ (xk.no T hT) (fun z => nomatch z) fun tk => ⟨.bl false, H, I.tok tk, rfl, q⟩
  exact ⟨ho, rfl, rfl, hd⟩
/-- the type of what reads as a datum -/
theorem tyx_of {K : PySem.W.Frag} {mg : Mg} {G H : Hp} {d : D} {v : V} {t : String} (s : Same G H) (h : Rdb K mg G H d v) (ht : dTyN d = some t) : TyX K H v (.type t) := by
  cases d with
  | non => cases ht; rw [rdb_non h]; exact .base .non
  | bl b => cases ht; rw [rdb_bl h]; exact .base (.bl _)
  | int b => cases ht; rw [rdb_int h]; exact .base (.int _)
  | str b => cases ht; rw [rdb_str h]; exact .base (.str _)
  | lst xs => cases ht; obtain ⟨a, vs, rfl, q, _⟩ := rdb_lst h; exact .base (.lst q)
  | rol xs =>
    cases ht
    obtain ⟨a, vs, rfl, q, _⟩ := rdb_rol h
    rcases s.seq q with (q | ⟨o, q⟩) | ⟨o, its, n, q, hc, _⟩
    · exact .base (.lst q)
    · exact .base (.frz q)
    · exact .kList q hc
  | tup xs =>
    cases ht
    obtain ⟨a, vs, rfl, q, _⟩ := rdb_tup h
    rcases Same.tseq s q with (q | ⟨o, q⟩) | ⟨o, its, n, q, hc, _⟩
    · exact .base (.tup q)
    · exact .fTuple q
    · exact .kTuple q hc
  | dic xs =>
    cases ht
    simp only [Rdb] at h
    obtain ⟨a, vs, rfl, q, _⟩ := h
    rcases q with q | ⟨o, q⟩
    · exact .base (.dK q)
    · exact .fDict q
  | exc c fs => cases ht
variable {E : XK} {e : Expr} {f : Mm} {p p2 pos : Pos}
def opIsi (T : String) : D → Option Rv := fun d => some (.sh (.bl (dIsi T d)))
theorem den_isi {K : PySem.W.Frag} {mg : Mg} {T : String} (hT : T ∈ dTyps) (σ : L2.St) (H : Hp) (Q : VK) (h : denE K mg E (mUn (opIsi T) f) σ H Q) :
    tCB (fun xs H Q => rIsi K xs H Q ∨ rIsiX K mg xs H Q) (tCons (denE K mg E f) (tCons (tC (.ty T)) tNil)) σ H Q := by
  obtain ⟨H0, G, L, pv, s, R, h⟩ := h
  refine den_mono _ _ _ _ (fun x H1 ⟨G1, L1, r1, s1, A1, h1⟩ => ?_) (go_bind R h)
  cases e1 : rd s1 r1 with
  | none => rw [e1] at h1; exact h1.elim
  | some d =>
    rw [e1] at h1
    have hx := rd_ok A1.R A1.r e1
    have q : Q (.bl (dIsi T d)) H1 := Go.done (rv := .sh (.bl (dIsi T d))) A1.R h1 bl_rv trivial
    cases e2 : dTyN d with
    | some t =>
      left
      refine ⟨x, .ty T, .type t, .type T, tyIn T t, rfl, .ty T, tyx_of A1.R.same hx e2, kit_ty (kit_all T hT t ?_), ?_⟩
      · cases d <;> simp only [dTyN, Option.some.injEq, reduceCtorEq] at e2 <;> subst e2 <;> decide
      · unfold dIsi at q; rw [e2] at q; exact q
    | none =>
      right
      cases d with
      | exc c fs => exact ⟨G1, c, fs, x, T, rfl, A1.R.same, hx, hT, q⟩
      | _ => cases e2
theorem me_isi {x : Str} {T : String} (hT : T ∈ dTyps) (hm : X.mg "isinstance" = none) (hmT : X.mg x = none) (hvT : bootBuiltins x = some (.type T)) (ha : ME X E e f) (hg : Gl X "isinstance" := by rfl) (hgT : Gl X x := by rfl) (hn : x ≠ "__name__" := by decide) (hdb : (x == ("__debug__" : Str)) = false := by decide)
    (h1 : starEach [e, .Name x p2] X.env = (false, eval e X.env) :: starEach [.Name x p2] X.env := by rfl) (h2 : (backTo pos (starEach [.Name x p2] X.env)).any (·.1) = false := by rfl) (h3 : starEach [.Name x p2] X.env = (false, eval (.Name x p2) X.env) :: starEach [] X.env := by rfl) :
    ME X E (.Call (.Name "isinstance" p) [e, .Name x p2] [] pos) (mUn (opIsi T) f) :=
  PE.imp (pe_callB (call_isi.or call_isiX) hg hm PyProof.Rows.boot_isinstance (pa_cons ha (pa_cons (pe_bltn (v := .ty T) hgT hmT hvT rfl hn hdb) pa_nil h3) h1) (by decide) (by decide) h1 h2) (den_isi hT)
/-- isinstance(x, (S, T)) -/
theorem den_isi2 {K : PySem.W.Frag} {mg : Mg} {S T : String} (hS : S ∈ dTyps) (hT : T ∈ dTyps) (σ : L2.St) (H : Hp) (Q : VK) (h : denE K mg E (mUn (fun d => match dTyN d with | some t => some (.sh (.bl (tyIn S t || tyIn T t))) | none => none) f) σ H Q) :
    tCB (rIsiT K) (tCons (denE K mg E f) (tCons (tTup (tCons (tC (.ty S)) (tCons (tC (.ty T)) tNil))) tNil)) σ H Q := by
  obtain ⟨H0, G, L, pv, s, R, h⟩ := h
  refine den_mono _ _ _ _ (fun x H1 ⟨G1, L1, r1, s1, A1, h1⟩ => ?_) (go_bind R h)
  refine ⟨by show 2 ≤ sizeLine; decide, fun tp hp => ?_⟩
  cases e1 : rd s1 r1 with
  | none => rw [e1] at h1; exact h1.elim
  | some d =>
    rw [e1] at h1
    have hx := rd_ok A1.R A1.r e1
    have n := New.obj (o := .tup [.ty S, .ty T]) A1.R.same hp
    simp only at h1
    cases e2 : dTyN d with
    | none => rw [e2] at h1; exact h1.elim
    | some t =>
      rw [e2] at h1
      have q : Q (.bl (tyIn S t || tyIn T t)) (upd H1 tp (.tup [.ty S, .ty T])) := Go.fin A1.R h1 n res_bl
      have ht : t ∈ (["NoneType", "bool", "int", "str", "list", "tuple", "dict"] : List String) := by
        cases d <;> simp only [dTyN, Option.some.injEq, reduceCtorEq] at e2 <;> subst e2 <;> decide
      have ty := tyx_of (A1.R.new n).same (show Rdb K mg G1 _ d x from ?_) e2
      · refine ⟨x, tp, [.ty S, .ty T], .type t, [.type S, .type T], _, rfl, upd_same, .cons (.ty S) (.cons (.ty T) .nil), ty, kitAny_cons (kit_ty (kit_all S hS t ht)) (fun z => kitAny_cons (kit_ty (kit_all T hT t ht)) (fun z2 => ?_) (fun z2 => ?_)) (fun z => ?_), q⟩
        · rw [z, z2]; exact kitAny_nil
        · rw [z2, Bool.or_true]
        · rw [z]; rfl
      · cases d with
        | lst xs =>
          obtain ⟨a, vs, rfl, q1, r⟩ := rdb_lst hx
          simp only [Rdb]
          exact ⟨a, vs, rfl, by rw [upd_ne (ne_of_none q1 hp)]; exact q1, r⟩
        | dic xs =>
          simp only [Rdb] at hx ⊢
          obtain ⟨a, vs, rfl, q1, r⟩ := hx
          refine ⟨a, vs, rfl, ?_, r⟩
          rcases q1 with q1 | ⟨o, q1⟩
          · left; rw [upd_ne (ne_of_none q1 hp)]; exact q1
          · right; exact ⟨o, by rw [upd_ne (ne_of_none q1 hp)]; exact q1⟩
        | _ => exact hx
def opIsi2 (S T : String) : D → Option Rv := fun d => match dTyN d with
  | some t => some (.sh (.bl (tyIn S t || tyIn T t)))
  | none => none
theorem me_isi2 {x y : Str} {S T : String} {k : Nat} {p3 p4 : Pos} (hS : S ∈ dTyps) (hT : T ∈ dTyps) (hm : X.mg "isinstance" = none) (hmS : X.mg x = none) (hmT : X.mg y = none) (hvS : bootBuiltins x = some (.type S)) (hvT : bootBuiltins y = some (.type T)) (ha : ME X E e f)
    (hg : Gl X "isinstance" := by rfl) (hgS : Gl X x := by rfl) (hgT : Gl X y := by rfl) (hnS : x ≠ "__name__" := by decide) (hdbS : (x == ("__debug__" : Str)) = false := by decide) (hn : y ≠ "__name__" := by decide) (hdb : (y == ("__debug__" : Str)) = false := by decide)
    (h1 : starEach [e, .Tuple [.Name x p2, .Name y p3] k p4] X.env = (false, eval e X.env) :: starEach [.Tuple [.Name x p2, .Name y p3] k p4] X.env := by rfl) (h2 : (backTo pos (starEach [.Tuple [.Name x p2, .Name y p3] k p4] X.env)).any (·.1) = false := by rfl)
    (h3 : starEach [.Tuple [.Name x p2, .Name y p3] k p4] X.env = (false, eval (.Tuple [.Name x p2, .Name y p3] k p4) X.env) :: starEach [] X.env := by rfl)
    (h4 : starEach [.Name x p2, .Name y p3] X.env = (false, eval (.Name x p2) X.env) :: starEach [.Name y p3] X.env := by rfl) (h5 : starEach [.Name y p3] X.env = (false, eval (.Name y p3) X.env) :: starEach [] X.env := by rfl) :
    ME X E (.Call (.Name "isinstance" p) [e, .Tuple [.Name x p2, .Name y p3] k p4] [] pos) (mUn (opIsi2 S T) f) :=
  PE.imp (pe_callB call_isiT hg hm PyProof.Rows.boot_isinstance (pa_cons ha (pa_cons (pe_tup (pa_cons (pe_bltn (v := .ty S) hgS hmS hvS rfl hnS hdbS) (pa_cons (pe_bltn (v := .ty T) hgT hmT hvT rfl hn hdb) pa_nil h5) h4)) pa_nil h3) h1) (by decide) (by decide) h1 h2) (den_isi2 hS hT)
end
end Mx

set_option Elab.async false
set_option linter.all false
set_option maxRecDepth 100000
namespace Mx
open PySem PySem.Spec PyProof.Rows L2

/-! ### comprehensions over ranges -/
/-- lo, lo + c, .. -/
def stepFrom (lo c : Int) : Nat → List D
  | 0 => []
  | n + 1 => .int lo :: stepFrom (lo + c) c n
theorem stepFrom_len : ∀ (lo c : Int) (n : Nat), (stepFrom lo c n).length = n
  | _, _, 0 => rfl
  | lo, c, n + 1 => by rw [stepFrom, List.length_cons, stepFrom_len]
theorem stepFrom_get : ∀ (lo c : Int) (n i : Nat), i < n → (stepFrom lo c n)[i]? = some (.int (lo + (i : Nat) * c))
  | _, _, 0, i, h => absurd h (Nat.not_lt_zero _)
  | lo, c, n + 1, 0, _ => by simp [stepFrom]
  | lo, c, n + 1, i + 1, h => by
    rw [stepFrom, List.getElem?_cons_succ, stepFrom_get _ _ n i (Nat.lt_of_succ_lt_succ h)]
    congr 2
    push_cast
    rw [Int.add_mul, Int.one_mul]
    omega
/-- range(i, j, c) with c > 0 -/
def rng3 : List D → Option (Int × Int × Nat)
  | [.int i, .int j, .int c] => if 0 < c ∧ c < 1073741824 ∧ -(2 ^ 62) ≤ i ∧ i < 2 ^ 62 ∧ -(2 ^ 62) ≤ j ∧ j < 2 ^ 62 then some (i, c, if i < j then ((j - i - 1) / c + 1).toNat else 0) else none
  | _ => none
def mLcC (own : List Nat) (tm : Tm) (tt elt : Mm) (fs : List Mm) : Mm := fun s => (mArgs fs s).bind fun rs s1 => match rds s1 rs with
  | some ds => match rng3 ds with
    | some (lo, c, n) => if n ≤ 16777216 then lcR own tm tt elt (stepFrom lo c n) s1 else .no
    | none => .no
  | none => .no
def mForC (fs : List Mm) (tm : Tm) (body : Ms) : Ms := fun s => (mArgs fs s).thn fun rs s1 => match rds s1 rs with
  | some ds => match rng3 ds with
    | some (lo, c, n) => forL tm body (stepFrom lo c n) s1
    | none => .no
  | none => .no
theorem vals_3 {K : PySem.W.Frag} {mg : Mg} {G H : Hp} {vs : List V} {i j c : Int} (hl : [D.int i, .int j, .int c].length = vs.length) (hr : ∀ (n : Nat) (d : D) (v : V), [D.int i, .int j, .int c][n]? = some d → vs[n]? = some v → Rdb K mg G H d v) : vs = [.int i, .int j, .int c] := by
  match vs, hl with
  | [x, y, z], _ =>
    have h0 := rdb_int (hr 0 _ x rfl rfl)
    have h1 := rdb_int (hr 1 _ y rfl rfl)
    have h2 := rdb_int (hr 2 _ z rfl rfl)
    rw [h0, h1, h2]
theorem rgc_up {i j c : Int} (h : 0 < c ∧ c < 1073741824 ∧ -(2 ^ 62) ≤ i ∧ i < 2 ^ 62 ∧ -(2 ^ 62) ≤ j ∧ j < 2 ^ 62) : RgC i j c (if i < j then ((j - i - 1) / c + 1).toNat else 0) := by
  obtain ⟨h1, h2, h3, h4, h5, h6⟩ := h
  have sm : Builtin.Range.small i j c = true := by
    unfold Builtin.Range.small Builtin.Range.rangeSize
    have k0 : 0 ≤ (j - i - 1) / c ∨ j ≤ i := by
      by_cases q : i < j
      · exact .inl (Int.ediv_nonneg (by omega) (by omega))
      · exact .inr (by omega)
    have k1 : (j - i - 1) / c * c ≤ j - i - 1 := Int.ediv_mul_le _ (by omega)
    have k2 : (j - i - 1) / c ≤ j - i - 1 ∨ j ≤ i := by
      by_cases q : i < j
      · exact .inl (Int.ediv_le_self _ (by omega))
      · exact .inr (by omega)
    have k3 : ((j - i - 1) / c + 1 - 1) * c = (j - i - 1) / c * c := by rw [Int.add_sub_cancel]
    have k4 : ((j - i - 1) / c + 1) * c = (j - i - 1) / c * c + c := by rw [Int.add_mul, Int.one_mul]
    simp only [Builtin.Range.rangeFitsLong, Bool.and_eq_true, Bool.or_eq_true, decide_eq_true_eq, beq_iff_eq, show (c > 0) = True from eq_true h1, if_true]
    split <;> omega
  refine ⟨by omega, by omega, sm, ?_⟩
  unfold Builtin.Range.rangeSize
  rw [if_pos h1]
  by_cases q : i < j
  · rw [if_pos q, if_pos q]
    have : 0 ≤ (j - i - 1) / c := Int.ediv_nonneg (by omega) (by omega)
    omega
  · rw [if_neg q, if_neg q]; rfl
section
variable {K : PySem.W.Frag} {mg : Mg} {H0 Gb Hb G H G1 H1 G' H' : Hp} {Lb L L1 L' : Addr → Prop} {pv : List V} {σ σ' : List (Option V)} {s s0 s1 s2 : S} {Q : VK} {E : XK}
variable {tm : Tm} {tt elt me : Mm} {is own ow : List Nat}
theorem lc_fromStep {lo c : Int} {n : Nat} (his : ∀ i ∈ is, i ∈ own) (hv : ∀ v ∈ own, v < s.sl.length) (R : SRep K mg H0 G H L pv σ s) (e : Ext Gb Hb Lb G H L) (hz : n ≤ sizeLine)
    (h : Go K mg E H0 Gb Hb Lb pv σ Q (lcR own tm tt elt (stepFrom lo c n) s)) (da : Addr) (hD : H da = none) :
    ∃ W : Nat → Nat → Hp → Prop, (∃ m, W 0 m (upd H da (.lst []))) ∧ ∀ i m H, W i m H →
      ((Itc lo c n).stop i H ∧ Q (.ref da) H) ∨ ((Itc lo c n).go i H ∧ ∃ Nx : Hp → Prop, (∀ H', Nx H' → ∃ m', m' < m ∧ W (i + 1) m' H') ∧ ∀ x H', (Itc lo c n).yld i H x H' → denG K mg is tm x (wipe σ own) H' fun σ2 H2 => wipe σ2 own = wipe σ own ∧ denT K mg E0 tt σ2 H2 fun b H3 =>
        if b = true then denE K mg E0 elt σ2 H3 fun y H4 => ∃ acc, H4 da = some (.lst acc) ∧ acc.length < sizeLine ∧ Nx (upd H4 da (.lst (acc ++ [y]))) else Nx H3) := by
  obtain ⟨hb, I0⟩ := lv_begin hv R e hD h
  let Pv : Nat → Hp → Prop := fun i H' => ∃ G' L' s' acc, LV K mg H0 G Gb Hb Lb pv (wipe σ own) da (fun H => Q (.ref da) H) tm tt elt own i (stepFrom lo c n) G' H' L' s' acc
  refine ⟨fun i m H => m = n - i ∧ i ≤ n ∧ Pv i H, ⟨n, by simp, Nat.zero_le _, G, L, _, [], I0⟩, ?_⟩
  rintro i m H3 ⟨rfl, hi, G3, L3, s3, acc, I⟩
  by_cases hlt : i < n
  · refine .inr ⟨hlt, Pv (i + 1), fun H' p' => ⟨n - (i + 1), by omega, rfl, hlt, p'⟩, fun x H4 y => ?_⟩
    obtain ⟨e1, y⟩ := y
    subst e1 y
    exact lv_turn his hb I (stepFrom_get lo c n i hlt) (by simp only [Rep]) (Nat.lt_of_lt_of_le hlt hz) fun G2 H2 L2 s2 acc2 J g => ⟨G2, L2, s2, acc2, J⟩
  · have e1 : i = n := by omega
    subst e1
    exact .inl ⟨Nat.le_refl _, lv_end I (by rw [stepFrom_len]; exact Nat.le_refl _)⟩
theorem den_lcR1 {fa : Mm} (his : ∀ i ∈ is, i ∈ ow) (hv : ∀ v ∈ ow, v < σ.length) (h : denE K mg E (mLcR rng1 ow tm tt me [fa]) σ H Q) :
    tLc (iRng1 (denA K mg E [fa])) (denG K mg is tm) (denT K mg E0 tt) (denE K mg E0 me) ow σ H Q := by
  obtain ⟨H0, G, L, pv, s, R, h⟩ := h
  refine denA_mono (fun vs H1 ⟨G1, L1, rs, s1, R1, e1, w, h1⟩ => ?_) (go_args R h)
  cases q : rds s1 rs with
  | none => rw [q] at h1; exact h1.elim
  | some ds =>
    rw [q] at h1
    obtain ⟨hl, hr⟩ := res_of R1 w q
    simp only at h1
    cases q2 : rng1 ds with
    | none => rw [q2] at h1; exact h1.elim
    | some p =>
      obtain ⟨lo, n⟩ := p
      rw [q2] at h1
      simp only at h1
      obtain ⟨j, rfl, b1, b2, rfl, rfl⟩ := rng1_some q2
      by_cases hz : j.toNat ≤ 16777216
      · rw [if_pos hz] at h1
        exact ⟨j, vals_1 hl hr, b1, b2, fun da hD => lc_fromRng his (fun v z => by rw [← R1.len]; exact hv v z) R1 e1 (by rw [sizeLine_eq]; exact hz) h1 da hD⟩
      · rw [if_neg hz] at h1; exact h1.elim
theorem den_lcR2 {fa fb : Mm} (his : ∀ i ∈ is, i ∈ ow) (hv : ∀ v ∈ ow, v < σ.length) (h : denE K mg E (mLcR rng2 ow tm tt me [fa, fb]) σ H Q) :
    tLc (iRng2 (denA K mg E [fa, fb])) (denG K mg is tm) (denT K mg E0 tt) (denE K mg E0 me) ow σ H Q := by
  obtain ⟨H0, G, L, pv, s, R, h⟩ := h
  refine denA_mono (fun vs H1 ⟨G1, L1, rs, s1, R1, e1, w, h1⟩ => ?_) (go_args R h)
  cases q : rds s1 rs with
  | none => rw [q] at h1; exact h1.elim
  | some ds =>
    rw [q] at h1
    obtain ⟨hl, hr⟩ := res_of R1 w q
    simp only at h1
    cases q2 : rng2 ds with
    | none => rw [q2] at h1; exact h1.elim
    | some p =>
      obtain ⟨lo, n⟩ := p
      rw [q2] at h1
      simp only at h1
      obtain ⟨j, rfl, b1, b2, b3, b4, rfl⟩ := rng2_some q2
      by_cases hz : (j - lo).toNat ≤ 16777216
      · rw [if_pos hz] at h1
        exact ⟨lo, j, vals_2 hl hr, ⟨b1, b2, b3, b4⟩, fun da hD => lc_fromRng his (fun v z => by rw [← R1.len]; exact hv v z) R1 e1 (by rw [sizeLine_eq]; exact hz) h1 da hD⟩
      · rw [if_neg hz] at h1; exact h1.elim
theorem rng3_some {ds : List D} {lo c : Int} {n : Nat} (h : rng3 ds = some (lo, c, n)) : ∃ j, ds = [.int lo, .int j, .int c] ∧ RgC lo j c n := by
  unfold rng3 at h
  split at h
  · rename_i i j c'
    split at h
    · rename_i q
      cases h
      exact ⟨j, rfl, rgc_up q⟩
    · cases h
  · cases h
theorem den_lcR3 {fa fb fc : Mm} (his : ∀ i ∈ is, i ∈ ow) (hv : ∀ v ∈ ow, v < σ.length) (h : denE K mg E (mLcC ow tm tt me [fa, fb, fc]) σ H Q) :
    tLc (iRng3 (denA K mg E [fa, fb, fc])) (denG K mg is tm) (denT K mg E0 tt) (denE K mg E0 me) ow σ H Q := by
  obtain ⟨H0, G, L, pv, s, R, h⟩ := h
  refine denA_mono (fun vs H1 ⟨G1, L1, rs, s1, R1, e1, w, h1⟩ => ?_) (go_args R h)
  cases q : rds s1 rs with
  | none => rw [q] at h1; exact h1.elim
  | some ds =>
    rw [q] at h1
    obtain ⟨hl, hr⟩ := res_of R1 w q
    simp only at h1
    cases q2 : rng3 ds with
    | none => rw [q2] at h1; exact h1.elim
    | some p =>
      obtain ⟨lo, c, n⟩ := p
      rw [q2] at h1
      simp only at h1
      obtain ⟨j, rfl, rg⟩ := rng3_some q2
      by_cases hz : n ≤ 16777216
      · rw [if_pos hz] at h1
        exact ⟨lo, j, c, n, vals_3 hl hr, rg, fun da hD => lc_fromStep his (fun v z => by rw [← R1.len]; exact hv v z) R1 e1 (by rw [sizeLine_eq]; exact hz) h1 da hD⟩
      · rw [if_neg hz] at h1; exact h1.elim
end
section
variable {X : Cx} {E : XK} {a b c tg elt : Expr} {ifs : List Expr} {fa fb fc tt me : Mm} {is : List Nat} {tm : Tm} {scope : Scope} {own : List (Str × Nat)} {p cpos pos : Pos}
theorem ix_lt {σ : L2.St} {pins : List (Addr × Obj)} {H : Hp} {s : Shared} (I : Inv X pins σ H s) (ok : BlkOk X.N X.env.scope scope own) : ∀ v ∈ own.map (·.2), v < σ.length := fun v hv => by
  obtain ⟨p, hp, rfl⟩ := List.mem_map.mp hv
  rw [I.len]
  exact (List.getElem?_eq_some_iff.mp (ok.ix p hp)).1
theorem me_lcR1 (hc : X.calm = true) (hN : X.N.Nodup) (hm : X.mg "range" = none) (ha : ME X E a fa) (ok : BlkOk X.N X.env.scope scope own) (his : ∀ i ∈ is, i ∈ own.map (·.2))
    (hg : ∀ (s : Shared) (H : Hp) (C : Addr) (cl : List (Str × Addr)) (fp : List Addr), MG (X.blk s H scope (compEnvC scope cl C X.env) fp) tg is tm) (ht : ∀ (s : Shared) (H : Hp) (C : Addr) (cl : List (Str × Addr)) (fp : List Addr), MTs (X.blk s H scope (compEnvC scope cl C X.env) fp) E0 ifs tt)
    (he : ∀ (s : Shared) (H : Hp) (C : Addr) (cl : List (Str × Addr)) (fp : List Addr), ME (X.blk s H scope (compEnvC scope cl C X.env) fp) E0 elt me) (hgl : Gl X "range" := by rfl)
    (h1 : starEach [a] X.env = [(false, eval a X.env)] := by rfl) (h2 : starEach [a] X.env = (false, eval a X.env) :: starEach [] X.env := by rfl) (hs : ∀ x, foldedSetIterable (.Call (.Name "range" p) [a] [] cpos) X.env x = pure x := by intro _; rfl) :
    ME X E (.ListComp elt [⟨tg, .Call (.Name "range" p) [a] [] cpos, ifs, 0⟩] scope pos) (mLcR rng1 (own.map (·.2)) tm tt me [fa]) :=
  ⟨fun pins s σ H Q I hw => (pe_lc (pos := pos) (elt := elt) (g := denG X.K X.mg is tm) (tt := denT X.K X.mg E0 tt) (te := denE X.K X.mg E0 me) hc hN (pi_range1 hgl hm (ma_cons ha ma_nil h2) h1) ok hg ht he hs).run pins s σ H Q I (den_lcR1 his (ix_lt I ok) hw)⟩
theorem ms_setLcR1 {i : Nat} {y : Str} {py spos : Pos} (hc : X.calm = true) (hN : X.N.Nodup) (hyl : X.env.scope.names.lookup y = some .local) (hsw : swapsWith (.ListComp elt [⟨tg, .Call (.Name "range" p) [a] [] cpos, ifs, 0⟩] scope pos) (some (.Name y py)) spos.line X.env = pure true)
    (hm : X.mg "range" = none) (ha : ME X E a fa) (ok : BlkOk X.N X.env.scope scope own) (his : ∀ i ∈ is, i ∈ own.map (·.2))
    (hg : ∀ (s : Shared) (H : Hp) (C : Addr) (cl : List (Str × Addr)) (fp : List Addr), MG (X.blk s H scope (compEnvC scope cl C X.env) fp) tg is tm) (ht : ∀ (s : Shared) (H : Hp) (C : Addr) (cl : List (Str × Addr)) (fp : List Addr), MTs (X.blk s H scope (compEnvC scope cl C X.env) fp) E0 ifs tt)
    (he : ∀ (s : Shared) (H : Hp) (C : Addr) (cl : List (Str × Addr)) (fp : List Addr), ME (X.blk s H scope (compEnvC scope cl C X.env) fp) E0 elt me) (hgl : Gl X "range" := by rfl) (hy : X.N[i]? = some y := by rfl)
    (h1 : starEach [a] X.env = [(false, eval a X.env)] := by rfl) (h2 : starEach [a] X.env = (false, eval a X.env) :: starEach [] X.env := by rfl) (hs : ∀ x, foldedSetIterable (.Call (.Name "range" p) [a] [] cpos) X.env x = pure x := by intro _; rfl) :
    MS X E (.Assign [.Name y py] (.ListComp elt [⟨tg, .Call (.Name "range" p) [a] [] cpos, ifs, 0⟩] scope pos) spos) (mSet i (mLcR rng1 (own.map (·.2)) tm tt me [fa])) :=
  ⟨fun pins s σ H D0 I hw => (ps_setLc (elt := elt) (g := denG X.K X.mg is tm) (tt := denT X.K X.mg E0 tt) (te := denE X.K X.mg E0 me) hc hN hy hyl hsw (pi_range1 hgl hm (ma_cons ha ma_nil h2) h1) ok hg ht he hs).run pins s σ H D0 I (den_lcR1 his (ix_lt I ok) (den_set D0 σ H hw))⟩
theorem me_lcR2 (hc : X.calm = true) (hN : X.N.Nodup) (hm : X.mg "range" = none) (ha : ME X E a fa) (hb : ME X E b fb) (ok : BlkOk X.N X.env.scope scope own) (his : ∀ i ∈ is, i ∈ own.map (·.2))
    (hg : ∀ (s : Shared) (H : Hp) (C : Addr) (cl : List (Str × Addr)) (fp : List Addr), MG (X.blk s H scope (compEnvC scope cl C X.env) fp) tg is tm) (ht : ∀ (s : Shared) (H : Hp) (C : Addr) (cl : List (Str × Addr)) (fp : List Addr), MTs (X.blk s H scope (compEnvC scope cl C X.env) fp) E0 ifs tt)
    (he : ∀ (s : Shared) (H : Hp) (C : Addr) (cl : List (Str × Addr)) (fp : List Addr), ME (X.blk s H scope (compEnvC scope cl C X.env) fp) E0 elt me) (hgl : Gl X "range" := by rfl)
    (h1 : starEach [a, b] X.env = [(false, eval a X.env), (false, eval b X.env)] := by rfl) (h2 : starEach [b] X.env = [(false, eval b X.env)] := by rfl) (h3 : starEach [a, b] X.env = (false, eval a X.env) :: starEach [b] X.env := by rfl) (h4 : starEach [b] X.env = (false, eval b X.env) :: starEach [] X.env := by rfl)
    (hs : ∀ x, foldedSetIterable (.Call (.Name "range" p) [a, b] [] cpos) X.env x = pure x := by intro _; rfl) :
    ME X E (.ListComp elt [⟨tg, .Call (.Name "range" p) [a, b] [] cpos, ifs, 0⟩] scope pos) (mLcR rng2 (own.map (·.2)) tm tt me [fa, fb]) :=
  ⟨fun pins s σ H Q I hw => (pe_lc (pos := pos) (elt := elt) (g := denG X.K X.mg is tm) (tt := denT X.K X.mg E0 tt) (te := denE X.K X.mg E0 me) hc hN (pi_range2 hgl hm (ma_cons ha (ma_cons hb ma_nil h4) h3) h1 h2) ok hg ht he hs).run pins s σ H Q I (den_lcR2 his (ix_lt I ok) hw)⟩
theorem ms_setLcR2 {i : Nat} {y : Str} {py spos : Pos} (hc : X.calm = true) (hN : X.N.Nodup) (hyl : X.env.scope.names.lookup y = some .local) (hsw : swapsWith (.ListComp elt [⟨tg, .Call (.Name "range" p) [a, b] [] cpos, ifs, 0⟩] scope pos) (some (.Name y py)) spos.line X.env = pure true)
    (hm : X.mg "range" = none) (ha : ME X E a fa) (hb : ME X E b fb) (ok : BlkOk X.N X.env.scope scope own) (his : ∀ i ∈ is, i ∈ own.map (·.2))
    (hg : ∀ (s : Shared) (H : Hp) (C : Addr) (cl : List (Str × Addr)) (fp : List Addr), MG (X.blk s H scope (compEnvC scope cl C X.env) fp) tg is tm) (ht : ∀ (s : Shared) (H : Hp) (C : Addr) (cl : List (Str × Addr)) (fp : List Addr), MTs (X.blk s H scope (compEnvC scope cl C X.env) fp) E0 ifs tt)
    (he : ∀ (s : Shared) (H : Hp) (C : Addr) (cl : List (Str × Addr)) (fp : List Addr), ME (X.blk s H scope (compEnvC scope cl C X.env) fp) E0 elt me) (hgl : Gl X "range" := by rfl) (hy : X.N[i]? = some y := by rfl)
    (h1 : starEach [a, b] X.env = [(false, eval a X.env), (false, eval b X.env)] := by rfl) (h2 : starEach [b] X.env = [(false, eval b X.env)] := by rfl) (h3 : starEach [a, b] X.env = (false, eval a X.env) :: starEach [b] X.env := by rfl) (h4 : starEach [b] X.env = (false, eval b X.env) :: starEach [] X.env := by rfl)
    (hs : ∀ x, foldedSetIterable (.Call (.Name "range" p) [a, b] [] cpos) X.env x = pure x := by intro _; rfl) :
    MS X E (.Assign [.Name y py] (.ListComp elt [⟨tg, .Call (.Name "range" p) [a, b] [] cpos, ifs, 0⟩] scope pos) spos) (mSet i (mLcR rng2 (own.map (·.2)) tm tt me [fa, fb])) :=
  ⟨fun pins s σ H D0 I hw => (ps_setLc (elt := elt) (g := denG X.K X.mg is tm) (tt := denT X.K X.mg E0 tt) (te := denE X.K X.mg E0 me) hc hN hy hyl hsw (pi_range2 hgl hm (ma_cons ha (ma_cons hb ma_nil h4) h3) h1 h2) ok hg ht he hs).run pins s σ H D0 I (den_lcR2 his (ix_lt I ok) (den_set D0 σ H hw))⟩
theorem me_lcR3 (hc : X.calm = true) (hN : X.N.Nodup) (hm : X.mg "range" = none) (ha : ME X E a fa) (hb : ME X E b fb) (hcc : ME X E c fc) (ok : BlkOk X.N X.env.scope scope own) (his : ∀ i ∈ is, i ∈ own.map (·.2))
    (hg : ∀ (s : Shared) (H : Hp) (C : Addr) (cl : List (Str × Addr)) (fp : List Addr), MG (X.blk s H scope (compEnvC scope cl C X.env) fp) tg is tm) (ht : ∀ (s : Shared) (H : Hp) (C : Addr) (cl : List (Str × Addr)) (fp : List Addr), MTs (X.blk s H scope (compEnvC scope cl C X.env) fp) E0 ifs tt)
    (he : ∀ (s : Shared) (H : Hp) (C : Addr) (cl : List (Str × Addr)) (fp : List Addr), ME (X.blk s H scope (compEnvC scope cl C X.env) fp) E0 elt me) (hgl : Gl X "range" := by rfl)
    (h3 : starEach [a, b, c] X.env = (false, eval a X.env) :: starEach [b, c] X.env := by rfl) (h4 : starEach [b, c] X.env = (false, eval b X.env) :: starEach [c] X.env := by rfl) (h5 : starEach [c] X.env = (false, eval c X.env) :: starEach [] X.env := by rfl) (h6 : (backTo cpos (starEach [b, c] X.env)).any (·.1) = false := by rfl)
    (hs : ∀ x, foldedSetIterable (.Call (.Name "range" p) [a, b, c] [] cpos) X.env x = pure x := by intro _; rfl) :
    ME X E (.ListComp elt [⟨tg, .Call (.Name "range" p) [a, b, c] [] cpos, ifs, 0⟩] scope pos) (mLcC (own.map (·.2)) tm tt me [fa, fb, fc]) :=
  ⟨fun pins s σ H Q I hw => (pe_lc (pos := pos) (elt := elt) (g := denG X.K X.mg is tm) (tt := denT X.K X.mg E0 tt) (te := denE X.K X.mg E0 me) hc hN (pi_range3 hgl hm (ma_cons ha (ma_cons hb (ma_cons hcc ma_nil h5) h4) h3) h3 h6) ok hg ht he hs).run pins s σ H Q I (den_lcR3 his (ix_lt I ok) hw)⟩
theorem ms_setLcR3 {i : Nat} {y : Str} {py spos : Pos} (hc : X.calm = true) (hN : X.N.Nodup) (hyl : X.env.scope.names.lookup y = some .local) (hsw : swapsWith (.ListComp elt [⟨tg, .Call (.Name "range" p) [a, b, c] [] cpos, ifs, 0⟩] scope pos) (some (.Name y py)) spos.line X.env = pure true)
    (hm : X.mg "range" = none) (ha : ME X E a fa) (hb : ME X E b fb) (hcc : ME X E c fc) (ok : BlkOk X.N X.env.scope scope own) (his : ∀ i ∈ is, i ∈ own.map (·.2))
    (hg : ∀ (s : Shared) (H : Hp) (C : Addr) (cl : List (Str × Addr)) (fp : List Addr), MG (X.blk s H scope (compEnvC scope cl C X.env) fp) tg is tm) (ht : ∀ (s : Shared) (H : Hp) (C : Addr) (cl : List (Str × Addr)) (fp : List Addr), MTs (X.blk s H scope (compEnvC scope cl C X.env) fp) E0 ifs tt)
    (he : ∀ (s : Shared) (H : Hp) (C : Addr) (cl : List (Str × Addr)) (fp : List Addr), ME (X.blk s H scope (compEnvC scope cl C X.env) fp) E0 elt me) (hgl : Gl X "range" := by rfl) (hy : X.N[i]? = some y := by rfl)
    (h3 : starEach [a, b, c] X.env = (false, eval a X.env) :: starEach [b, c] X.env := by rfl) (h4 : starEach [b, c] X.env = (false, eval b X.env) :: starEach [c] X.env := by rfl) (h5 : starEach [c] X.env = (false, eval c X.env) :: starEach [] X.env := by rfl) (h6 : (backTo cpos (starEach [b, c] X.env)).any (·.1) = false := by rfl)
    (hs : ∀ x, foldedSetIterable (.Call (.Name "range" p) [a, b, c] [] cpos) X.env x = pure x := by intro _; rfl) :
    MS X E (.Assign [.Name y py] (.ListComp elt [⟨tg, .Call (.Name "range" p) [a, b, c] [] cpos, ifs, 0⟩] scope pos) spos) (mSet i (mLcC (own.map (·.2)) tm tt me [fa, fb, fc])) :=
  ⟨fun pins s σ H D0 I hw => (ps_setLc (elt := elt) (g := denG X.K X.mg is tm) (tt := denT X.K X.mg E0 tt) (te := denE X.K X.mg E0 me) hc hN hy hyl hsw (pi_range3 hgl hm (ma_cons ha (ma_cons hb (ma_cons hcc ma_nil h5) h4) h3) h3 h6) ok hg ht he hs).run pins s σ H D0 I (den_lcR3 his (ix_lt I ok) (den_set D0 σ H hw))⟩
end
end Mx

set_option Elab.async false
set_option linter.all false
set_option maxRecDepth 100000
namespace Mx
open PySem PySem.Spec PyProof.Rows L2

/-! ### objects written -/
def ownAt (s : S) : Rv → Option D
  | .bs i => match s.sl[i]? with
    | some (.ow d) => some d
    | _ => none
  | .bp p => match s.pr[p]? with
    | some (.ow d) => some d
    | _ => none
  | _ => none
def putAt (s : S) (d : D) : Rv → S
  | .bs i => { s with sl := s.sl.set i (.ow d) }
  | .bp p => { s with pr := s.pr.set p (.ow d) }
  | _ => s
section
variable {K : PySem.W.Frag} {mg : Mg} {E : XK} {H0 G H G1 H1 G' H' : Hp} {L L1 L' : Addr → Prop} {pv : List V} {σ : List (Option V)} {s s1 : S} {Q : VK}
theorem upd_there {a b : Addr} {o : HO} (h : H b ≠ none) : upd H a o b ≠ none := by
  by_cases e : b = a
  · rw [e, upd_same]; simp
  · rw [upd_ne e]; exact h
theorem Own.away {d : D} {a b : Addr} {o : HO} (h : Own K mg G H d b) (ne : b ≠ a) : Own K mg G (upd H a o) d b := h.move (fun _ _ q => q) (upd_ne ne) h.there.2
theorem Ext.wr {a : Addr} {o : HO} (l : L a) : Ext G H L G (upd H a o) L :=
  ⟨fun _ _ q => q, fun b u q n => by
    have ne : b ≠ a := fun e => by subst e; exact n l
    rw [upd_ne ne]; exact q, fun _ h => .inl h, fun _ h => .inl h, fun b h => upd_there h⟩
theorem wr_ok {rv : Rv} {v : V} {d : D} (R : SRep K mg H0 G H L pv σ s) (r : RvRep K mg H0 G H L pv σ rv v) (h : ownAt s rv = some d) :
    ∃ a, v = .ref a ∧ Own K mg G H d a ∧ L a ∧ ∀ d' o, Own K mg G (upd H a o) d' a → SRep K mg H0 G (upd H a o) L pv σ (putAt s d' rv) := by
  cases rv with
  | sh _ => cases h
  | fr _ => cases h
  | bs i =>
    simp only [ownAt] at h
    split at h
    · rename_i d0 hi
      cases h
      obtain ⟨a, ea, oa, la, za⟩ := R.cell i _ hi
      have r : σ[i]? = some (some v) := r
      rw [ea] at r
      cases r
      refine ⟨a, rfl, oa, la, fun d' o no => ⟨fun b u q => ?_, fun b h => upd_there (R.old b h), fun b l => upd_there (R.lv b l), by simp only [putAt, List.length_set]; exact R.len, R.plen, fun j c h => ?_, fun p c h => ?_, fun j k d1 d2 v (h1 : (s.sl.set i (.ow d'))[j]? = _) (h2 : (s.sl.set i (.ow d'))[k]? = _) h3 h4 => ?_, R.app⟩⟩
      · rw [upd_ne (ne_of_none q oa.there.2)]; exact R.same b u q
      · rcases getElem?_set_of h with ⟨rfl, rfl⟩ | ⟨ne, h⟩
        · exact ⟨a, ea, no, la, za⟩
        · have q := R.cell j c h
          cases c with
          | un => trivial
          | sh d => exact q
          | ow d1 =>
            obtain ⟨b, e, o, l, z⟩ := q
            exact ⟨b, e, o.away fun y => ne (R.ap j i _ _ (.ref a) h hi (by rw [e, y]) ea), l, z⟩
          | al p => exact q
      · have q := R.par p c h
        cases c with
        | un => trivial
        | sh d => exact q
        | ow d => obtain ⟨b, e, o, l, z⟩ := q; exact ⟨b, e, o.away fun y => z (y ▸ za), l, z⟩
        | al p => trivial
      · rcases getElem?_set_of h1 with ⟨rfl, _⟩ | ⟨n1, g1⟩
        · rcases getElem?_set_of h2 with ⟨rfl, _⟩ | ⟨n2, g2⟩
          · rfl
          · exact R.ap _ k _ d2 v hi g2 h3 h4
        · rcases getElem?_set_of h2 with ⟨rfl, _⟩ | ⟨n2, g2⟩
          · exact R.ap j _ d1 _ v g1 hi h3 h4
          · exact R.ap j k d1 d2 v g1 g2 h3 h4
    · cases h
  | bp p =>
    simp only [ownAt] at h
    split at h
    · rename_i d0 hi
      cases h
      obtain ⟨a, ea, oa, la, za⟩ := R.par p _ hi
      have r : pv[p]? = some v := r
      rw [ea] at r
      cases r
      refine ⟨a, rfl, oa, la, fun d' o no => ⟨fun b u q => ?_, fun b h => upd_there (R.old b h), fun b l => upd_there (R.lv b l), R.len, by simp only [putAt, List.length_set]; exact R.plen, fun j c h => ?_, fun j c h => ?_, R.ap, fun j k d1 d2 v (h1 : (s.pr.set p (.ow d'))[j]? = _) (h2 : (s.pr.set p (.ow d'))[k]? = _) h3 h4 => ?_⟩⟩
      · rw [upd_ne (ne_of_none q oa.there.2)]; exact R.same b u q
      · have q := R.cell j c h
        cases c with
        | un => trivial
        | sh d => exact q
        | ow d => obtain ⟨b, e, o, l, z⟩ := q; exact ⟨b, e, o.away fun y => za (y ▸ z), l, z⟩
        | al p => exact q
      · rcases getElem?_set_of h with ⟨rfl, rfl⟩ | ⟨ne, h⟩
        · exact ⟨a, ea, no, la, za⟩
        · have q := R.par j c h
          cases c with
          | un => trivial
          | sh d => exact q
          | ow d1 =>
            obtain ⟨b, e, o, l, z⟩ := q
            exact ⟨b, e, o.away fun y => ne (R.app j p _ _ (.ref a) h hi (by rw [e, y]) ea), l, z⟩
          | al p => trivial
      · rcases getElem?_set_of h1 with ⟨rfl, _⟩ | ⟨n1, g1⟩
        · rcases getElem?_set_of h2 with ⟨rfl, _⟩ | ⟨n2, g2⟩
          · rfl
          · exact R.app _ k _ d2 v hi g2 h3 h4
        · rcases getElem?_set_of h2 with ⟨rfl, _⟩ | ⟨n2, g2⟩
          · exact R.app j _ d1 _ v g1 hi h3 h4
          · exact R.app j k d1 d2 v g1 g2 h3 h4
    · cases h
theorem own_rv {rv : Rv} {v : V} {d : D} {G2 H2 : Hp} {L2' : Addr → Prop} {s2 : S} (r : RvRep K mg H0 G H L pv σ rv v) (h : ownAt s2 rv = some d) : RvRep K mg H0 G2 H2 L2' pv σ rv v := by
  cases rv with
  | sh _ => cases h
  | fr _ => cases h
  | bs i => exact r
  | bp p => exact r
end

/-! ### methods that write a list -/
def isL : Option D → Bool
  | some (.lst _) => true
  | _ => false
/-- op: its items, the arguments; the answer, its items behind it -/
def mMut (op : List D → List D → Option (D × List D)) (f : Mm) (fs : List Mm) : Mm := fun s => (f s).bind fun r s1 => if isL (ownAt s1 r) = true then (mArgs fs s1).bind fun rs s2 => match escs s2 rs with
  | some (ds, s3) => match ownAt s3 r with
    | some (.lst xs) => match op xs ds with
      | some (d, ys) => .ok (.sh d) (putAt s3 (.lst ys) r)
      | none => .no
    | _ => .no
  | none => .no else .no
def MutD (K : PySem.W.Frag) (mg : Mg) (r : V → List V → Hp → VK → Prop) (op : List D → List D → Option (D × List D)) : Prop :=
  ∀ G H a xs us vs ds d ys, H a = some (.lst us) → us.length ≤ 16777216 → Reps K mg G xs us → Reps K mg G ds vs → op xs ds = some (d, ys) → ∀ Q : VK, (∀ v ws, Reps K mg G ys ws → Rep K mg G d v → Q v (upd H a (.lst ws))) → r (.ref a) vs H Q
section
variable {K : PySem.W.Frag} {mg : Mg} {E : XK} {H0 G H G1 H1 G' H' : Hp} {L L1 L' : Addr → Prop} {pv : List V} {σ : List (Option V)} {s s1 : S} {Q : VK}
theorem isL_ty {rv : Rv} {v : V} (R : SRep K mg H0 G H L pv σ s) (r : RvRep K mg H0 G H L pv σ rv v) (h : isL (ownAt s rv) = true) : ∃ a xs, v = .ref a ∧ H a = some (.lst xs) := by
  cases q : ownAt s rv with
  | none => rw [q] at h; cases h
  | some d =>
    rw [q] at h
    obtain ⟨a, rfl, o, _, _⟩ := wr_ok R r q
    cases d with
    | lst xs =>
      simp only [Own] at o
      obtain ⟨vs, e, _, _⟩ := o
      exact ⟨a, vs, rfl, e⟩
    | _ => cases h
end
section
variable {X : Cx} {E : XK} {o e : Expr} {es : List Expr} {f : Mm} {fs : List Mm} {name : Str} {apos cpos : Pos} {id : String} {r : V → List V → Hp → VK → Prop} {op : List D → List D → Option (D × List D)}
/-- as it is with the length of its list known -/
def rZ (r : V → List V → Hp → VK → Prop) : V → List V → Hp → VK → Prop := fun x vs H Q => ∃ a xs, x = .ref a ∧ H a = some (.lst xs) ∧ (xs.length ≤ 16777216 → r x vs H Q)
theorem mtr_Z (hm : MtR X id r) : MtR X id (rZ r) := by
  intro pins s σ H x vs v us Q I rx rv h
  obtain ⟨a, xs, rfl, e, k⟩ := h
  obtain ⟨z, _⟩ := I.lstM e
  exact hm pins s σ H _ vs v us Q I rx rv (k (by rw [← sizeLine_eq]; exact z))
theorem den_mut {K : PySem.W.Frag} {mg : Mg} (ho : MutD K mg r op) (σ : L2.St) (H : Hp) (Q : VK) (h : denE K mg E (mMut op f fs) σ H Q) : tBM K "list" (rZ r) (denE K mg E f) (denA K mg E fs) σ H Q := by
  obtain ⟨H0, G, L, pv, s, R, h⟩ := h
  refine den_mono _ _ _ _ (fun x H1 ⟨G1, L1, r1, s1, A1, h1⟩ => ?_) (go_bind R h)
  by_cases c : isL (ownAt s1 r1) = true
  · rw [if_pos c] at h1
    obtain ⟨a, xs, rfl, e⟩ := isL_ty A1.R A1.r c
    refine ⟨.inl ⟨rfl, xs, .inl (.inl e)⟩, ?_⟩
    refine denA_mono (fun vs H2 ⟨G2, L2, rs, s2, R2, e2, w, h2⟩ => ?_) (go_args A1.R h1)
    cases q : escs s2 rs with
    | none => rw [q] at h2; exact h2.elim
    | some p =>
      obtain ⟨ds, s3⟩ := p
      rw [q] at h2
      simp only at h2
      obtain ⟨G3, R3, e3, r3, gg⟩ := escs_ok R2 e2 w q
      cases q2 : ownAt s3 r1 with
      | none => rw [q2] at h2; exact h2.elim
      | some d =>
        rw [q2] at h2
        cases d with
        | lst xs =>
          simp only at h2
          cases q3 : op xs ds with
          | none => rw [q3] at h2; exact h2.elim
          | some p =>
            obtain ⟨d, ys⟩ := p
            rw [q3] at h2
            obtain ⟨a', ea, ow, la, k⟩ := wr_ok R3 (own_rv (G2 := G3) (H2 := H2) (L2' := L2) A1.r q2) q2
            cases ea
            simp only [Own] at ow
            obtain ⟨us, e4, g4, r4⟩ := ow
            refine ⟨a, us, rfl, e4, fun hz => ho G3 H2 a xs us vs ds d ys e4 hz r4 r3 q3 Q fun v ws rw' rv' => ?_⟩
            have no : Own K mg G3 (upd H2 a (.lst ws)) (.lst ys) a := by simp only [Own]; exact ⟨ws, upd_same, g4, rw'⟩
            exact h2 G3 _ L2 v (k _ _ no) (e3.trans (Ext.wr la)) rv' trivial
        | _ => exact h2.elim
  · rw [if_neg c] at h1; exact h1.elim
theorem den_mut0 {K : PySem.W.Frag} {mg : Mg} (ho : MutD K mg r op) (σ : L2.St) (H : Hp) (Q : VK) (h : denE K mg E (mMut op f []) σ H Q) : tBM0 K "list" (rZ r) (denE K mg E f) σ H Q := by
  have h2 := den_mut (f := f) (fs := []) ho σ H Q h
  refine den_mono _ _ _ _ (fun x H1 ⟨t, z⟩ => ⟨t, ?_⟩) h2
  obtain ⟨H0, G, L, pv, s, R, z⟩ := z
  exact z G H1 L [] R (Ext.refl ..) .nil
theorem me_mut (ho : MutD X.K X.mg r op) (slot : Slot "list" name id) (hty : typeOf (.builtin id) = pure (.type "method_descriptor")) (hm : MtR X id r) (hf : ME X E o f) (ha : MA X E (e :: es) fs)
    (hbase : attributeBase o name X.env (eval o X.env) = eval o X.env := by rfl)
    (hfew : ((backTo cpos (starEach (e :: es) X.env)).all (fun x => !x.1) && (backToKw cpos (keywordEach [] X.env)).all (fun x => x.1.isSome)
      && decide ((e :: es).length + ([] : List Keyword).length + (if ([] : List Keyword).isEmpty then 0 else 1) < 30)) = true := by rfl)
    (hline : (apos.endLine == cpos.line) = true := by rfl) (hs : starEach (e :: es) X.env = (false, eval e X.env) :: starEach es X.env := by rfl) (hplain : (backTo cpos (starEach es X.env)).any (·.1) = false := by rfl) :
    ME X E (.Call (.Attribute o name apos) (e :: es) [] cpos) (mMut op f fs) := PE.imp (pe_bm F.plainAttrs_list slot hty (mtr_Z hm) hf ha hbase hfew hline hs hplain) (den_mut ho)
theorem me_mut0 (ho : MutD X.K X.mg r op) (slot : Slot "list" name id) (hty : typeOf (.builtin id) = pure (.type "method_descriptor")) (hm : MtR X id r) (hf : ME X E o f)
    (hbase : attributeBase o name X.env (eval o X.env) = eval o X.env := by rfl) (hline : (apos.endLine == cpos.line) = true := by rfl) :
    ME X E (.Call (.Attribute o name apos) [] [] cpos) (mMut op f []) := PE.imp (pe_bm0 F.plainAttrs_list slot hty (mtr_Z hm) hf hbase hline) (den_mut0 ho)

/-! append, pop, insert, reverse, clear -/
def dAppend : List D → List D → Option (D × List D)
  | xs, [d] => if xs.length < 16777216 then some (.non, xs ++ [d]) else none
  | _, _ => none
theorem mutd_append {K : PySem.W.Frag} {mg : Mg} : MutD K mg rAppend dAppend := by
  intro G H a xs us vs ds d ys e hz r1 r2 h Q k
  match ds, h with
  | [d0], h =>
    simp only [dAppend] at h
    split at h
    · rename_i c
      cases h
      simp only [Reps] at r2
      obtain ⟨v, _, rfl, rv, rfl⟩ := r2
      exact ⟨a, us, v, rfl, rfl, e, by rw [sizeLine_eq, ← r1.len]; exact c, k .non _ (r1.append (Reps.cons rv Reps.nil)) (by simp only [Rep])⟩
    · cases h
def dPop : List D → List D → Option (D × List D)
  | xs, [] => match xs.getLast? with
    | some y => some (y, xs.dropLast)
    | none => none
  | xs, [.int i] => match ixN xs.length i with
    | some k => match xs[k]? with
      | some y => some (y, xs.eraseIdx k)
      | none => none
    | none => none
  | _, _ => none
def rPopA : V → List V → Hp → VK → Prop := fun x vs H Q => rPop x vs H Q ∨ rPopAt x vs H Q
theorem reps_dropLast {G : Hp} {K : PySem.W.Frag} {mg : Mg} {ds : List D} {vs : List V} (h : Reps K mg G ds vs) : Reps K mg G ds.dropLast vs.dropLast := by
  rw [List.dropLast_eq_take, List.dropLast_eq_take, h.len]
  exact h.take _
theorem mutd_pop {K : PySem.W.Frag} {mg : Mg} : MutD K mg rPopA dPop := by
  intro G H a xs us vs ds d ys e hz r1 r2 h Q k
  match ds, h with
  | [], h =>
    simp only [Reps] at r2
    subst r2
    simp only [dPop] at h
    split at h
    · rename_i y hy
      cases h
      rw [List.getLast?_eq_getElem?] at hy
      obtain ⟨v, e1, rv⟩ := r1.get hy
      refine .inl ⟨a, us, v, rfl, rfl, e, by rw [← r1.len]; exact e1, k v _ (reps_dropLast r1) rv⟩
    · cases h
  | [.int i], h =>
    simp only [Reps, Rep] at r2
    obtain ⟨_, _, rfl, rfl, rfl⟩ := r2
    simp only [dPop] at h
    split at h
    · rename_i j hj
      split at h
      · rename_i y hy
        cases h
        obtain ⟨v, e1, rv⟩ := r1.get hy
        obtain ⟨h1, h2, h3, h4⟩ := ixN_seq hj
        rw [r1.len] at h1 h3 h4
        exact .inr ⟨a, us, i, j, v, rfl, rfl, e, by omega, by omega, h1, e1, k v _ (r1.eraseIdx j) rv⟩
      · cases h
    · cases h
def dInsert : List D → List D → Option (D × List D)
  | xs, [.int i, d] => if xs.length < 16777216 ∧ 0 ≤ i ∧ i < 2 ^ 63 then some (.non, xs.take i.toNat ++ d :: xs.drop i.toNat) else none
  | _, _ => none
theorem mutd_insert {K : PySem.W.Frag} {mg : Mg} : MutD K mg (fun x vs H Q => ∃ (l : Addr) (xs : List V) (i : Int) (y : V), x = .ref l ∧ vs = [.int i, y] ∧ H l = some (.lst xs) ∧ xs.length < sizeLine ∧ 0 ≤ i ∧ i < 2 ^ 63 ∧
    Q .non (upd H l (.lst (xs.take i.toNat ++ [y] ++ xs.drop i.toNat)))) dInsert := by
  intro G H a xs us vs ds d ys e hz r1 r2 h Q k
  match ds, h with
  | [.int i, d0], h =>
    simp only [dInsert] at h
    split at h
    · rename_i c
      cases h
      simp only [Reps, Rep] at r2
      obtain ⟨_, _, rfl, rfl, v, _, rfl, rv, rfl⟩ := r2
      refine ⟨a, us, i, v, rfl, rfl, e, by rw [sizeLine_eq, ← r1.len]; exact c.1, c.2.1, c.2.2, k .non _ ?_ (by simp only [Rep])⟩
      rw [List.append_assoc]
      exact (r1.take _).append (Reps.cons rv (r1.drop _))
    · cases h
def dReverse : List D → List D → Option (D × List D)
  | xs, [] => some (.non, xs.reverse)
  | _, _ => none
theorem mutd_reverse {K : PySem.W.Frag} {mg : Mg} : MutD K mg rReverse dReverse := by
  intro G H a xs us vs ds d ys e hz r1 r2 h Q k
  match ds, h with
  | [], h =>
    cases h
    simp only [Reps] at r2
    subst r2
    exact ⟨a, us, rfl, rfl, e, k .non _ r1.reverse (by simp only [Rep])⟩
def dClear : List D → List D → Option (D × List D)
  | _, [] => some (.non, [])
  | _, _ => none
theorem mutd_clear {K : PySem.W.Frag} {mg : Mg} : MutD K mg rClear dClear := by
  intro G H a xs us vs ds d ys e hz r1 r2 h Q k
  match ds, h with
  | [], h =>
    cases h
    simp only [Reps] at r2
    subst r2
    exact ⟨a, us, rfl, rfl, e, k .non _ Reps.nil (by simp only [Rep])⟩
end

/-! ### o[i] = e -/
section
variable {K : PySem.W.Frag} {mg : Mg} {E : XK} {H0 G H G1 H1 G' H' : Hp} {L L1 L' : Addr → Prop} {pv : List V} {σ : List (Option V)} {s s1 : S} {Q : VK}
theorem go_thnB {D : Ends} {f : Mm} {k : Rv → S → SR} (R : SRep K mg H0 G1 H1 L1 pv σ s) (e : Ext G H L G1 H1 L1) (h : GoS K mg E H0 G H L pv D ((f s).thn k)) :
    denE K mg E f σ H1 (fun x H2 => ∃ G2 L2 rv s1, Aft K mg E H0 G1 H1 L1 pv σ rv s1 x G2 H2 L2 ∧ GoS K mg E H0 G H L pv D (k rv s1)) := by
  refine ⟨H0, G1, L1, pv, s, R, ?_⟩
  cases q : f s with
  | ok rv s' =>
    rw [q] at h
    exact fun G' H' L' v R' e' r n => ⟨G', L', rv, s', ⟨R', e', r, n⟩, h⟩
  | ex c fs s' => rw [q] at h; exact GoX.base h e
  | no => rw [q] at h; exact h
theorem go_bindB {f : Mm} {k : Rv → S → Res} {σ : List (Option V)} (R : SRep K mg H0 G1 H1 L1 pv σ s) (e : Ext G H L G1 H1 L1) (h : Go K mg E H0 G H L pv σ Q ((f s).bind k)) :
    denE K mg E f σ H1 (fun x H2 => ∃ G2 L2 rv s1, Aft K mg E H0 G1 H1 L1 pv σ rv s1 x G2 H2 L2 ∧ Go K mg E H0 G H L pv σ Q (k rv s1)) := by
  refine ⟨H0, G1, L1, pv, s, R, ?_⟩
  cases q : f s with
  | ok rv s' =>
    rw [q] at h
    exact fun G' H' L' v R' e' r n => ⟨G', L', rv, s', ⟨R', e', r, n⟩, h⟩
  | ex c fs s' => rw [q] at h; exact GoX.base h e
  | no => rw [q] at h; exact h
end
def mSetIx (fe fo fi : Mm) : Ms := fun s => (fe s).thn fun r s1 => (fo s1).thn fun ro s2 => (fi s2).thn fun ri s3 => match rd s3 ri with
  | some (.int k) => match esc s3 r with
    | some (d, s4) => match ownAt s4 ro with
      | some (.lst xs) => match ixN xs.length k with
        | some j => .nx (putAt s4 (.lst (xs.set j d)) ro)
        | none => .no
      | _ => .no
    | none => .no
  | _ => .no
section
variable {X : Cx} {E : XK} {o i e : Expr} {fe fo fi : Mm} {tpos pos : Pos}
theorem ms_setIx (he : ME X E e fe) (ho : ME X E o fo) (hi : ME X E i fi)
    (ha : ∀ v, assign (.Subscript o i tpos) X.env v = (do
      let ov ← holding [v] (eval o X.env)
      let iv ← holding [v, ov] (eval i X.env)
      standAt tpos
      holding [v, ov, iv] (setItem ov iv v)
      release [v, ov, iv] []) := by intro _; rfl)
    (hs : swapsWithSole [.Subscript o i tpos] e pos.line X.env = pure false := by rfl) (hw : swappedStores [.Subscript o i tpos] e X.env = pure none := by rfl)
    (h1 : (assignEach [.Subscript o i tpos] X.env).map (·.2) = [assign (.Subscript o i tpos) X.env] := by rfl) : MS X E (.Assign [.Subscript o i tpos] e pos) (mSetIx fe fo fi) :=
  PS.imp (ps_asg he (pg_sub ho hi set_list ha) hs hw h1) fun D σ H h => by
    obtain ⟨H0, G, L, pv, s, R, h⟩ := h
    refine den_mono _ _ _ _ (fun x H1 ⟨G1, L1, r1, s1, A1, h1⟩ => ?_) (go_thn0 R h)
    refine den_mono _ _ _ _ (fun y H2 ⟨G2, L2, r2, s2, A2, h2⟩ => ?_) (go_thnB A1.R A1.e h1)
    refine den_mono _ _ _ _ (fun z H3 ⟨G3, L3, r3, s3, A3, h3⟩ => ?_) (go_thnB A2.R (A1.e.trans A2.e) h2)
    cases q : rd s3 r3 with
    | none => rw [q] at h3; exact h3.elim
    | some dk =>
      rw [q] at h3
      have hz := rd_ok A3.R A3.r q
      cases dk with
      | int k =>
        simp only at h3
        have ez := rdb_int hz
        subst ez
        have eAll := (A1.e.trans A2.e).trans A3.e
        cases q1 : esc s3 r1 with
        | none => rw [q1] at h3; exact h3.elim
        | some p =>
          obtain ⟨d, s4⟩ := p
          rw [q1] at h3
          simp only at h3
          obtain ⟨G4, R4, e4, r4, g4, _⟩ := esc_ok A3.R eAll ((A1.r.ext A2.e).ext A3.e) A1.n q1
          cases q2 : ownAt s4 r2 with
          | none => rw [q2] at h3; exact h3.elim
          | some d2 =>
            rw [q2] at h3
            cases d2 with
            | lst xs =>
              simp only at h3
              cases q3 : ixN xs.length k with
              | none => rw [q3] at h3; exact h3.elim
              | some j =>
                rw [q3] at h3
                obtain ⟨a, rfl, ow, la, kk⟩ := wr_ok R4 (own_rv (G2 := G4) (H2 := H3) (L2' := L3) A2.r q2) q2
                simp only [Own] at ow
                obtain ⟨us, e5, g5, r5⟩ := ow
                refine ⟨a, us, k, j, rfl, rfl, e5, by rw [← r5.len]; exact q3, ?_⟩
                have no : Own X.K X.mg G4 (upd H3 a (.lst (us.set j x))) (.lst (xs.set j d)) a := by simp only [Own]; exact ⟨_, upd_same, g5, r5.set j r4⟩
                exact h3 G4 _ L3 σ (kk _ _ no) (e4.trans (Ext.wr la))
            | _ => exact h3.elim
      | _ => exact h3.elim
end
end Mx

set_option Elab.async false
set_option linter.all false
set_option maxRecDepth 100000
namespace Mx
open PySem PySem.Spec PyProof.Rows L2

/-! ### built-ins of lists and tuples -/
def intsOf : List D → Option (List Int)
  | [] => some []
  | .int i :: ds => match intsOf ds with
    | some r => some (i :: r)
    | none => none
  | _ => none
def blsOf : List D → Option (List Bool)
  | [] => some []
  | .bl i :: ds => match blsOf ds with
    | some r => some (i :: r)
    | none => none
  | _ => none
theorem intsOf_map : ∀ (ns : List Int), intsOf (ns.map D.int) = some ns
  | [] => rfl
  | n :: ns => by simp only [List.map_cons, intsOf, intsOf_map ns]
theorem blsOf_map : ∀ (ns : List Bool), blsOf (ns.map D.bl) = some ns
  | [] => rfl
  | n :: ns => by simp only [List.map_cons, blsOf, blsOf_map ns]
theorem intsOf_eq : ∀ {ds : List D} {ns : List Int}, intsOf ds = some ns → ds = ns.map D.int
  | [], ns, h => by cases h; rfl
  | d :: ds, ns, h => by
    cases d with
    | int i =>
      simp only [intsOf] at h
      split at h
      · rename_i r q
        cases h
        rw [intsOf_eq q]; rfl
      · cases h
    | _ => cases h
theorem blsOf_eq : ∀ {ds : List D} {ns : List Bool}, blsOf ds = some ns → ds = ns.map D.bl
  | [], ns, h => by cases h; rfl
  | d :: ds, ns, h => by
    cases d with
    | bl i =>
      simp only [blsOf] at h
      split at h
      · rename_i r q
        cases h
        rw [blsOf_eq q]; rfl
      · cases h
    | _ => cases h
section
variable {K : PySem.W.Frag} {mg : Mg} {G H : Hp}
theorem reps_ints : ∀ {ns : List Int} {vs : List V}, Reps K mg G (ns.map D.int) vs → vs = ns.map V.int
  | [], vs, h => by simpa only [List.map_nil, Reps] using h
  | n :: ns, vs, h => by
    simp only [List.map_cons, Reps, Rep] at h
    obtain ⟨v, r, rfl, rfl, t⟩ := h
    rw [reps_ints t]; rfl
theorem reps_bls : ∀ {ns : List Bool} {vs : List V}, Reps K mg G (ns.map D.bl) vs → vs = ns.map V.bl
  | [], vs, h => by simpa only [List.map_nil, Reps] using h
  | n :: ns, vs, h => by
    simp only [List.map_cons, Reps, Rep] at h
    obtain ⟨v, r, rfl, rfl, t⟩ := h
    rw [reps_bls t]; rfl
/-- a list or a tuple, read -/
theorem rdb_seq {d : D} {ds : List D} {x : V} (s : Same G H) (h : Rdb K mg G H d x) (q : itemsOf d = some ds) : ∃ a vs, x = .ref a ∧ (SqL K H a vs ∨ SqT K H a vs) ∧ Reps K mg G ds vs := by
  cases d with
  | lst xs => cases q; obtain ⟨a, vs, rfl, q, r⟩ := rdb_lst h; exact ⟨a, vs, rfl, .inl (.inl (.inl q)), r⟩
  | rol xs => cases q; obtain ⟨a, vs, rfl, q, r⟩ := rdb_rol h; exact ⟨a, vs, rfl, .inl (s.seq q), r⟩
  | tup xs => cases q; obtain ⟨a, vs, rfl, q, r⟩ := rdb_tup h; exact ⟨a, vs, rfl, .inr (Same.tseq s q), r⟩
  | _ => cases q
/-- the items of a list -/
def lItems : D → Option (List D)
  | .lst ds => some ds
  | .rol ds => some ds
  | _ => none
theorem rdb_list {d : D} {ds : List D} {x : V} (s : Same G H) (h : Rdb K mg G H d x) (q : lItems d = some ds) : ∃ a vs, x = .ref a ∧ SqL K H a vs ∧ Reps K mg G ds vs := by
  cases d with
  | lst xs => cases q; obtain ⟨a, vs, rfl, q, r⟩ := rdb_lst h; exact ⟨a, vs, rfl, .inl (.inl q), r⟩
  | rol xs => cases q; obtain ⟨a, vs, rfl, q, r⟩ := rdb_rol h; exact ⟨a, vs, rfl, s.seq q, r⟩
  | _ => cases q
end

def dList (d : D) : Option Rv := match itemsOf d with
    | some ds => some (.fr (.lst ds))
    | none => none
theorem bld_list {K : PySem.W.Frag} {mg : Mg} : BlD K mg (fun xs H Q => ∃ p ys, xs = [.ref p] ∧ (SqL K H p ys ∨ SqT K H p ys) ∧ ∀ l, H l = none → Q (.ref l) (upd H l (.lst ys))) (op1 dList) := bld1 fun G H x d res s hx h Q k => by
  unfold dList at h
  split at h
  · rename_i ds q
    cases h
    obtain ⟨a, vs, rfl, q, r⟩ := rdb_seq s hx q
    exact ⟨a, vs, rfl, q, fun l hl => k G _ _ (New.obj s hl) (own_lst s hl r)⟩
  · cases h
def dTuple (d : D) : Option Rv := match itemsOf d with
    | some ds => some (.sh (.tup ds))
    | none => none
theorem bld_tuple {K : PySem.W.Frag} {mg : Mg} : BlD K mg (fun xs H Q => ∃ p ys, xs = [.ref p] ∧ ((SqL K H p ys ∧ ∀ l, H l = none → Q (.ref l) (upd H l (.tup ys))) ∨ (SqT K H p ys ∧ Q (.ref p) H))) (op1 dTuple) := bld1 fun G H x d res s hx h Q k => by
  cases d with
  | lst xs =>
    cases h
    obtain ⟨a, vs, rfl, q, r⟩ := rdb_lst hx
    exact ⟨a, vs, rfl, .inl ⟨.inl (.inl q), fun l hl => k _ _ _ (New.tup s hl) (rep_tup s hl r)⟩⟩
  | rol xs =>
    cases h
    obtain ⟨a, vs, rfl, q, r⟩ := rdb_rol hx
    exact ⟨a, vs, rfl, .inl ⟨s.seq q, fun l hl => k _ _ _ (New.tup s hl) (rep_tup s hl r)⟩⟩
  | tup xs =>
    cases h
    obtain ⟨a, vs, rfl, q, r⟩ := rdb_tup hx
    exact ⟨a, vs, rfl, .inr ⟨Same.tseq s q, k G H _ (New.refl s) (by simp only [ResRep, Rep]; exact ⟨a, vs, rfl, q, r⟩)⟩⟩
  | _ => cases h
def dAll (d : D) : Option Rv := match lItems d with
    | some ds => match blsOf ds with
      | some bs => some (.sh (.bl (bs.all id)))
      | none => none
    | none => none
theorem bld_all {K : PySem.W.Frag} {mg : Mg} : BlD K mg (rAll K) (op1 dAll) := bld1 fun G H x d res s hx h Q k => by
  unfold dAll at h
  split at h
  · rename_i ds q
    split at h
    · rename_i bs q2
      cases h
      obtain ⟨a, vs, rfl, q, r⟩ := rdb_list s hx q
      have e := blsOf_eq q2
      subst e
      have e := reps_bls r
      subst e
      exact ⟨a, bs, rfl, q, k G H _ (New.refl s) res_bl⟩
    · cases h
  · cases h
def dAny (d : D) : Option Rv := match lItems d with
    | some ds => match blsOf ds with
      | some bs => some (.sh (.bl (bs.any id)))
      | none => none
    | none => none
theorem bld_any {K : PySem.W.Frag} {mg : Mg} : BlD K mg (rAny K) (op1 dAny) := bld1 fun G H x d res s hx h Q k => by
  unfold dAny at h
  split at h
  · rename_i ds q
    split at h
    · rename_i bs q2
      cases h
      obtain ⟨a, vs, rfl, q, r⟩ := rdb_list s hx q
      have e := blsOf_eq q2
      subst e
      have e := reps_bls r
      subst e
      exact ⟨a, bs, rfl, q, k G H _ (New.refl s) res_bl⟩
    · cases h
  · cases h
def dSum (d : D) : Option Rv := match lItems d with
    | some ds => match intsOf ds with
      | some ns => some (.sh (.int ns.sum))
      | none => none
    | none => none
theorem bld_sum {K : PySem.W.Frag} {mg : Mg} : BlD K mg (rSum K) (op1 dSum) := bld1 fun G H x d res s hx h Q k => by
  unfold dSum at h
  split at h
  · rename_i ds q
    split at h
    · rename_i ns q2
      cases h
      obtain ⟨a, vs, rfl, q, r⟩ := rdb_list s hx q
      have e := intsOf_eq q2
      subst e
      have e := reps_ints r
      subst e
      exact ⟨a, ns, rfl, q, k G H _ (New.refl s) res_int⟩
    · cases h
  · cases h
def maxI : List Int → Option Int
  | [] => none
  | a :: l => match maxI l with
    | none => some a
    | some b => some (if b ≤ a then a else b)
def minI : List Int → Option Int
  | [] => none
  | a :: l => match minI l with
    | none => some a
    | some b => some (if a ≤ b then a else b)
theorem maxI_some : ∀ {l : List Int} {m : Int}, maxI l = some m → m ∈ l ∧ ∀ y ∈ l, y ≤ m
  | [], m, h => by cases h
  | a :: l, m, h => by
    rw [maxI] at h
    cases q : maxI l with
    | none =>
      rw [q] at h; cases h
      cases l with
      | nil => simp
      | cons b l => rw [maxI] at q; split at q <;> cases q
    | some b =>
      rw [q] at h
      obtain ⟨h1, h2⟩ := maxI_some q
      simp only [Option.some.injEq] at h
      by_cases c : b ≤ a
      · rw [if_pos c] at h
        subst h
        refine ⟨List.mem_cons_self .., fun y hy => ?_⟩
        rcases List.mem_cons.mp hy with rfl | hy
        · exact Int.le_refl _
        · have := h2 y hy; omega
      · rw [if_neg c] at h
        subst h
        refine ⟨List.mem_cons_of_mem _ h1, fun y hy => ?_⟩
        rcases List.mem_cons.mp hy with rfl | hy
        · omega
        · exact h2 y hy
theorem minI_some : ∀ {l : List Int} {m : Int}, minI l = some m → m ∈ l ∧ ∀ y ∈ l, m ≤ y
  | [], m, h => by cases h
  | a :: l, m, h => by
    rw [minI] at h
    cases q : minI l with
    | none =>
      rw [q] at h; cases h
      cases l with
      | nil => simp
      | cons b l => rw [minI] at q; split at q <;> cases q
    | some b =>
      rw [q] at h
      obtain ⟨h1, h2⟩ := minI_some q
      simp only [Option.some.injEq] at h
      by_cases c : a ≤ b
      · rw [if_pos c] at h
        subst h
        refine ⟨List.mem_cons_self .., fun y hy => ?_⟩
        rcases List.mem_cons.mp hy with rfl | hy
        · exact Int.le_refl _
        · have := h2 y hy; omega
      · rw [if_neg c] at h
        subst h
        refine ⟨List.mem_cons_of_mem _ h1, fun y hy => ?_⟩
        rcases List.mem_cons.mp hy with rfl | hy
        · omega
        · exact h2 y hy
theorem maxI_none {l : List Int} : maxI l = none ↔ l = [] := by
  cases l with
  | nil => simp [maxI]
  | cons a l => rw [maxI]; split <;> simp
theorem minI_none {l : List Int} : minI l = none ↔ l = [] := by
  cases l with
  | nil => simp [minI]
  | cons a l => rw [minI]; split <;> simp
def dMaxL (d : D) : Option Rv := match lItems d with
    | some ds => match intsOf ds with
      | some ns => match maxI ns with
        | some m => some (.sh (.int m))
        | none => none
      | none => none
    | none => none
theorem bld_maxL {K : PySem.W.Frag} {mg : Mg} : BlD K mg (rMax K) (op1 dMaxL) := bld1 fun G H x d res s hx h Q k => by
  unfold dMaxL at h
  split at h
  · rename_i ds q
    split at h
    · rename_i ns q2
      split at h
      · rename_i m q3
        cases h
        obtain ⟨a, vs, rfl, q, r⟩ := rdb_list s hx q
        have e := intsOf_eq q2
        subst e
        have e := reps_ints r
        subst e
        obtain ⟨m1, m2⟩ := maxI_some q3
        refine ⟨a, ns, rfl, q, List.length_pos_of_mem m1, fun m' h1 h2 => ?_⟩
        have : m' = m := by have := h2 m m1; have := m2 m' h1; omega
        subst this
        exact k G H _ (New.refl s) res_int
      · cases h
    · cases h
  · cases h
def dMinL (d : D) : Option Rv := match lItems d with
    | some ds => match intsOf ds with
      | some ns => match minI ns with
        | some m => some (.sh (.int m))
        | none => none
      | none => none
    | none => none
theorem bld_minL {K : PySem.W.Frag} {mg : Mg} : BlD K mg (rMin K) (op1 dMinL) := bld1 fun G H x d res s hx h Q k => by
  unfold dMinL at h
  split at h
  · rename_i ds q
    split at h
    · rename_i ns q2
      split at h
      · rename_i m q3
        cases h
        obtain ⟨a, vs, rfl, q, r⟩ := rdb_list s hx q
        have e := intsOf_eq q2
        subst e
        have e := reps_ints r
        subst e
        obtain ⟨m1, m2⟩ := minI_some q3
        refine ⟨a, ns, rfl, q, List.length_pos_of_mem m1, fun m' h1 h2 => ?_⟩
        have : m' = m := by have := h2 m m1; have := m2 m' h1; omega
        subst this
        exact k G H _ (New.refl s) res_int
      · cases h
    · cases h
  · cases h
section
variable {X : Cx} {E : XK} {e : Expr} {f : Mm} {p pos : Pos}
theorem me_list (hm : X.mg "list" = none) (ha : ME X E e f) (hg : Gl X "list" := by rfl) (h1 : starEach [e] X.env = (false, eval e X.env) :: starEach [] X.env := by rfl) (h2 : (backTo pos (starEach [] X.env)).any (·.1) = false := by rfl) :
    ME X E (.Call (.Name "list" p) [e] [] pos) (mBl (op1 dList) [f]) := me_ty call_list_of bld_list hm (ma_cons ha ma_nil h1) PyProof.Rows.boot_list hg (by decide) (by decide) h1 h2
theorem me_tuple (hm : X.mg "tuple" = none) (ha : ME X E e f) (hg : Gl X "tuple" := by rfl) (h1 : starEach [e] X.env = (false, eval e X.env) :: starEach [] X.env := by rfl) (h2 : (backTo pos (starEach [] X.env)).any (·.1) = false := by rfl) :
    ME X E (.Call (.Name "tuple" p) [e] [] pos) (mBl (op1 dTuple) [f]) := me_ty call_tuple_of bld_tuple hm (ma_cons ha ma_nil h1) PyProof.Rows.boot_tuple hg (by decide) (by decide) h1 h2
theorem me_all (hc : X.calm = true) (hm : X.mg "all" = none) (ha : ME X E e f) (hg : Gl X "all" := by rfl) (h1 : starEach [e] X.env = (false, eval e X.env) :: starEach [] X.env := by rfl) (h2 : (backTo pos (starEach [] X.env)).any (·.1) = false := by rfl) :
    ME X E (.Call (.Name "all" p) [e] [] pos) (mBl (op1 dAll) [f]) := me_blt (cr_all hc) bld_all hm (ma_cons ha ma_nil h1) PyProof.Rows.boot_all hg (by decide) (by decide) h1 h2
theorem me_any (hc : X.calm = true) (hm : X.mg "any" = none) (ha : ME X E e f) (hg : Gl X "any" := by rfl) (h1 : starEach [e] X.env = (false, eval e X.env) :: starEach [] X.env := by rfl) (h2 : (backTo pos (starEach [] X.env)).any (·.1) = false := by rfl) :
    ME X E (.Call (.Name "any" p) [e] [] pos) (mBl (op1 dAny) [f]) := me_blt (cr_any hc) bld_any hm (ma_cons ha ma_nil h1) PyProof.Rows.boot_any hg (by decide) (by decide) h1 h2
theorem me_sum (hc : X.calm = true) (hm : X.mg "sum" = none) (ha : ME X E e f) (hg : Gl X "sum" := by rfl) (h1 : starEach [e] X.env = (false, eval e X.env) :: starEach [] X.env := by rfl) (h2 : (backTo pos (starEach [] X.env)).any (·.1) = false := by rfl) :
    ME X E (.Call (.Name "sum" p) [e] [] pos) (mBl (op1 dSum) [f]) := me_blt (cr_sum hc) bld_sum hm (ma_cons ha ma_nil h1) PyProof.Rows.boot_sum hg (by decide) (by decide) h1 h2
theorem me_maxL (hc : X.calm = true) (hm : X.mg "max" = none) (ha : ME X E e f) (hg : Gl X "max" := by rfl) (h1 : starEach [e] X.env = (false, eval e X.env) :: starEach [] X.env := by rfl) (h2 : (backTo pos (starEach [] X.env)).any (·.1) = false := by rfl) :
    ME X E (.Call (.Name "max" p) [e] [] pos) (mBl (op1 dMaxL) [f]) := me_blt (cr_max hc) bld_maxL hm (ma_cons ha ma_nil h1) PyProof.Rows.boot_max hg (by decide) (by decide) h1 h2
theorem me_minL (hc : X.calm = true) (hm : X.mg "min" = none) (ha : ME X E e f) (hg : Gl X "min" := by rfl) (h1 : starEach [e] X.env = (false, eval e X.env) :: starEach [] X.env := by rfl) (h2 : (backTo pos (starEach [] X.env)).any (·.1) = false := by rfl) :
    ME X E (.Call (.Name "min" p) [e] [] pos) (mBl (op1 dMinL) [f]) := me_blt (cr_min hc) bld_minL hm (ma_cons ha ma_nil h1) PyProof.Rows.boot_min hg (by decide) (by decide) h1 h2
/-! methods -/
variable {o : Expr} {name : Str} {apos cpos : Pos}
theorem me_append (hf : ME X E o f) {g : Mm} (ha : ME X E e g)
    (hbase : attributeBase o "append" X.env (eval o X.env) = eval o X.env := by rfl)
    (hfew : ((backTo cpos (starEach [e] X.env)).all (fun x => !x.1) && (backToKw cpos (keywordEach [] X.env)).all (fun x => x.1.isSome)
      && decide ([e].length + ([] : List Keyword).length + (if ([] : List Keyword).isEmpty then 0 else 1) < 30)) = true := by rfl)
    (hline : (apos.endLine == cpos.line) = true := by rfl) (hs : starEach [e] X.env = (false, eval e X.env) :: starEach [] X.env := by rfl) (hplain : (backTo cpos (starEach [] X.env)).any (·.1) = false := by rfl) :
    ME X E (.Call (.Attribute o "append" apos) [e] [] cpos) (mMut dAppend f [g]) := me_mut mutd_append F.slot_list_append F.type_list_append mt_append hf (ma_cons ha ma_nil hs) hbase hfew hline hs hplain
theorem mtr_pop : MtR X "list.pop" rPopA := by
  intro pins s σ H x vs v us Q I rx rv h
  rcases h with h | h
  · exact mt_pop pins s σ H x vs v us Q I rx rv h
  · exact mt_popAt pins s σ H x vs v us Q I rx rv h
theorem me_pop1 (hf : ME X E o f) {g : Mm} (ha : ME X E e g)
    (hbase : attributeBase o "pop" X.env (eval o X.env) = eval o X.env := by rfl)
    (hfew : ((backTo cpos (starEach [e] X.env)).all (fun x => !x.1) && (backToKw cpos (keywordEach [] X.env)).all (fun x => x.1.isSome)
      && decide ([e].length + ([] : List Keyword).length + (if ([] : List Keyword).isEmpty then 0 else 1) < 30)) = true := by rfl)
    (hline : (apos.endLine == cpos.line) = true := by rfl) (hs : starEach [e] X.env = (false, eval e X.env) :: starEach [] X.env := by rfl) (hplain : (backTo cpos (starEach [] X.env)).any (·.1) = false := by rfl) :
    ME X E (.Call (.Attribute o "pop" apos) [e] [] cpos) (mMut dPop f [g]) := me_mut mutd_pop F.slot_list_pop F.type_list_pop mtr_pop hf (ma_cons ha ma_nil hs) hbase hfew hline hs hplain
theorem me_pop0 (hf : ME X E o f)
    (hbase : attributeBase o "pop" X.env (eval o X.env) = eval o X.env := by rfl) (hline : (apos.endLine == cpos.line) = true := by rfl) :
    ME X E (.Call (.Attribute o "pop" apos) [] [] cpos) (mMut dPop f []) := me_mut0 mutd_pop F.slot_list_pop F.type_list_pop mtr_pop hf hbase hline
theorem me_reverse (hf : ME X E o f)
    (hbase : attributeBase o "reverse" X.env (eval o X.env) = eval o X.env := by rfl) (hline : (apos.endLine == cpos.line) = true := by rfl) :
    ME X E (.Call (.Attribute o "reverse" apos) [] [] cpos) (mMut dReverse f []) := me_mut0 mutd_reverse F.slot_list_reverse F.type_list_reverse mt_reverse hf hbase hline
theorem me_clear (hf : ME X E o f)
    (hbase : attributeBase o "clear" X.env (eval o X.env) = eval o X.env := by rfl) (hline : (apos.endLine == cpos.line) = true := by rfl) :
    ME X E (.Call (.Attribute o "clear" apos) [] [] cpos) (mMut dClear f []) := me_mut0 mutd_clear F.slot_list_clear F.type_list_clear mt_clear hf hbase hline
theorem me_insert (hf : ME X E o f) {e2 : Expr} {g g2 : Mm} (ha : ME X E e g) (ha2 : ME X E e2 g2)
    (hbase : attributeBase o "insert" X.env (eval o X.env) = eval o X.env := by rfl)
    (hfew : ((backTo cpos (starEach [e, e2] X.env)).all (fun x => !x.1) && (backToKw cpos (keywordEach [] X.env)).all (fun x => x.1.isSome)
      && decide ([e, e2].length + ([] : List Keyword).length + (if ([] : List Keyword).isEmpty then 0 else 1) < 30)) = true := by rfl)
    (hline : (apos.endLine == cpos.line) = true := by rfl) (hs : starEach [e, e2] X.env = (false, eval e X.env) :: starEach [e2] X.env := by rfl) (hs2 : starEach [e2] X.env = (false, eval e2 X.env) :: starEach [] X.env := by rfl) (hplain : (backTo cpos (starEach [e2] X.env)).any (·.1) = false := by rfl) :
    ME X E (.Call (.Attribute o "insert" apos) [e, e2] [] cpos) (mMut dInsert f [g, g2]) := me_mut mutd_insert F.slot_list_insert F.type_list_insert mt_insert hf (ma_cons ha (ma_cons ha2 ma_nil hs2) hs) hbase hfew hline hs hplain
end
end Mx

set_option Elab.async false
set_option linter.all false
set_option maxRecDepth 100000
set_option maxHeartbeats 4000000
namespace Mx
open PySem PySem.Spec PyProof.Rows L2

/-! ### a tuple times a number, at most one time -/
theorem tmul_same (a : Addr) (xs : Array Value) (m : Nat) (dd : Option Addr) (sl : Array (Option Value)) (x : Int) (u : Tok) (hx : (decide (x < -(2 ^ 63)) || decide (x ≥ 2 ^ 63)) = false) (hy : (xs.isEmpty || x == 1) = true) :
    Meets (Builtin.«tuple.__mul__» ⟨[.ref a, .int x u], []⟩) (fun _ R s => s.heap.get? a = some { cls := .type "tuple", dict := dd, data := .seq xs m, slots := sl } ∧ R (.ok (.ret (Value.ref a))) s) :=
  .of_wp fun prog w A R s h => by
    obtain ⟨hp, g, d, tk, os⟩ := s
    obtain ⟨hl, h⟩ := h
    have f1 := AutoSeq1.idx_int
    wp_walk using wpAny_loadPart' hl
    repeat (first
      | (refine wpAny_ite_false (decide_eq_false (by rw [hx]; exact Bool.false_ne_true)) ?_; wp_walk using wpAny_loadPart' hl)
      | (refine wpAny_ite_true (decide_eq_true hy) ?_; wp_walk using wpAny_loadPart' hl))
    exact ⟨_, rfl, h⟩
theorem tmul_none (a : Addr) (xs : Array Value) (m : Nat) (dd : Option Addr) (sl : Array (Option Value)) (x : Int) (u : Tok) (hx : (decide (x < -(2 ^ 63)) || decide (x ≥ 2 ^ 63)) = false) (hy : (xs.isEmpty || x == 1) = false) (hz : (decide (x ≤ 0) || xs.isEmpty) = true) :
    Meets (Builtin.«tuple.__mul__» ⟨[.ref a, .int x u], []⟩) (fun _ R s => s.heap.get? a = some { cls := .type "tuple", dict := dd, data := .seq xs m, slots := sl } ∧
      R (.ok (.ret (Value.ref s.heap.objs.size))) { s with heap := s.heap.push { cls := Value.type "tuple", data := Data.seq #[] }, toks := s.toks }) :=
  .of_wp fun prog w A R s h => by
    obtain ⟨hp, g, d, tk, os⟩ := s
    obtain ⟨hl, h⟩ := h
    have f1 := AutoSeq1.idx_int
    wp_walk using wpAny_loadPart' hl
    repeat (first
      | (refine wpAny_ite_false (decide_eq_false (by rw [hx]; exact Bool.false_ne_true)) ?_; wp_walk using wpAny_loadPart' hl)
      | (refine wpAny_ite_false (decide_eq_false (by rw [hy]; exact Bool.false_ne_true)) ?_; wp_walk using wpAny_loadPart' hl)
      | (refine wpAny_ite_true (decide_eq_true hz) ?_; wp_walk using wpAny_loadPart' hl))
    exact ⟨_, rfl, h⟩
section
variable {X : Cx}
def rTmul (K : PySem.W.Frag) : R2 := fun x y H Q => ∃ l k xs, x = .ref l ∧ y = .int k ∧ SqT K H l xs ∧ -1000000 ≤ k ∧ k ≤ 1000000 ∧ (k ≤ 1 ∨ xs = []) ∧ ((xs = [] ∨ k = 1) → Q (.ref l) H) ∧ (xs ≠ [] → k ≤ 0 → ∀ p, H p = none → Q (.ref p) (upd H p (.tup [])))
theorem op_tmul1 : OpR X (binaryOp .Mult) (rTmul X.K) := by
  intro pins s σ H x y v u Q I rx ry h
  obtain ⟨a, k, ys, rfl, rfl, hT, h1, h2, h3, q1, q2⟩ := h
  cases rx
  obtain ⟨t, rfl⟩ := ry
  obtain ⟨its, r, ⟨⟨cls, dd, data, sl⟩, ho, hc, n, hd⟩, hs⟩ := I.tuple hT
  simp only at hc hd
  subst hc hd
  have le : its.length = ys.length := r.length.symm
  have c0 : (decide (k < -(2 ^ 63)) || decide (k ≥ 2 ^ 63)) = false := by
    rw [decide_eq_false (by omega), decide_eq_false (by omega)] <;> rfl
  by_cases c : ys = [] ∨ k = 1
  · have c1 : (its.toArray.isEmpty || k == 1) = true := by
      rcases c with c | c
      · subst c
        rw [List.eq_nil_of_length_eq_zero le]; rfl
      · subst c; simp
    refine wpAny_binaryOp_repeat_ref (T := "tuple") (U := "int") (by decide) ⟨_, ho, rfl⟩ (fun s' => typeIs_int s' k t) noFill_tuple_mul F.fills_int_mul F.slot_int_rmul repeat_tuple F.slot_int_index.lookup
      (call_meets F.slot_int_rmul (typeIs_int s k t) F.entry_int_rmul (F.args_int_rmul_2 _ _) (int_rmul_tuple k t a its.toArray n dd sl)
        ⟨ho, rfl, ⟨_, ho, rfl⟩, call_meets F.slot_tuple_mul ⟨_, ho, rfl⟩ F.entry_tuple_mul (F.args_tuple_mul_2 _ _) (tmul_same a its.toArray n dd sl k t c0 c1) ⟨ho, ?_⟩⟩)
    exact ⟨.ref a, H, I, rfl, q1 c⟩
  · have ne : ys ≠ [] := fun e => c (.inl e)
    have n1 : k ≠ 1 := fun e => c (.inr e)
    have hi : its.toArray.isEmpty = false := by
      cases its with
      | nil => exact absurd (List.eq_nil_of_length_eq_zero le.symm) ne
      | cons a b => rfl
    have c1 : (its.toArray.isEmpty || k == 1) = false := by
      rw [hi, Bool.false_or]
      exact beq_eq_false_iff_ne.mpr n1
    have c2 : (decide (k ≤ 0) || its.toArray.isEmpty) = true := by
      rw [decide_eq_true (by rcases h3 with h3 | h3; omega; exact absurd h3 ne)] <;> rfl
    refine wpAny_binaryOp_repeat_ref (T := "tuple") (U := "int") (by decide) ⟨_, ho, rfl⟩ (fun s' => typeIs_int s' k t) noFill_tuple_mul F.fills_int_mul F.slot_int_rmul repeat_tuple F.slot_int_index.lookup
      (call_meets F.slot_int_rmul (typeIs_int s k t) F.entry_int_rmul (F.args_int_rmul_2 _ _) (int_rmul_tuple k t a its.toArray n dd sl)
        ⟨ho, rfl, ⟨_, ho, rfl⟩, call_meets F.slot_tuple_mul ⟨_, ho, rfl⟩ F.entry_tuple_mul (F.args_tuple_mul_2 _ _) (tmul_none a its.toArray n dd sl k t c0 c1 c2) ⟨ho, ?_⟩⟩)
    exact ⟨.ref s.heap.objs.size, _, I.laid (t' := s.toks) (o := .tup []) (fun b ob q => Heap.get?_push_of_some _ q) (Nat.le_refl _) ⟨Nat.zero_le _, [], .nil, IsTup.new _ _⟩, rfl, q2 ne (by rcases h3 with h3 | h3; omega; exact absurd h3 ne) _ (I.hok.fresh (Nat.le_refl _))⟩
end
/-- a tuple or a list times a number; numbers as before -/
def repD (xs : List D) (k : Int) : List D := (List.replicate k.toNat xs).flatten
def dTmul : D → D → Option Rv
  | .tup xs, .int k => if -1000000 ≤ k ∧ k ≤ 1000 ∧ xs.length ≤ 1000 then some (.sh (.tup (repD xs k))) else none
  | _, _ => none
theorem reps_rep {K : PySem.W.Frag} {mg : Mg} {G : Hp} {ds : List D} {vs : List V} (h : Reps K mg G ds vs) : ∀ n, Reps K mg G (List.replicate n ds).flatten (List.replicate n vs).flatten
  | 0 => Reps.nil
  | n + 1 => by
    rw [List.replicate_succ, List.replicate_succ, List.flatten_cons, List.flatten_cons]
    exact h.append (reps_rep h n)
theorem opd_tmul {K : PySem.W.Frag} {mg : Mg} : OpD K mg (fun x y H Q => rTmul K x y H Q ∨ rRepT K x y H Q) dTmul := by
  intro G H x y dx dy res s hx hy h Q k
  cases dx with
  | tup xs =>
    cases dy with
    | int j =>
      simp only [dTmul] at h
      split at h
      · rename_i c
        cases h
        obtain ⟨a, vs, rfl, q, r⟩ := rdb_tup hx
        have ey := rdb_int hy
        subst ey
        have hl := r.len
        have e0 : vs = [] → xs = [] := fun e => by subst e; exact List.eq_nil_of_length_eq_zero hl
        have mine : Rep K mg G (.tup xs) (.ref a) := by simp only [Rep]; exact ⟨a, vs, rfl, q, r⟩
        by_cases c2 : j ≤ 1
        · refine .inl ⟨a, j, vs, rfl, rfl, Same.tseq s q, c.1, by omega, .inl c2, fun e => ?_, fun e1 e2 p hp => ?_⟩
          · refine k G H _ (New.refl s) ?_
            show Rep K mg G (.tup (repD xs j)) (.ref a)
            have : repD xs j = xs := by
              unfold repD
              rcases e with e | e
              · rw [e0 e]; simp
              · subst e; simp
            rw [this]; exact mine
          · refine k _ _ _ (New.tup s hp) ?_
            show Rep K mg _ (.tup (repD xs j)) _
            have : repD xs j = [] := by
              unfold repD
              have : j.toNat = 0 := by omega
              rw [this]; rfl
            rw [this]
            exact rep_tup s hp Reps.nil
        · by_cases c3 : vs = []
          · have := e0 c3
            subst this
            exact .inl ⟨a, j, vs, rfl, rfl, Same.tseq s q, c.1, by omega, .inr c3, fun _ => k G H _ (New.refl s) (by
              show Rep K mg G (.tup (repD [] j)) (.ref a)
              have z : repD [] j = [] := by unfold repD; simp
              rw [z]; exact mine), fun e => absurd c3 e⟩
          · exact .inr ⟨a, j, vs, rfl, rfl, Same.tseq s q, c3, by omega, c.2.1, by omega, fun p hp => k _ _ _ (New.tup s hp) (rep_tup s hp (reps_rep r _))⟩
      · cases h
    | _ => cases h
  | _ => cases h
end Mx

set_option Elab.async false
set_option linter.all false
set_option maxRecDepth 100000
namespace Mx
open PySem PySem.Spec PyProof.Rows L2

/-! ### two rules for one sign -/
theorem opd_or {K : PySem.W.Frag} {mg : Mg} {r r' : R2} {f g : D → D → Option Rv} (h : OpD K mg r f) (h' : OpD K mg r' g) : OpD K mg (fun x y H Q => r x y H Q ∨ r' x y H Q) (fun a b => match f a b with
    | some res => some res
    | none => g a b) := by
  intro G H x y dx dy res s hx hy e Q k
  cases q : f dx dy with
  | some z =>
    simp only [q, Option.some.injEq] at e
    subst e
    exact .inl (h G H x y dx dy _ s hx hy q Q k)
  | none =>
    simp only [q] at e
    exact .inr (h' G H x y dx dy _ s hx hy e Q k)
def dMul (a b : D) : Option Rv := match dMulI a b with
  | some res => some res
  | none => dTmul a b
section
variable {X : Cx} {E : XK} {a b : Expr} {f g : Mm} {pos : Pos}
theorem me_mul (ha : ME X E a f) (hb : ME X E b g) : ME X E (.BinOp a .Mult b pos) (mBin dMul f g) := me_bin (op_mulW.or (op_tmul1.or op_repT)) (opd_or (opd_int (fun _ _ q => cMul_ok q) fun _ _ _ => rep_int) opd_tmul) ha hb
end

/-! ### order of tuples of whole numbers -/
theorem lexAt_shift {e r : Nat → Bool} {z : Bool} : ∀ (k i : Nat), Ob.lexAt e r z (i + 1) k = Ob.lexAt (fun j => e (j + 1)) (fun j => r (j + 1)) z i k
  | 0, i => rfl
  | k + 1, i => by rw [Ob.lexAt_succ, Ob.lexAt_succ, lexAt_shift k (i + 1)]
theorem lexAt_le : ∀ (ns ms : List Int), Ob.lexAt (fun j => decide (ns.getD j 0 = ms.getD j 0)) (fun j => decide (ns.getD j 0 ≤ ms.getD j 0)) (decide (ns.length ≤ ms.length)) 0 (min ns.length ms.length) = !HT.lexLt ms ns
  | [], [] => by simp [Ob.lexAt, HT.lexLt]
  | [], _ :: _ => by simp [Ob.lexAt, HT.lexLt]
  | _ :: _, [] => by simp [Ob.lexAt, HT.lexLt]
  | x :: xs, y :: ys => by
    have ih := lexAt_le xs ys
    rw [show min (x :: xs).length (y :: ys).length = min xs.length ys.length + 1 by simp only [List.length_cons]; omega, Ob.lexAt_succ, lexAt_shift]
    simp only [List.getD_cons_zero, List.getD_cons_succ, List.length_cons, Nat.add_le_add_iff_right, decide_eq_true_eq, HT.lexLt]
    by_cases c : x = y
    · rw [if_pos c, if_pos c.symm]; exact ih
    · rw [if_neg c, if_neg fun q => c q.symm]
      by_cases d : x ≤ y
      · simp [d, show ¬ y < x by omega]
      · simp [d, show y < x by omega]
def dTupB (p : List Int → List Int → Bool) : D → D → Option Rv
  | .tup xs, .tup ys => match intsOf xs with
    | some ns => match intsOf ys with
      | some ms => some (.sh (.bl (p ns ms)))
      | none => none
    | none => none
  | _, _ => none
theorem dTupB_some {p : List Int → List Int → Bool} {a b : D} {res : Rv} (h : dTupB p a b = some res) : ∃ ns ms : List Int, a = .tup (ns.map D.int) ∧ b = .tup (ms.map D.int) ∧ res = .sh (.bl (p ns ms)) := by
  unfold dTupB at h
  split at h
  · split at h
    · rename_i ns q1
      split at h
      · rename_i ms q2
        cases h
        exact ⟨ns, ms, by rw [intsOf_eq q1], by rw [intsOf_eq q2], rfl⟩
      · cases h
    · cases h
  · cases h
theorem rdb_tupI {K : PySem.W.Frag} {mg : Mg} {G H : Hp} {ns : List Int} {x : V} (s : Same G H) (h : Rdb K mg G H (.tup (ns.map D.int)) x) : ∃ a, x = .ref a ∧ SqT K H a (ns.map V.int) := by
  obtain ⟨a, vs, rfl, q, r⟩ := rdb_tup h
  have e := reps_ints r
  subst e
  exact ⟨a, rfl, Same.tseq s q⟩
theorem opd_ltT {K : PySem.W.Frag} {mg : Mg} : OpD K mg (rLtT K) (dTupB HT.lexLt) := by
  intro G H x y dx dy res s hx hy h Q k
  obtain ⟨ns, ms, rfl, rfl, rfl⟩ := dTupB_some h
  obtain ⟨a, rfl, q1⟩ := rdb_tupI s hx
  obtain ⟨b, rfl, q2⟩ := rdb_tupI s hy
  exact ⟨a, b, ns, ms, rfl, rfl, q1, q2, k G H _ (New.refl s) res_bl⟩
theorem opd_leT {K : PySem.W.Frag} {mg : Mg} : OpD K mg (rLeT K) (dTupB fun a b => !HT.lexLt b a) := by
  intro G H x y dx dy res s hx hy h Q k
  obtain ⟨ns, ms, rfl, rfl, rfl⟩ := dTupB_some h
  obtain ⟨a, rfl, q1⟩ := rdb_tupI s hx
  obtain ⟨b, rfl, q2⟩ := rdb_tupI s hy
  exact ⟨a, b, ns, ms, rfl, rfl, q1, q2, by rw [lexAt_le]; exact k G H _ (New.refl s) res_bl⟩
def dLtA (a b : D) : Option Rv := match dLt a b with
  | some res => some res
  | none => dTupB HT.lexLt a b
def dLeA (a b : D) : Option Rv := match dLe a b with
  | some res => some res
  | none => dTupB (fun a b => !HT.lexLt b a) a b
section
variable {X : Cx} {E : XK} {a b : Expr} {f g : Mm} {pos : Pos} {k : Nat}
theorem me_ltA (hr : Room (k + 1) X.A) (ha : ME X E a f) (hb : ME X E b g) : ME X E (.Compare a [.Lt] [b] pos) (mBin dLtA f g) := me_cmp (op_lt.or (op_ltT (by have := hr.units; omega))) (opd_or (opd_int0 fun _ _ _ => bl_rep) opd_ltT) ha hb (nomark _)
theorem mt_ltA (hr : Room (k + 1) X.A) (ha : ME X E a f) (hb : ME X E b g) : MT X E (.Compare a [.Lt] [b] pos) (mBin dLtA f g) := mt_cmp (op_lt.or (op_ltT (by have := hr.units; omega))) (opd_or (opd_int0 fun _ _ _ => bl_rep) opd_ltT) ha hb (nomark _)
theorem me_leA (hr : Room (k + 1) X.A) (ha : ME X E a f) (hb : ME X E b g) : ME X E (.Compare a [.LtE] [b] pos) (mBin dLeA f g) := me_cmp (op_le.or (op_leT (by have := hr.units; omega))) (opd_or (opd_int0 fun _ _ _ => bl_rep) opd_leT) ha hb (nomark _)
theorem mt_leA (hr : Room (k + 1) X.A) (ha : ME X E a f) (hb : ME X E b g) : MT X E (.Compare a [.LtE] [b] pos) (mBin dLeA f g) := mt_cmp (op_le.or (op_leT (by have := hr.units; omega))) (opd_or (opd_int0 fun _ _ _ => bl_rep) opd_leT) ha hb (nomark _)
end
end Mx

set_option Elab.async false
set_option linter.all false
set_option maxRecDepth 100000
set_option maxHeartbeats 4000000
namespace Mx
open PySem PySem.Spec PyProof.Rows L2 HT

/-! ### x[::-1] -/
section
variable {prog : Program} {w : World} {A : Around} {E : Value → Shared → Prop} {s : Shared}
theorem back_places (n : Nat) : Builtin.Slice.slicePlaces ((n : Int) - 1) (-1) (-1) = n := by
  unfold Builtin.Slice.slicePlaces
  rw [if_neg (by decide)]
  by_cases c : (n : Int) - 1 > -1
  · rw [if_pos c]
    simp
  · rw [if_neg c]; omega
theorem back_pick (xs : Array Value) : ((List.range xs.size).filterMap fun (k : Nat) => xs[(((xs.size : Int) - 1) + (k : Int) * (-1)).toNat]?).toArray = xs.toList.reverse.toArray := by
  congr 1
  apply List.ext_getElem?
  intro i
  have e : ((List.range xs.size).filterMap fun (k : Nat) => xs[(((xs.size : Int) - 1) + (k : Int) * (-1)).toNat]?) = (List.range xs.size).map fun k => xs.getD (xs.size - 1 - k) .none := by
    rw [← List.filterMap_eq_map]
    have go : ∀ (l : List Nat), (∀ k ∈ l, k < xs.size) → l.filterMap (fun (k : Nat) => xs[(((xs.size : Int) - 1) + (k : Int) * (-1)).toNat]?) = l.filterMap (some ∘ fun k => xs.getD (xs.size - 1 - k) .none) := by
      intro l
      induction l with
      | nil => intro _; rfl
      | cons k l ih =>
        intro hl
        have hk := hl k (List.mem_cons_self ..)
        have z : (((xs.size : Int) - 1) + (k : Int) * (-1)).toNat = xs.size - 1 - k := by omega
        rw [List.filterMap_cons, List.filterMap_cons, z, Array.getElem?_eq_getElem (show xs.size - 1 - k < xs.size by omega), ih fun j hj => hl j (List.mem_cons_of_mem _ hj)]
        simp only [Function.comp, Array.getD, show xs.size - 1 - k < xs.size by omega, dite_true]
        rfl
    exact go _ fun k hk => List.mem_range.mp hk
  rw [e]
  by_cases hi : i < xs.size
  · rw [List.getElem?_map, List.getElem?_range hi, Option.map_some, List.getElem?_reverse (by simpa using hi)]
    simp only [Array.length_toList, Array.getElem?_toList]
    rw [Array.getElem?_eq_getElem (by omega)]
    simp only [Array.getD, show xs.size - 1 - i < xs.size by omega, dite_true]
    rfl
  · rw [List.getElem?_eq_none (by simp; omega), List.getElem?_eq_none (by simp; omega)]
theorem tup_back {t sl : Addr} {xs : Array Value} {vs : Value} {Q : Value → Shared → Prop} (ht : IsTup s.heap t xs) (hs : s.heap.IsSliceOf sl .none .none vs) (ps : IsPart vs (some (-1))) (hz : xs.size ≤ sizeLine)
    (h : Q (.ref s.heap.objs.size) { s with heap := s.heap.push { cls := .type "tuple", data := .seq xs.toList.reverse.toArray } }) : wpAny (model prog w) A (getItem (.ref t) (.ref sl)) Q E s := by
  obtain ⟨os, hos, hcs, hds⟩ := id hs
  have hTs : s.TypeIs (.ref sl) "slice" := ⟨os, hos, hcs⟩
  unfold getItem
  try with_reducible refine wpAny_holding ?_
  first | refine wpAny_bind (wpAny_pure ?_) | skip
  refine wpAny_bind (wpAny_sequenceKey ht.typeIs (by decide) ?_)
  refine wpAny_bind (wpAny_callSpecial?_slot (name := Str.ofString "__getitem__") ht.typeIs PyProof.Rows.slot_tuple_getitem
    (wpAny_call_entry PyProof.Rows.slot_tuple_getitem ht.typeIs entry_tuple_getitem ?_ (args_tuple_getitem _ _)))
  show wpAny _ _ (Builtin.Tuple.tupleItemsOf (.ref t) >>= _) _ _ s
  refine wpAny_bind (tupleItemsOf_ ht ?_)
  refine wpAny_bind (wpAny_typeOf hTs ?_)
  rw [if_pos (by decide)]
  refine wpAny_bind ?_
  unfold Builtin.Slice.sliceApplied Builtin.Slice.sliceFields
  refine wpAny_bind (wpAny_bind (wpAny_field hos hds (x := .none) rfl (wpAny_bind (wpAny_field hos hds (x := .none) rfl (wpAny_bind (wpAny_field hos hds (x := vs) rfl (wpAny_pure ?_)))))))
  refine wpAny_bind (slicePart_ ps ?_)
  show wpAny _ _ (if ((-1 : Int) == 0) = true then _ else _) _ _ s
  rw [if_neg (by decide)]
  refine wpAny_bind (slicePart_ .none (wpAny_bind (slicePart_ .none (wpAny_bind (wpAny_pure ?_)))))
  show wpAny _ _ (pure ((xs.size : Int) - 1, (-1 : Int), Builtin.Slice.slicePlaces ((xs.size : Int) - 1) (-1) (-1))) _ _ s
  rw [back_places]
  refine wpAny_pure ?_
  have hno : ¬ (((xs.size : Int) - 1 == 0 && (-1 : Int) == 1 && xs.size == xs.size) = true) := by
    rw [show ((-1 : Int) == 1) = false by decide]; simp
  show wpAny _ _ (if ((xs.size : Int) - 1 == 0 && (-1 : Int) == 1 && xs.size == xs.size) = true then _ else _) _ _ s
  rw [if_neg hno, back_pick]
  have hsz : sizeOk (.seq xs.toList.reverse.toArray) := by
    show xs.toList.reverse.toArray.size ≤ sizeLine
    simpa using hz
  first
    | exact wpAny_bind (m := Builtin.Tuple.tupleExact _) (wpAny_newObj_type (wpAny_pure ⟨_, rfl, wpAny_pure h⟩) hsz)
    | exact wpAny_bind (m := Builtin.Tuple.tupleExact _) (wpAny_newObj_type (wpAny_bind (wpAny_pure (wpAny_pure ⟨_, rfl, wpAny_pure h⟩))) hsz)
    | exact wpAny_bind (wpAny_bind (m := Builtin.Tuple.tupleExact _) (wpAny_newObj_type (wpAny_pure (wpAny_pure ⟨_, rfl, wpAny_pure h⟩)) hsz))
    | exact wpAny_bind (wpAny_bind (m := Builtin.Tuple.tupleExact _) (wpAny_newObj_type (wpAny_pure ⟨_, rfl, wpAny_pure h⟩) hsz))
end
section
variable {X : Cx}
def tRevB (K : PySem.W.Frag) (te : TE) : TE := fun σ H Q => te σ H fun x H1 => ∃ a xs, x = .ref a ∧ ((SqL K H1 a xs ∧ ∀ p, H1 p = none → Q (.ref p) (upd H1 p (.lst xs.reverse))) ∨ (SqT K H1 a xs ∧ ∀ p, H1 p = none → Q (.ref p) (upd H1 p (.tup xs.reverse))))
theorem pe_revB {e : Expr} {te : TE} {k : Nat} {p1 p2 p3 pos : Pos} (he : PE X e te) : PE X (.Subscript e (.Slice none none (some (.UnaryOp .USub (.Constant (.int 1) k p1) p2)) p3) pos) (tRevB X.K te) := by
  refine ⟨fun pins s σ H Q I hw => ?_⟩
  refine Subscript_ (thn (he.run pins s σ H _ I hw) fun v s1 ⟨x, H1, I1, r1, q1⟩ => ?_)
  obtain ⟨a, us, ex, hx⟩ := q1
  subst ex
  cases r1
  have st : PO X (some (.UnaryOp .USub (.Constant (.int 1) k p1) p2)) (tPart (tUn (rU fun i => .int (-i)) (tC (.int 1)))) := po_some (pe_un un_neg pe_int)
  refine wpAny_Slice (thn (po_none.run pins s1 σ H1 (fun o H2 => o = none ∧ H2 = H1) I1 ⟨rfl, rfl⟩) fun vl s2 ⟨l, H2, I2, pl, el, e2⟩ => ?_)
  subst el e2
  refine thn (po_none.run pins s2 σ H2 (fun o H3 => o = none ∧ H3 = H2) I2 ⟨rfl, rfl⟩) fun vu s3 ⟨u, H3, I3, pu, eu, e3⟩ => ?_
  subst eu e3
  refine thn (st.run pins s3 σ H3 (fun o H4 => o = some (-1) ∧ H4 = H3) I3 ⟨1, rfl, -1, rfl, rfl, rfl⟩) fun vs s4 ⟨o, H4, I4, ps, eo, e4⟩ => ?_
  subst eo e4
  have I5 : Inv X pins σ H4 { s4 with heap := s4.heap.push { cls := .type "slice", data := .fields #[vl, vu, vs] } } := I4.kept (t' := s4.toks) fun b ob q => Heap.get?_push_of_some _ q
  show wpAny (model X.prog X.w) X.A (subscriptTail e (.Slice none none (some (.UnaryOp .USub (.Constant (.int 1) k p1) p2)) p3) (.ref a) (.ref s4.heap.objs.size)) (EP X pins σ Q) X.xe { s4 with heap := s4.heap.push { cls := .type "slice", data := .fields #[vl, vu, vs] } }
  rcases hx with ⟨hx, q⟩ | ⟨hx, q⟩
  · obtain ⟨its, r, ht, hz⟩ := I5.list hx
    have hl := r.length
    refine tail_any (ops := [.ref a, .ref s4.heap.objs.size]) ht.isList.typeIs (PySem.slot_list_getitem.lookup) ?_ (by with_unfolding_all rfl)
    refine wpAny_getItem_list_slice ht.isList (Heap.IsSliceOf.new _ vl vu vs) pl pu ps (by decide) ?_ (by rw [List.size_toArray]; omega)
    rw [PySem.W.krv_pick]
    refine ⟨.ref _, _, I5.laid (t' := s4.toks) (o := .lst us.reverse) (fun b ob q => Heap.get?_push_of_some _ q) (Nat.le_refl _) ?_, rfl, q _ (I5.hok.fresh (Nat.le_refl _))⟩
    exact ⟨by rw [List.length_reverse]; exact hz, _, 0, r.reverse, Heap.get?_push_size _ rfl⟩
  · obtain ⟨its, r, ht, hz⟩ := I5.tuple hx
    have hl := r.length
    cases pl
    cases pu
    refine tail_any (ops := [.ref a, .ref s4.heap.objs.size]) ht.typeIs (PyProof.Rows.slot_tuple_getitem.lookup) ?_ (by with_unfolding_all rfl)
    refine tup_back ht (Heap.IsSliceOf.new _ .none .none vs) ps (by rw [List.size_toArray]; omega) ?_
    refine ⟨.ref _, _, I5.laid (t' := s4.toks) (o := .tup us.reverse) (fun b ob q => Heap.get?_push_of_some _ q) (Nat.le_refl _) ?_, rfl, q _ (I5.hok.fresh (Nat.le_refl _))⟩
    exact ⟨by rw [List.length_reverse]; exact hz, its.reverse, r.reverse, IsTup.new _ _⟩
def dRev : D → Option Rv
  | .lst ds => some (.fr (.lst ds.reverse))
  | .rol ds => some (.fr (.lst ds.reverse))
  | .tup ds => some (.sh (.tup ds.reverse))
  | _ => none
theorem den_rev {K : PySem.W.Frag} {mg : Mg} {E : XK} {f : Mm} (σ : L2.St) (H : Hp) (Q : VK) (h : denE K mg E (mUn dRev f) σ H Q) : tRevB K (denE K mg E f) σ H Q := by
  obtain ⟨H0, G, L, pv, s, R, h⟩ := h
  refine den_mono _ _ _ _ (fun x H1 ⟨G1, L1, r1, s1, A1, h1⟩ => ?_) (go_bind R h)
  cases e1 : rd s1 r1 with
  | none => rw [e1] at h1; exact h1.elim
  | some d =>
    rw [e1] at h1
    have hx := rd_ok A1.R A1.r e1
    cases d with
    | lst ds =>
      obtain ⟨a, vs, rfl, q, r⟩ := rdb_lst hx
      exact ⟨a, vs, rfl, .inl ⟨.inl (.inl q), fun p hp => Go.fin A1.R h1 (New.obj A1.R.same hp) (own_lst A1.R.same hp r.reverse)⟩⟩
    | rol ds =>
      obtain ⟨a, vs, rfl, q, r⟩ := rdb_rol hx
      exact ⟨a, vs, rfl, .inl ⟨A1.R.same.seq q, fun p hp => Go.fin A1.R h1 (New.obj A1.R.same hp) (own_lst A1.R.same hp r.reverse)⟩⟩
    | tup ds =>
      obtain ⟨a, vs, rfl, q, r⟩ := rdb_tup hx
      exact ⟨a, vs, rfl, .inr ⟨Same.tseq A1.R.same q, fun p hp => Go.fin A1.R h1 (New.tup A1.R.same hp) (rep_tup A1.R.same hp r.reverse)⟩⟩
    | _ => exact h1.elim
theorem me_rev {E : XK} {e : Expr} {f : Mm} {k : Nat} {p1 p2 p3 pos : Pos} (he : ME X E e f) : ME X E (.Subscript e (.Slice none none (some (.UnaryOp .USub (.Constant (.int 1) k p1) p2)) p3) pos) (mUn dRev f) := PE.imp (pe_revB he) den_rev
end
end Mx

set_option Elab.async false
set_option linter.all false
set_option maxRecDepth 100000
namespace Mx
open PySem PySem.Spec PyProof.Rows L2

/-! ### dict displays -/
def keyOf : D → Option Key
  | .int i => some (.inl i)
  | .str x => some (.inr x)
  | _ => none
def mDic0 : Mm := fun s => .ok (.fr (.dic [])) s
def mDic1 (fk fv : Mm) : Mm := fun s => (fk s).bind fun rk s1 => (fv s1).bind fun rv s2 => match rd s2 rk with
  | some dk => match keyOf dk with
    | some k => match esc s2 rv with
      | some (d, s3) => .ok (.fr (.dic [(k, d)])) s3
      | none => .no
    | none => .no
  | none => .no
section
variable {K : PySem.W.Frag} {mg : Mg} {E : XK}
theorem rdb_key {G H : Hp} {d : D} {k : Key} {x : V} (h : Rdb K mg G H d x) (q : keyOf d = some k) : x = kV k := by
  cases d with
  | int i => cases q; exact rdb_int h
  | str i => cases q; exact rdb_str h
  | _ => cases q
theorem own_dic {G H : Hp} {p : Addr} {vs : List (Key × V)} {ds : List (Key × D)} (gp : G p = none) (r : RepKs K mg G ds vs) : Own K mg G (upd H p (.dK vs)) (.dic ds) p := by
  simp only [Own]
  exact ⟨vs, upd_same, gp, r⟩
theorem den_dic0 (σ : L2.St) (H : Hp) (Q : VK) (h : denE K mg E mDic0 σ H Q) : tDNewK σ H Q := by
  obtain ⟨H0, G, L, pv, s, R, h⟩ := h
  intro p hp
  exact Go.fin R h (New.obj R.same hp) ⟨p, rfl, own_dic (R.same.free hp) (by simp only [RepKs]), hp⟩
theorem den_dic1 {fk fv : Mm} (σ : L2.St) (H : Hp) (Q : VK) (h : denE K mg E (mDic1 fk fv) σ H Q) : tDisp [(denE K mg E fk, denE K mg E fv)] σ H Q := by
  obtain ⟨H0, G, L, pv, s, R, h⟩ := h
  intro p hp
  have n := New.obj (o := .dK []) R.same hp
  have e0 : Ext G H L G (upd H p (.dK [])) L := n.ext
  have nlp : ¬ L p := fun l => R.lv p l hp
  refine den_mono _ _ _ _ (fun x H1 ⟨G1, L1, r1, s1, A1, h1⟩ => ?_) (go_bindB (R.new n) e0 h)
  refine den_mono _ _ _ _ (fun y H2 ⟨G2, L2, r2, s2, A2, h2⟩ => ?_) (go_bindB A1.R (e0.trans A1.e) h1)
  cases q : rd s2 r1 with
  | none => rw [q] at h2; exact h2.elim
  | some dk =>
    rw [q] at h2
    simp only at h2
    cases q1 : keyOf dk with
    | none => rw [q1] at h2; exact h2.elim
    | some k =>
      rw [q1] at h2
      simp only at h2
      have ex := rdb_key (rd_ok A2.R (A1.r.ext A2.e) q) q1
      cases q2 : esc s2 r2 with
      | none => rw [q2] at h2; exact h2.elim
      | some pr =>
        obtain ⟨d, s3⟩ := pr
        rw [q2] at h2
        simp only at h2
        obtain ⟨G4, R4, e4, r4, g4, _⟩ := esc_ok A2.R A2.e A2.r A2.n q2
        have eAll := A1.e.trans e4
        have gp : G4 p = none := by
          cases z : G4 p with
          | none => rfl
          | some o =>
            rcases eAll.fresh p (by rw [z]; simp) with y | y | y
            · exact absurd (R.same.free hp) y
            · rw [upd_same] at y; cases y
            · exact absurd y nlp
        have nl : ¬ L2 p := fun l => (eAll.live p l).elim nlp (by rw [upd_same]; simp)
        have h0 : H0 p = none := by
          cases z : H0 p with
          | none => rfl
          | some o => exact absurd hp (R.old p (by rw [z]; simp))
        refine ⟨eAll.keep p _ upd_same nlp, [(k, y)], by rw [ex]; rfl, by simp, ?_⟩
        have r5 : RepKs K mg G4 [(k, d)] [(k, y)] := by simp only [RepKs]; exact ⟨y, [], rfl, r4, rfl⟩
        exact h2 G4 _ L2 (.ref p) (R4.updFree gp nl) ((e0.trans eAll).updNew hp) ⟨p, rfl, own_dic gp r5, nl, h0⟩ fun a ha => by cases ha; exact hp
end
section
variable {X : Cx} {E : XK} {k v : Expr} {fk fv : Mm} {pos : Pos}
theorem me_dic0 : ME X E (.Dict [] [] pos) mDic0 := PE.imp pe_dnewK den_dic0
theorem me_dic1 (hk : ME X E k fk) (hv : ME X E v fv) : ME X E (.Dict [some k] [v] pos) (mDic1 fk fv) := PE.imp (pe_disp (pps_cons hk hv pps_nil) rfl rfl (by simp) (by simp)) den_dic1
end

/-! ### a, b = x, y -/
/-- values held by names are told as data; new ones stay new -/
def fixL (s : S) : List Rv → Option (List Rv × S)
  | [] => some ([], s)
  | .sh d :: rs => match fixL s rs with
    | some (l, s') => some (.sh d :: l, s')
    | none => none
  | .fr d :: rs => match fixL s rs with
    | some (l, s') => some (.fr d :: l, s')
    | none => none
  | r :: rs => match esc s r with
    | some (d, s1) => match fixL s1 rs with
      | some (l, s') => some (.sh d :: l, s')
      | none => none
    | none => none
def putL (s : S) : List Nat → List Rv → Option S
  | [], [] => some s
  | i :: is, .sh d :: rs => putL { s with sl := s.sl.set i (.sh d) } is rs
  | i :: is, .fr d :: rs => putL { s with sl := s.sl.set i (.ow d) } is rs
  | _, _ => none
def setsL (σ : List (Option V)) : List Nat → List V → List (Option V)
  | i :: is, v :: vs => setsL (σ.set i (some v)) is vs
  | _, _ => σ
def mPar (is : List Nat) (fs : List Mm) : Ms := fun s => (mArgs fs s).thn fun rs s1 => match fixL s1 rs with
  | some (l, s2) => match putL s2 is l with
    | some s3 => .nx s3
    | none => .no
  | none => .no
section
variable {K : PySem.W.Frag} {mg : Mg} {E : XK} {H0 Gb Hb G H G1 H1 G' H' : Hp} {Lb L L1 L' : Addr → Prop} {pv : List V} {σ σ' : List (Option V)} {s s1 s2 : S} {Q : VK}
def isSF : Rv → Bool
  | .sh _ => true
  | .fr _ => true
  | _ => false
theorem wait_oth {rs : List Rv} {vs : List V} (w : Wait K mg H0 Hb G H L pv σ rs vs) (oth : ∀ rw w, RvRep K mg H0 G H L pv σ rw w → RvRep K mg H0 G' H L pv σ rw w) : Wait K mg H0 Hb G' H L pv σ rs vs := by
  induction w with
  | nil => exact .nil
  | cons h n ap t ih => exact .cons (oth _ _ h) n ap ih
theorem fixL_ok : ∀ {rs : List Rv} {vs : List V} {l : List Rv} {G : Hp} {s s2 : S}, SRep K mg H0 G H L pv σ s → Ext Gb Hb Lb G H L → Wait K mg H0 Hb G H L pv σ rs vs → fixL s rs = some (l, s2) →
    ∃ G', SRep K mg H0 G' H L pv σ s2 ∧ Ext Gb Hb Lb G' H L ∧ Wait K mg H0 Hb G' H L pv σ l vs ∧ (∀ rw w, RvRep K mg H0 G H L pv σ rw w → RvRep K mg H0 G' H L pv σ rw w) ∧ ∀ (i : Nat) (d : D), l[i]? = some (.fr d) → rs[i]? = some (.fr d)
  | [], vs, l, G, s, s2, R, e, w, h => by
    simp only [fixL, Option.some.injEq, Prod.mk.injEq] at h
    obtain ⟨rfl, rfl⟩ := h
    cases w
    exact ⟨G, R, e, .nil, fun _ _ h => h, fun _ _ h => h⟩
  | r :: rs, vs, l, G, s, s2, R, e, w, h => by
    cases w with
    | @cons _ v _ vs' hr n ap t =>
    have plain : ∀ {l' : List Rv}, (isSF r = true) → fixL s rs = some (l', s2) → l = r :: l' → ∃ G', SRep K mg H0 G' H L pv σ s2 ∧ Ext Gb Hb Lb G' H L ∧ Wait K mg H0 Hb G' H L pv σ l (v :: vs') ∧ (∀ rw w, RvRep K mg H0 G H L pv σ rw w → RvRep K mg H0 G' H L pv σ rw w) ∧ ∀ (i : Nat) (d : D), l[i]? = some (.fr d) → (r :: rs)[i]? = some (.fr d) := by
      intro l' _ e1 e2
      subst e2
      obtain ⟨G', R', e', w', o', f'⟩ := fixL_ok R e t e1
      refine ⟨G', R', e', .cons (o' _ _ hr) n (fun d z i d' y => ap d z i d' (f' i d' y)) w', o', fun i d y => ?_⟩
      cases i with
      | zero => simpa using y
      | succ i => simpa using f' i d (by simpa using y)
    have other : ∀ {d : D} {s1 : S} {l' : List Rv}, (∀ d, r ≠ .fr d) → esc s r = some (d, s1) → fixL s1 rs = some (l', s2) → l = .sh d :: l' → ∃ G', SRep K mg H0 G' H L pv σ s2 ∧ Ext Gb Hb Lb G' H L ∧ Wait K mg H0 Hb G' H L pv σ l (v :: vs') ∧ (∀ rw w, RvRep K mg H0 G H L pv σ rw w → RvRep K mg H0 G' H L pv σ rw w) ∧ ∀ (i : Nat) (d : D), l[i]? = some (.fr d) → (r :: rs)[i]? = some (.fr d) := by
      intro d s1 l' nf e0 e1 e2
      subst e2
      obtain ⟨G1, R1, e1', r1, g1, oth⟩ := esc_ok R e hr n e0
      have oth' : ∀ rw w, RvRep K mg H0 G H L pv σ rw w → RvRep K mg H0 G1 H L pv σ rw w := fun rw w h => oth rw w h fun d d' z => absurd z (nf d)
      obtain ⟨G', R', e', w', o', f'⟩ := fixL_ok R1 e1' (wait_oth t oth') e1
      refine ⟨G', R', e', .cons (o' (.sh d) v r1) trivial (fun d0 z => by cases z) w', fun rw w h => o' rw w (oth' rw w h), fun i d0 y => ?_⟩
      cases i with
      | zero => simp at y
      | succ i => simpa using f' i d0 (by simpa using y)
    cases r with
    | sh d =>
      simp only [fixL] at h
      split at h
      · rename_i l' s' q
        simp only [Option.some.injEq, Prod.mk.injEq] at h
        obtain ⟨rfl, rfl⟩ := h
        exact plain rfl q rfl
      · cases h
    | fr d =>
      simp only [fixL] at h
      split at h
      · rename_i l' s' q
        simp only [Option.some.injEq, Prod.mk.injEq] at h
        obtain ⟨rfl, rfl⟩ := h
        exact plain rfl q rfl
      · cases h
    | bs j =>
      simp only [fixL] at h
      split at h
      · rename_i d s1 q0
        split at h
        · rename_i l' s' q
          simp only [Option.some.injEq, Prod.mk.injEq] at h
          obtain ⟨rfl, rfl⟩ := h
          exact other (fun d z => by cases z) q0 q rfl
        · cases h
      · cases h
    | bp j =>
      simp only [fixL] at h
      split at h
      · rename_i d s1 q0
        split at h
        · rename_i l' s' q
          simp only [Option.some.injEq, Prod.mk.injEq] at h
          obtain ⟨rfl, rfl⟩ := h
          exact other (fun d z => by cases z) q0 q rfl
        · cases h
      · cases h
theorem putL_ok : ∀ {is : List Nat} {rs : List Rv} {vs : List V} {L : Addr → Prop} {σ : List (Option V)} {s s2 : S}, SRep K mg H0 G H L pv σ s → Ext Gb Hb Lb G H L → Wait K mg H0 Hb G H L pv σ rs vs → putL s is rs = some s2 →
    ∃ L', SRep K mg H0 G H L' pv (setsL σ is vs) s2 ∧ Ext Gb Hb Lb G H L'
  | [], rs, vs, L, σ, s, s2, R, e, w, h => by
    cases rs with
    | nil => cases w; cases h; exact ⟨L, R, e⟩
    | cons r rs => cases h
  | i :: is, rs, vs, L, σ, s, s2, R, e, w, h => by
    cases w with
    | nil => cases h
    | @cons r v rs vs' hr n ap t =>
    cases r with
    | bs j => cases h
    | bp j => cases h
    | sh d =>
      simp only [putL] at h
      have R1 := R.setCell (i := i) (c := .sh d) (v := v) ⟨v, rfl, hr⟩ fun d z => by cases z
      have t' : ∀ {qs : List Rv} {us : List V} {s' s2 : S} {is : List Nat} , putL s' is qs = some s2 → Wait K mg H0 Hb G H L pv σ qs us → Wait K mg H0 Hb G H L pv (σ.set i (some v)) qs us := by
        intro qs us s' s2 is hq w
        induction w generalizing s' is with
        | nil => exact .nil
        | @cons q u _ _ h1 n1 ap1 t1 ih =>
          cases is with
          | nil => cases q <;> cases hq
          | cons i is =>
            cases q with
            | bs j => cases hq
            | bp j => cases hq
            | sh d => exact .cons (r := .sh d) h1 n1 ap1 (ih hq)
            | fr d => exact .cons (r := .fr d) h1 n1 ap1 (ih hq)
      have z := putL_ok (σ := σ.set i (some v)) R1 e (t' h t) h
      exact z
    | fr d =>
      simp only [putL] at h
      obtain ⟨a, rfl, o, nl, z⟩ := hr
      have R1 := R.setNew (i := i) o nl z
      have hb : Hb a = none := n a rfl
      have e1 : Ext Gb Hb Lb G H (fun b => L b ∨ b = a) := ⟨e.gg, e.keep, e.fresh, fun b l => by
        rcases l with l | l
        · exact e.live b l
        · subst l; exact .inr hb, e.there⟩
      have t' : ∀ {qs : List Rv} {us : List V} {s' s2 : S} {is : List Nat}, putL s' is qs = some s2 → (∀ (i : Nat) (d' : D), qs[i]? = some (.fr d') → us[i]? ≠ some (.ref a)) → Wait K mg H0 Hb G H L pv σ qs us → Wait K mg H0 Hb G H (fun b => L b ∨ b = a) pv (σ.set i (some (.ref a))) qs us := by
        intro qs us s' s2 is hq hap w
        induction w generalizing s' is with
        | nil => exact .nil
        | @cons q u qs us h1 n1 ap1 t1 ih =>
          have hap' : ∀ (i : Nat) (d' : D), qs[i]? = some (.fr d') → us[i]? ≠ some (.ref a) := fun i d' y1 y2 => hap (i + 1) d' (by simpa using y1) (by simpa using y2)
          cases is with
          | nil => cases q <;> cases hq
          | cons i is =>
            cases q with
            | bs j => cases hq
            | bp j => cases hq
            | sh d => exact .cons (r := .sh d) h1 n1 ap1 (ih hq hap')
            | fr d' =>
              obtain ⟨b, rfl, o', nl', z'⟩ := h1
              have ne : b ≠ a := fun y => by subst y; exact hap 0 d' rfl rfl
              exact .cons (r := .fr d') ⟨b, rfl, o', fun y => y.elim nl' ne, z'⟩ n1 ap1 (ih hq hap')
      have z := putL_ok (σ := σ.set i (some (.ref a))) R1 e1 (t' h (ap d rfl) t) h
      exact z
theorem den_par {is : List Nat} {fs : List Mm} {D0 : Ends} (h : denS K mg E (mPar is fs) D0 σ H) : denA K mg E fs σ H fun vs H1 => vs.length = fs.length ∧ D0.nx (setsL σ is vs) H1 := by
  obtain ⟨H0, G, L, pv, s, R, h⟩ := h
  have q0 : ∀ {rs : List Rv} {s' : S}, mArgs fs s = .ok rs s' → rs.length = fs.length := by
    have go : ∀ (fs : List Mm) (s : S) {rs : List Rv} {s' : S}, mArgs fs s = .ok rs s' → rs.length = fs.length := by
      intro fs
      induction fs with
      | nil => intro s rs s' h; simp only [mArgs, ResL.ok.injEq] at h; obtain ⟨rfl, _⟩ := h; rfl
      | cons f fs ih =>
        intro s rs s' h
        simp only [mArgs] at h
        split at h
        · split at h
          · rename_i r s1 q1 rs' s2 q2
            simp only [ResL.ok.injEq] at h
            rw [← h.1, List.length_cons, List.length_cons, ih _ q2]
          · cases h
          · cases h
        · cases h
        · cases h
    intro rs s' h
    exact go fs s h
  refine ⟨H0, G, L, pv, s, R, ?_⟩
  unfold mPar at h
  cases e : mArgs fs s with
  | ok rs s' =>
    rw [e] at h
    intro G' H' L' vs R' e' w
    have h : GoS K mg E H0 G H L pv D0 (match fixL s' rs with | some (l, s2) => (match putL s2 is l with | some s3 => .nx s3 | none => .no) | none => .no) := h
    refine ⟨by rw [← w.len]; exact q0 e, ?_⟩
    cases q : fixL s' rs with
    | none => rw [q] at h; exact h.elim
    | some p =>
      obtain ⟨l, s2⟩ := p
      rw [q] at h
      simp only at h
      obtain ⟨G2, R2, e2, w2, _, _⟩ := fixL_ok R' e' w q
      cases q2 : putL s2 is l with
      | none => rw [q2] at h; exact h.elim
      | some s3 =>
        rw [q2] at h
        obtain ⟨L3, R3, e3⟩ := putL_ok R2 e2 w2 q2
        exact h G2 H' L3 _ R3 e3
  | ex c fs s' => rw [e] at h; exact h
  | no => rw [e] at h; exact h
end
section
variable {X : Cx} {E : XK} {a b c : Expr} {fa fb fc : Mm} {pos : Pos}
theorem ms_par2 {i j : Nat} {x y : Str} {px py pt : Pos} {kt k2 pt2} (hc : X.calm = true) (hN : X.N.Nodup) (ha : ME X E a fa) (hb : ME X E b fb)
    (hx : X.env.scope.names.lookup x = some .local) (hy : X.env.scope.names.lookup y = some .local)
    (hw : swappedStores [.Tuple [.Name x px, .Name y py] kt pt] (.Tuple [a, b] k2 pt2) X.env = pure (some [x, y]))
    (hi : X.N[i]? = some x := by rfl) (hj : X.N[j]? = some y := by rfl) (hij : i ≠ j := by decide)
    (h1 : starEach [a, b] X.env = (false, eval a X.env) :: starEach [b] X.env := by rfl) (h2 : starEach [b] X.env = (false, eval b X.env) :: starEach [] X.env := by rfl)
    (hs : swapsWithSole [.Tuple [.Name x px, .Name y py] kt pt] (.Tuple [a, b] k2 pt2) pos.line X.env = pure false := by rfl) :
    MS X E (.Assign [.Tuple [.Name x px, .Name y py] kt pt] (.Tuple [a, b] k2 pt2) pos) (mPar [i, j] [fa, fb]) :=
  PS.imp (ps_par hc hN hi hj hij hx hy (ma_cons ha (ma_cons hb ma_nil h2) h1) hw hs) fun D0 σ H h => denA_mono (fun vs H1 ⟨hl, q⟩ => by
    match vs, hl, q with
    | [v, w], _, q => exact ⟨v, w, rfl, q⟩) (den_par h)
theorem ms_par3 {i j l : Nat} {x y z : Str} {px py pz pt : Pos} {kt k2 pt2} (hc : X.calm = true) (hN : X.N.Nodup) (ha : ME X E a fa) (hb : ME X E b fb) (hcc : ME X E c fc)
    (hx : X.env.scope.names.lookup x = some .local) (hy : X.env.scope.names.lookup y = some .local) (hz : X.env.scope.names.lookup z = some .local)
    (hw : swappedStores [.Tuple [.Name x px, .Name y py, .Name z pz] kt pt] (.Tuple [a, b, c] k2 pt2) X.env = pure (some [x, y, z]))
    (hi : X.N[i]? = some x := by rfl) (hj : X.N[j]? = some y := by rfl) (hl : X.N[l]? = some z := by rfl) (hij : i ≠ j := by decide) (hil : i ≠ l := by decide) (hjl : j ≠ l := by decide)
    (h1 : starEach [a, b, c] X.env = (false, eval a X.env) :: starEach [b, c] X.env := by rfl) (h2 : starEach [b, c] X.env = (false, eval b X.env) :: starEach [c] X.env := by rfl) (h3 : starEach [c] X.env = (false, eval c X.env) :: starEach [] X.env := by rfl)
    (hs : swapsWithSole [.Tuple [.Name x px, .Name y py, .Name z pz] kt pt] (.Tuple [a, b, c] k2 pt2) pos.line X.env = pure false := by rfl) :
    MS X E (.Assign [.Tuple [.Name x px, .Name y py, .Name z pz] kt pt] (.Tuple [a, b, c] k2 pt2) pos) (mPar [i, j, l] [fa, fb, fc]) :=
  PS.imp (ps_par3 hc hN hi hj hl hij hil hjl hx hy hz (ma_cons ha (ma_cons hb (ma_cons hcc ma_nil h3) h2) h1) hw hs) fun D0 σ H h => denA_mono (fun vs H1 ⟨hl, q⟩ => by
    match vs, hl, q with
    | [u, v, w], _, q => exact ⟨u, v, w, rfl, q⟩) (den_par h)
end
end Mx

set_option Elab.async false
set_option linter.all false
set_option maxRecDepth 100000
namespace Mx
open PySem PySem.Spec PyProof.Rows L2

/-! ### f(k = v, ..) -/
/-- what stands at the places π, in π's order -/
def permL {α : Type} (rs : List α) : List Nat → Option (List α)
  | [] => some []
  | i :: π => match rs[i]? with
    | some r => match permL rs π with
      | some l => some (r :: l)
      | none => none
    | none => none
def nodupB : List Nat → Bool
  | [] => true
  | i :: π => !(π.contains i) && nodupB π
/-- keywords ks, all of the def's names, bind it; π: where each of the def's names stands among ks -/
def KwB (fd : FuncData) (ps ks : List Str) (π : List Nat) : Prop := ∀ us ws : List Value, ws.length = ks.length → permL ws π = some us → bindArgs fd ⟨[], ks.zip ws⟩ = pure (ps.zip us)
structure KnK (P : Program) (w : World) (K : PySem.W.Frag) (mg : Mg) (base : Heap) (x : Str) (ps ks : List Str) (π : List Nat) (k : Nat) (F : Fn) : Prop where
  ex : ∃ f fd, mg x = some (.ref f) ∧ PySem.W.keepIn K (.ref f) = true ∧ KwB fd ps ks π ∧ FnG P w K mg base (L2.CX P w) k f fd ps (spF K mg F)
def mCallK (F : Fn) (π : List Nat) (fs : List Mm) : Mm := fun s => (mArgs fs s).bind fun rs s1 => match permL rs π with
  | some qs => if nodupB π = true then mCallR F qs s1 else .no
  | none => .no
theorem permL_some {α β : Type} {R : α → β → Prop} : ∀ {π : List Nat} {rs : List α} {vs : List β} {qs : List α}, permL rs π = some qs → (∀ (i : Nat) (r : α), rs[i]? = some r → ∃ v, vs[i]? = some v ∧ R r v) → ∃ us, permL vs π = some us ∧ qs.length = us.length ∧
    ∀ (j : Nat) (q : α), qs[j]? = some q → ∃ i v, π[j]? = some i ∧ rs[i]? = some q ∧ vs[i]? = some v ∧ us[j]? = some v
  | [], rs, vs, qs, h, k => by cases h; exact ⟨[], rfl, rfl, fun j q e => by simp at e⟩
  | i :: π, rs, vs, qs, h, k => by
    rw [permL] at h
    cases e : rs[i]? with
    | none => rw [e] at h; cases h
    | some r =>
      rw [e] at h
      simp only at h
      cases e2 : permL rs π with
      | none => rw [e2] at h; cases h
      | some l =>
        rw [e2] at h
        cases h
        obtain ⟨v, e3, _⟩ := k i r e
        obtain ⟨us, e4, e5, e6⟩ := permL_some (R := R) e2 k
        refine ⟨v :: us, by rw [permL, e3]; simp only [e4], by simp [e5], fun j q e7 => ?_⟩
        cases j with
        | zero => simp at e7; subst e7; exact ⟨i, v, rfl, e, e3, rfl⟩
        | succ j =>
          obtain ⟨i', v', z1, z2, z3, z4⟩ := e6 j q (by simpa using e7)
          exact ⟨i', v', by simpa using z1, z2, z3, by simpa using z4⟩
theorem nodupB_at : ∀ {π : List Nat} {i j k : Nat}, nodupB π = true → π[i]? = some k → π[j]? = some k → i = j
  | [], i, j, k, _, h, _ => by simp at h
  | p :: π, i, j, k, hn, h1, h2 => by
    rw [nodupB, Bool.and_eq_true] at hn
    obtain ⟨n1, n2⟩ := hn
    have no : p ∉ π := by simpa using n1
    cases i with
    | zero =>
      cases j with
      | zero => rfl
      | succ j =>
        simp at h1
        subst h1
        exact absurd (List.mem_of_getElem? (by simpa using h2)) no
    | succ i =>
      cases j with
      | zero =>
        simp at h2
        subst h2
        exact absurd (List.mem_of_getElem? (by simpa using h1)) no
      | succ j => rw [nodupB_at (i := i) (j := j) n2 (by simpa using h1) (by simpa using h2)]
section
variable {K : PySem.W.Frag} {mg : Mg} {E : XK} {H0 Hb G H : Hp} {L : Addr → Prop} {pv : List V} {σ : List (Option V)}
theorem Wait.each : ∀ {rs : List Rv} {vs : List V}, rs.length = vs.length → (∀ (i : Nat) (r : Rv), rs[i]? = some r → ∃ v, vs[i]? = some v ∧ RvRep K mg H0 G H L pv σ r v ∧ NewRv Hb r v) →
    (∀ (i j : Nat) (d d' : D) (v : V), rs[i]? = some (.fr d) → rs[j]? = some (.fr d') → vs[i]? = some v → vs[j]? = some v → i = j) → Wait K mg H0 Hb G H L pv σ rs vs
  | [], [], _, _, _ => .nil
  | r :: rs, v :: vs, hl, h, ap => by
    obtain ⟨v', e, h1, h2⟩ := h 0 r rfl
    cases e
    refine .cons h1 h2 (fun d z i d' y1 y2 => ?_) (Wait.each (by simpa using hl) (fun i r e => ?_) fun i j d d' v e1 e2 e3 e4 => ?_)
    · have := ap 0 (i + 1) d d' v (by simp [z]) (by simpa using y1) rfl (by simpa using y2)
      omega
    · obtain ⟨v, e1, e2⟩ := h (i + 1) r (by simpa using e)
      exact ⟨v, by simpa using e1, e2⟩
    · have := ap (i + 1) (j + 1) d d' v (by simpa using e1) (by simpa using e2) (by simpa using e3) (by simpa using e4)
      omega
theorem wait_perm {π : List Nat} {rs qs : List Rv} {vs : List V} (w : Wait K mg H0 Hb G H L pv σ rs vs) (h : permL rs π = some qs) (hn : nodupB π = true) : ∃ us, permL vs π = some us ∧ Wait K mg H0 Hb G H L pv σ qs us := by
  obtain ⟨us, e1, e2, e3⟩ := permL_some (R := fun r v => RvRep K mg H0 G H L pv σ r v ∧ NewRv Hb r v) h fun i r e => w.get e
  refine ⟨us, e1, Wait.each e2 (fun j q e => ?_) fun i j d d' v a1 a2 a3 a4 => ?_⟩
  · obtain ⟨i, v, z1, z2, z3, z4⟩ := e3 j q e
    obtain ⟨v', y1, y2, y3⟩ := w.get z2
    rw [z3] at y1
    cases y1
    exact ⟨v, z4, y2, y3⟩
  · obtain ⟨i1, v1, z1, z2, z3, z4⟩ := e3 i _ a1
    obtain ⟨i2, v2, y1, y2, y3, y4⟩ := e3 j _ a2
    rw [a3] at z4
    rw [a4] at y4
    cases z4
    cases y4
    have := w.apart z2 y2 z3 y3
    subst this
    exact nodupB_at hn z1 y1
/-- the values of the keywords -/
abbrev MK (X : Cx) (E : XK) (kws : List Keyword) (fs : List Mm) : Prop := PK X kws (denA X.K X.mg E fs)
def tKw (K : PySem.W.Frag) (mg : Mg) (F : Fn) (E : XK) (π : List Nat) (n : Nat) (tk : TA) : TE := fun σ H Q => tk σ H fun zs H2 => zs.length = n ∧ ∃ us, permL zs π = some us ∧ spF K mg F us H2 Q E
theorem den_callK {F : Fn} {π : List Nat} {fs : List Mm} (σ : L2.St) (H : Hp) (Q : VK) (h : denE K mg E (mCallK F π fs) σ H Q) : tKw K mg F E π fs.length (denA K mg E fs) σ H Q := by
  obtain ⟨H0, G, L, pv, s, R, h⟩ := h
  refine denA_mono (fun vs H1 ⟨G1, L1, rs, s1, R1, e1, w, hn, h1⟩ => ?_) (go_argsN R h)
  refine ⟨by rw [← w.len]; exact hn, ?_⟩
  cases q : permL rs π with
  | none => rw [q] at h1; exact h1.elim
  | some qs =>
    rw [q] at h1
    simp only at h1
    by_cases c : nodupB π = true
    · rw [if_pos c] at h1
      obtain ⟨us, e2, w2⟩ := wait_perm w q c
      exact ⟨us, e2, call_in R1 e1 w2 h1⟩
    · rw [if_neg c] at h1; exact h1.elim
end
theorem permL_len {α : Type} {vs : List α} : ∀ {π : List Nat} {us : List α}, permL vs π = some us → us.length = π.length
  | [], us, h => by cases h; rfl
  | i :: π, us, h => by
    rw [permL] at h
    split at h
    · split at h
      · rename_i l q
        cases h
        simp [permL_len q]
      · cases h
    · cases h
theorem permL_vals : ∀ {π : List Nat} {vs us : List V} {ws : List Value}, Vals vs ws → permL vs π = some us → ∃ zs, permL ws π = some zs ∧ Vals us zs
  | [], vs, us, ws, r, h => by cases h; exact ⟨[], rfl, .nil⟩
  | i :: π, vs, us, ws, r, h => by
    rw [permL] at h
    split at h
    · rename_i v e
      split at h
      · rename_i l q
        cases h
        obtain ⟨u, e2, ru⟩ := r.get e
        obtain ⟨zs, e3, rz⟩ := permL_vals r q
        exact ⟨u :: zs, by rw [permL, e2]; simp only [e3], .cons ru rz⟩
      · cases h
    · cases h
section
variable {X : Cx} {E : XK} {x : Str} {ps ks : List Str} {π : List Nat} {k : Nat} {F : Fn} {fs : List Mm} {kws : List Keyword} {p pos kpos : Pos} {e : Expr} {f : Mm} {nm : Option Str}
theorem mk_nil : MK X E [] [] := ⟨fun pos pins s σ H Q I h => pk_nil.run pos pins s σ H Q I (den_nil σ H _ h)⟩
theorem pe_callGK {f : Addr} {fd : FuncData} {sp : Sp} {tk : TA} (F : FnG X.prog X.w X.K X.mg X.base (L2.CX X.prog X.w) k f fd ps sp) (gd : X.A.guards = some []) (hr : Room k X.A) (hg : Gl X x) (hm : X.mg x = some (.ref f)) (hk : PySem.W.keepIn X.K (.ref f) = true) (hb : KwB fd ps ks π) (hx : Passes (L2.CX X.prog X.w) X E)
    (hkw : PK X kws tk) (hall : (backToKw pos (keywordEach kws X.env)).all (·.1.isSome) = true := by rfl) (hks : (backToKw pos (keywordEach kws X.env)).filterMap (·.1) = ks := by rfl)
    (hdb : (x == ("__debug__" : Str)) = false := by decide) (hpl : ((backTo pos (starEach [] X.env)).any (·.1) || (backToKw pos (keywordEach kws X.env)).any (·.1.isNone)) = false := by rfl) :
    PE X (.Call (.Name x p) [] kws pos) (fun σ H Q => tk σ H fun zs H2 => zs.length = ks.length ∧ ∃ us, permL zs π = some us ∧ sp us H2 Q E) := by
  refine ⟨fun pins s σ H Q I h => ?_⟩
  refine wpAny_Call_Name_kw (ld_glob I hg hm ?_ hdb)
  refine PySem.W.callWith_KW0 (h₀ := X.base) I.ok.mod.kin hk hall (thn (hkw.run pos pins s σ H _ I h) fun ws s2 hh => ?_) hpl
  obtain ⟨zs, H2, I2, rz, hzl, us, e1, q2⟩ := hh
  refine ⟨I2.kIn, ?_⟩
  rw [hks]
  obtain ⟨ys, e2, ry⟩ := permL_vals rz e1
  have bd : BindsTo s2 fd ⟨[] ++ [], ks.zip ws⟩ (ps.zip ys) := BindsTo.of_eq (hb ys ws (by rw [← rz.length]; exact hzl) e2)
  refine wpAny_call (codeAny_mono (F.run gd hr hx I2 bd ry q2) fun q s' hq => ?_)
  cases q with
  | error e => exact hq
  | ok fl => cases fl <;> first | exact hq | exact hq.elim
theorem mk_cons (he : ME X E e f) (hr : MK X E kws fs) : MK X E (⟨nm, e, kpos⟩ :: kws) (f :: fs) := ⟨fun pos pins s σ H Q I h => (pk_cons (kpos := kpos) (nm := nm) he hr).run pos pins s σ H Q I (den_cons σ H Q h)⟩
theorem me_callK (h : KnK X.prog X.w X.K X.mg X.base x ps ks π k F) (gd : X.A.guards = some []) (hr : Room k X.A) (px : Passes (L2.CX X.prog X.w) X E) (ha : MK X E kws fs) (hl : fs.length = ks.length := by rfl) (hg : Gl X x := by rfl) (hdb : (x == ("__debug__" : Str)) = false := by decide)
    (hall : (backToKw pos (keywordEach kws X.env)).all (·.1.isSome) = true := by rfl) (hks : (backToKw pos (keywordEach kws X.env)).filterMap (·.1) = ks := by rfl)
    (hpl : ((backTo pos (starEach [] X.env)).any (·.1) || (backToKw pos (keywordEach kws X.env)).any (·.1.isNone)) = false := by rfl) : ME X E (.Call (.Name x p) [] kws pos) (mCallK F π fs) := by
  obtain ⟨f, fd, hm, hk, hb, hF⟩ := h.ex
  exact PE.imp (pe_callGK hF gd hr hg hm hk hb px ha hall hks hdb hpl) fun σ H Q h => by
    have := den_callK σ H Q h
    rw [← hl]
    exact this
end
end Mx

set_option Elab.async false
set_option linter.all false
set_option maxRecDepth 100000
set_option maxHeartbeats 4000000
namespace Mx
open PySem PySem.Spec PyProof.Rows L2

/-! ### own errors with an __init__ of their own -/
/-- the text of the __init__ -/
def inA (p1 p2 : Pos) : Arguments := { posonlyargs := [], args := [{ arg := "self", annotation := none, pos := p1 }, { arg := "given", annotation := none, pos := p2 }], vararg := none, kwonlyargs := [], kw_defaults := [], kwarg := none, defaults := [] }
def inS : Scope := { kind := .function, names := [("self", .local), ("given", .local), ("RoadError", .globalImplicit)], isGenerator := false, isCoroutine := false, more := [] }
def inB (R txt : Str) (n : Nat) (q1 q2 q3 q4 q5 q6 q7 q8 q9 q10 : Pos) : List Stmt :=
  [.Expr (.Call (.Attribute (.Name R q1) "__init__" q2) [.Name "self" q3, .Constant (.str txt) n q4] [] q5) q6, .Assign [.Attribute (.Name "self" q7) "given" q8] (.Name "given" q9) q10]
/-- the class whose __init__ is called by name -/
structure BaC (K : PySem.W.Frag) (mg : Mg) (R : Str) : Prop where
  ex : ∃ C mc, mg R = some (.ref C) ∧ PySem.W.specialIn K (.ref C) "__getattribute__" = some (some (.builtin "type.__getattribute__")) ∧ PySem.W.typeIn K (.ref C) = some mc ∧ PySem.W.readsIn K C mc = true ∧ PySem.W.findCls K (.ref C) mc "__init__" = some (.val (.builtin "ValueError.__init__"))
/-- what is told of an error's class and of its __init__ -/
structure EcC (P : Program) (w : World) (K : PySem.W.Frag) (mg : Mg) (base : Heap) (c : Str) (k : Nat) (C fI : Addr) (fd : FuncData) (sp : Sp) : Prop where
  gC : mg c = some (.ref C)
  T : OexC K C
  X : XcK K C
  iC : PySem.W.findIn K (.ref C) "__init__" = some (some (.ref fI))
  tI : PySem.W.typeIn K (.ref fI) = some (.type "function")
  bd : Binds K fd ["self", "given"] []
  F : FnOk P w K mg base (L2.CX P w) k fI fd ["self", "given"] sp
/-- __init__(self, given) -/
def spIn (C : Addr) : Sp := fun vs H Q _ => ∃ a y, vs = [.ref a, y] ∧ H a = some (exo a C none) ∧ ∀ d, H d = none → d ≠ a → Q .non (upd (upd H d (exd d [("given", y)])) a (exo a C (some d)))
/-- R.__init__(..) is a call of an attribute -/
def ByAttr (env : Env) (R : Str) (es : List Expr) (p1 p2 pos : Pos) : Prop := ∃ pl, eval (.Call (.Attribute (.Name R p1) "__init__" p2) es [] pos) env = (do
      let ov ← eval (.Name R p1) env
      standAt p2.atName
      let (f, first) ← holding [ov] (getMethod ov "__init__" pl)
      callWith pos f first (backTo pos (starEach es env)) (backToKw pos (keywordEach [] env)))
section
variable {X : Cx} {e : Expr} {es : List Expr} {ta : TA} {p p1 p2 pos : Pos} {R : Str}
theorem pe_binit {pl : Sem Bool} (hB : BaC X.K X.mg R) (hg : Gl X R) (hdb : (R == ("__debug__" : Str)) = false) (ha : PA X (e :: es) ta)
    (hc : eval (.Call (.Attribute (.Name R p1) "__init__" p2) (e :: es) [] pos) X.env = (do
      let ov ← eval (.Name R p1) X.env
      standAt p2.atName
      let (f, first) ← holding [ov] (getMethod ov "__init__" pl)
      callWith pos f first (backTo pos (starEach (e :: es) X.env)) (backToKw pos (keywordEach [] X.env))))
    (he : starEach (e :: es) X.env = (false, eval e X.env) :: starEach es X.env := by rfl) (hpl : (backTo pos (starEach es X.env)).any (·.1) = false := by rfl) :
    PE X (.Call (.Attribute (.Name R p1) "__init__" p2) (e :: es) [] pos) (tVeI X.K ta) := by
  obtain ⟨C, mc, gC, sg, ty, rd, fc⟩ := hB.ex
  refine ⟨fun pins s σ H Q I h => ?_⟩
  refine PySem.W.methodCall_KW (ld_glob I hg gC ?_ hdb) hc
  obtain ⟨m, fr⟩ := I.fr
  refine PySem.W.method_of_cls fr I.ok.mod.kin sg ?_
  refine PySem.W.cls_val fr I.ok.mod.kin ty rd fc (by decide +kernel) ?_
  show wpAny _ _ (callWith pos (Value.builtin "ValueError.__init__") [] (backTo pos (starEach (e :: es) X.env)) []) _ _ _
  refine PyProof.Rows.callWith_method1 (thn (ha.run pos pins _ σ H _ (I.tok _) h) fun us s1 ⟨vs, H1, I1, r1, a, C, ws, ev, hl, T, ea, q⟩ => ?_) he hpl
  subst ev
  cases r1 with
  | @cons _ u0 _ ur ra rw' =>
    obtain rfl : u0 = Value.ref a := ra
    have hlen : ur.length ≤ sizeLine := by
      rw [← Paired.length rw', sizeLine_eq]
      omega
    exact oinit_ok T I1 ea hlen fun s' J => ⟨.non, H1, J, rfl, q⟩
end
theorem init_ok {P : Program} {w : World} {K : PySem.W.Frag} {mg : Mg} {base : Heap} {qual txt : Str} {st : Stmt} {C fI : Addr} {fd : FuncData} {k n : Nat} {q1 q2 q3 q4 q5 q6 q7 q8 q9 q10 : Pos} (F : Fun K "__init__" qual st fI fd)
    (hb : defBody st = inB "RoadError" txt n q1 q2 q3 q4 q5 q6 q7 q8 q9 q10) (hs : defScope st = inS) (T : OexC K C) (hB : BaC K mg "RoadError") (hno : PySem.W.findIn K (.ref C) "given" = some none)
    (hby : ∀ (a : Addr) (cdv : Value), ByAttr (envOfC qual inS a fI cdv) "RoadError" [.Name "self" q3, .Constant (.str txt) n q4] q1 q2 q5) : FnOk P w K mg base (L2.CX P w) (k + 1) fI fd ["self", "given"] (spIn C) := by
  obtain ⟨oc, od, kV, doc, pm, an, cdv, ct, osl, rfl, lk, hcd⟩ := F.ex
  refine fn_of (N := ["self", "given"]) lk hcd (by rw [hs]; exact ⟨rfl, rfl, rfl, by decide, rfl, by decide, by decide⟩) (fun vs H Q E h => by obtain ⟨a, y, rfl, _⟩ := h; rfl) fun A outer s H vs Q E hr hsp => ?_
  obtain ⟨a, y, rfl, ea, k1⟩ := hsp
  rw [hs, hb]
  obtain ⟨pl, hby⟩ := hby s.heap.objs.size cdv
  have vs0 : ∀ {i : Nat} {x : Str} {p : Pos}, (["self", "given"] : List Str)[i]? = some x → inS.names.lookup x = some .local → (x == ("__debug__" : Str)) = false → (x == ("__classdict__" : Str)) = false → PE (cxOf (L2.CX P w) P w K mg base ["self", "given"] qual inS fI cdv A outer s H E) (.Name x p) _ := fun {i x p} h1 h2 h3 h4 => pe_var (i := i) h1 (.inl h2) h3 h4
  refine ⟨_, pss_cons (ps_expr (pe_binit hB (by rfl) (by decide) (pa_cons (vs0 (i := 0) rfl rfl (by decide) (by decide)) (pa_cons pe_str pa_nil)) hby)) (pss_one (ps_ost (vs0 (i := 0) rfl rfl (by decide) (by decide)) (vs0 (i := 1) rfl rfl (by decide) (by decide)))), ?_⟩
  refine ⟨V.ref a, rfl, a, C, [V.str txt], rfl, by simp, T, ea, ?_⟩
  refine ⟨y, rfl, V.ref a, rfl, a, C, rfl, T, hno, .inl ⟨ea, fun d hd ne => k1 d hd ne⟩⟩
/-- C(e), the new error as a value -/
def tMkV (C : Addr) (sp : Sp) (ta : TA) : TE := fun σ H Q => ta σ H fun vs H1 => vs.length ≤ 1000 ∧ ∀ a, H1 a = none → sp (.ref a :: vs) (upd H1 a (exo a C none))
  (fun v H2 => v = .non ∧ ∃ (d : Addr) (fs : List (Str × V)), H2 a = some (exo a C (some d)) ∧ H2 d = some (exd d fs) ∧ Q (.ref a) (upd H2 d (.xd fs))) (fun _ _ _ => False)
section
variable {X : Cx} {CX : CXT} {x : Str} {C fI : Addr} {k : Nat} {fd : FuncData} {ps : List Str} {sp : Sp} {e : Expr} {es : List Expr} {ta : TA} {p pos : Pos}
theorem pe_oexv (T : OexC X.K C) (iC : PySem.W.findIn X.K (.ref C) "__init__" = some (some (.ref fI))) (tI : PySem.W.typeIn X.K (.ref fI) = some (.type "function"))
    (F1 : FnOk X.prog X.w X.K X.mg X.base CX k fI fd ps sp) (hr : Room (k + 1) X.A) (hb : Binds X.K fd ps []) (hx : Passes CX X (fun _ _ _ => False)) (hg : Gl X x) (hm : X.mg x = some (.ref C)) (ha : PA X (e :: es) ta)
    (hdb : (x == ("__debug__" : Str)) = false := by decide) (he : starEach (e :: es) X.env = (false, eval e X.env) :: starEach es X.env := by rfl) (hpl : (backTo pos (starEach es X.env)).any (·.1) = false := by rfl) :
    PE X (.Call (.Name x p) (e :: es) [] pos) (tMkV C sp ta) := by
  refine ⟨fun pins s σ H Q I h => ?_⟩
  obtain ⟨nm, q, N, bs, bm, sn, sub, ab, col, dd, k0, k1, k2, k3, k5, hC, hbm⟩ := T.cls
  refine wpAny_Call_Name_kw (ld_glob I hg hm ?_ hdb)
  refine PySem.W.callWith_K (h₀ := X.base) I.ok.mod.kin T.kC (thn (ha.run pos pins s σ H _ I h) fun us s1 ⟨vs, H1, I1, r1, hz, q1⟩ => ⟨I1.kIn, ?_⟩) he hpl
  show wpAny _ _ (call (.ref C) us) _ _ _
  obtain ⟨hp, g, dr, tk, os⟩ := s1
  have up : hp.objs.size ≤ hp.objs.size + 1 := Nat.le_succ _
  have hn : H1 (hp.objs.size + 1) = none := I1.hok.fresh up
  have hq := q1 (hp.objs.size + 1) hn
  have kk : ∀ b o, hp.get? b = some o → ((hp.push (PySem.W.kdv_tup us)).push (PySem.HandSPX.excO C hp.objs.size)).get? b = some o := fun b o z => Heap.get?_push_of_some _ (Heap.get?_push_of_some _ z)
  have at1 : ((hp.push (PySem.W.kdv_tup us)).push (PySem.HandSPX.excO C hp.objs.size)).get? (hp.objs.size + 1) = some (PySem.HandSPX.excO C hp.objs.size) := by heap_get
  have J : Inv X pins σ (upd H1 (hp.objs.size + 1) (exo (hp.objs.size + 1) C none)) ⟨(hp.push (PySem.W.kdv_tup us)).push (PySem.HandSPX.excO C hp.objs.size), g, dr, tk, os⟩ :=
    I1.laid (t' := tk) (a := hp.objs.size + 1) (o := exo (hp.objs.size + 1) C none) (h' := (hp.push (PySem.W.kdv_tup us)).push (PySem.HandSPX.excO C hp.objs.size)) kk up (exo_ok at1)
  have rr : Vals (V.ref (hp.objs.size + 1) :: vs) (Value.ref (hp.objs.size + 1) :: us) := .cons rfl r1
  have len : (Value.ref (hp.objs.size + 1) :: us).length = ps.length := by
    have z := rr.length
    rw [F1.len _ _ _ _ hq] at z
    exact z.symm
  have few : us.length ≤ sizeLine := by
    rw [← Paired.length r1, sizeLine_eq]
    omega
  have bd := hb { heap := (hp.push (PySem.W.kdv_tup us)).push (PySem.HandSPX.excO C hp.objs.size), gens := g, drawn := dr, toks := tk, os := os } (Value.ref (hp.objs.size + 1) :: us) J.kIn (by rw [List.append_nil]; exact len)
  rw [List.append_nil] at bd
  refine wpAny_call (PySem.HandSPX.call_own F.excBase_ValueError (fun Y => PySem.HandSPX.refsVE_contains Y bm hbm) (I1.kIn _ _ hC) (PySem.W.looks_findIn I1.kIn iC) (fun self => PySem.W.bind_fn I1.kIn self tI) few
    (codeAny_mono (F1.run _ X.stack _ _ ⟨Value.ref (hp.objs.size + 1) :: us, []⟩ (Value.ref (hp.objs.size + 1) :: us) _ _ (fun _ _ _ => False) (hr.make C us []) (J.env0.make C us []) bd rr hq) fun r s' hq' => ?_))
  cases r with
  | error er => exact hx pins σ _ _ er s' J hq'
  | ok fl =>
    cases fl with
    | ret u =>
      obtain ⟨v, H2, J2, rv, ev, d, fs, ea, ed, q2⟩ := J.after hq'
      subst ev
      obtain ⟨mA, hns, rel⟩ : ∃ mA, s'.heap.Ns1 d mA ∧ ∀ f, RelO (fs.lookup f) (mA f) := exd_at J2.hok ed
      have there : ∃ u, s'.heap.get? d = some u := by
        obtain ⟨od, es, ep, z, _⟩ := hns
        exact ⟨od, z⟩
      have mu : Mut (H2 d) := by rw [ed]; exact True.intro
      refine ⟨rv, V.ref (hp.objs.size + 1), _, J2.write (x := d) (e := d) (o := .xd fs) mu (.inl rfl) (fun b u _ z => z) there ⟨mA, hns, rel⟩, rfl, q2⟩
    | next => exact False.elim hq'
    | brk => exact False.elim hq'
    | cont => exact False.elim hq'
end
end Mx

set_option Elab.async false
set_option linter.all false
set_option maxRecDepth 100000
namespace Mx
open PySem PySem.Spec PyProof.Rows L2

theorem New.fix {G H : Hp} {p : Addr} {o : HO} (s : Same G H) (hp : H p = none) : New G H (upd G p o) (upd H p o) := by
  have gp : G p = none := s.free hp
  refine ⟨fun b u q => by rw [upd_ne (ne_of_none q gp)]; exact q, fun b u q => by rw [upd_ne (ne_of_none q hp)]; exact q, fun b u q => ?_, fun b q => ?_⟩
  · by_cases hb : b = p
    · subst hb; rw [upd_same] at q ⊢; exact q
    · rw [upd_ne hb] at q ⊢; exact s b u q
  · by_cases hb : b = p
    · subst hb; exact .inr hp
    · rw [upd_ne hb] at q; exact .inl q
theorem New.trans {G H G1 H1 G2 H2 : Hp} (a : New G H G1 H1) (b : New G1 H1 G2 H2) : New G H G2 H2 :=
  ⟨a.gg.trans b.gg, a.hh.trans b.hh, b.gh, fun x h => by
    rcases b.fresh x h with q | q
    · exact a.fresh x q
    · cases z : H x with
      | none => exact .inr rfl
      | some o => rw [a.hh x o z] at q; cases q⟩
/-- C(e) -/
def mExc (c : Str) (f : Mm) : Mm := fun s => (mArgs [f] s).bind fun rs s1 => match escs s1 rs with
  | some ([d], s2) => .ok (.sh (.exc c [("given", d)])) s2
  | _ => .no
structure KnX (P : Program) (w : World) (K : PySem.W.Frag) (mg : Mg) (base : Heap) (c : Str) (k : Nat) : Prop where
  ex : ∃ C fI fd, EcC P w K mg base c k C fI fd (spIn C)
section
variable {K : PySem.W.Frag} {mg : Mg} {E : XK}
theorem den_exc {c : Str} {C : Addr} {f : Mm} (gC : mg c = some (.ref C)) (xk : XcK K C) (σ : L2.St) (H : Hp) (Q : VK) (h : denE K mg E (mExc c f) σ H Q) : tMkV C (spIn C) (denA K mg E [f]) σ H Q := by
  obtain ⟨H0, G, L, pv, s, R, h⟩ := h
  refine denA_mono (fun vs H1 ⟨G1, L1, rs, s1, R1, e1, w, hn, h1⟩ => ?_) (go_argsN R h)
  cases q : escs s1 rs with
  | none => rw [q] at h1; exact h1.elim
  | some p =>
    obtain ⟨ds, s2⟩ := p
    rw [q] at h1
    obtain ⟨G2, R2, e2, r2, g2⟩ := escs_ok R1 e1 w q
    match ds, h1, r2 with
    | [], h1, _ => exact h1.elim
    | _ :: _ :: _, h1, _ => exact h1.elim
    | [d], h1, r2 =>
      simp only [Reps] at r2
      obtain ⟨v, _, rfl, rv, rfl⟩ := r2
      refine ⟨by simp, fun a ha => ⟨a, v, rfl, upd_same, fun dx hd ne => ⟨rfl, dx, [("given", v)], upd_same, by rw [upd_ne ne]; exact upd_same, ?_⟩⟩⟩
      have hd1 : H1 dx = none := by rw [upd_ne ne] at hd; exact hd
      have he : upd (upd (upd (upd H1 a (exo a C none)) dx (exd dx [("given", v)])) a (exo a C (some dx))) dx (.xd [("given", v)]) = upd (upd H1 a (exo a C (some dx))) dx (.xd [("given", v)]) := by
        funext b
        by_cases z1 : b = dx
        · subst z1; rw [upd_same, upd_same]
        · rw [upd_ne z1, upd_ne z1]
          by_cases z2 : b = a
          · subst z2; rw [upd_same, upd_same]
          · rw [upd_ne z2, upd_ne z1, upd_ne z2, upd_ne z2]
      rw [he]
      have n1 := New.fix (o := exo a C (some dx)) R2.same ha
      have hd2 : upd H1 a (exo a C (some dx)) dx = none := by rw [upd_ne ne]; exact hd1
      have n2 := New.fix (o := .xd [("given", v)]) n1.gh hd2
      refine Go.fin R2 (Go.base h1 e2) (n1.trans n2) ?_
      show Rep K mg _ (.exc c [("given", d)]) (.ref a)
      simp only [Rep, RepFs]
      refine ⟨a, C, dx, [("given", v)], rfl, gC, xk, ⟨_, by rw [upd_ne (Ne.symm ne), upd_same]; rfl, fun h z => z⟩, upd_same, v, [], rfl, rv.mono (n1.trans n2).gg, rfl⟩
end
section
variable {X : Cx} {E : XK} {c : Str} {k : Nat} {e : Expr} {f : Mm} {p pos : Pos}
theorem me_exc (h : KnX X.prog X.w X.K X.mg X.base c k) (hr : Room (k + 1) X.A) (px : Passes (L2.CX X.prog X.w) X (fun _ _ _ => False)) (ha : ME X E e f) (hg : Gl X c := by rfl) (hdb : (c == ("__debug__" : Str)) = false := by decide)
    (he : starEach [e] X.env = (false, eval e X.env) :: starEach [] X.env := by rfl) (hpl : (backTo pos (starEach [] X.env)).any (·.1) = false := by rfl) : ME X E (.Call (.Name c p) [e] [] pos) (mExc c f) := by
  obtain ⟨C, fI, fd, Z⟩ := h.ex
  exact PE.imp (pe_oexv Z.T Z.iC Z.tI Z.F hr Z.bd px hg Z.gC (ma_cons ha ma_nil he) hdb he hpl) (den_exc Z.gC Z.X)
end
end Mx

set_option Elab.async false
set_option linter.all false
set_option maxRecDepth 100000
namespace Mx
open PySem PySem.Spec PyProof.Rows L2

/-! ### repr -/
def keyP : Key → PyData
  | .inl i => .int i
  | .inr x => .str x
mutual
/-- as it is shown -/
def D.rp : D → Option PyData
  | .non => some .none
  | .bl b => some (.bool b)
  | .int i => some (.int i)
  | .str x => some (.str x)
  | .lst xs => match D.rps xs with
    | some ds => some (.list ds)
    | none => none
  | .rol xs => match D.rps xs with
    | some ds => some (.list ds)
    | none => none
  | .tup xs => match D.rps xs with
    | some ds => some (.tuple ds)
    | none => none
  | .dic kvs => match D.rpk kvs with
    | some ds => some (.dict ds)
    | none => none
  | .exc _ _ => none
def D.rps : List D → Option (List PyData)
  | [] => some []
  | x :: xs => match D.rp x with
    | some d => match D.rps xs with
      | some ds => some (d :: ds)
      | none => none
    | none => none
def D.rpk : List (Key × D) → Option (List (PyData × PyData))
  | [] => some []
  | x :: xs => match D.rp x.2 with
    | some d => match D.rpk xs with
      | some ds => some ((keyP x.1, d) :: ds)
      | none => none
    | none => none
end
mutual
/-- no list in it -/
def noL : PyData → Bool
  | .list _ => false
  | .tuple xs => noLs xs
  | .dict kvs => noLk kvs
  | _ => true
def noLs : List PyData → Bool
  | [] => true
  | x :: xs => noL x && noLs xs
def noLk : List (PyData × PyData) → Bool
  | [] => true
  | x :: xs => noL x.2 && noLk xs
end
section
variable {X : Cx} {pins : List (Addr × Obj)} {σ : L2.St} {H : Hp} {s : Shared}
theorem keys_read {P : Program} {w : World} {h : Heap} : ∀ {es : List DictEntry} {kvs : List (Key × Value)}, Pairs (mixKind P w) es kvs → ReadsAll h (es.map (·.key)) (kvs.map fun p => keyP p.1) []
  | _, _, .nil => .nil
  | _, _, .cons (e := e) (kv := kv) h1 h2 t => by
    have ih := keys_read (h := h) t
    have r : Reads h e.key (keyP kv.1) [] := by
      rcases keyIs_shape h1 with ⟨i, t, e1, e2⟩ | ⟨x, t, e1, e2⟩
      · rw [e1, e2]; exact .int i t
      · rw [e1, e2]; exact .str x t
    exact ReadsAll.cons (as := []) (bs := []) r ih
theorem vals_of_pairs {P : Program} {w : World} : ∀ {es : List DictEntry} {kvs : List (Key × Value)}, Pairs (mixKind P w) es kvs → es.map (·.val) = kvs.map (·.2)
  | _, _, .nil => rfl
  | _, _, .cons h1 h2 t => by rw [List.map_cons, List.map_cons, h2, vals_of_pairs t]
mutual
theorem rep_reads (I : Inv X pins σ H s) : ∀ (d : D) (v : V) (u : Value) (p : PyData), Rep X.K X.mg H d v → RelV v u → D.rp d = some p → ∃ as, Reads s.heap u p as ∧ (noL p = true → sysModules ∉ as)
  | .non, v, u, p, r, ru, h => by simp only [D.rp, Option.some.injEq] at h; subst h; simp only [Rep] at r; subst r; cases ru; exact ⟨_, .none, fun _ => by simp⟩
  | .bl b, v, u, p, r, ru, h => by simp only [D.rp, Option.some.injEq] at h; subst h; simp only [Rep] at r; subst r; cases ru; exact ⟨_, .bool b, fun _ => by simp⟩
  | .int i, v, u, p, r, ru, h => by simp only [D.rp, Option.some.injEq] at h; subst h; simp only [Rep] at r; subst r; obtain ⟨t, rfl⟩ := ru; exact ⟨_, .int i t, fun _ => by simp⟩
  | .str i, v, u, p, r, ru, h => by simp only [D.rp, Option.some.injEq] at h; subst h; simp only [Rep] at r; subst r; obtain ⟨t, rfl⟩ := ru; exact ⟨_, .str i t, fun _ => by simp⟩
  | .lst xs, v, u, p, r, ru, h => by
    simp only [D.rp] at h
    split at h
    · rename_i ds e
      simp only [Option.some.injEq] at h
      subst h
      simp only [Rep] at r
      obtain ⟨a, vs, rfl, q, rs⟩ := r
      cases ru
      obtain ⟨its, rv, ⟨o, n, ho, hc, _, hd⟩, _⟩ := I.list (.inl (.inl q))
      obtain ⟨as, hr, _⟩ := reps_reads I xs vs its ds rs rv e
      exact ⟨_, .list ho hc hd hr, fun z => by simp [noL] at z⟩
    · cases h
  | .rol xs, v, u, p, r, ru, h => by
    simp only [D.rp] at h
    split at h
    · rename_i ds e
      simp only [Option.some.injEq] at h
      subst h
      simp only [Rep] at r
      obtain ⟨a, vs, rfl, q, rs⟩ := r
      cases ru
      obtain ⟨its, rv, ⟨o, n, ho, hc, _, hd⟩, _⟩ := I.list q
      obtain ⟨as, hr, _⟩ := reps_reads I xs vs its ds rs rv e
      exact ⟨_, .list ho hc hd hr, fun z => by simp [noL] at z⟩
    · cases h
  | .tup xs, v, u, p, r, ru, h => by
    simp only [D.rp] at h
    split at h
    · rename_i ds e
      simp only [Option.some.injEq] at h
      subst h
      simp only [Rep] at r
      obtain ⟨a, vs, rfl, q, rs⟩ := r
      cases ru
      obtain ⟨its, rv, ⟨o, ho, hc, n, hd⟩, _⟩ := I.tuple q
      obtain ⟨as, hr, no⟩ := reps_reads I xs vs its ds rs rv e
      exact ⟨_, .tuple ho hc hd hr, fun z => no (by simpa only [noL] using z)⟩
    · cases h
  | .dic kvs, v, u, p, r, ru, h => by
    simp only [D.rp] at h
    split at h
    · rename_i ds e
      simp only [Option.some.injEq] at h
      subst h
      simp only [Rep] at r
      obtain ⟨a, vs, rfl, q, rs⟩ := r
      cases ru
      obtain ⟨z, lo, us, rel, o, es, ep, ho, hx, hd, _, pr, _⟩ := dk_rd I.hok q
      obtain ⟨as, hr, no, hk⟩ := repk_reads I kvs vs us ds rs rel e
      have hkeys : ds.map (·.1) = us.map fun p => keyP p.1 := hk
      refine ⟨_, .dict (as := []) (bs := as) ho hx.1 hd (by rw [hkeys]; exact keys_read pr) (by rw [vals_of_pairs pr]; exact hr), fun z => ?_⟩
      have lo' : a ≠ sysModules := fun e => by rw [e] at lo; simp at lo
      have := no (by simpa only [noL] using z)
      simp only [List.cons_append, List.nil_append, List.mem_cons, not_or]
      exact ⟨Ne.symm lo', this⟩
    · cases h
  | .exc _ _, v, u, p, r, ru, h => by simp only [D.rp] at h; cases h
theorem reps_reads (I : Inv X pins σ H s) : ∀ (ds : List D) (vs : List V) (us : List Value) (ps : List PyData), Reps X.K X.mg H ds vs → Vals vs us → D.rps ds = some ps → ∃ as, ReadsAll s.heap us ps as ∧ (noLs ps = true → sysModules ∉ as)
  | [], vs, us, ps, r, ru, h => by simp only [D.rps, Option.some.injEq] at h; subst h; simp only [Reps] at r; subst r; cases ru; exact ⟨_, .nil, fun _ => by simp⟩
  | d :: ds, vs, us, ps, r, ru, h => by
    simp only [D.rps] at h
    split at h
    · rename_i p e1
      split at h
      · rename_i qs e2
        simp only [Option.some.injEq] at h
        subst h
        simp only [Reps] at r
        obtain ⟨v, vs, rfl, r1, r2⟩ := r
        cases ru with
        | cons ra rb =>
          obtain ⟨as, h1, n1⟩ := rep_reads I d v _ p r1 ra e1
          obtain ⟨bs, h2, n2⟩ := reps_reads I ds vs _ qs r2 rb e2
          refine ⟨_, .cons h1 h2, fun z => ?_⟩
          simp only [noLs, Bool.and_eq_true] at z
          simp only [List.mem_append, not_or]
          exact ⟨n1 z.1, n2 z.2⟩
      · cases h
    · cases h
theorem repk_reads (I : Inv X pins σ H s) : ∀ (ds : List (Key × D)) (vs : List (Key × V)) (us : List (Key × Value)) (ps : List (PyData × PyData)), RepKs X.K X.mg H ds vs → KV vs us → D.rpk ds = some ps → ∃ as, ReadsAll s.heap (us.map (·.2)) (ps.map (·.2)) as ∧ (noLk ps = true → sysModules ∉ as) ∧ ps.map (·.1) = us.map fun p => keyP p.1
  | [], vs, us, ps, r, ru, h => by simp only [D.rpk, Option.some.injEq] at h; subst h; simp only [RepKs] at r; subst r; cases ru; exact ⟨_, .nil, fun _ => by simp, rfl⟩
  | d :: ds, vs, us, ps, r, ru, h => by
    simp only [D.rpk] at h
    split at h
    · rename_i p e1
      split at h
      · rename_i qs e2
        simp only [Option.some.injEq] at h
        subst h
        simp only [RepKs] at r
        obtain ⟨v, vs, rfl, r1, r2⟩ := r
        cases ru with
        | @cons _ b _ bs ra rb =>
          obtain ⟨as, h1, n1⟩ := rep_reads I d.2 v _ p r1 ra.2 e1
          obtain ⟨cs, h2, n2, h3⟩ := repk_reads I ds vs _ qs r2 rb e2
          refine ⟨_, .cons h1 h2, fun z => ?_, ?_⟩
          · simp only [noLk, Bool.and_eq_true] at z
            simp only [List.mem_append, not_or]
            exact ⟨n1 z.1, n2 z.2⟩
          · rw [List.map_cons, List.map_cons, h3]
            have : d.1 = b.1 := ra.1
            rw [this]
      · cases h
    · cases h
end
/-- what repr can be asked of -/
def shOk (p : PyData) : Bool := p.showable && (!p.hasDict || noL p) && decide (p.depth ≤ 50) && decide (p.shown.length ≤ 16777216)
def rRepr (K : PySem.W.Frag) (mg : Mg) : List V → Hp → VK → Prop := fun xs H Q => ∃ x d p, xs = [x] ∧ Rep K mg H d x ∧ D.rp d = some p ∧ shOk p = true ∧ Q (.str p.shown) H
theorem cr_repr {k : Nat} (hr : Room k X.A) (gd : X.A.guards = some []) : CallR X (.builtin "repr") (rRepr X.K X.mg) := by
  intro pins s σ H xs us Q I r h
  obtain ⟨x, d, p, rfl, rp, e, ok, q⟩ := h
  obtain ⟨u, rfl, ru⟩ := vals1 r
  obtain ⟨as, rd, no⟩ := rep_reads I d x u p rp ru e
  simp only [shOk, Bool.and_eq_true, Bool.or_eq_true, Bool.not_eq_true', decide_eq_true_eq] at ok
  obtain ⟨⟨⟨o1, o2⟩, o3⟩, o4⟩ := ok
  have o4' : p.shown.length ≤ sizeLine := by rw [sizeLine_eq]; exact o4
  have deep : ∀ {a : Addr}, u = .ref a → wpAny (model X.prog X.w) X.A (call (.builtin "repr") [u]) (EP X pins σ Q) X.xe s := by
    rintro a rfl
    refine repr_of_reads' rd o1 (fun hh => ?_) gd (by have := hr.un; omega) (fun b o z => z) (fun h' u tk kk => ?_) o4'
    · rcases o2 with z | z
      · rw [z] at hh; cases hh
      · exact no z
    · exact ⟨.str p.shown, H, I.kept kk, ⟨u, rfl⟩, q⟩
  cases rd with
  | none => exact PySem.P.repr_of_none ⟨.str _, H, I.tok _, ⟨_, rfl⟩, by simpa only [PyData.shown] using q⟩
  | bool b => exact PySem.P.repr_of_bool ⟨.str _, H, I.tok _, ⟨_, rfl⟩, by simpa only [PyData.shown] using q⟩
  | int i t => exact PySem.P.repr_of_int (by simpa [PyData.showable] using o1) ⟨.str _, H, I.tok _, ⟨_, rfl⟩, by simpa only [PyData.shown] using q⟩
  | str x t => exact PySem.P.repr_of_str ⟨.str _, H, I.tok _, ⟨_, rfl⟩, by simpa only [PyData.shown] using q⟩ (by simpa only [PyData.shown] using o4')
  | list h1 h2 h3 h4 => exact deep rfl
  | tuple h1 h2 h3 h4 => exact deep rfl
  | dict h1 h2 h3 h4 h5 => exact deep rfl
def dRepr (d : D) : Option Rv := match D.rp d with
  | some p => if shOk p = true then some (.sh (.str p.shown)) else none
  | none => none
theorem bld_repr {K : PySem.W.Frag} {mg : Mg} : BlD K mg (rRepr K mg) (op1 dRepr) := bld1 fun G H x d res s hx h Q k => by
  unfold dRepr at h
  split at h
  · rename_i p e
    split at h
    · rename_i c
      cases h
      exact ⟨x, d, p, rfl, hx.now s, e, c, k G H _ (New.refl s) res_str⟩
    · cases h
  · cases h
theorem me_repr {E : XK} {e : Expr} {f : Mm} {p pos : Pos} {k : Nat} (hr : Room k X.A) (gd : X.A.guards = some []) (hm : X.mg "repr" = none) (ha : ME X E e f) (hg : Gl X "repr" := by rfl) (h1 : starEach [e] X.env = (false, eval e X.env) :: starEach [] X.env := by rfl) (h2 : (backTo pos (starEach [] X.env)).any (·.1) = false := by rfl) :
    ME X E (.Call (.Name "repr" p) [e] [] pos) (mBl (op1 dRepr) [f]) := me_blt (cr_repr hr gd) bld_repr hm (ma_cons ha ma_nil h1) PyProof.Rows.boot_repr hg (by decide) (by decide) h1 h2
end
end Mx

set_option Elab.async false
set_option linter.all false
set_option maxRecDepth 100000
set_option maxHeartbeats 4000000
namespace Mx
open PySem PySem.Spec PyProof.Rows PySem.W PySem.Calls

/-! ### sorted, of rows of numbers (truth values among them) -/
section
variable {prog : Program} {w : World} {A : Around} {E : Value → Shared → Prop} {s : Shared}
theorem gather_tup {a : Addr} {us : List Value} {Q : List Value → Shared → Prop} {o : Obj} {n : Nat} (ho : s.heap.get? a = some o) (hc : o.cls = .type "tuple") (hd : o.data = .seq us.toArray n)
    (h : Q us { s with heap := (s.heap.push (seqObj "list" #[] 0)).update s.heap.objs.size (Obj.mapSeq (· ++ us.toArray)) }) (hz : us.length ≤ sizeLine) : wpAny (model prog w) A (collect (.ref a)) Q E s := by
  unfold collect
  refine wpAny_bind (wpAny_runValue (codeAny_builtin entry_proto_collect' ?_))
  show wpAny _ _ (do again (.builtin "list.__iadd__" ⟨[← newList [], .ref a], []⟩)) _ _ s
  refine wpAny_bind (wpAny_newList (wpAny_pure ⟨Code.quiet_builtin _ (by decide +kernel), codeAny_builtin entry_list_iadd' ?_⟩))
  show wpAny _ _ (Builtin.List.listExtendWith (.ref s.heap.objs.size) (.ref a) (.ref s.heap.objs.size)) _ _ { s with heap := s.heap.push (seqObj "list" #[] 0) }
  unfold Builtin.List.listExtendWith
  have ho' : (s.heap.push (seqObj "list" #[] 0)).get? a = some o := Heap.get?_push_of_some _ ho
  refine wpAny_bind (wpAny_typeOf (T := "tuple") ⟨o, ho', hc⟩ ?_)
  rw [if_pos (by simp)]
  refine wpAny_bind (listItems_at ho' hd ?_)
  refine wpAny_bind (listItems_at (xs := #[]) (n := 0) (Heap.get?_push_size _ rfl) rfl ?_)
  rw [if_neg (by simp)]
  refine wpAny_bind (listUpdate_at (xs := #[]) (n := 0) (Heap.get?_push_size _ rfl) rfl ?_ (Nat.zero_le _) (by show (#[] ++ us.toArray).size ≤ sizeLine + 1; simp only [Array.size_append, List.size_toArray, List.length_nil]; omega))
  refine wpAny_pure ?_
  show wpAny (model prog w) A (do
      let o ← load s.heap.objs.size
      match o.data with
      | .seq xs _ => pure xs.toList
      | _ => unsupported "internal:collect") Q E { s with heap := (s.heap.push (seqObj "list" #[] 0)).update s.heap.objs.size (Obj.mapSeq (· ++ us.toArray)) }
  refine wpAny_bind (wpAny_load (get?_update_seq (Heap.get?_push_size _ rfl) _) ?_)
  show wpAny _ _ (pure ((#[] : Array Value) ++ us.toArray).toList) Q E _
  rw [show ((#[] : Array Value) ++ us.toArray).toList = us by simp]
  exact wpAny_pure h
/-- sorted(t): as of a list -/
theorem sorted_tup {a : Addr} {us : List Value} {o : Obj} {n : Nat} {κ : PyProof.Rows.KeyKind} {Q : Value → Shared → Prop} (ho : s.heap.get? a = some o) (hc : o.cls = .type "tuple") (hd : o.data = .seq us.toArray n)
    (S : SortsAt prog w A.in1.in1 { s with heap := sortingHeap (copyHeap s.heap us) (s.heap.objs.size + 1) us } κ us) (hz : us.length ≤ sizeLine)
    (h : Q (.ref (s.heap.objs.size + 1)) { s with heap := sortedAll s.heap us (sortVals κ false us us).toArray }) : wpAny (model prog w) A (call (.builtin "sorted") [.ref a]) Q E s := by
  refine call_function_entry_kw kind_sorted plain_sorted entry_sorted (args_sorted1 _) ?_
  unfold Builtin.«sorted»
  refine wpAny_bind (m := checkCount "sorted" 1 1 _) (wpAny_pure ?_)
  refine wpAny_bind (gather_tup ho hc hd ?_ hz)
  refine wpAny_bind (wpAny_newList ?_ hz)
  have hsz : ((s.heap.push (seqObj "list" #[] 0)).update s.heap.objs.size (Obj.mapSeq (· ++ us.toArray))).objs.size = s.heap.objs.size + 1 := by
    rw [Heap.size_update, size_push']
  show wpAny _ _ _ _ _ { s with heap := copyHeap s.heap us }
  rw [hsz]
  refine wpAny_bind (wpAny_holding (wpAny_call_entry_kw slot_list_sort ⟨_, copyHeap_at s.heap us, rfl⟩ entry_list_sort ?body (args_list_sort _)))
  case body =>
    show wpAny (model prog w) A.in1.in1 (Builtin.«list.sort» ⟨[.ref (s.heap.objs.size + 1)], []⟩) _ _ _
    refine wpAny_mono (list_sort_vals (P := fun f s' => f = .done (.ret .none) ∧ Q (.ref (s.heap.objs.size + 1)) s') (s := { s with heap := copyHeap s.heap us }) (copyHeap_at s.heap us) S hz ⟨rfl, h⟩) (fun f s' hf => ?_) fun _ _ e => e
    obtain ⟨rfl, hq⟩ := hf
    exact ⟨_, rfl, wpAny_pure ⟨_, rfl, hq⟩⟩
end

/-- a number as a value -/
def numV : Value → Option Int
  | .int i _ => some i
  | .bool b => some (if b = true then 1 else 0)
  | _ => none
def numsV : List Value → Option (List Int)
  | [] => some []
  | v :: vs => match numV v with
    | some i => match numsV vs with
      | some r => some (i :: r)
      | none => none
    | none => none
/-- a row of numbers -/
def rowV (c : Value → Bool) (h : Heap) : Value → Option (List Int)
  | .ref a => match h.get? a with
    | some o => match o.cls with
      | .type "tuple" => match o.data with
        | .seq xs _ => match numsV xs.toList with
          | some (i :: r) => if c (xs.toList.headD .none) = true then some (i :: r) else none
          | _ => none
        | _ => none
      | _ => none
    | none => none
  | _ => none
@[reducible] def intO : KeyOrd where
  α := Int
  blt a b := decide (a < b)
  irrefl a := by simp
  trans a b c h1 h2 := by simp only [decide_eq_true_eq] at *; omega
  negTrans a b c h := by simp only [decide_eq_true_eq] at *; omega
  total a b h1 h2 := by simp only [decide_eq_false_iff_not] at *; omega
def rowK (c : Value → Bool) (h : Heap) : PyProof.Rows.KeyKind where
  toKeyOrd := listOrd intO
  keyOf := rowV c h
  dflt := ([] : List Int)
theorem rowV_some {c : Value → Bool} {h : Heap} {v : Value} {ns : List Int} (e : rowV c h v = some ns) : ∃ a o xs n i r, v = .ref a ∧ h.get? a = some o ∧ o.cls = .type "tuple" ∧ o.data = .seq xs n ∧ numsV xs.toList = some (i :: r) ∧ ns = i :: r ∧ c (xs.toList.headD .none) = true := by
  unfold rowV at e
  split at e
  · rename_i a
    split at e
    · rename_i o ho
      split at e
      · rename_i hc
        split at e
        · rename_i xs n hd
          split at e
          · rename_i i r hn
            split at e
            · rename_i hk
              cases e
              exact ⟨a, o, xs, n, i, r, rfl, ho, hc, hd, hn, rfl, hk⟩
            · cases e
          · cases e
        · cases e
      · cases e
    · cases e
  · cases e
section
variable {prog : Program} {w : World} {A : Around} {s : Shared}
theorem num_eq {p q : Value} {i j : Int} (hp : numV p = some i) (hq : numV q = some j) : SeqAt.EqAt A s p q (decide (i = j)) := by
  have z : ∀ a b : Int, (a == b) = decide (a = b) := fun a b => by
    by_cases c : a = b
    · rw [decide_eq_true c]; exact beq_iff_eq.mpr c
    · rw [decide_eq_false c]; exact beq_eq_false_iff_ne.mpr c
  cases p with
  | int a t =>
    cases hp
    cases q with
    | int b u => cases hq; rw [← z]; exact SeqAt.EqAt.int_int _ _ _ _
    | bool b => cases hq; rw [← z]; exact SeqAt.EqAt.int_bool _ _ _
    | _ => cases hq
  | bool a =>
    cases hp
    cases q with
    | int b u => cases hq; rw [← z]; exact SeqAt.EqAt.bool_int _ _ _
    | bool b =>
      cases hq
      have e : decide ((if a = true then (1 : Int) else 0) = if b = true then 1 else 0) = (a == b) := by cases a <;> cases b <;> decide
      rw [e]; exact SeqAt.EqAt.bool_bool _ _
    | _ => cases hq
  | _ => cases hp
theorem gt_bi (b : Bool) (a : Int) (t : Tok) : Gives (Builtin.«int.__gt__» ⟨[.bool b, .int a t], []⟩) (.val (Value.bool (decide ((if b = true then (1 : Int) else 0) > a)))) :=
  .of_wp fun M A E s Q h => by obtain ⟨hp, g, d, tk, os⟩ := s; wp_walk; exact ⟨_, rfl, h⟩
theorem lt_bi (b : Bool) (a : Int) (t : Tok) : Gives (Builtin.«int.__lt__» ⟨[.bool b, .int a t], []⟩) (.val (Value.bool (decide ((if b = true then (1 : Int) else 0) < a)))) :=
  .of_wp fun M A E s Q h => by obtain ⟨hp, g, d, tk, os⟩ := s; wp_walk; exact ⟨_, rfl, h⟩
theorem num_lt {p q : Value} {i j : Int} {E : Value → Shared → Prop} {Q : Value → Shared → Prop} (hp : numV p = some i) (hq : numV q = some j) (h : Q (.bool (decide (i < j))) s) : wpAny (model prog w) A (compareOp .Lt p q) Q E s := by
  cases p with
  | int a t =>
    cases hp
    cases q with
    | int b u => cases hq; exact lt_int h
    | bool b =>
      cases hq
      show wpAny (model prog w) A (richCompare .Lt _ _) Q E s
      refine SeqAt.rc_sub_first_or (typeIs_int s i t) rfl (by decide) F.sub_bool_int F.slot_bool_gt_refl (call_gives F.slot_bool_gt_refl rfl F.entry_int_gt (F.args_int_gt_2 _ _) (gt_bi b i t) ⟨nofun, ?_⟩) (.inl rfl)
      exact h
    | _ => cases hq
  | bool a =>
    cases hp
    cases q with
    | int b u =>
      cases hq
      show wpAny (model prog w) A (richCompare .Lt _ _) Q E s
      refine SeqAt.rc_left_or rfl (typeIs_int s j u) (by decide) F.sub_int_bool F.slot_bool_lt (call_gives F.slot_bool_lt rfl F.entry_int_lt (F.args_int_lt_2 _ _) (lt_bi a j u) ⟨nofun, ?_⟩) (.inl rfl)
      exact h
    | bool b => cases hq; exact lt_bool (by cases a <;> cases b <;> exact h)
    | _ => cases hq
  | _ => cases hp
theorem oneLt_bls {a b : Bool} {E : Value → Shared → Prop} {Q : Bool → Shared → Prop} (h : Q (decide ((if a = true then (1 : Int) else 0) < if b = true then 1 else 0)) s) : wpAny (model prog w) A (oneLt' true (.bool a) (.bool b)) Q E s := by
  rw [oneLt'_eq]
  simp only [if_true]
  refine wpAny_bind (wpAny_cRoomFor_byValue rfl ?_)
  refine wpAny_bind (wpAny_callSpecialIfBound?_slot (typeIs_bool' s a) F.slot_bool_lt (call_gives F.slot_bool_lt rfl F.entry_int_lt (F.args_int_lt_2 _ _) (gives_int_lt_bools a b) ?_))
  exact wpAny_truthy_bool h
/-- place by place -/
theorem num_lex {b fin : Bool} {Q : Bool → Shared → Prop} : ∀ (xs ys : List Value) (ns ms : List Int) (i : Nat), numsV xs = some ns → numsV ys = some ms → (b = true → i = 0 → ∀ p q r t, xs = p :: r → ys = q :: t → (∃ a u c v, p = .int a u ∧ q = .int c v) ∨ ∃ a c, p = .bool a ∧ q = .bool c) →
    fin = decide (ns.length < ms.length) → Q (lexLt intO ns ms) s → KatLex prog w A b fin Q (xs.zip ys) i s
  | [], ys, ns, ms, i, h1, h2, hb, hf, hq => by
    cases h1
    refine kat_nil ?_
    rw [hf]
    cases ms with
    | nil => exact hq
    | cons m ms => exact hq
  | x :: xs, [], ns, ms, i, h1, h2, hb, hf, hq => by
    cases h2
    refine kat_nil ?_
    rw [hf]
    cases ns with
    | nil => exact hq
    | cons n ns => exact hq
  | x :: xs, y :: ys, ns, ms, i, h1, h2, hb, hf, hq => by
    simp only [numsV] at h1 h2
    split at h1
    · rename_i a ha
      split at h1
      · rename_i ns' hn
        split at h2
        · rename_i c hc
          split at h2
          · rename_i ms' hm
            cases h1
            cases h2
            rw [List.zip_cons_cons]
            refine kat_cons (num_eq ha hc prog w _ _ (kat_go (fun e => kat_yes ?_) fun e => kat_no ?_))
            · have e := of_decide_eq_true e
              subst e
              refine num_lex xs ys ns' ms' (i + 1) hn hm (fun _ z => by omega) (by rw [hf]; simp) ?_
              rw [lex_self] at hq
              exact hq
            · have ne := of_decide_eq_false e
              rw [lex_diff ne] at hq
              by_cases z : (b && i == 0) = true
              · rw [z]
                simp only [Bool.and_eq_true, beq_iff_eq] at z
                rcases hb z.1 z.2 _ _ _ _ rfl rfl with ⟨a', u, c', v, rfl, rfl⟩ | ⟨a', c', rfl, rfl⟩
                · cases ha
                  cases hc
                  exact oneLt_int hq
                · cases ha
                  cases hc
                  exact oneLt_bls hq
              · have z := Bool.eq_false_iff.mpr z
                rw [z]
                exact kat_one _ _ (num_lt ha hc hq)
          · cases h2
        · cases h2
      · cases h1
    · cases h1
def isIntV : Value → Bool
  | .int _ _ => true
  | _ => false
def isBlV : Value → Bool
  | .bool _ => true
  | _ => false
def tyV1 : Value → Value
  | .int _ _ => .type "int"
  | .bool _ => .type "bool"
  | _ => .type "x"
theorem types_of {M : Model} {E : Value → Shared → Prop} : ∀ (fs : List Value) {Q : List Value → Shared → Prop}, (∀ f ∈ fs, ∃ i, numV f = some i) → Q (fs.map tyV1) s → wpAny M A (fs.mapM typeOf) Q E s
  | [], Q, _, h => by rw [List.mapM_nil]; exact wpAny_pure h
  | f :: fs, Q, hf, h => by
    rw [List.mapM_cons]
    obtain ⟨i, hi⟩ := hf f (List.mem_cons_self ..)
    have rest : wpAny M A (fs.mapM typeOf >>= fun r => pure (tyV1 f :: r)) Q E s := wpAny_bind (types_of fs (fun g hg => hf g (List.mem_cons_of_mem _ hg)) (wpAny_pure h))
    cases f with
    | int a t => exact wpAny_bind (wpAny_pure rest)
    | bool a => exact wpAny_bind (wpAny_pure rest)
    | _ => cases hi
theorem rows_kind {M : Model} {E : Value → Shared → Prop} {vs fs : List Value} {f : Value} {Q : SortKind → Shared → Prop} (t : KatTups s.heap vs (f :: fs)) (hn : ∀ g ∈ f :: fs, ∃ i, numV g = some i)
    (h : Q (tuples' (((f :: fs).map tyV1).all (· == tyV1 f))) s) : wpAny M A (keyKind' vs.toArray) Q E s := by
  rw [kat_kind_eq, List.mapM_toArray, map_eq_pure_bind]
  refine wpAny_bind (wpAny_bind (kat_firsts vs _ t (wpAny_pure ?_)))
  have hall : (((f :: fs).map some).toArray.all fun x => x.isSome) = true := by simp
  rw [if_pos hall]
  refine wpAny_bind (wpAny_rule ?_)
  have hfm : (((f :: fs).map some).toArray.filterMap id) = (f :: fs).toArray := by simp
  rw [hfm, oneTypeOnly'_eq, List.mapM_toArray, map_eq_pure_bind]
  refine wpAny_bind (wpAny_bind (wpAny_bind (types_of _ hn (wpAny_pure ?_))))
  have h0 : (List.map tyV1 (f :: fs)).toArray[0]? = some (tyV1 f) := by simp
  rw [h0]
  have e : ((List.map tyV1 (f :: fs)).toArray.all fun x => x == tyV1 f) = ((f :: fs).map tyV1).all (· == tyV1 f) := by simp
  have hne : (tyV1 f != Value.type "tuple") = true := by
    obtain ⟨i, hi⟩ := hn f (List.mem_cons_self ..)
    cases f with
    | int a u => exact (by decide : (Value.type "int" != Value.type "tuple") = true)
    | bool a => exact (by decide : (Value.type "bool" != Value.type "tuple") = true)
    | _ => cases hi
  simp only [e]
  cases c : ((f :: fs).map tyV1).all (· == tyV1 f) with
  | true =>
    simp only [if_true]
    refine wpAny_pure ?_
    rw [c] at h
    refine wpAny_pure ?_
    show Q (tuples' (tyV1 f != Value.type "tuple")) s
    rw [hne]; exact h
  | false =>
    simp only [Bool.false_eq_true, if_false]
    refine wpAny_pure ?_
    rw [c] at h
    exact wpAny_pure h
theorem int_of {v : Value} (h : isIntV v = true) : ∃ a u, v = .int a u := by
  cases v with
  | int a u => exact ⟨a, u, rfl⟩
  | _ => cases h
theorem bl_of {v : Value} (h : isBlV v = true) : ∃ a, v = .bool a := by
  cases v with
  | bool a => exact ⟨a, rfl⟩
  | _ => cases h
theorem rows_lt {c : Value → Bool} {b : Bool} (hb : b = true → (∀ v, c v = true → isIntV v = true) ∨ ∀ v, c v = true → isBlV v = true) : PyProof.Rows.H.LtAt prog w A s (rowK c s.heap) (tuples' b) := by
  intro E x y a a' Q hx hy hq
  obtain ⟨p, o, xs, n, i, r, rfl, ho, hc, hd, hn, rfl, hk⟩ := rowV_some hx
  obtain ⟨p', o', xs', n', i', r', rfl, ho', hc', hd', hn', rfl, hk'⟩ := rowV_some hy
  have len : ∀ {us : List Value} {ns : List Int}, numsV us = some ns → us.length = ns.length := by
    intro us
    induction us with
    | nil => intro ns h; cases h; rfl
    | cons u us ih =>
      intro ns h
      simp only [numsV] at h
      split at h
      · split at h
        · rename_i q
          cases h
          simp [ih q]
        · cases h
      · cases h
  refine kat_lt ho hd ho' hd' (num_lex xs.toList xs'.toList (i :: r) (i' :: r') 0 hn hn' (fun e _ u v t t' e1 e2 => ?_) ?_ hq)
  · rw [e1] at hk
    rw [e2] at hk'
    rcases hb e with z | z
    · obtain ⟨a1, u1, f1⟩ := int_of (z _ hk)
      obtain ⟨a2, u2, f2⟩ := int_of (z _ hk')
      exact .inl ⟨a1, u1, a2, u2, f1, f2⟩
    · obtain ⟨a1, f1⟩ := bl_of (z _ hk)
      obtain ⟨a2, f2⟩ := bl_of (z _ hk')
      exact .inr ⟨a1, a2, f1, f2⟩
  · rw [← len hn, ← len hn']; simp
/-- a row in the heap -/
def RowAt (h : Heap) (v : Value) (ns : List Int) : Prop := ∃ a o xs n i r, v = .ref a ∧ h.get? a = some o ∧ o.cls = .type "tuple" ∧ o.data = .seq xs n ∧ numsV xs.toList = some (i :: r) ∧ ns = i :: r
theorem RowAt.key {c : Value → Bool} {h : Heap} {v f : Value} {vs fs : List Value} {ns : List Int} (r : RowAt h v ns) (t : KatTups h (v :: vs) (f :: fs)) (hc : c f = true) : rowV c h v = some ns := by
  obtain ⟨a, o, xs, n, i, r, rfl, ho, hk, hd, hn, rfl⟩ := r
  obtain ⟨⟨a', o', xs', n', e, ho', _, hd', hf⟩, _⟩ := t
  cases e
  rw [ho] at ho'
  cases ho'
  rw [hd] at hd'
  cases hd'
  have hf' : xs.toList.headD .none = f := by
    rw [← Array.getElem?_toList] at hf
    cases q : xs.toList with
    | nil => rw [q] at hf; cases hf
    | cons g l => rw [q] at hf; cases hf; rfl
  unfold rowV
  simp only [ho, hk, hd, hn, hf', hc, if_true]
theorem rows_firsts {h : Heap} : ∀ {vs : List Value}, (∀ v ∈ vs, ∃ ns, RowAt h v ns) → ∃ fs, KatTups h vs fs ∧ (∀ g ∈ fs, ∃ i, numV g = some i) ∧ vs.length = fs.length
  | [], _ => ⟨[], KatTups.nil, (fun _ h => by cases h), rfl⟩
  | v :: vs, hv => by
    obtain ⟨fs, t, n, l⟩ := rows_firsts fun u hu => hv u (List.mem_cons_of_mem _ hu)
    obtain ⟨ns, a, o, xs, k, i, r, rfl, ho, hk, hd, hn, rfl⟩ := hv v (List.mem_cons_self ..)
    cases q : xs.toList with
    | nil => rw [q] at hn; cases hn
    | cons f l' =>
      refine ⟨f :: fs, KatTups.cons ho hk hd (by rw [← Array.getElem?_toList, q]; rfl) t, fun g hg => ?_, by simp [l]⟩
      rcases List.mem_cons.mp hg with rfl | hg
      · rw [q] at hn
        simp only [numsV] at hn
        split at hn
        · rename_i j hj; exact ⟨j, hj⟩
        · cases hn
      · exact n g hg
theorem rows_keys {c : Value → Bool} {h : Heap} : ∀ {vs fs : List Value}, KatTups h vs fs → (∀ f ∈ fs, c f = true) → ∀ v ∈ vs, ∀ ns, RowAt h v ns → rowV c h v = some ns
  | [], [], _, _, v, hv, _, _ => nomatch hv
  | [], _ :: _, t, _, _, _, _, _ => t.elim
  | _ :: _, [], t, _, _, _, _, _ => t.elim
  | u :: vs, f :: fs, t, hc, v, hv, ns, r => by
    rcases List.mem_cons.mp hv with rfl | hv
    · exact r.key t (hc f (List.mem_cons_self ..))
    · exact rows_keys t.2 (fun g hg => hc g (List.mem_cons_of_mem _ hg)) v hv ns r
theorem rows_sorts {vs : List Value} (hv : ∀ v ∈ vs, ∃ ns, RowAt s.heap v ns) : ∃ c : Value → Bool, SortsAt prog w A s (rowK c s.heap) vs ∧ ∀ v ∈ vs, ∀ ns, RowAt s.heap v ns → rowV c s.heap v = some ns := by
  obtain ⟨fs, t, n, l⟩ := rows_firsts hv
  have go : ∀ (c : Value → Bool) (b : Bool), (∀ f ∈ fs, c f = true) → (b = true → (∀ v, c v = true → isIntV v = true) ∨ ∀ v, c v = true → isBlV v = true) → (∀ f r, fs = f :: r → ((f :: r).map tyV1).all (· == tyV1 f) = b) → ∃ c : Value → Bool, SortsAt prog w A s (rowK c s.heap) vs ∧ ∀ v ∈ vs, ∀ ns, RowAt s.heap v ns → rowV c s.heap v = some ns := by
    intro c b h1 h2 h3
    refine ⟨c, ⟨fun v hm => ?_, tuples' b, rows_lt h2, fun h2 E Q hq => ?_⟩, rows_keys t h1⟩
    · obtain ⟨ns, r⟩ := hv v hm
      exact ⟨ns, rows_keys t h1 v hm ns r⟩
    · cases fs with
      | nil => simp only [List.length_nil] at l; omega
      | cons f r =>
        refine rows_kind t n ?_
        rw [h3 f r rfl]
        exact hq
  by_cases a1 : fs.all isIntV = true
  · rw [List.all_eq_true] at a1
    refine go isIntV true a1 (fun _ => .inl fun v h => h) fun f r e => ?_
    subst e
    rw [List.all_map, List.all_eq_true]
    intro g hg
    obtain ⟨x, u, rfl⟩ := int_of (a1 f (List.mem_cons_self ..))
    obtain ⟨y, u', rfl⟩ := int_of (a1 g hg)
    rfl
  · by_cases a2 : fs.all isBlV = true
    · rw [List.all_eq_true] at a2
      refine go isBlV true a2 (fun _ => .inr fun v h => h) fun f r e => ?_
      subst e
      rw [List.all_map, List.all_eq_true]
      intro g hg
      obtain ⟨x, rfl⟩ := bl_of (a2 f (List.mem_cons_self ..))
      obtain ⟨y, rfl⟩ := bl_of (a2 g hg)
      rfl
    · refine go (fun _ => true) false (fun _ _ => rfl) (fun e => by cases e) fun f r e => ?_
      subst e
      cases q : ((f :: r).map tyV1).all (· == tyV1 f) with
      | false => rfl
      | true =>
        exfalso
        rw [List.all_map, List.all_eq_true] at q
        obtain ⟨i, hi⟩ := n f (List.mem_cons_self ..)
        cases f with
        | int x u =>
          refine a1 (List.all_eq_true.mpr fun g hg => ?_)
          have z := q g hg
          obtain ⟨j, hj⟩ := n g hg
          cases g with
          | int y u' => rfl
          | bool y => exact absurd z (show ¬ (Value.type "bool" == Value.type "int") = true by decide)
          | _ => cases hj
        | bool x =>
          refine a2 (List.all_eq_true.mpr fun g hg => ?_)
          have z := q g hg
          obtain ⟨j, hj⟩ := n g hg
          cases g with
          | int y u' => exact absurd z (show ¬ (Value.type "int" == Value.type "bool") = true by decide)
          | bool y => rfl
          | _ => cases hj
        | _ => cases hi
end
end Mx

set_option Elab.async false
set_option linter.all false
set_option maxRecDepth 100000
set_option maxHeartbeats 4000000
namespace Mx
open PySem PySem.Spec PyProof.Rows L2 PySem.W

/-! ### sorted as a rule -/
def numD : D → Option Int
  | .int i => some i
  | .bl b => some (if b = true then 1 else 0)
  | _ => none
def numsD : List D → Option (List Int)
  | [] => some []
  | v :: vs => match numD v with
    | some i => match numsD vs with
      | some r => some (i :: r)
      | none => none
    | none => none
/-- a row of numbers, one at least -/
def rowD : D → Option (List Int)
  | .tup xs => match numsD xs with
    | some (i :: r) => some (i :: r)
    | _ => none
  | _ => none
def keyD' (d : D) : List Int := (rowD d).getD []
def sortR (ds : List D) : List D := ds.mergeSort (sortLe (listOrd intO) false keyD')
section
variable {X : Cx} {pins : List (Addr × Obj)} {σ : L2.St} {H : Hp} {s : Shared}
theorem num_rel {d : D} {v : V} {u : Value} {i : Int} (r : Rep X.K X.mg H d v) (ru : RelV v u) (h : numD d = some i) : numV u = some i := by
  cases d with
  | int j => cases h; simp only [Rep] at r; subst r; obtain ⟨t, rfl⟩ := ru; rfl
  | bl b => cases h; simp only [Rep] at r; subst r; cases ru; rfl
  | _ => cases h
theorem nums_rel : ∀ {ds : List D} {vs : List V} {us : List Value} {ns : List Int}, Reps X.K X.mg H ds vs → Vals vs us → numsD ds = some ns → numsV us = some ns
  | [], vs, us, ns, r, ru, h => by simp only [Reps] at r; subst r; cases ru; cases h; rfl
  | d :: ds, vs, us, ns, r, ru, h => by
    simp only [Reps] at r
    obtain ⟨v, vs, rfl, r1, r2⟩ := r
    cases ru with
    | cons ra rb =>
      simp only [numsD] at h
      split at h
      · rename_i i hi
        split at h
        · rename_i l hl
          cases h
          simp only [numsV, num_rel r1 ra hi, nums_rel r2 rb hl]
        · cases h
      · cases h
theorem row_rel (I : Inv X pins σ H s) {d : D} {v : V} {u : Value} {ns : List Int} (r : Rep X.K X.mg H d v) (ru : RelV v u) (h : rowD d = some ns) : RowAt s.heap u ns := by
  cases d with
  | tup xs =>
    simp only [rowD] at h
    split at h
    · rename_i i l hn
      cases h
      simp only [Rep] at r
      obtain ⟨a, vs, rfl, q, rs⟩ := r
      cases ru
      obtain ⟨its, rv, ⟨o, ho, hc, n, hd⟩, _⟩ := I.tuple q
      exact ⟨a, o, its.toArray, n, i, l, rfl, ho, hc, hd, by simpa using nums_rel rs rv hn, rfl⟩
    · cases h
  | _ => cases h
/-- rows, all of them -/
def rowsOk (ds : List D) : Bool := ds.all fun d => (rowD d).isSome
def rSortR (K : PySem.W.Frag) (mg : Mg) : List V → Hp → VK → Prop := fun xs H Q => ∃ G x vs ds, xs = [.ref x] ∧ Same G H ∧ (SqL K H x vs ∨ SqT K H x vs) ∧ Reps K mg G ds vs ∧ rowsOk ds = true ∧ ∀ p zs, H p = none → Reps K mg G (sortR ds) zs → Q (.ref p) (upd H p (.lst zs))
theorem each_rel {G : Hp} : ∀ {ds : List D} {vs : List V} {us : List Value}, Reps X.K X.mg G ds vs → Vals vs us → EachIs (fun u d => ∃ v, Rep X.K X.mg G d v ∧ RelV v u) us ds
  | [], vs, us, r, ru => by simp only [Reps] at r; subst r; cases ru; exact .nil
  | d :: ds, vs, us, r, ru => by
    simp only [Reps] at r
    obtain ⟨v, vs, rfl, r1, r2⟩ := r
    cases ru with
    | cons ra rb => exact .cons ⟨v, r1, ra⟩ (each_rel r2 rb)
theorem each_back {G : Hp} : ∀ {ds : List D} {us : List Value}, EachIs (fun u d => ∃ v, Rep X.K X.mg G d v ∧ RelV v u) us ds → ∃ vs, Reps X.K X.mg G ds vs ∧ Vals vs us
  | _, _, .nil => ⟨[], Reps.nil, .nil⟩
  | _, _, .cons ⟨v, r, ru⟩ t => by
    obtain ⟨vs, h1, h2⟩ := each_back t
    exact ⟨v :: vs, Reps.cons r h1, .cons ru h2⟩
theorem cr_sortR : CallR X (.builtin "sorted") (rSortR X.K X.mg) := by
  intro pins s σ H xs us Q I r h
  obtain ⟨G, x, vs, ds, rfl, sm, hq, rs, ok, q⟩ := h
  obtain ⟨u, rfl, ru⟩ := vals1 r
  cases ru
  have rowOf : ∀ d ∈ ds, ∃ ns, rowD d = some ns := fun d hd => by
    have := List.all_eq_true.mp ok d hd
    exact Option.isSome_iff_exists.mp this
  have main : ∀ (its : List Value), Vals vs its → vs.length ≤ sizeLine → ∃ κ : PyProof.Rows.KeyKind, SortsAt X.prog X.w X.A.in1.in1 { s with heap := sortingHeap (copyHeap s.heap its) (s.heap.objs.size + 1) its } κ its ∧ EP X pins σ Q (.ref (s.heap.objs.size + 1)) { s with heap := sortedAll s.heap its (sortVals κ false its its).toArray } := by
    intro its rv hz
    have er := each_rel rs rv
    have rowA : ∀ u ∈ its, ∃ ns, RowAt (sortingHeap (copyHeap s.heap its) (s.heap.objs.size + 1) its) u ns := fun u hu => by
      obtain ⟨d, hd, v, r1, r2⟩ := er.left u hu
      obtain ⟨ns, hn⟩ := rowOf d hd
      obtain ⟨a, o, xs, n, i, l, e, ho, hc, hdd, hn, e2⟩ := row_rel I (r1.mono sm) r2 hn
      exact ⟨ns, a, o, xs, n, i, l, e, sorting_copy_old ho, hc, hdd, hn, e2⟩
    obtain ⟨c, S, hk⟩ := rows_sorts (prog := X.prog) (w := X.w) (A := X.A.in1.in1) (s := { s with heap := sortingHeap (copyHeap s.heap its) (s.heap.objs.size + 1) its }) rowA
    refine ⟨_, S, ?_⟩
    have ek : EachIs (fun u d => (rowK c (sortingHeap (copyHeap s.heap its) (s.heap.objs.size + 1) its)).keyOf u = some (keyD' d)) its ds := by
      have go : ∀ {us : List Value} {es : List D}, EachIs (fun u d => ∃ v, Rep X.K X.mg G d v ∧ RelV v u) us es → (∀ u ∈ us, u ∈ its) → (∀ d ∈ es, d ∈ ds) → EachIs (fun u d => (rowK c (sortingHeap (copyHeap s.heap its) (s.heap.objs.size + 1) its)).keyOf u = some (keyD' d)) us es := by
        intro us es h
        induction h with
        | nil => intro _ _; exact .nil
        | @cons u d us es hh t ih =>
          intro h1 h2
          refine .cons ?_ (ih (fun y hy => h1 y (List.mem_cons_of_mem _ hy)) fun y hy => h2 y (List.mem_cons_of_mem _ hy))
          obtain ⟨v, r1, r2⟩ := hh
          obtain ⟨ns, hn⟩ := rowOf d (h2 d (List.mem_cons_self ..))
          obtain ⟨a, o, xs, n, i, l, e, ho, hc, hdd, hn', e2⟩ := row_rel I (r1.mono sm) r2 hn
          have := hk u (h1 u (List.mem_cons_self ..)) ns ⟨a, o, xs, n, i, l, e, sorting_copy_old ho, hc, hdd, hn', e2⟩
          show rowV c _ u = some (keyD' d)
          rw [this]
          simp only [keyD', hn, Option.getD_some]
      exact go er (fun _ h => h) fun _ h => h
    have out := sortVals_each (κ := rowK c (sortingHeap (copyHeap s.heap its) (s.heap.objs.size + 1) its)) (rev := false) (ks := its) (vs := its) keyD' er ek
    obtain ⟨zs, h1, h2⟩ := each_back out
    obtain ⟨n, hat⟩ := sortedAll_at s.heap its (sortVals (rowK c (sortingHeap (copyHeap s.heap its) (s.heap.objs.size + 1) its)) false its its).toArray
    have hn : H (s.heap.objs.size + 1) = none := I.hok.fresh (Nat.le_succ _)
    have hlen : zs.length ≤ sizeLine := by
      rw [h2.length, sortVals_length false rfl, ← rv.length]; exact hz
    exact ⟨.ref (s.heap.objs.size + 1), _, I.laid (t' := s.toks) (a := s.heap.objs.size + 1) (o := .lst zs) (fun b o e => sortedAll_old e) (Nat.le_succ _) ⟨hlen, _, n, h2, hat⟩, rfl, q _ zs hn h1⟩
  rcases hq with hq | hq
  · obtain ⟨its, rv, pl, hz⟩ := I.list hq
    obtain ⟨κ, S, fin⟩ := main its rv (by first | exact hz | (rw [rv.length]; exact hz))
    exact sorted_vals pl.isList S (by first | exact hz | (rw [← rv.length]; exact hz)) fin
  · obtain ⟨its, rv, ⟨o, ho, hc, n, hd⟩, hz⟩ := I.tuple hq
    obtain ⟨κ, S, fin⟩ := main its rv (by first | exact hz | (rw [rv.length]; exact hz))
    exact sorted_tup ho hc hd S (by first | exact hz | (rw [← rv.length]; exact hz)) fin
def dSortR (d : D) : Option Rv := match itemsOf d with
  | some ds => if rowsOk ds = true then some (.fr (.lst (sortR ds))) else none
  | none => none
theorem bld_sortR {K : PySem.W.Frag} {mg : Mg} : BlD K mg (rSortR K mg) (op1 dSortR) := bld1 fun G H x d res s hx h Q k => by
  unfold dSortR at h
  split at h
  · rename_i ds q
    split at h
    · rename_i c
      cases h
      obtain ⟨a, vs, rfl, q, r⟩ := rdb_seq s hx q
      exact ⟨G, a, vs, ds, rfl, s, q, r, c, fun p zs hp rz => k G _ _ (New.obj s hp) (own_lst s hp rz)⟩
    · cases h
  · cases h
theorem me_sorted {E : XK} {e : Expr} {f : Mm} {p pos : Pos} (hm : X.mg "sorted" = none) (ha : ME X E e f) (hg : Gl X "sorted" := by rfl) (h1 : starEach [e] X.env = (false, eval e X.env) :: starEach [] X.env := by rfl) (h2 : (backTo pos (starEach [] X.env)).any (·.1) = false := by rfl) :
    ME X E (.Call (.Name "sorted" p) [e] [] pos) (mBl (op1 dSortR) [f]) := me_blt cr_sortR bld_sortR hm (ma_cons ha ma_nil h1) PyProof.Rows.boot_sorted hg (by decide) (by decide) h1 h2
end
end Mx

set_option Elab.async false
set_option linter.all false
set_option maxRecDepth 100000
set_option maxHeartbeats 4000000
namespace Mx
open PySem PySem.Spec PyProof.Rows L2

/-! ### what the written top says, with more of the classes -/
abbrev AlX : Type := He.AlD × Bool
def obsX (fa : List He.Fa) (fn : List He.DefD) (xb : PySem.W.Frag → Bool) (K : PySem.W.Frag) : AlX := (He.obsD fa fn K, xb K)
def valX (fn : List He.DefD) : AlX := (He.valD fn, true)
def SaysX (fa : List He.Fa) (fn : List He.DefD) (xb : PySem.W.Frag → Bool) (K : PySem.W.Frag) : Prop := obsX fa fn xb K = valX fn
/-- what is looked at: the top's names, the interpreter's own flags, and what they name -/
def asX (g : Addr → Option Obj) : Nat → List Addr
  | 0 => [mainGlobals, cStatics]
  | n + 1 => He.growD g (asX g n)
def obsXG (n : Nat) (fa : List He.Fa) (fn : List He.DefD) (xb : PySem.W.Frag → Bool) (g : Addr → Option Obj) : AlX := obsX fa fn xb (He.frG g (asX g n))
def hookX (n : Nat) (fa : List He.Fa) (fn : List He.DefD) (xb : PySem.W.Frag → Bool) : PySem.W.Hook where
  α := AlX
  obs := fun t => obsXG n fa fn xb t.heap.get?
  val := fun _ => valX fn
  says := fun _ g => ∃ K : PySem.W.Frag, K.In g ∧ SaysX fa fn xb K
  of := fun _ _ z => ⟨_, He.frG_in, z⟩
  keeps := fun _ _ _ ⟨K, kin, c⟩ kk => ⟨K, PySem.W.Frag.In.keeps kin kk, c⟩
theorem obsX_at {n : Nat} {fa : List He.Fa} {fn : List He.DefD} {xb : PySem.W.Frag → Bool} {g : Addr → Option Obj} {t : Shared} (h : ∀ a, g a = t.heap.get? a) : obsXG n fa fn xb g = (hookX n fa fn xb).obs t := by
  have z : g = t.heap.get? := funext h
  subst z
  rfl
theorem SaysX.base {fa : List He.Fa} {fn : List He.DefD} {xb : PySem.W.Frag → Bool} {K : PySem.W.Frag} (c : SaysX fa fn xb K) : He.SaysD fa fn K := congrArg (fun z : AlX => z.1) c
theorem SaysX.more {fa : List He.Fa} {fn : List He.DefD} {xb : PySem.W.Frag → Bool} {K : PySem.W.Frag} (c : SaysX fa fn xb K) : xb K = true := congrArg (fun z : AlX => z.2) c

/-! ### defs without defaults -/
theorem fun_of {K : PySem.W.Frag} {x qual : Str} {st : Stmt} {f : Addr} {fd : FuncData} (F : FunD K x qual (defArgs st) (defBody st) (defScope st) [] [] f fd) : Fun K x qual st f fd := by
  obtain ⟨oc, od, dV, kV, doc, pm, an, cdv, ct, osl, rfl, lk, hcd, hD, hK⟩ := F.ex
  rcases hD with ⟨_, rfl⟩ | ⟨z, _⟩
  · exact ⟨⟨oc, od, kV, doc, pm, an, cdv, ct, osl, rfl, lk, hcd⟩, F.kp⟩
  · exact absurd rfl z
/-- a def of the top -/
def dOf (x : Str) (st : Stmt) : He.DefD := ⟨(x, none), x, x, defArgs st, defBody st, defScope st, [], []⟩
def dIn (c : Str) (q : Str) (st : Stmt) : He.DefD := ⟨(c, some "__init__"), "__init__", q, defArgs st, defBody st, defScope st, [], []⟩
section
variable {P : Program} {w : World} {K : PySem.W.Frag} {mg : Mg} {base : Heap} {x : Str} {st : Stmt} {f : Addr} {fd : FuncData} {N ps : List Str} {k : Nat} {body : Ms}
/-- a def, by its body: what its callers need -/
theorem kn_mk (hf : mg x = some (.ref f)) (F : FunD K x x (defArgs st) (defBody st) (defScope st) [] [] f fd) (Sc : FnScope N ps (defScope st))
    (bd : ∀ (kV doc pm : Value) (an : Option Addr) (cdv ct : Value) (us : List Value), us.length = ps.length → bindArgs (PySem.W.fnOf x x (defArgs st) (defBody st) (defScope st) .none kV doc pm an cdv ct) ⟨us, []⟩ = pure (ps.zip us))
    (hb : ∀ (cdv : Value) (A : Around) (outer : List Env) (s : Shared) (H : Hp) (E : XK), A.guards = some [] → Room k (A.deeper (envOfC x (defScope st) s.heap.objs.size f cdv)) →
      MSs (cxOf (L2.CX P w) P w K mg base N x (defScope st) f cdv A outer s H E) E (defBody st) body) : Kn P w K mg base x ps (k + 1) (mFn ps.length N.length body) :=
  ⟨f, fd, hf, F.kp, F.bindsN bd, fn_ok (fun_of F) Sc hb⟩
/-- .. by keywords -/
theorem knK_mk {ks : List Str} {π : List Nat} (hf : mg x = some (.ref f)) (F : FunD K x x (defArgs st) (defBody st) (defScope st) [] [] f fd) (Sc : FnScope N ps (defScope st))
    (bd : ∀ (kV doc pm : Value) (an : Option Addr) (cdv ct : Value) (us ws : List Value), ws.length = ks.length → permL ws π = some us → bindArgs (PySem.W.fnOf x x (defArgs st) (defBody st) (defScope st) .none kV doc pm an cdv ct) ⟨[], ks.zip ws⟩ = pure (ps.zip us))
    (hb : ∀ (cdv : Value) (A : Around) (outer : List Env) (s : Shared) (H : Hp) (E : XK), A.guards = some [] → Room k (A.deeper (envOfC x (defScope st) s.heap.objs.size f cdv)) →
      MSs (cxOf (L2.CX P w) P w K mg base N x (defScope st) f cdv A outer s H E) E (defBody st) body) : KnK P w K mg base x ps ks π (k + 1) (mFn ps.length N.length body) := by
  refine ⟨f, fd, hf, F.kp, ?_, fn_ok (fun_of F) Sc hb⟩
  obtain ⟨oc, od, kV, doc, pm, an, cdv, ct, osl, rfl, _⟩ := (fun_of F).ex
  exact fun us ws h1 h2 => bd kV doc pm an cdv ct us ws h1 h2
end

/-! ### the law's end -/
theorem lawG {P : Program} {w : World} {K : PySem.W.Frag} {mg mb : Mg} {k : Nat} {fa a : Addr} {fd : FuncData} {x : Str} {sp : Sp} {t : Shared} {us : List Value} {ns : List Int}
    (kin : K.In t.heap) (nsG : t.heap.Ns mainGlobals mg) (nsB : t.heap.Ns builtinsNs mb) (boot : ∀ x : Str, x ≠ "__name__" → mb x = bootBuiltins x) (lim : t.heap.NoLimit) (gs : t.gens = #[])
    (at_ : t.heap.get? a = some { cls := .type "list", data := .seq us.toArray }) (allI : IntsAre us ns) (few : ns.length ≤ sizeLine) (room : Room k callerA)
    (F : ∀ base : Heap, K.In base → base.Ns mainGlobals mg → FnG P w K mg base (L2.CX P w) k fa fd [x] sp) (bind : ∀ (t : Shared) (u : Value), BindsTo t fd ⟨[u], []⟩ [(x, u)])
    (prom : ∀ H : Hp, Only H → SqL K H a (ns.map V.int) → sp [.ref a] H (fun v _ => v = .bl true) fun _ _ _ => False)
    (noX : ∀ H e t', L2.CX P w [] H t (fun _ _ _ => False) e t' → False) :
    codeAny (model P w) callerA (.call (.ref fa) ⟨[.ref a], []⟩) (fun r t' => r = .ok (.ret (.bool true)) ∧ OldK t.heap t'.heap ∧ t'.os = t.os ∧ AllBare t'.gens) t := by
  have vals := vals_ints allI
  have len := allI.length
  have run : ∀ H : Hp, Only H → SqL K H a (ns.map V.int) → HOk P w H t.heap → (∀ b, H b ≠ none → b = a) → (H a ≠ none → K.lookup a = none) →
      codeAny (model P w) callerA (.call (.ref fa) ⟨[.ref a], []⟩) (fun r t' => r = .ok (.ret (.bool true)) ∧ OldK t.heap t'.heap ∧ t'.os = t.os ∧ AllBare t'.gens) t := by
    intro H only sq ok one noK
    have down : ∀ {b : Addr} {o : Obj}, t.heap.get? b = some o → H b = none → (hidT t.heap H).get? b = some o := fun y z => hidT_get y z
    have dictFree : ∀ {b : Addr} {o : Obj} {es : Array DictEntry} {ep : Nat}, t.heap.get? b = some o → o.data = .dict es ep → H b = none := fun {b o es ep} y d => by
      cases z : H b with
      | none => rfl
      | some u =>
        have y' : b = a := one b (by rw [z]; simp)
        rw [y', at_] at y
        cases y
        have d' : Data.seq us.toArray _ = Data.dict es ep := d
        cases d'
    have nsDown : ∀ {b : Addr} {m : Mg}, t.heap.Ns b m → (hidT t.heap H).Ns b m := fun {b m} ⟨o, es, ep, y, d, r⟩ => ⟨o, es, ep, down y (dictFree y d), d, r⟩
    have kinD : K.In (hidT t.heap H) := fun b o y => down (kin b o y) (by
      cases z : H b with
      | none => rfl
      | some u =>
        have y' : b = a := one b (by rw [z]; simp)
        rw [y', noK (by rw [← y', z]; simp)] at y
        cases y)
    have md : Mod K mg (hidT t.heap H) := ⟨kinD, nsDown nsG, ⟨mb, nsDown nsB, boot⟩, let ⟨mc, h1, h2⟩ := lim; ⟨mc, nsDown h1, h2⟩⟩
    have env : Env0 P w K mg (hidT t.heap H) callerA [] t H := ⟨rfl, md, fun b o y => of_hidT y, Nat.le_of_eq (hidT_size _ _), trivial, fun b z => absurd (show b ∈ ([] : List Addr) from z) (by simp), ok, .of_eq gs⟩
    refine codeAny_mono ((F _ kinD (nsDown nsG)).go callerA [] t H ⟨[.ref a], []⟩ [.ref a] [.ref a] _ _ rfl room env (bind t (.ref a)) (.cons rfl .nil) (prom H only sq)) fun r t' h => ?_
    cases r with
    | error er => exact (noX H er t' h).elim
    | ok fl =>
      cases fl with
      | next => exact False.elim h
      | brk => exact False.elim h
      | cont => exact False.elim h
      | ret u =>
        obtain ⟨v, H', os, bare, un, ok', rel, q⟩ := h
        have q' : v = .bl true := q
        subst q'
        obtain rfl : u = Value.bool true := rel
        refine ⟨rfl, OldK.of_keep fun b o y => ?_, os, bare⟩
        cases z : H b with
        | none => exact un.keep b o y z (by intro m; exact absurd (show b ∈ ([] : List Addr) from m) (by simp)) (by simp)
        | some hob =>
          rcases only b with n | ⟨ob, xs, n⟩
          · rw [z] at n; cases n
          · have n2 := un.frzs b ob _ n
            obtain ⟨y1, _⟩ := ok b _ n
            obtain ⟨y2, _⟩ := ok' b _ n2
            rw [y] at y1
            cases y1
            exact y2
  cases known : K.lookup a with
  | some o =>
    have y := kin a o known
    rw [at_] at y
    cases y
    refine run (fun _ => none) (fun _ => .inl rfl) (.inr ⟨_, us.toArray, _, known, rfl, rfl, rfl, ?_, ?_⟩) (fun b u z => by cases (show (none : Option HO) = some u from z)) (fun b z => absurd rfl z) fun z => absurd rfl z
    · rw [List.size_toArray, len]; exact few
    · simpa using vals
  | none =>
    have here : ∀ {b : Addr}, b = a → (fun b : Addr => if b = a then some (HO.frz { cls := .type "list", data := .seq us.toArray } (.lst (ns.map V.int))) else none) b = some (.frz { cls := .type "list", data := .seq us.toArray } (.lst (ns.map V.int))) := fun y => if_pos y
    have gone : ∀ {b : Addr}, b ≠ a → (fun b : Addr => if b = a then some (HO.frz { cls := .type "list", data := .seq us.toArray } (.lst (ns.map V.int))) else none) b = none := fun y => if_neg y
    refine run (fun b : Addr => if b = a then some (HO.frz { cls := .type "list", data := .seq us.toArray } (.lst (ns.map V.int))) else none) (fun b => ?_) (.inl (.inr ⟨_, here rfl⟩)) (fun b u z => ?_) (fun b z => ?_) fun _ => known
    · by_cases y : b = a
      · exact .inr ⟨_, _, here y⟩
      · exact .inl (gone y)
    · by_cases y : b = a
      · have z2 := (here y).symm.trans z
        cases z2
        subst y
        exact ⟨at_, by rw [List.length_map]; exact few, us, _, vals, at_⟩
      · have z2 := (gone y).symm.trans z
        cases z2
    · by_cases y : b = a
      · exact y
      · exact absurd (gone y) z
/-- the head's last goal -/
theorem walk_ofG {l : PySem.W.OpenLaw} {n k : Nat} {q : Program} {loose : List Str} {XP : Mg → Heap → Prop} {YP : World → Heap → Prop} {d : DefRec} {x : Str} (hn : l.most = some n) (hz : n ≤ sizeLine) (hdf : d.params.defaults = []) (room : Room k callerA)
    (F : ∀ (w : World) (mg : Mg) (fa : Addr) (g : Heap), YP w g → g.Ns mainGlobals mg → mg d.name = some (.ref fa) → ∃ (K : PySem.W.Frag) (fd : FuncData) (sp : Sp), K.In g ∧ (∀ (t : Shared) (u : Value), BindsTo t fd ⟨[u], []⟩ [(x, u)]) ∧
      (∀ (H : Hp) (a : Addr) (ns : List Int), ns.length ≤ n → Only H → SqL K H a (ns.map V.int) → sp [.ref a] H (fun v _ => v = .bl true) fun _ _ _ => False) ∧ ∀ base : Heap, K.In base → base.Ns mainGlobals mg → FnG l.prog w K mg base (L2.CX l.prog w) k fa fd [x] sp)
    (noX : ∀ (P : Program) (w : World) (H : Hp) (t : Shared) (e : Value) (t' : Shared), L2.CX P w [] H t (fun _ _ _ => False) e t' → False) : PySem.W.WalkO q loose XP YP l.row.toRowW d [] (fun f vs => PySem.call f vs) := by
  refine Att.attach_call hn hdf fun w s₀ s₁ mg mb fa o pm cd doc a us ns G Y ho hd hcd hmg hobj allI short hg => ?_
  obtain ⟨K, fd, sp, kin, bind, prom, hF⟩ := F w mg fa _ Y G.T.g hmg
  exact lawG kin G.T.g G.T.b G.T.builtins G.T.nolimit hg hobj allI (Nat.le_trans short hz) room hF bind (fun H only sq => prom H a ns short only sq) fun H e t' => noX _ _ H s₁ e t'
/-- a law that answers True, as a mirror -/
theorem prom_of {K : PySem.W.Frag} {mg : Mg} {F : Fn} {a : Addr} {ns : List Int} {H : Hp} (hS : SqL K H a (ns.map V.int)) (h : F [.sh (.rol (ns.map D.int))] = .ret (.sh (.bl true)) [.un]) : spF K mg F [.ref a] H (fun v _ => v = .bl true) fun _ _ _ => False := by
  refine ⟨H, fun _ => False, [.sh (.rol (ns.map D.int))], fun _ _ h => h, ⟨rfl, fun p c hp => ?_, fun p q d e v h1 => ?_, fun a z => z.elim⟩, ?_⟩
  · match p, hp with
    | 0, hp =>
      cases hp
      refine ⟨_, rfl, ?_⟩
      simp only [Rep]
      exact ⟨a, _, rfl, hS, Reps.ints ns⟩
  · match p, h1 with
    | 0, h1 => cases h1
  · rw [h]
    intro G' H' L' v _ _ _ _ r
    simpa only [ResRep, Rep] using r
end Mx

set_option Elab.async false
set_option linter.all false
set_option maxRecDepth 100000
set_option maxHeartbeats 4000000
namespace Mx
open PySem PySem.Spec PyProof.Rows L2

/-! ### what is looked at of an error's class -/
def clsB (K : PySem.W.Frag) (C : Addr) : Bool := match K.lookup C with
  | some ⟨.type "type", _, .cls cd, sl⟩ => (match cd.mro, sl.toList with
    | .ref C' :: bm, [_, _, _, _, some (.builtin n), _] => decide (C' = C) && (decide (n = "ValueError.__new__") && (!cd.hasDel && (PySem.HandSPX.refsVE bm && cd.hasDict)))
    | _, _ => false)
  | _ => false
theorem clsB_ok {K : PySem.W.Frag} {C : Addr} (h : clsB K C = true) : ∃ nm q N bs bm sn sub ab col dd k0 k1 k2 k3 k5, K.lookup C = some (excClassObj nm q C N bs bm true sn sub ab col dd k0 k1 k2 k3 k5 "ValueError.__new__") ∧ PySem.HandSPX.refsVE bm = true := by
  unfold clsB at h
  split at h
  · rename_i dd cd sl lk
    split at h
    · rename_i C' bm a0 a1 a2 a3 n a5 e1 e2
      obtain ⟨h1, h⟩ := He.ba h
      obtain ⟨h2, h⟩ := He.ba h
      obtain ⟨h3, h⟩ := He.ba h
      obtain ⟨h4, h5⟩ := He.ba h
      have h1 := of_decide_eq_true h1
      have h2 := of_decide_eq_true h2
      obtain ⟨nm, bs, mro, ns, qn, hd, sn, sub, ab, col, del⟩ := cd
      simp only [Bool.not_eq_true'] at h3
      dsimp only at e1 h3 h5
      subst e1 h3 h5 h1 h2
      have e3 : sl = #[a0, a1, a2, a3, some (.builtin "ValueError.__new__"), a5] := by
        obtain ⟨l⟩ := sl
        simp only at e2
        rw [e2]
      subst e3
      exact ⟨nm, qn, ns, bs, bm, sn, sub, ab, col, dd, a0, a1, a2, a3, a5, lk, h4⟩
    · cases h
  · cases h
def tyNames : List String := ["int", "bool", "str", "list", "tuple", "dict"]
/-- the class x, its __init__, no attribute fld of its own -/
def excB (x fld : Str) (K : PySem.W.Frag) : Bool :=
  clsB K (He.ga K x) && (decide (PySem.W.findIn K (.ref (He.ga K x)) "__setattr__" = some (some (.builtin "object.__setattr__"))) && (decide (PySem.W.subIn K (.ref (He.ga K x)) (.type "BaseException") = some true) && (decide (PySem.W.typeIn K (.ref (He.ga K x)) = some (.type "type")) &&
  (PySem.W.keepIn K (.ref (He.ga K x)) && ((PySem.W.clsIn K (He.ga K x)).isSome && (decide (PySem.W.findIn K (.ref (He.ga K x)) "__getattribute__" = some (some (.builtin "BaseException.__getattribute__"))) && (decide (PySem.W.findIn K (.ref (He.ga K x)) "__getattr__" = some none) &&
  (decide (PySem.W.findIn K (.ref (He.ga K x)) "__class__" = some (some (.builtin "object.__class__"))) && (decide (PySem.W.specialIn K (.builtin "object.__class__") "__get__" = some (some (.builtin "getset_descriptor.__get__"))) && (decide (PySem.W.takesIn K (.builtin "object.__class__") = some true) &&
  (decide (PySem.W.mroIn K (He.ga K x) (.type "object") = some true) && (PySem.W.hasDictIn K (He.ga K x) && ((tyNames.all fun T => decide (PySem.W.kitOne K (.ref (He.ga K x)) (.type T) = some false)) && (decide (PySem.W.findIn K (.ref (He.ga K x)) fld = some none) &&
  (decide (PySem.W.findIn K (.ref (He.ga K x)) "__init__" = some (some (.ref (He.ma K (He.ga K x) "__init__")))) && decide (PySem.W.typeIn K (.ref (He.ma K (He.ga K x) "__init__")) = some (.type "function")))))))))))))))))
theorem excB_ok {x fld : Str} {K : PySem.W.Frag} (h : excB x fld K = true) : OexC K (He.ga K x) ∧ XcK K (He.ga K x) ∧ PySem.W.findIn K (.ref (He.ga K x)) fld = some none ∧ PySem.W.findIn K (.ref (He.ga K x)) "__init__" = some (some (.ref (He.ma K (He.ga K x) "__init__"))) ∧ PySem.W.typeIn K (.ref (He.ma K (He.ga K x) "__init__")) = some (.type "function") := by
  unfold excB at h
  obtain ⟨a1, h⟩ := He.ba h
  obtain ⟨a2, h⟩ := He.ba h
  obtain ⟨a3, h⟩ := He.ba h
  obtain ⟨a4, h⟩ := He.ba h
  obtain ⟨a5, h⟩ := He.ba h
  obtain ⟨a6, h⟩ := He.ba h
  obtain ⟨a7, h⟩ := He.ba h
  obtain ⟨a8, h⟩ := He.ba h
  obtain ⟨a9, h⟩ := He.ba h
  obtain ⟨a10, h⟩ := He.ba h
  obtain ⟨a11, h⟩ := He.ba h
  obtain ⟨a12, h⟩ := He.ba h
  obtain ⟨a13, h⟩ := He.ba h
  obtain ⟨a14, h⟩ := He.ba h
  obtain ⟨a15, h⟩ := He.ba h
  obtain ⟨a16, a17⟩ := He.ba h
  have z2 := of_decide_eq_true a2
  have z3 := of_decide_eq_true a3
  have z4 := of_decide_eq_true a4
  have z7 := of_decide_eq_true a7
  have z8 := of_decide_eq_true a8
  have z9 := of_decide_eq_true a9
  have z10 := of_decide_eq_true a10
  have z11 := of_decide_eq_true a11
  have z12 := of_decide_eq_true a12
  exact ⟨⟨clsB_ok a1, z2, z3, z4, a5⟩, ⟨a6, z7, z8, z3, z9, z10, z11, z12, a13, fun T hT => of_decide_eq_true (List.all_eq_true.mp a14 T hT)⟩, of_decide_eq_true a15, of_decide_eq_true a16, of_decide_eq_true a17⟩
/-- the class R, whose __init__ is ValueError's -/
def baB (R : Str) (K : PySem.W.Frag) : Bool := decide (PySem.W.nsIn K mainGlobals R = some (some (.ref (He.ga K R)))) && (decide (PySem.W.specialIn K (.ref (He.ga K R)) "__getattribute__" = some (some (.builtin "type.__getattribute__"))) && (match PySem.W.typeIn K (.ref (He.ga K R)) with
  | some mc => PySem.W.readsIn K (He.ga K R) mc && (match PySem.W.findCls K (.ref (He.ga K R)) mc "__init__" with
    | some (.val v) => decide (v = .builtin "ValueError.__init__")
    | _ => false)
  | none => false))
theorem baB_ok {R : Str} {K : PySem.W.Frag} {g : Heap} {mg : Mg} (kin : K.In g) (G : g.Ns mainGlobals mg) (h : baB R K = true) : BaC K mg R := by
  unfold baB at h
  obtain ⟨h0, h⟩ := He.ba h
  obtain ⟨h1, h⟩ := He.ba h
  cases e : PySem.W.typeIn K (.ref (He.ga K R)) with
  | none => rw [e] at h; cases h
  | some mc =>
    rw [e] at h
    obtain ⟨h2, h⟩ := He.ba h
    cases e2 : PySem.W.findCls K (.ref (He.ga K R)) mc "__init__" with
    | none => rw [e2] at h; cases h
    | some r =>
      rw [e2] at h
      cases r with
      | val v =>
        have h := of_decide_eq_true h
        subst h
        exact ⟨_, mc, PySem.W.mg_of kin G (of_decide_eq_true h0), of_decide_eq_true h1, e, h2, e2⟩
      | _ => cases h
end Mx

set_option Elab.async false
set_option linter.all false
set_option maxRecDepth 100000
set_option maxHeartbeats 4000000
namespace Mx
open PySem PySem.Spec PyProof.Rows L2

/-! ### a, b, .. = x, y, .. by a tuple that nothing holds -/
def namesG : List Nat → TGs
  | [] => gNil
  | i :: is => gCons (gName i) (namesG is)
theorem namesG_of : ∀ {is : List Nat} {vs : List V} {σ : L2.St} {H : Hp} {Q : L2.St → Hp → Prop}, vs.length = is.length → Q (setsL σ is vs) H → namesG is vs σ H Q
  | [], [], σ, H, Q, _, q => ⟨rfl, q⟩
  | i :: is, v :: vs, σ, H, Q, hl, q => ⟨v, vs, rfl, namesG_of (by simpa using hl) q⟩
section
variable {K : PySem.W.Frag} {mg : Mg} {E : XK} {H0 Gb Hb G H G1 H1 G' H' : Hp} {Lb L L1 L' : Addr → Prop} {pv : List V} {σ σ' : List (Option V)} {s s1 s2 : S} {Q : VK}
theorem den_parT {is : List Nat} {fs : List Mm} {D0 : Ends} (h : denS K mg E (mPar is fs) D0 σ H) : denA K mg E fs σ H fun vs H1 => vs.length = fs.length ∧ ∀ p o, H1 p = none → D0.nx (setsL σ is vs) (upd H1 p o) := by
  obtain ⟨H0, G, L, pv, s, R, h⟩ := h
  have q0 : ∀ {rs : List Rv} {s' : S}, mArgs fs s = .ok rs s' → rs.length = fs.length := by
    have go : ∀ (fs : List Mm) (s : S) {rs : List Rv} {s' : S}, mArgs fs s = .ok rs s' → rs.length = fs.length := by
      intro fs
      induction fs with
      | nil => intro s rs s' h; simp only [mArgs, ResL.ok.injEq] at h; obtain ⟨rfl, _⟩ := h; rfl
      | cons f fs ih =>
        intro s rs s' h
        simp only [mArgs] at h
        split at h
        · split at h
          · rename_i r s1 q1 rs' s2 q2
            simp only [ResL.ok.injEq] at h
            rw [← h.1, List.length_cons, List.length_cons, ih _ q2]
          · cases h
          · cases h
        · cases h
        · cases h
    intro rs s' h
    exact go fs s h
  refine ⟨H0, G, L, pv, s, R, ?_⟩
  unfold mPar at h
  cases e : mArgs fs s with
  | ok rs s' =>
    rw [e] at h
    intro G' H' L' vs R' e' w
    have h : GoS K mg E H0 G H L pv D0 (match fixL s' rs with | some (l, s2) => (match putL s2 is l with | some s3 => .nx s3 | none => .no) | none => .no) := h
    refine ⟨by rw [← w.len]; exact q0 e, fun p o hp => ?_⟩
    cases q : fixL s' rs with
    | none => rw [q] at h; exact h.elim
    | some pr =>
      obtain ⟨l, s2⟩ := pr
      rw [q] at h
      simp only at h
      obtain ⟨G2, R2, e2, w2, _, _⟩ := fixL_ok R' e' w q
      cases q2 : putL s2 is l with
      | none => rw [q2] at h; exact h.elim
      | some s3 =>
        rw [q2] at h
        obtain ⟨L3, R3, e3⟩ := putL_ok R2 e2 w2 q2
        have n := New.obj (o := o) R3.same hp
        exact h G2 _ L3 _ (R3.new n) (e3.trans n.ext)
  | ex c fs s' => rw [e] at h; exact h
  | no => rw [e] at h; exact h
end
section
variable {X : Cx} {E : XK} {es tgs : List Expr} {fs : List Mm} {is : List Nat} {pos pt pt2 : Pos} {kt k2 : Nat}
abbrev MNs (X : Cx) (tgs : List Expr) (is : List Nat) : Prop := PGs X tgs (namesG is)
theorem mns_nil : MNs X [] [] := pgs_nil
theorem mns_cons {i : Nat} {x : Str} {p : Pos} (hN : X.N.Nodup) (h2 : MNs X tgs is) (hi : X.N[i]? = some x := by rfl) (hx : Loc X.env.scope x := by first | exact Or.inl rfl | exact Or.inr rfl) (hf : X.fn x = true ∨ X.env.scope.names.lookup x = some .local := by first | exact .inl rfl | exact .inr rfl | assumption)
    (hs : (assignEach (.Name x p :: tgs) X.env).map (·.2) = assign (.Name x p) X.env :: (assignEach tgs X.env).map (·.2) := by rfl) : MNs X (.Name x p :: tgs) (i :: is) := pgs_cons (pg_name hN hi hx hf) h2 hs
theorem ms_parT (hc : X.calm = true) (ha : MA X E es fs) (hg : MNs X tgs is) (hl : fs.length = is.length := by rfl) (hn : (assignEach tgs X.env).length = is.length := by rfl) (hst : (assignEach tgs X.env).findIdx? (·.1) = none := by rfl) (hz : fs.length ≤ 1000 := by decide)
    (hs : swapsWithSole [.Tuple tgs kt pt] (.Tuple es k2 pt2) pos.line X.env = pure false := by rfl) (hw : swappedStores [.Tuple tgs kt pt] (.Tuple es k2 pt2) X.env = pure none := by rfl)
    (h1 : (assignEach [.Tuple tgs kt pt] X.env).map (·.2) = [assign (.Tuple tgs kt pt) X.env] := by rfl) :
    MS X E (.Assign [.Tuple tgs kt pt] (.Tuple es k2 pt2) pos) (mPar is fs) :=
  PS.imp (ps_asg (pe_tup ha) (pg_tup hc hg hn hst) hs hw h1) fun D0 σ H h => denA_mono (fun vs H1 ⟨hv, q⟩ => by
    refine ⟨by rw [hv, sizeLine_eq]; omega, fun p hp => ⟨p, vs, rfl, .inl (.inl upd_same), by rw [hv, hl], namesG_of (by rw [hv, hl]) (q p _ hp)⟩⟩) (den_parT h)
end
theorem _root_.Mx.KnK.mono {P : Program} {w : World} {K : PySem.W.Frag} {mg : Mg} {base : Heap} {x : Str} {ps ks : List Str} {π : List Nat} {j k : Nat} {F : Fn} (h : KnK P w K mg base x ps ks π j F) (l : j ≤ k) : KnK P w K mg base x ps ks π k F :=
  let ⟨f, fd, a, b, c, d⟩ := h.ex
  ⟨f, fd, a, b, c, d.mono l⟩
/-- a def of which nothing is promised -/
theorem kn_no {P : Program} {w : World} {K : PySem.W.Frag} {mg : Mg} {base : Heap} {x : Str} {st : Stmt} {f : Addr} {fd : FuncData} {ps : List Str} {k : Nat} (hf : mg x = some (.ref f)) (F : FunD K x x (defArgs st) (defBody st) (defScope st) [] [] f fd)
    (bd : ∀ (kV doc pm : Value) (an : Option Addr) (cdv ct : Value) (us : List Value), us.length = ps.length → bindArgs (PySem.W.fnOf x x (defArgs st) (defBody st) (defScope st) .none kV doc pm an cdv ct) ⟨us, []⟩ = pure (ps.zip us)) : Kn P w K mg base x ps k (fun _ => .no) :=
  ⟨f, fd, hf, F.kp, F.bindsN bd, ⟨fun vs H Q E h => by obtain ⟨_, _, _, _, _, z⟩ := h; exact z.elim, fun B out t H ar us vs Q E _ _ _ _ _ h => by obtain ⟨_, _, _, _, _, z⟩ := h; exact z.elim⟩⟩
end Mx

set_option Elab.async false
set_option linter.all false
set_option maxRecDepth 100000
namespace Mx
open PySem PySem.Spec PyProof.Rows L2
/-! ### mirrors run: each step as an equation that fires only at a state -/
variable {f g h c : Mm} {a b : Ms} {s s1 : S} {r r1 r2 : Rv} {k : Rv → S → Res} {ks : Rv → S → SR} {kl : List Rv → S → Res} {kls : List Rv → S → SR} {x : Bool} {d d1 d2 : D} {e : Str} {fs : Fs} {rs : List Rv} {i : Nat} {ms : List Mm} {q : S → SR}
theorem bind_ok : (Res.ok r s).bind k = k r s := rfl
theorem bind_ex : (Res.ex e fs s).bind k = .ex e fs s := rfl
theorem bind_no : Res.no.bind k = .no := rfl
theorem thn_ok : (Res.ok r s).thn ks = ks r s := rfl
theorem thn_ex : (Res.ex e fs s).thn ks = .ex e fs s := rfl
theorem thn_no : Res.no.thn ks = .no := rfl
theorem lbind_ok : (ResL.ok rs s).bind kl = kl rs s := rfl
theorem lthn_ok : (ResL.ok rs s).thn kls = kls rs s := rfl
theorem seq_nx : (SR.nx s).seq q = q s := rfl
theorem seq_rt : (SR.rt r s).seq q = .rt r s := rfl
theorem seq_bk : (SR.bk s).seq q = .bk s := rfl
theorem seq_ct : (SR.ct s).seq q = .ct s := rfl
theorem seq_ex : (SR.ex e fs s).seq q = .ex e fs s := rfl
theorem seq_no : SR.no.seq q = .no := rfl
theorem seq_ite : (if x = true then (a s) else (b s1)).seq q = if x = true then (a s).seq q else (b s1).seq q := by cases x <;> rfl
/-- by a truth value -/
def kB (f g : S → Res) (s : S) : Option Bool → Res
  | some true => f s
  | some false => g s
  | none => .no
def kS (a b : Ms) (s : S) : Option Bool → SR
  | some true => a s
  | some false => b s
  | none => .no
def kBl (x : Bool) (s : S) : Res := .ok (.sh (.bl x)) s
theorem kB_t : kB f g s (some true) = f s := rfl
theorem kB_f : kB f g s (some false) = g s := rfl
theorem kS_t : kS a b s (some true) = a s := rfl
theorem kS_f : kS a b s (some false) = b s := rfl
theorem asB_bl : asB (.sh (.bl x)) = some x := rfl
def kR (s : S) : Option Rv → Res
  | some r => .ok r s
  | none => .no
theorem kR_s : kR s (some r) = .ok r s := rfl
def kD (op : D → Option Rv) (s : S) : Option D → Res
  | some d => kR s (op d)
  | none => .no
theorem kD_s {op : D → Option Rv} : kD op s (some d) = kR s (op d) := rfl
def kD2 (op : D → D → Option Rv) (s : S) : Option D → Option D → Res
  | some d1, some d2 => kR s (op d1 d2)
  | _, _ => .no
theorem kD2_s {op : D → D → Option Rv} : kD2 op s (some d1) (some d2) = kR s (op d1 d2) := rfl
theorem rd_sh : rd s (.sh d) = some d := rfl
theorem rd_fr : rd s (.fr d) = some d := rfl
def kCs : Option Cell → Option D
  | some (.ow d) => some d
  | _ => none
def kCp : Option Cell → Option D
  | some (.ow d) => some d
  | some (.sh d) => some d
  | _ => none
theorem rd_bs : rd s (.bs i) = kCs s.sl[i]? := by
  first
    | rfl
    | (
      first
        | rfl
        | (cases e : s.sl[i]? with
          | none => first | rfl | (simp only [rd, argC, esc, mVar, kV, kVp, kCs, kCp, kAc, kEo, kF, finS, finR, e])
          | some c => cases c <;> first | rfl | (simp only [rd, argC, esc, mVar, kV, kVp, kCs, kCp, kAc, kEo, kF, finS, finR, e])))
theorem rd_bp : rd s (.bp i) = kCp s.pr[i]? := by
  first
    | rfl
    | (cases e : s.pr[i]? with
      | none => first | rfl | (simp only [rd, argC, esc, mVar, kV, kVp, kCs, kCp, kAc, kEo, kF, finS, finR, e])
      | some c => cases c <;> first | rfl | (simp only [rd, argC, esc, mVar, kV, kVp, kCs, kCp, kAc, kEo, kF, finS, finR, e]))
theorem kCs_o : kCs (some (.ow d)) = some d := rfl
theorem kCp_o : kCp (some (.ow d)) = some d := rfl
theorem kCp_s : kCp (some (.sh d)) = some d := rfl
def kV (i : Nat) (s : S) : Option Cell → Res
  | some (.sh d) => .ok (.sh d) s
  | some (.ow _) => .ok (.bs i) s
  | some (.al p) => match s.pr[p]? with
    | some (.ow _) => .ok (.bp p) s
    | some (.sh d) => .ok (.sh d) s
    | _ => .no
  | _ => .no
theorem kV_s : kV i s (some (.sh d)) = .ok (.sh d) s := rfl
theorem kV_o : kV i s (some (.ow d)) = .ok (.bs i) s := rfl
def kVp (p : Nat) (s : S) : Option Cell → Res
  | some (.ow _) => .ok (.bp p) s
  | some (.sh d) => .ok (.sh d) s
  | _ => .no
theorem kV_a {p : Nat} : kV i s (some (.al p)) = kVp p s s.pr[p]? := by
  first
    | rfl
    | (cases e : s.pr[p]? with
      | none => first | rfl | (simp only [rd, argC, esc, mVar, kV, kVp, kCs, kCp, kAc, kEo, kF, finS, finR, e])
      | some c => cases c <;> first | rfl | (simp only [rd, argC, esc, mVar, kV, kVp, kCs, kCp, kAc, kEo, kF, finS, finR, e]))
theorem kVp_o : kVp i s (some (.ow d)) = .ok (.bp i) s := rfl
theorem kVp_s : kVp i s (some (.sh d)) = .ok (.sh d) s := rfl
theorem ap_var : mVar i s = kV i s s.sl[i]? := by
  first
    | rfl
    | (cases e : s.sl[i]? with
      | none => first | rfl | (simp only [rd, argC, esc, mVar, kV, kVp, kCs, kCp, kAc, kEo, kF, finS, finR, e])
      | some c => cases c <;> first | rfl | (simp only [rd, argC, esc, mVar, kV, kVp, kCs, kCp, kAc, kEo, kF, finS, finR, e]))
theorem ap_c : mC d s = .ok (.sh d) s := rfl
theorem ap_un {op : D → Option Rv} : mUn op f s = (f s).bind fun r s1 => kD op s1 (rd s1 r) := by
  first
    | rfl
    | (
      unfold mUn
      congr 1
      funext r s1
      cases e : rd s1 r with
      | none => rfl
      | some d => simp only [kD]; cases op d <;> rfl)
theorem ap_bin {op : D → D → Option Rv} : mBin op f g s = (f s).bind fun r1 s1 => (g s1).bind fun r2 s2 => kD2 op s2 (rd s2 r1) (rd s2 r2) := by
  first
    | rfl
    | (
      unfold mBin
      congr 1
      funext r1 s1
      congr 1
      funext r2 s2
      cases rd s2 r1 with
      | none => rfl
      | some d => cases rd s2 r2 with
        | none => rfl
        | some d' => simp only [kD2]; cases op d d' <;> rfl)
theorem ap_and : mAnd f g s = (f s).bind fun r s1 => kB g (kBl false) s1 (asB r) := by
  first
    | rfl
    | (
      unfold mAnd
      congr 1
      funext r s1
      cases e : asB r with
      | none => rfl
      | some b => cases b <;> rfl)
theorem ap_or : mOr f g s = (f s).bind fun r s1 => kB (kBl true) g s1 (asB r) := by
  first
    | rfl
    | (
      unfold mOr
      congr 1
      funext r s1
      cases e : asB r with
      | none => rfl
      | some b => cases b <;> rfl)
theorem ap_ifE : mIfE c f g s = (c s).bind fun r s1 => kB f g s1 (asB r) := by
  first
    | rfl
    | (
      unfold mIfE
      congr 1
      funext r s1
      cases e : asB r with
      | none => rfl
      | some b => cases b <;> rfl)
def kN (s : S) : Option Bool → Res
  | some b => .ok (.sh (.bl (!b))) s
  | none => .no
theorem kN_s : kN s (some x) = .ok (.sh (.bl (!x))) s := rfl
theorem ap_not : mNot f s = (f s).bind fun r s1 => kN s1 (asB r) := by
  first
    | rfl
    | (
      unfold mNot
      congr 1
      funext r s1
      cases e : asB r <;> rfl)
theorem kBl_ap : kBl x s = .ok (.sh (.bl x)) s := rfl
theorem ap_nx : mNx s = .nx s := rfl
theorem ap_seq : mSeq a b s = (a s).seq b := rfl
theorem ap_expr : mExpr f s = (f s).thn fun _ s1 => .nx s1 := rfl
theorem ap_ret : mRet f s = (f s).thn fun r s1 => .rt r s1 := rfl
theorem ap_retN : mRetN s = .rt (.sh .non) s := rfl
theorem ap_if : mIf c a b s = (c s).thn fun r s1 => kS a b s1 (asB r) := by
  first
    | rfl
    | (
      unfold mIf
      congr 1
      funext r s1
      cases e : asB r with
      | none => rfl
      | some b => cases b <;> rfl)
theorem ap_set : mSet i f s = (f s).thn fun r s1 => stor i r s1 := rfl
theorem stor_sh : stor i (.sh d) s = .nx ⟨s.sl.set i (.sh d), s.pr⟩ := rfl
theorem stor_fr : stor i (.fr d) s = .nx ⟨s.sl.set i (.ow d), s.pr⟩ := rfl
/-! arguments -/
def kA1 (fs : List Mm) : Res → ResL
  | .ok r s1 => match mArgs fs s1 with
    | .ok rs s2 => .ok (r :: rs) s2
    | .ex c x s2 => .ex c x s2
    | .no => .no
  | .ex c x s1 => .ex c x s1
  | .no => .no
def kA2 (r : Rv) : ResL → ResL
  | .ok rs s2 => .ok (r :: rs) s2
  | .ex c x s2 => .ex c x s2
  | .no => .no
theorem ap_args0 : mArgs [] s = .ok [] s := rfl
theorem ap_args : mArgs (f :: ms) s = kA1 ms (f s) := by
  first
    | rfl
    | (
      rw [mArgs]
      cases f s <;> rfl)
theorem kA1_ok : kA1 ms (.ok r s) = kA2 r (mArgs ms s) := by
  first
    | rfl
    | (
      unfold kA1 kA2
      simp only
      cases mArgs ms s <;> rfl)
theorem kA2_ok : kA2 r (.ok rs s) = .ok (r :: rs) s := rfl
/-! calls -/
def kC3 (s : S) (rv : Rv) : Option S → Res
  | some s2 => .ok rv s2
  | none => .no
def kC2 (rs : List Rv) (as : List Cell) (s : S) : FRes → Res
  | .ret (.sh d) pr => kC3 s (.sh d) (putB rs as pr s)
  | .ret (.fr d) pr => kC3 s (.fr d) (putB rs as pr s)
  | .ret _ _ => .no
  | .ex c x pr => (match putB rs as pr s with | some s2 => .ex c x s2 | none => .no)
  | .no => .no
def kC1 (F : Fn) (rs : List Rv) (s : S) : Option (List Cell) → Res
  | some as => if dist rs = true then kC2 rs as s (F as) else .no
  | none => .no
theorem ap_call {F : Fn} : mCall F ms s = (mArgs ms s).bind fun rs s1 => kC1 F rs s1 (argCs s1 rs) := by
  first
    | rfl
    | (
      unfold mCall
      congr 1
      funext rs s1
      unfold mCallR kC1
      cases argCs s1 rs with
      | none => rfl
      | some as =>
        simp only
        congr 1
        cases F as with
        | ret rv pr => cases rv <;> first | rfl | (simp only [kC2, kC3]; cases putB rs as pr s1 <;> rfl)
        | ex c x pr => rfl
        | no => rfl)
theorem kC1_s {F : Fn} {as : List Cell} : kC1 F rs s (some as) = if dist rs = true then kC2 rs as s (F as) else .no := rfl
theorem kC2_sh {as pr : List Cell} : kC2 rs as s (.ret (.sh d) pr) = kC3 s (.sh d) (putB rs as pr s) := rfl
theorem kC2_fr {as pr : List Cell} : kC2 rs as s (.ret (.fr d) pr) = kC3 s (.fr d) (putB rs as pr s) := rfl
theorem kC3_s {rv : Rv} : kC3 s rv (some s1) = .ok rv s1 := rfl
theorem argC_sh : argC s (.sh d) = some (.sh d) := rfl
theorem argC_fr : argC s (.fr d) = some (.ow d) := rfl
def kAc : Option Cell → Option Cell
  | some (.ow d) => some (.ow d)
  | some (.sh d) => some (.sh d)
  | _ => none
theorem argC_bs : argC s (.bs i) = kAc s.sl[i]? := by
  first
    | rfl
    | (cases e : s.sl[i]? with
      | none => first | rfl | (simp only [rd, argC, esc, mVar, kV, kVp, kCs, kCp, kAc, kEo, kF, finS, finR, e])
      | some c => cases c <;> first | rfl | (simp only [rd, argC, esc, mVar, kV, kVp, kCs, kCp, kAc, kEo, kF, finS, finR, e]))
theorem argC_bp : argC s (.bp i) = kAc s.pr[i]? := by
  first
    | rfl
    | (cases e : s.pr[i]? with
      | none => first | rfl | (simp only [rd, argC, esc, mVar, kV, kVp, kCs, kCp, kAc, kEo, kF, finS, finR, e])
      | some c => cases c <;> first | rfl | (simp only [rd, argC, esc, mVar, kV, kVp, kCs, kCp, kAc, kEo, kF, finS, finR, e]))
theorem kAc_o : kAc (some (.ow d)) = some (.ow d) := rfl
theorem kAc_s : kAc (some (.sh d)) = some (.sh d) := rfl
def kAcs (s : S) (rs : List Rv) : Option Cell → Option (List Cell)
  | some c => match argCs s rs with
    | some cs => some (c :: cs)
    | none => none
  | none => none
def kAc2 (c : Cell) : Option (List Cell) → Option (List Cell)
  | some cs => some (c :: cs)
  | none => none
theorem argCs_nil : argCs s [] = some [] := rfl
theorem argCs_cons : argCs s (r :: rs) = kAcs s rs (argC s r) := by
  first
    | rfl
    | (
      rw [argCs]
      cases argC s r <;> rfl)
theorem kAcs_s {c : Cell} : kAcs s rs (some c) = kAc2 c (argCs s rs) := by
  first
    | rfl
    | (
      unfold kAcs kAc2
      simp only
      cases argCs s rs <;> rfl)
theorem kAc2_s {c : Cell} {cs : List Cell} : kAc2 c (some cs) = some (c :: cs) := rfl
/-! displays, built-ins -/
def kEs (k : List D → Rv) : Option (List D × S) → Res
  | some (ds, s) => .ok (k ds) s
  | none => .no
theorem kEs_s {k : List D → Rv} {ds : List D} : kEs k (some (ds, s)) = .ok (k ds) s := rfl
theorem ap_tup : mTup ms s = (mArgs ms s).bind fun rs s1 => kEs (fun ds => .sh (.tup ds)) (escs s1 rs) := by
  first
    | rfl
    | (
      unfold mTup
      congr 1
      funext rs s1
      cases escs s1 rs <;> rfl)
theorem ap_lst : mLst ms s = (mArgs ms s).bind fun rs s1 => kEs (fun ds => .fr (.lst ds)) (escs s1 rs) := by
  first
    | rfl
    | (
      unfold mLst
      congr 1
      funext rs s1
      cases escs s1 rs <;> rfl)
def kE1 (rs : List Rv) : Option (D × S) → Option (List D × S)
  | some (d, s1) => match escs s1 rs with
    | some (ds, s2) => some (d :: ds, s2)
    | none => none
  | none => none
def kE2 (d : D) : Option (List D × S) → Option (List D × S)
  | some (ds, s2) => some (d :: ds, s2)
  | none => none
theorem escs_nil : escs s [] = some ([], s) := rfl
theorem escs_cons : escs s (r :: rs) = kE1 rs (esc s r) := by
  first
    | rfl
    | (
      rw [escs]
      cases esc s r <;> rfl)
theorem kE1_s : kE1 rs (some (d, s)) = kE2 d (escs s rs) := by
  first
    | rfl
    | (
      unfold kE1 kE2
      simp only
      cases escs s rs <;> rfl)
theorem kE2_s {ds : List D} : kE2 d (some (ds, s)) = some (d :: ds, s) := rfl
theorem esc_sh : esc s (.sh d) = some (d, s) := rfl
theorem esc_fr : esc s (.fr d) = some (d, s) := rfl
def kEo (i : Nat) (s : S) : Option Cell → Option (D × S)
  | some (.ow d) => some (d, ⟨s.sl.set i (.sh d), s.pr⟩)
  | some (.sh d) => some (d, s)
  | _ => none
theorem esc_bs : esc s (.bs i) = kEo i s s.sl[i]? := by
  first
    | rfl
    | (cases e : s.sl[i]? with
      | none => first | rfl | (simp only [rd, argC, esc, mVar, kV, kVp, kCs, kCp, kAc, kEo, kF, finS, finR, e])
      | some c => cases c <;> first | rfl | (simp only [rd, argC, esc, mVar, kV, kVp, kCs, kCp, kAc, kEo, kF, finS, finR, e]))
theorem kEo_o : kEo i s (some (.ow d)) = some (d, ⟨s.sl.set i (.sh d), s.pr⟩) := rfl
def kDs (op : List D → Option Rv) (s : S) : Option (List D) → Res
  | some ds => kR s (op ds)
  | none => .no
theorem kDs_s {op : List D → Option Rv} {ds : List D} : kDs op s (some ds) = kR s (op ds) := rfl
theorem ap_bl {op : List D → Option Rv} : mBl op ms s = (mArgs ms s).bind fun rs s1 => kDs op s1 (rds s1 rs) := by
  first
    | rfl
    | (
      unfold mBl
      congr 1
      funext rs s1
      cases rds s1 rs with
      | none => rfl
      | some ds => simp only [kDs]; cases op ds <;> rfl)
def kRd1 (s : S) (rs : List Rv) : Option D → Option (List D)
  | some d => match rds s rs with
    | some ds => some (d :: ds)
    | none => none
  | none => none
def kRd2 (d : D) : Option (List D) → Option (List D)
  | some ds => some (d :: ds)
  | none => none
theorem rds_nil : rds s [] = some [] := rfl
theorem rds_cons : rds s (r :: rs) = kRd1 s rs (rd s r) := by
  first
    | rfl
    | (
      rw [rds]
      cases rd s r <;> rfl)
theorem kRd1_s : kRd1 s rs (some d) = kRd2 d (rds s rs) := by
  first
    | rfl
    | (
      unfold kRd1 kRd2
      simp only
      cases rds s rs <;> rfl)
theorem kRd2_s {ds : List D} : kRd2 d (some ds) = some (d :: ds) := rfl
theorem op1_s {op : D → Option Rv} : op1 op [d] = op d := rfl
theorem op2_s {op : D → D → Option Rv} : op2 op [d1, d2] = op d1 d2 := rfl
/-! assignment to targets -/
def kT (tm : Tm) : Option (D × S) → SR
  | some (d, s2) => match tm d s2 with
    | some s3 => .nx s3
    | none => .no
  | none => .no
def kT2 : Option S → SR
  | some s3 => .nx s3
  | none => .no
theorem ap_asg {tm : Tm} : mAsg f tm s = (f s).thn fun r s1 => kT tm (esc s1 r) := by
  first
    | rfl
    | (
      unfold mAsg
      congr 1
      funext r s1
      cases esc s1 r <;> rfl)
theorem kT_s {tm : Tm} : kT tm (some (d, s)) = kT2 (tm d s) := by
  first
    | rfl
    | (
      unfold kT kT2
      simp only
      cases tm d s <;> rfl)
theorem kT2_s : kT2 (some s) = .nx s := rfl
theorem tNm_ap : tNm i d s = some ⟨s.sl.set i (.sh d), s.pr⟩ := rfl
theorem tTp_t {ts : List Tm} {ds : List D} : tTp ts (.tup ds) s = tAll ts ds s := rfl
theorem tTp_l {ts : List Tm} {ds : List D} : tTp ts (.lst ds) s = tAll ts ds s := rfl
def kTa (ts : List Tm) (ds : List D) : Option S → Option S
  | some s1 => tAll ts ds s1
  | none => none
theorem tAll_nil : tAll [] [] s = some s := rfl
theorem tAll_cons {t : Tm} {ts : List Tm} {ds : List D} : tAll (t :: ts) (d :: ds) s = kTa ts ds (t d s) := by
  first
    | rfl
    | (
      rw [tAll]
      cases t d s <;> rfl)
theorem kTa_s {ts : List Tm} {ds : List D} : kTa ts ds (some s) = tAll ts ds s := rfl
/-! a def -/
theorem finS_nx : finS (.nx s) = .ret (.sh .non) s.pr := rfl
theorem finS_sh : finS (.rt (.sh d) s) = .ret (.sh d) s.pr := rfl
theorem finS_fr : finS (.rt (.fr d) s) = .ret (.fr d) s.pr := rfl
def kF (s : S) : Option Cell → FRes
  | some (.ow d) => .ret (.fr d) s.pr
  | some (.sh d) => .ret (.sh d) s.pr
  | _ => .no
theorem finS_bs : finS (.rt (.bs i) s) = kF s s.sl[i]? := by
  first
    | rfl
    | (cases e : s.sl[i]? with
      | none => first | rfl | (simp only [rd, argC, esc, mVar, kV, kVp, kCs, kCp, kAc, kEo, kF, finS, finR, e])
      | some c => cases c <;> first | rfl | (simp only [rd, argC, esc, mVar, kV, kVp, kCs, kCp, kAc, kEo, kF, finS, finR, e]))
theorem kF_o : kF s (some (.ow d)) = .ret (.fr d) s.pr := rfl
theorem int2_ap {C : Int → Int → Bool} {G : Int → Int → D} {i j : Int} : dInt2 C G (.int i) (.int j) = if C i j = true then some (.sh (G i j)) else none := rfl
/-! ### comprehensions without an effect -/
def kL2 (own : List Nat) (tm : Tm) (tt elt : Mm) (s : S) : Option (List D) → Res
  | some ds => lcR own tm tt elt ds s
  | none => .no
def kL1 (own : List Nat) (tm : Tm) (tt elt : Mm) : Option (D × S) → Res
  | some (d, s2) => kL2 own tm tt elt s2 (itemsOf d)
  | none => .no
theorem ap_lc {own : List Nat} {tm : Tm} {tt elt : Mm} : mLc own tm tt elt f s = (f s).bind fun r s1 => kL1 own tm tt elt (esc s1 r) := rfl
theorem kL1_s {own : List Nat} {tm : Tm} {tt elt : Mm} : kL1 own tm tt elt (some (d, s)) = kL2 own tm tt elt s (itemsOf d) := rfl
theorem kL2_s {own : List Nat} {tm : Tm} {tt elt : Mm} {ds : List D} : kL2 own tm tt elt s (some ds) = lcR own tm tt elt ds s := rfl
theorem itemsOf_l {ds : List D} : itemsOf (.lst ds) = some ds := rfl
theorem itemsOf_t {ds : List D} : itemsOf (.tup ds) = some ds := rfl
theorem itemsOf_r {ds : List D} : itemsOf (.rol ds) = some ds := rfl
def kLr2 (own : List Nat) (tm : Tm) (tt elt : Mm) (s : S) : Option (Int × Nat) → Res
  | some (lo, n) => if n ≤ 16777216 then lcR own tm tt elt (upFrom lo n) s else .no
  | none => .no
def kLr1 (rg : List D → Option (Int × Nat)) (own : List Nat) (tm : Tm) (tt elt : Mm) (s : S) : Option (List D) → Res
  | some ds => kLr2 own tm tt elt s (rg ds)
  | none => .no
theorem ap_lcR {rg : List D → Option (Int × Nat)} {own : List Nat} {tm : Tm} {tt elt : Mm} : mLcR rg own tm tt elt ms s = (mArgs ms s).bind fun rs s1 => kLr1 rg own tm tt elt s1 (rds s1 rs) := rfl
theorem kLr1_s {rg : List D → Option (Int × Nat)} {own : List Nat} {tm : Tm} {tt elt : Mm} {ds : List D} : kLr1 rg own tm tt elt s (some ds) = kLr2 own tm tt elt s (rg ds) := rfl
theorem rng1_ap {own : List Nat} {tm : Tm} {tt elt : Mm} {j : Int} (h1 : -(2 ^ 62) ≤ j) (h2 : j ≤ 16777216) : kLr2 own tm tt elt s (rng1 [.int j]) = lcR own tm tt elt (upFrom 0 j.toNat) s := by
  have e : rng1 [.int j] = some (0, j.toNat) := if_pos ⟨h1, by omega⟩
  rw [e]
  exact if_pos (by omega)
theorem lc_pure {v : Nat} {tt elt : Mm} {p : D → Bool} {gg : D → D} {s : S} {cl : Cell} (hc : s.sl[v]? = some cl) (hno : ∀ d, cl ≠ .ow d) (ds : List D)
    (h : ∀ d ∈ ds, tt ⟨s.sl.set v (.sh d), s.pr⟩ = .ok (.sh (.bl (p d))) ⟨s.sl.set v (.sh d), s.pr⟩ ∧ (p d = true → ∃ r, elt ⟨s.sl.set v (.sh d), s.pr⟩ = .ok r ⟨s.sl.set v (.sh d), s.pr⟩ ∧ esc ⟨s.sl.set v (.sh d), s.pr⟩ r = some (gg d, ⟨s.sl.set v (.sh d), s.pr⟩))) :
    lcR [v] (tNm v) tt elt ds s = .ok (.fr (.lst ((ds.filter p).map gg))) s := by
  have hl : v < s.sl.length := (List.getElem?_eq_some_iff.mp hc).1
  have nn : noOw s [v] = true := by
    unfold noOw
    simp only [List.all_cons, List.all_nil, Bool.and_true, hc]
    cases cl with
    | ow d => exact absurd rfl (hno d)
    | _ => rfl
  have w0 : wip s [v] = ⟨s.sl.set v .un, s.pr⟩ := rfl
  have go : ∀ (ds : List D), (∀ d ∈ ds, tt ⟨s.sl.set v (.sh d), s.pr⟩ = .ok (.sh (.bl (p d))) ⟨s.sl.set v (.sh d), s.pr⟩ ∧ (p d = true → ∃ r, elt ⟨s.sl.set v (.sh d), s.pr⟩ = .ok r ⟨s.sl.set v (.sh d), s.pr⟩ ∧ esc ⟨s.sl.set v (.sh d), s.pr⟩ r = some (gg d, ⟨s.sl.set v (.sh d), s.pr⟩))) →
      lcL (tNm v) tt elt [v] ds ⟨s.sl.set v .un, s.pr⟩ = some ((ds.filter p).map gg, ⟨s.sl.set v .un, s.pr⟩) := by
    intro ds
    induction ds with
    | nil => intro _; rfl
    | cons d ds ih =>
      intro h
      obtain ⟨h1, h2⟩ := h d (List.mem_cons_self ..)
      have ih := ih fun x hx => h x (List.mem_cons_of_mem _ hx)
      rw [lcL]
      have e1 : tNm v d ⟨s.sl.set v .un, s.pr⟩ = some ⟨s.sl.set v (.sh d), s.pr⟩ := by simp only [tNm, List.set_set]
      rw [e1]
      simp only [h1, asB_bl]
      have e2 : wip ⟨s.sl.set v (.sh d), s.pr⟩ [v] = ⟨s.sl.set v .un, s.pr⟩ := by simp only [wip, List.set_set]
      cases hp : p d with
      | false =>
        simp only [e2, ih]
        rw [List.filter_cons_of_neg (by simp [hp])]
      | true =>
        obtain ⟨r, h3, h4⟩ := h2 hp
        simp only [h3, h4, e2, ih]
        rw [List.filter_cons_of_pos hp, List.map_cons]
  unfold lcR
  rw [if_pos nn, w0, go ds h]
  simp only
  have : rst s ⟨s.sl.set v .un, s.pr⟩ [v] = s := by
    simp only [rst, hc, List.set_set]
    have : s.sl.set v cl = s.sl := by
      apply List.ext_getElem?
      intro i
      by_cases e : i = v
      · subst e; rw [List.getElem?_set_self hl, hc]
      · rw [List.getElem?_set_ne (Ne.symm e)]
    rw [this]
  rw [this]
theorem upFrom_map : ∀ (lo : Int) (n : Nat), upFrom lo n = (List.range n).map fun (i : Nat) => D.int (lo + i)
  | lo, 0 => rfl
  | lo, n + 1 => by
    rw [upFrom, upFrom_map (lo + 1) n, List.range_succ_eq_map, List.map_cons, List.map_map]
    congr 1
    · simp
    · apply List.map_congr_left
      intro i _
      simp only [Function.comp]
      congr 1
      omega
end Mx

set_option Elab.async false
set_option linter.all false
set_option maxRecDepth 100000
namespace Mx
open PySem PySem.Spec PyProof.Rows L2
/-! ### data that can be shown -/
mutual
/-- a bound of the text -/
def wt : D → Nat
  | .non => 4
  | .bl _ => 5
  | .int _ => 70
  | .str x => 10 * x.length + 2
  | .lst xs => wts xs + 3
  | .rol xs => wts xs + 3
  | .tup xs => wts xs + 3
  | .dic kvs => wtk kvs + 3
  | .exc _ _ => 0
def wts : List D → Nat
  | [] => 0
  | x :: xs => wt x + 2 + wts xs
def wtk : List (Key × D) → Nat
  | [] => 0
  | x :: xs => 1000 + wt x.2 + wtk xs
end
mutual
def dep : D → Nat
  | .lst xs => deps xs + 1
  | .rol xs => deps xs + 1
  | .tup xs => deps xs + 1
  | .dic kvs => depk kvs + 1
  | _ => 0
def deps : List D → Nat
  | [] => 0
  | x :: xs => max (dep x) (deps xs)
def depk : List (Key × D) → Nat
  | [] => 0
  | x :: xs => max (dep x.2) (depk xs)
end
mutual
/-- no list, no dict in it -/
def noLD : D → Bool
  | .lst _ => false
  | .rol _ => false
  | .tup xs => noLDs xs
  | .dic kvs => noLDk kvs
  | _ => true
def noLDs : List D → Bool
  | [] => true
  | x :: xs => noLD x && noLDs xs
def noLDk : List (Key × D) → Bool
  | [] => true
  | x :: xs => noLD x.2 && noLDk xs
end
mutual
def noDD : D → Bool
  | .lst xs => noDDs xs
  | .rol xs => noDDs xs
  | .tup xs => noDDs xs
  | .dic _ => false
  | _ => true
def noDDs : List D → Bool
  | [] => true
  | x :: xs => noDD x && noDDs xs
end
/-- a text of signs -/
def StrF (x : Str) : Prop := ∀ c ∈ x.cps.toList, c < 16 ^ 8
def KeyF : Key → Prop
  | .inl i => i.natAbs < 10 ^ 60
  | .inr x => StrF x ∧ x.length ≤ 30
mutual
def Fin' : D → Prop
  | .int i => i.natAbs < 10 ^ 60
  | .str x => StrF x
  | .lst xs => Fins xs
  | .rol xs => Fins xs
  | .tup xs => Fins xs
  | .dic kvs => Fink kvs
  | .exc _ _ => False
  | _ => True
def Fins : List D → Prop
  | [] => True
  | x :: xs => Fin' x ∧ Fins xs
def Fink : List (Key × D) → Prop
  | [] => True
  | x :: xs => (KeyF x.1 ∧ Fin' x.2) ∧ Fink xs
end
theorem log_of {i : Int} (h : i.natAbs < 10 ^ 60) : i.natAbs.log2 < 1920 := by
  rcases Nat.eq_zero_or_pos i.natAbs with z | z
  · rw [z]; decide
  · refine (Nat.log2_lt (by omega)).mpr (Nat.lt_trans h ?_)
    decide
mutual
theorem rp_some : ∀ (d : D), Fin' d → ∃ p, D.rp d = some p
  | .non, _ => ⟨.none, by simp only [D.rp]⟩
  | .bl b, _ => ⟨.bool b, by simp only [D.rp]⟩
  | .int i, _ => ⟨.int i, by simp only [D.rp]⟩
  | .str x, _ => ⟨.str x, by simp only [D.rp]⟩
  | .lst xs, h => by
    obtain ⟨ps, e⟩ := rps_some xs (by simpa only [Fin'] using h)
    exact ⟨.list ps, by simp only [D.rp, e]⟩
  | .rol xs, h => by
    obtain ⟨ps, e⟩ := rps_some xs (by simpa only [Fin'] using h)
    exact ⟨.list ps, by simp only [D.rp, e]⟩
  | .tup xs, h => by
    obtain ⟨ps, e⟩ := rps_some xs (by simpa only [Fin'] using h)
    exact ⟨.tuple ps, by simp only [D.rp, e]⟩
  | .dic xs, h => by
    obtain ⟨ps, e⟩ := rpk_some xs (by simpa only [Fin'] using h)
    exact ⟨.dict ps, by simp only [D.rp, e]⟩
  | .exc _ _, h => by simp only [Fin'] at h
theorem rps_some : ∀ (ds : List D), Fins ds → ∃ p, D.rps ds = some p
  | [], _ => ⟨[], by simp only [D.rps]⟩
  | d :: ds, h => by
    simp only [Fins] at h
    obtain ⟨p, e1⟩ := rp_some d h.1
    obtain ⟨ps, e2⟩ := rps_some ds h.2
    exact ⟨p :: ps, by simp only [D.rps, e1, e2]⟩
theorem rpk_some : ∀ (ds : List (Key × D)), Fink ds → ∃ p, D.rpk ds = some p
  | [], _ => ⟨[], by simp only [D.rpk]⟩
  | d :: ds, h => by
    simp only [Fink] at h
    obtain ⟨p, e1⟩ := rp_some d.2 h.1.2
    obtain ⟨ps, e2⟩ := rpk_some ds h.2
    exact ⟨(keyP d.1, p) :: ps, by simp only [D.rpk, e1, e2]⟩
end
theorem tostr_len (i : Int) (h : i.natAbs < 10 ^ 60) : ((toString i : String) : Str).length ≤ 61 := by
  have e := int_text_length_le10 (a := i) (k := 60) (by decide) h
  rw [PySem.ofString_length]
  exact e
theorem listText_le (ts : List Str) : (listText ts).length ≤ piled ts + 3 := by
  show (textFrom 0 "[" ts ++ "]").length ≤ _
  rw [strLen_append]
  have e1 : (("]" : String) : Str).length = 1 := rfl
  have e0 : (("[" : String) : Str).length = 1 := rfl
  rw [e1]
  cases ts with
  | nil => show (("[" : String) : Str).length + 1 ≤ _; rw [e0]; simp [piled]
  | cons t r =>
    have e : textFrom 0 "[" (t :: r) = textFrom 1 ((("[" : String) : Str) ++ ((if 0 > 0 then ", " else "" : String) : Str) ++ t) r := rfl
    rw [e, textFrom_length_pos _ _ _ (by decide), strLen_append, strLen_append, e0, piled_cons]
    have e3 : ((if 0 > 0 then ", " else "" : String) : Str).length = 0 := rfl
    rw [e3]
    omega
theorem join_le (ts : List Str) : (Str.join ", " ts).length ≤ piled ts := by
  by_cases h : ts = []
  · subst h; exact Nat.le_refl _
  · have := join_length_add ts h; omega
theorem tupleText_le (ts : List Str) : (tupleText ts).length ≤ piled ts + 3 := by
  unfold tupleText
  rw [strLen_append, strLen_append]
  have e0 : (("(" : String) : Str).length = 1 := rfl
  have e1 : ((if ts.length == 1 then ",)" else ")" : String) : Str).length ≤ 2 := by
    split <;> decide
  have := join_le ts
  omega
theorem dictText_le (ts : List Str) : (dictText ts).length ≤ piled ts + 3 := by
  unfold dictText
  rw [strLen_append, strLen_append]
  have e0 : (("{" : String) : Str).length = 1 := rfl
  have e1 : (("}" : String) : Str).length = 1 := rfl
  have := join_le ts
  omega
theorem key_le (k : Key) (h : KeyF k) : (keyP k).shown.length ≤ 400 := by
  cases k with
  | inl i =>
    have := tostr_len i h
    simp only [keyP, PyData.shown]
    omega
  | inr x =>
    have := PySem.StrLaws.reprText_len x h.1
    have := h.2
    simp only [keyP, PyData.shown]
    omega
mutual
theorem shown_le : ∀ (d : D) (p : PyData), Fin' d → D.rp d = some p → p.shown.length ≤ wt d
  | .non, p, _, e => by simp only [D.rp, Option.some.injEq] at e; subst e; simp only [PyData.shown, wt]; decide
  | .bl b, p, _, e => by simp only [D.rp, Option.some.injEq] at e; subst e; simp only [PyData.shown, wt]; cases b <;> decide
  | .int i, p, h, e => by
    simp only [D.rp, Option.some.injEq] at e; subst e
    have := tostr_len i h
    simp only [PyData.shown, wt]
    omega
  | .str x, p, h, e => by
    simp only [D.rp, Option.some.injEq] at e; subst e
    simp only [PyData.shown, wt]
    exact PySem.StrLaws.reprText_len x h
  | .lst xs, p, h, e => by
    simp only [D.rp] at e
    split at e
    · rename_i ps q
      cases e
      have := shownAll_le xs ps (by simpa only [Fin'] using h) q
      have := listText_le (PyData.shownAll ps)
      simp only [PyData.shown, wt]
      omega
    · cases e
  | .rol xs, p, h, e => by
    simp only [D.rp] at e
    split at e
    · rename_i ps q
      cases e
      have := shownAll_le xs ps (by simpa only [Fin'] using h) q
      have := listText_le (PyData.shownAll ps)
      simp only [PyData.shown, wt]
      omega
    · cases e
  | .tup xs, p, h, e => by
    simp only [D.rp] at e
    split at e
    · rename_i ps q
      cases e
      have := shownAll_le xs ps (by simpa only [Fin'] using h) q
      have := tupleText_le (PyData.shownAll ps)
      simp only [PyData.shown, wt]
      omega
    · cases e
  | .dic xs, p, h, e => by
    simp only [D.rp] at e
    split at e
    · rename_i ps q
      cases e
      have := shownKv_le xs ps (by simpa only [Fin'] using h) q
      have := dictText_le (PyData.shownKv ps)
      simp only [PyData.shown, wt]
      omega
    · cases e
  | .exc _ _, p, h, e => by simp only [Fin'] at h
theorem shownAll_le : ∀ (ds : List D) (ps : List PyData), Fins ds → D.rps ds = some ps → piled (PyData.shownAll ps) ≤ wts ds
  | [], ps, _, e => by simp only [D.rps, Option.some.injEq] at e; subst e; simp [PyData.shownAll, piled, wts]
  | d :: ds, ps, h, e => by
    simp only [Fins] at h
    simp only [D.rps] at e
    split at e
    · rename_i p q1
      split at e
      · rename_i qs q2
        cases e
        have := shown_le d p h.1 q1
        have := shownAll_le ds qs h.2 q2
        simp only [PyData.shownAll, piled_cons, wts]
        omega
      · cases e
    · cases e
theorem shownKv_le : ∀ (ds : List (Key × D)) (ps : List (PyData × PyData)), Fink ds → D.rpk ds = some ps → piled (PyData.shownKv ps) ≤ wtk ds
  | [], ps, _, e => by simp only [D.rpk, Option.some.injEq] at e; subst e; simp [PyData.shownKv, piled, wtk]
  | d :: ds, ps, h, e => by
    simp only [Fink] at h
    simp only [D.rpk] at e
    split at e
    · rename_i p q1
      split at e
      · rename_i qs q2
        cases e
        have h1 := key_le d.1 h.1.1
        have h2 := shown_le d.2 p h.1.2 q1
        have h3 := shownKv_le ds qs h.2 q2
        have h4 : (((": " : String) : Str)).length = 2 := rfl
        simp only [PyData.shownKv, piled_cons, wtk, strLen_append]
        omega
      · cases e
    · cases e
end
mutual
theorem rp_facts : ∀ (d : D) (p : PyData), Fin' d → D.rp d = some p → p.showable = true ∧ p.depth ≤ dep d ∧ (noLD d = true → noL p = true) ∧ (noDD d = true → p.hasDict = false)
  | .non, p, _, e => by simp only [D.rp, Option.some.injEq] at e; subst e; simp [PyData.showable, PyData.depth, noL, PyData.hasDict]
  | .bl _, p, _, e => by simp only [D.rp, Option.some.injEq] at e; subst e; simp [PyData.showable, PyData.depth, noL, PyData.hasDict]
  | .int i, p, h, e => by
    simp only [D.rp, Option.some.injEq] at e; subst e
    refine ⟨?_, by simp [PyData.depth], fun _ => rfl, fun _ => by simp [PyData.hasDict]⟩
    simp only [PyData.showable]
    exact decide_eq_true (log_of h)
  | .str _, p, _, e => by simp only [D.rp, Option.some.injEq] at e; subst e; simp [PyData.showable, PyData.depth, noL, PyData.hasDict]
  | .lst xs, p, h, e => by
    simp only [D.rp] at e
    split at e
    · rename_i ps q
      cases e
      obtain ⟨h1, h2, h3, h4⟩ := rps_facts xs ps (by simpa only [Fin'] using h) q
      refine ⟨by simpa only [PyData.showable] using h1, by simp only [PyData.depth, dep]; omega, fun z => by simp [noLD] at z, fun z => ?_⟩
      simp only [PyData.hasDict]
      exact h4 (by simpa only [noDD] using z)
    · cases e
  | .rol xs, p, h, e => by
    simp only [D.rp] at e
    split at e
    · rename_i ps q
      cases e
      obtain ⟨h1, h2, h3, h4⟩ := rps_facts xs ps (by simpa only [Fin'] using h) q
      refine ⟨by simpa only [PyData.showable] using h1, by simp only [PyData.depth, dep]; omega, fun z => by simp [noLD] at z, fun z => ?_⟩
      simp only [PyData.hasDict]
      exact h4 (by simpa only [noDD] using z)
    · cases e
  | .tup xs, p, h, e => by
    simp only [D.rp] at e
    split at e
    · rename_i ps q
      cases e
      obtain ⟨h1, h2, h3, h4⟩ := rps_facts xs ps (by simpa only [Fin'] using h) q
      refine ⟨by simpa only [PyData.showable] using h1, by simp only [PyData.depth, dep]; omega, fun z => ?_, fun z => ?_⟩
      · simp only [noL]
        exact h3 (by simpa only [noLD] using z)
      · simp only [PyData.hasDict]
        exact h4 (by simpa only [noDD] using z)
    · cases e
  | .dic xs, p, h, e => by
    simp only [D.rp] at e
    split at e
    · rename_i ps q
      cases e
      obtain ⟨h1, h2, h3⟩ := rpk_facts xs ps (by simpa only [Fin'] using h) q
      refine ⟨by simpa only [PyData.showable] using h1, by simp only [PyData.depth, dep]; omega, fun z => ?_, fun z => by simp [noDD] at z⟩
      simp only [noL]
      exact h3 (by simpa only [noLD] using z)
    · cases e
  | .exc _ _, p, h, e => by simp only [Fin'] at h
theorem rps_facts : ∀ (ds : List D) (ps : List PyData), Fins ds → D.rps ds = some ps → PyData.showableAll ps = true ∧ PyData.depthAll ps ≤ deps ds ∧ (noLDs ds = true → noLs ps = true) ∧ (noDDs ds = true → PyData.hasDictAll ps = false)
  | [], ps, _, e => by simp only [D.rps, Option.some.injEq] at e; subst e; simp [PyData.showableAll, PyData.depthAll, noLs, PyData.hasDictAll]
  | d :: ds, ps, h, e => by
    simp only [Fins] at h
    simp only [D.rps] at e
    split at e
    · rename_i p q1
      split at e
      · rename_i qs q2
        cases e
        obtain ⟨a1, a2, a3, a4⟩ := rp_facts d p h.1 q1
        obtain ⟨b1, b2, b3, b4⟩ := rps_facts ds qs h.2 q2
        refine ⟨by simp only [PyData.showableAll, a1, b1, Bool.and_self], by simp only [PyData.depthAll, deps]; omega, fun z => ?_, fun z => ?_⟩
        · simp only [noLDs, Bool.and_eq_true] at z
          simp only [noLs, a3 z.1, b3 z.2, Bool.and_self]
        · simp only [noDDs, Bool.and_eq_true] at z
          simp only [PyData.hasDictAll, a4 z.1, b4 z.2, Bool.or_self]
      · cases e
    · cases e
theorem rpk_facts : ∀ (ds : List (Key × D)) (ps : List (PyData × PyData)), Fink ds → D.rpk ds = some ps → PyData.showableKv ps = true ∧ PyData.depthKv ps ≤ depk ds ∧ (noLDk ds = true → noLk ps = true)
  | [], ps, _, e => by simp only [D.rpk, Option.some.injEq] at e; subst e; simp [PyData.showableKv, PyData.depthKv, noLk]
  | d :: ds, ps, h, e => by
    simp only [Fink] at h
    simp only [D.rpk] at e
    split at e
    · rename_i p q1
      split at e
      · rename_i qs q2
        cases e
        obtain ⟨a1, a2, a3, _⟩ := rp_facts d.2 p h.1.2 q1
        obtain ⟨b1, b2, b3⟩ := rpk_facts ds qs h.2 q2
        have k1 : (keyP d.1).showable = true := by
          cases hk : d.1 with
          | inl i =>
            have := h.1.1
            rw [hk] at this
            simp only [keyP, PyData.showable]
            exact decide_eq_true (log_of this)
          | inr x => simp only [keyP, PyData.showable]
        have k2 : (keyP d.1).depth = 0 := by cases d.1 <;> simp [keyP, PyData.depth]
        refine ⟨by simp only [PyData.showableKv, k1, a1, b1, Bool.and_self], by simp only [PyData.depthKv, depk, k2]; omega, fun z => ?_⟩
        simp only [noLDk, Bool.and_eq_true] at z
        simp only [noLk, a3 z.1, b3 z.2, Bool.and_self]
      · cases e
    · cases e
end
/-- small data can be shown -/
theorem sho_of {d : D} (h : Fin' d) (hw : wt d ≤ 16777216) (hd : dep d ≤ 50) (hn : noLD d = true ∨ noDD d = true) : ∃ p, D.rp d = some p ∧ shOk p = true := by
  obtain ⟨p, e⟩ := rp_some d h
  obtain ⟨a1, a2, a3, a4⟩ := rp_facts d p h e
  have := shown_le d p h e
  refine ⟨p, e, ?_⟩
  have k : (!p.hasDict || noL p) = true := by
    rcases hn with z | z
    · rw [a3 z, Bool.or_true]
    · rw [a4 z]; rfl
  simp only [shOk, a1, k, Bool.true_and]
  rw [decide_eq_true (show p.depth ≤ 50 by omega), decide_eq_true (show p.shown.length ≤ 16777216 by omega)]
  rfl
end Mx

set_option Elab.async false
set_option linter.all false
set_option maxRecDepth 100000
namespace Mx
open PySem PySem.Spec PyProof.Rows L2
/-! ### more steps -/
variable {f g h c fe fo fi : Mm} {a b body : Ms} {s s1 : S} {r r1 r2 ro : Rv} {d d1 d2 : D} {e : Str} {rs : List Rv} {i j : Nat} {k : Int} {ms : List Mm} {xs ys ds : List D} {tm : Tm}
theorem own_bs : ownAt s (.bs i) = kCs s.sl[i]? := rfl
theorem own_bp : ownAt s (.bp i) = kCs s.pr[i]? := rfl
theorem put_bs : putAt s d (.bs i) = ⟨s.sl.set i (.ow d), s.pr⟩ := rfl
theorem put_bp : putAt s d (.bp i) = ⟨s.sl, s.pr.set i (.ow d)⟩ := rfl
def kI4 (ro : Rv) (d : D) (xs : List D) (s : S) : Option Nat → SR
  | some j => .nx (putAt s (.lst (xs.set j d)) ro)
  | none => .no
def kI3 (ro : Rv) (k : Int) (d : D) (s : S) : Option D → SR
  | some (.lst xs) => kI4 ro d xs s (ixN xs.length k)
  | _ => .no
def kI2 (ro : Rv) (k : Int) : Option (D × S) → SR
  | some (d, s4) => kI3 ro k d s4 (ownAt s4 ro)
  | none => .no
def kI1 (r ro : Rv) (s : S) : Option D → SR
  | some (.int k) => kI2 ro k (esc s r)
  | _ => .no
theorem ap_setIx : mSetIx fe fo fi s = (fe s).thn fun r s1 => (fo s1).thn fun ro s2 => (fi s2).thn fun ri s3 => kI1 r ro s3 (rd s3 ri) := by
  first
    | rfl
    | (
      unfold mSetIx
      congr 1
      funext r s1
      congr 1
      funext ro s2
      congr 1
      funext ri s3
      unfold kI1
      split
      · unfold kI2 kI3 kI4
        split <;> rename_i q <;> rw [q]
        rename_i d s4
        simp only
        split <;> rename_i q <;> rw [q]
        split <;> rename_i q <;> rw [q]
      · split <;> simp_all)
theorem kI1_s : kI1 r ro s (some (.int k)) = kI2 ro k (esc s r) := rfl
theorem kI2_s : kI2 ro k (some (d, s)) = kI3 ro k d s (ownAt s ro) := rfl
theorem kI3_s : kI3 ro k d s (some (.lst xs)) = kI4 ro d xs s (ixN xs.length k) := rfl
theorem kI4_s : kI4 ro d xs s (some j) = .nx (putAt s (.lst (xs.set j d)) ro) := rfl
/-! methods that write -/
variable {op : List D → List D → Option (D × List D)}
def kM4 (r : Rv) (s : S) : Option (D × List D) → Res
  | some (d, ys) => .ok (.sh d) (putAt s (.lst ys) r)
  | none => .no
def kM3 (op : List D → List D → Option (D × List D)) (r : Rv) (ds : List D) (s : S) : Option D → Res
  | some (.lst xs) => kM4 r s (op xs ds)
  | _ => .no
def kM2 (op : List D → List D → Option (D × List D)) (r : Rv) : Option (List D × S) → Res
  | some (ds, s3) => kM3 op r ds s3 (ownAt s3 r)
  | none => .no
def kM1 (op : List D → List D → Option (D × List D)) (r : Rv) (fs : List Mm) (s1 : S) : Bool → Res
  | true => (mArgs fs s1).bind fun rs s2 => kM2 op r (escs s2 rs)
  | false => .no
theorem ap_mut : mMut op f ms s = (f s).bind fun r s1 => kM1 op r ms s1 (isL (ownAt s1 r)) := by
  unfold mMut
  congr 1
  funext r s1
  cases isL (ownAt s1 r) with
  | false => rfl
  | true => rfl
theorem isL_l : isL (some (.lst xs)) = true := rfl
theorem kM1_t : kM1 op r ms s true = (mArgs ms s).bind fun rs s2 => kM2 op r (escs s2 rs) := rfl
theorem kM2_s : kM2 op r (some (ds, s)) = kM3 op r ds s (ownAt s r) := rfl
theorem kM3_s : kM3 op r ds s (some (.lst xs)) = kM4 r s (op xs ds) := rfl
theorem kM4_s : kM4 r s (some (d, ys)) = .ok (.sh d) (putAt s (.lst ys) r) := rfl
/-! loops -/
def kFr2 (tm : Tm) (body : Ms) (s : S) : Option (Int × Nat) → SR
  | some (lo, n) => forL tm body (upFrom lo n) s
  | none => .no
def kFr (rg : List D → Option (Int × Nat)) (tm : Tm) (body : Ms) (s : S) : Option (List D) → SR
  | some ds => kFr2 tm body s (rg ds)
  | none => .no
theorem ap_forR {rg : List D → Option (Int × Nat)} : mForR rg ms tm body s = (mArgs ms s).thn fun rs s1 => kFr rg tm body s1 (rds s1 rs) := rfl
theorem kFr_s {rg : List D → Option (Int × Nat)} : kFr rg tm body s (some ds) = kFr2 tm body s (rg ds) := rfl
theorem kFr2_s {lo : Int} {n : Nat} : kFr2 tm body s (some (lo, n)) = forL tm body (upFrom lo n) s := rfl
def kFo2 (tm : Tm) (body : Ms) (s : S) : Option (List D) → SR
  | some ds => forL tm body ds s
  | none => .no
def kFo (tm : Tm) (body : Ms) : Option (D × S) → SR
  | some (d, s) => kFo2 tm body s (itemsOf d)
  | none => .no
theorem ap_for : mFor f tm body s = (f s).thn fun r s1 => kFo tm body (esc s1 r) := rfl
theorem kFo_s : kFo tm body (some (d, s)) = kFo2 tm body s (itemsOf d) := rfl
theorem kFo2_s : kFo2 tm body s (some ds) = forL tm body ds s := rfl
theorem rng1_eq (h1 : -(2 ^ 62) ≤ k) (h2 : k < 2 ^ 62) : rng1 [.int k] = some (0, k.toNat) := if_pos ⟨h1, h2⟩
/-- a loop that runs to its end -/
theorem for_inv {I : Nat → S → Prop} : ∀ {ds : List D} {s : S} (k : Nat), I k s → (∀ i d s, ds[i]? = some d → I (k + i) s → ∃ s1 s2, tm d s = some s1 ∧ body s1 = .nx s2 ∧ I (k + i + 1) s2) → ∃ s', forL tm body ds s = .nx s' ∧ I (k + ds.length) s'
  | [], s, k, h, _ => ⟨s, rfl, h⟩
  | d :: ds, s, k, h, hs => by
    obtain ⟨s1, s2, e1, e2, h2⟩ := hs 0 d s rfl h
    obtain ⟨s', e3, h3⟩ := for_inv (ds := ds) (s := s2) (k + 1) h2 fun i d s hd hi => by
      have z : k + 1 + i = k + (i + 1) := by omega
      rw [z] at hi ⊢
      exact hs (i + 1) d s (by simpa using hd) hi
    refine ⟨s', ?_, ?_⟩
    · rw [forL, e1]
      simp only [e2]
      exact e3
    · have z : k + (d :: ds).length = k + 1 + ds.length := by simp only [List.length_cons]; omega
      rw [z]; exact h3
/-! a, b = .. -/
def kP2 : Option S → SR
  | some s3 => .nx s3
  | none => .no
def kP1 (is : List Nat) : Option (List Rv × S) → SR
  | some (l, s2) => kP2 (putL s2 is l)
  | none => .no
theorem ap_par {is : List Nat} : mPar is ms s = (mArgs ms s).thn fun rs s1 => kP1 is (fixL s1 rs) := rfl
theorem kP1_s {is : List Nat} {l : List Rv} : kP1 is (some (l, s)) = kP2 (putL s is l) := rfl
theorem kP2_s : kP2 (some s) = .nx s := rfl
def kX (r : Rv) : Option (List Rv × S) → Option (List Rv × S)
  | some (l, s') => some (r :: l, s')
  | none => none
theorem fixL_nil : fixL s [] = some ([], s) := rfl
theorem fixL_sh : fixL s (.sh d :: rs) = kX (.sh d) (fixL s rs) := by
  rw [fixL]; cases fixL s rs <;> rfl
theorem fixL_fr : fixL s (.fr d :: rs) = kX (.fr d) (fixL s rs) := by
  rw [fixL]; cases fixL s rs <;> rfl
theorem kX_s {l : List Rv} : kX r (some (l, s)) = some (r :: l, s) := rfl
theorem putL_nil : putL s [] [] = some s := rfl
theorem putL_sh {is : List Nat} : putL s (i :: is) (.sh d :: rs) = putL ⟨s.sl.set i (.sh d), s.pr⟩ is rs := rfl
theorem putL_fr {is : List Nat} : putL s (i :: is) (.fr d :: rs) = putL ⟨s.sl.set i (.ow d), s.pr⟩ is rs := rfl
/-! slices -/
def kPi (s : S) : Option D → Res
  | some (.int i) => .ok (.sh (.int i)) s
  | _ => .no
theorem part_n : mPart none s = .ok (.sh .non) s := rfl
theorem part_s : mPart (some f) s = (f s).bind fun r s1 => kPi s1 (rd s1 r) := rfl
theorem kPi_s : kPi s (some (.int k)) = .ok (.sh (.int k)) s := rfl
theorem ap_sl {lo hi : Option Mm} : mSl f lo hi s = (f s).bind fun r1 s1 => (mPart lo s1).bind fun r2 s2 => (mPart hi s2).bind fun r3 s3 => kD (fun d => dSl d (partI r2) (partI r3)) s3 (rd s3 r1) := by
  first
    | rfl
    | (
      unfold mSl
      congr 1
      funext r1 s1
      congr 1
      funext r2 s2
      congr 1
      funext r3 s3
      cases rd s3 r1 with
      | none => rfl
      | some d => simp only [kD]; cases dSl d (partI r2) (partI r3) <;> rfl)
theorem partI_i : partI (.sh (.int k)) = some k := rfl
theorem partI_n : partI (.sh .non) = none := rfl
/-! dicts, keywords, errors -/
def kDi3 (k : Key) : Option (D × S) → Res
  | some (d, s3) => .ok (.fr (.dic [(k, d)])) s3
  | none => .no
def kDi2 (rv : Rv) (s : S) : Option Key → Res
  | some k => kDi3 k (esc s rv)
  | none => .no
def kDi (rv : Rv) (s : S) : Option D → Res
  | some dk => kDi2 rv s (keyOf dk)
  | none => .no
theorem ap_dic0 : mDic0 s = .ok (.fr (.dic [])) s := rfl
theorem ap_dic1 : mDic1 f g s = (f s).bind fun rk s1 => (g s1).bind fun rv s2 => kDi rv s2 (rd s2 rk) := rfl
theorem kDi_s : kDi r s (some d) = kDi2 r s (keyOf d) := rfl
theorem kDi2_s {q : Key} : kDi2 r s (some q) = kDi3 q (esc s r) := rfl
theorem kDi3_s {q : Key} : kDi3 q (some (d, s)) = .ok (.fr (.dic [(q, d)])) s := rfl
theorem keyOf_i : keyOf (.int k) = some (.inl k) := rfl
theorem mCallR_eq {F : Fn} : mCallR F rs s = kC1 F rs s (argCs s rs) := by
  first
    | rfl
    | (
      unfold mCallR kC1
      cases argCs s rs with
      | none => rfl
      | some as =>
        simp only
        congr 1
        cases F as with
        | ret rv pr => cases rv <;> first | rfl | (simp only [kC2, kC3]; cases putB rs as pr s <;> rfl)
        | ex c x pr => rfl
        | no => rfl)
def kCk (F : Fn) (π : List Nat) (s : S) : Option (List Rv) → Res
  | some qs => if nodupB π = true then mCallR F qs s else .no
  | none => .no
theorem ap_callK {F : Fn} {π : List Nat} : mCallK F π ms s = (mArgs ms s).bind fun rs s1 => kCk F π s1 (permL rs π) := rfl
theorem kCk_s {F : Fn} {π : List Nat} : kCk F π s (some rs) = if nodupB π = true then mCallR F rs s else .no := rfl
theorem perm1 : permL [r] [0] = some [r] := rfl
theorem nodup1 : nodupB [0] = true := rfl
def kX1 (c : Str) : Option (List D × S) → Res
  | some ([d], s2) => .ok (.sh (.exc c [("given", d)])) s2
  | _ => .no
theorem ap_exc : mExc e f s = (mArgs [f] s).bind fun rs s1 => kX1 e (escs s1 rs) := by
  unfold mExc
  congr 1
theorem kX1_s : kX1 e (some ([d], s)) = .ok (.sh (.exc e [("given", d)])) s := rfl
end Mx

set_option Elab.async false
set_option linter.all false
set_option maxRecDepth 100000
set_option maxHeartbeats 4000000
namespace K01
open PySem PySem.Spec PyProof.Rows L2 Mx

def b_is_integer : Ms := mRet (mAnd (mUn (opIsi "int") (mVar 0)) (mNot (mUn (opIsi "bool") (mVar 0))))
def f_is_integer : Fn := mFn 1 1 b_is_integer

def b_is_count : Ms := mRet (mAnd (mCall f_is_integer [mVar 0]) (mBin dGe (mVar 0) (mC (.int 0))))
def f_is_count : Fn := mFn 1 1 b_is_count

def b_is_within : Ms := mRet (mAnd (mCall f_is_integer [mVar 0]) (mChain dLe dLe (mVar 1) (mVar 0) (mVar 2)))
def f_is_within : Fn := mFn 3 3 b_is_within

def b_is_index : Ms := mRet (mAnd (mCall f_is_integer [mVar 0]) (mChain dLe dLt (mC (.int 0)) (mVar 0) (mVar 1)))
def f_is_index : Fn := mFn 2 2 b_is_index

def b_is_tuple : Ms := mRet (mAnd (mUn (opIsi "tuple") (mVar 0)) (mBin dEq (mBl (op1 dLen) [mVar 0]) (mVar 1)))
def f_is_tuple : Fn := mFn 2 2 b_is_tuple

def b_in_order : Ms := mRet (mBl (op1 dAll) [mLcR rng1 [1] (tNm 1) (mYes) (mBin dLeA (mBin dIx (mVar 0) (mVar 1)) (mBin dIx (mVar 0) (mBin dAdd (mVar 1) (mC (.int 1))))) [mBin dSub (mBl (op1 dLen) [mVar 0]) (mC (.int 1))]])
def f_in_order : Fn := mFn 1 2 b_in_order

def b_is_tie : Ms := mSeq (mIf (mOr (mNot (mCall f_is_tuple [mVar 1, mC (.int 4)])) (mOr (mNot (mCall f_is_index [mBin dIx (mVar 1) (mC (.int 0)), mVar 0])) (mNot (mCall f_is_index [mBin dIx (mVar 1) (mC (.int 1)), mVar 0])))) (mRet (mC (.bl false))) (mNx)) (mSeq (mAsg (mVar 1) (tTp [tNm 2, tNm 3, tNm 4, tNm 5])) (mRet (mAnd (mBin dNe (mVar 2) (mVar 3)) (mAnd (mCall f_is_count [mVar 4]) (mAnd (mBin dGt (mVar 4) (mC (.int 0))) (mCall f_is_count [mVar 5]))))))
def f_is_tie : Fn := mFn 2 6 b_is_tie

def b_is_net : Ms := mSeq (mIf (mOr (mNot (mCall f_is_tuple [mVar 0, mC (.int 2)])) (mNot (mCall f_is_within [mBin dIx (mVar 0) (mC (.int 0)), mC (.int 1), mC (.int 20)]))) (mRet (mC (.bl false))) (mNx)) (mSeq (mAsg (mVar 0) (tTp [tNm 1, tNm 2])) (mSeq (mIf (mOr (mNot (mUn (opIsi "tuple") (mVar 2))) (mBin dGt (mBl (op1 dLen) [mVar 2]) (mC (.int 120)))) (mRet (mC (.bl false))) (mNx)) (mRet (mAnd (mBl (op1 dAll) [mLc [3] (tNm 3) (mYes) (mCall f_is_tie [mVar 1, mVar 3]) (mVar 2)]) (mCall f_in_order [mVar 2])))))
def f_is_net : Fn := mFn 1 4 b_is_net

def b_law_cell : Ms := mRet (mIfE (mBin dLtA (mVar 1) (mBl (op1 dLen) [mVar 0])) (mBin dIx (mVar 0) (mVar 1)) (mBin dAdd (mBin dMul (mC (.int 7919)) (mVar 1)) (mBin dMod (mBl (op1 dInt) [mBl (op1 dSum) [mSl (mVar 0) none (some (mC (.int 1)))]]) (mC (.int 1000003)))))
def f_law_cell : Fn := mFn 2 2 b_law_cell

def b_law_box : Ms := mRet (mLst [mBl (op1 dAbs) [mVar 0], mBin dGe (mBl (op1 dAbs) [mVar 0]) (mBin dPow (mC (.int 10)) (mC (.int 18))), mBin dMod (mBl (op1 dInt) [mBl (op1 dAbs) [mVar 0]]) (mC (.int 2147483629)), mC (.int 0)])
def f_law_box : Fn := mFn 1 1 b_law_box

def b_law_take : Ms := mSeq (mIf (mAnd (mBin dIx (mVar 0) (mC (.int 1))) (mBin dGt (mBin dIx (mVar 0) (mC (.int 0))) (mC (.int 0)))) (mSeq (mSet 2 (mBin dMod (mBl (op1 dInt) [mBin dIx (mVar 0) (mC (.int 0))]) (mVar 1))) (mSeq (mSetIx (mBin dFdiv (mBin dIx (mVar 0) (mC (.int 0))) (mVar 1)) (mVar 0) (mC (.int 0))) (mRet (mVar 2)))) (mNx)) (mSeq (mSetIx (mBin dAdd (mBin dIx (mVar 0) (mC (.int 3))) (mC (.int 1))) (mVar 0) (mC (.int 3))) (mSeq (mSet 3 (mBin dMod (mBl (op1 dInt) [mBin dPow (mBin dAdd (mBin dAdd (mBin dIx (mVar 0) (mC (.int 2))) (mBin dMul (mC (.int 15485867)) (mBin dIx (mVar 0) (mC (.int 3))))) (mC (.int 179425033))) (mC (.int 5))]) (mC (.int 2147483647)))) (mRet (mBin dMod (mBl (op1 dInt) [mBin dFdiv (mBin dMod (mBl (op1 dInt) [mBin dPow (mBin dAdd (mBin dMul (mVar 3) (mC (.int 48271))) (mBin dMul (mC (.int 7919)) (mBin dIx (mVar 0) (mC (.int 3))))) (mC (.int 3))]) (mC (.int 2147483587))) (mC (.int 64))]) (mVar 1)))))
def f_law_take : Fn := mFn 2 4 b_law_take

def b_law_same (R : Fn) : Ms := mSeq (mIf (mOr (mBin dIsNone (mVar 1) (mC .non)) (mUn (opIsi "bool") (mVar 1))) (mRet (mIfE (mBin dIsNone (mVar 1) (mC .non)) (mBin dIsNone (mVar 0) (mC .non)) (mAnd (mUn (opIsi "bool") (mVar 0)) (mBin dEq (mBin dIsNone (mVar 0) (mC (.bl true))) (mBin dIsNone (mVar 1) (mC (.bl true))))))) (mNx)) (mSeq (mIf (mUn (opIsi "int") (mVar 1)) (mRet (mAnd (mUn (opIsi "int") (mVar 0)) (mAnd (mNot (mUn (opIsi "bool") (mVar 0))) (mBin dEq (mBin dSub (mBl (op1 dInt) [mVar 0]) (mVar 1)) (mC (.int 0)))))) (mNx)) (mSeq (mIf (mUn (opIsi "str") (mVar 1)) (mRet (mAnd (mUn (opIsi "str") (mVar 0)) (mAnd (mBin dEq (mBl (op1 dLen) [mVar 0]) (mBl (op1 dLen) [mVar 1])) (mBin dEq (mLcR rng1 [2] (tNm 2) (mBin dNe (mSl (mVar 0) (some (mVar 2)) (some (mBin dAdd (mVar 2) (mC (.int 1))))) (mBin dIx (mVar 1) (mVar 2))) (mVar 2) [mBl (op1 dLen) [mVar 1]]) (mLst []))))) (mNx)) (mSeq (mIf (mOr (mBin dNe (mUn (opIsi "list") (mVar 0)) (mUn (opIsi "list") (mVar 1))) (mBin dNe (mUn (opIsi "tuple") (mVar 0)) (mUn (opIsi "tuple") (mVar 1)))) (mRet (mC (.bl false))) (mNx)) (mRet (mAnd (mBin dEq (mBl (op1 dLen) [mVar 0]) (mBl (op1 dLen) [mVar 1])) (mBin dEq (mLcR rng1 [2] (tNm 2) (mNot (mCall R [mBin dIx (mVar 0) (mVar 2), mBin dIx (mVar 1) (mVar 2)])) (mVar 2) [mBl (op1 dLen) [mVar 1]]) (mLst [])))))))
def n_law_same : Nat → Fn
  | 0 => fun _ => .no
  | n + 1 => mFn 2 3 (b_law_same (n_law_same n))
def f_law_same : Fn := n_law_same 1

def b_law_is_int : Ms := mRet (mAnd (mUn (opIsi "int") (mVar 0)) (mNot (mUn (opIsi "bool") (mVar 0))))
def f_law_is_int : Fn := mFn 1 1 b_law_is_int

def b_law_is_tie : Ms := mSeq (mIf (mOr (mNot (mUn (opIsi "tuple") (mVar 0))) (mOr (mBin dNe (mBl (op1 dLen) [mVar 0]) (mC (.int 4))) (mBin dNe (mLc [2] (tNm 2) (mNot (mCall f_law_is_int [mVar 2])) (mVar 2) (mVar 0)) (mLst [])))) (mRet (mC (.bl false))) (mNx)) (mSeq (mAsg (mVar 0) (tTp [tNm 3, tNm 4, tNm 5, tNm 6])) (mRet (mAnd (mChain dLe dLt (mC (.int 0)) (mVar 3) (mVar 1)) (mAnd (mChain dLe dLt (mC (.int 0)) (mVar 4) (mVar 1)) (mAnd (mBin dNe (mVar 3) (mVar 4)) (mAnd (mBin dGt (mVar 5) (mC (.int 0))) (mBin dGe (mVar 6) (mC (.int 0)))))))))
def f_law_is_tie : Fn := mFn 2 7 b_law_is_tie

def b_law_is_net : Ms := mSeq (mIf (mOr (mNot (mUn (opIsi "tuple") (mVar 0))) (mOr (mBin dNe (mBl (op1 dLen) [mVar 0]) (mC (.int 2))) (mOr (mNot (mCall f_law_is_int [mBin dIx (mVar 0) (mC (.int 0))])) (mNot (mChain dLe dLe (mC (.int 1)) (mBin dIx (mVar 0) (mC (.int 0))) (mC (.int 20))))))) (mRet (mC (.bl false))) (mNx)) (mSeq (mAsg (mVar 0) (tTp [tNm 1, tNm 2])) (mSeq (mIf (mOr (mNot (mUn (opIsi "tuple") (mVar 2))) (mOr (mBin dGt (mBl (op1 dLen) [mVar 2]) (mC (.int 120))) (mBin dNe (mLc [3] (tNm 3) (mNot (mCall f_law_is_tie [mVar 3, mVar 1])) (mVar 3) (mVar 2)) (mLst [])))) (mRet (mC (.bl false))) (mNx)) (mRet (mBin dEq (mLcR rng1 [4] (tNm 4) (mBin dLtA (mBin dIx (mVar 2) (mBin dAdd (mVar 4) (mC (.int 1)))) (mBin dIx (mVar 2) (mVar 4))) (mVar 4) [mBin dSub (mBl (op1 dLen) [mVar 2]) (mC (.int 1))]) (mLst [])))))
def f_law_is_net : Fn := mFn 1 5 b_law_is_net

def b_law_bad_numbers : Ms := mSeq (mSet 1 (mLst [mC (.int 0), mUn dNeg (mC (.int 1)), mUn dNeg (mVar 0), mC (.bl true), mC (.bl false), mBin dAdd (mVar 0) (mC (.int 1)), mC .non, mBl (op1 dStr) [mVar 0], mTup [mVar 0], mLst [mVar 0], mDic1 (mVar 0) (mC (.int 1)), mC (.str ""), mTup [], mLst []])) (mRet (mBin dAdd (mVar 1) (mLst [mC (.str "0"), mTup [mC (.bl true)], mLst [mC .non], mDic0])))
def f_law_bad_numbers : Fn := mFn 1 2 b_law_bad_numbers

def b_law_bad_ends : Ms := mSeq (mSet 3 (mLst [mTup [mVar 1, mVar 0], mTup [mVar 0, mVar 0], mTup [mVar 1, mVar 1], mTup [mUn dNeg (mC (.int 1)), mVar 1], mTup [mVar 0, mUn dNeg (mC (.int 1))], mTup [mVar 0, mVar 2], mTup [mVar 2, mVar 1], mTup [mBin dSub (mVar 0) (mVar 2), mVar 1], mTup [mVar 0, mBin dSub (mVar 1) (mVar 2)], mTup [mBin dAdd (mVar 2) (mC (.int 7)), mVar 1]])) (mRet (mBin dAdd (mVar 3) (mLst [mTup [mC (.bl true), mVar 1], mTup [mVar 0, mC (.bl true)], mTup [mC (.bl false), mVar 1], mTup [mVar 0, mC (.bl false)], mTup [mVar 0, mBin dPow (mC (.int 10)) (mC (.int 39))], mTup [mUn dNeg (mBin dPow (mC (.int 10)) (mC (.int 39))), mVar 1]])))
def f_law_bad_ends : Fn := mFn 3 4 b_law_bad_ends

def b_law_bad_ties : Ms := mSeq (mAsg (mVar 0) (tTp [tNm 1, tNm 2, tNm 3, tNm 4])) (mSeq (mSet 5 (mLst [mBl (op1 dList) [mVar 0], mTup [mVar 1, mVar 2, mVar 3], mTup [mVar 1, mVar 2, mVar 3, mVar 4, mVar 4], mTup [mVar 1, mVar 2], mTup [mTup [mVar 1, mVar 2], mVar 3, mVar 4], mTup [mVar 1, mVar 2, mTup [mVar 3, mVar 4]], mC .non])) (mSeq (mSet 5 (mBin dAdd (mVar 5) (mLst [mDic1 (mVar 1) (mVar 2), mC (.str "tie 0 1 1 0"), mTup [], mTup [mC .non, mVar 2, mVar 3, mVar 4], mTup [mVar 1, mBl (op1 dStr) [mVar 2], mVar 3, mVar 4], mTup [mTup [mVar 1], mVar 2, mVar 3, mVar 4]]))) (mRet (mBin dAdd (mVar 5) (mLst [mTup [mVar 1, mLst [mVar 2], mVar 3, mVar 4], mTup [mVar 0], mVar 1, mC (.bl true), mLst [mVar 0], mTup [mVar 1, mVar 2, mVar 3, mC .non], mTup [mC (.str ""), mVar 2, mVar 3, mVar 4], mDic0])))))
def f_law_bad_ties : Fn := mFn 1 6 b_law_bad_ties

def b_law_bad_wholes : Ms := mSeq (mAsg (mVar 0) (tTp [tNm 1, tNm 2])) (mSeq (mSet 3 (mBl (op1 dMaxL) [mBin dAdd (mLst [mC (.int 0)]) (mLc [4] (tNm 4) (mYes) (mBl (op2 dMax2) [mBin dIx (mVar 4) (mC (.int 0)), mBin dIx (mVar 4) (mC (.int 1))]) (mVar 2))])) (mSeq (mSet 5 (mLst [mTup [mC (.int 0), mVar 2], mTup [mC (.int 21), mVar 2], mTup [mUn dNeg (mC (.int 1)), mVar 2], mTup [mC (.bl true), mVar 2], mTup [mBl (op1 dStr) [mVar 1], mVar 2], mTup [mC .non, mVar 2], mTup [mTup [mVar 1], mVar 2], mTup [mVar 3, mVar 2]])) (mSeq (mSet 5 (mBin dAdd (mVar 5) (mLst [mTup [mC (.int 20), mVar 2], mTup [mBin dPow (mC (.int 10)) (mC (.int 39)), mVar 2], mTup [mC (.bl false), mTup []], mTup [mC (.int 0), mTup []], mTup [mC (.int 21), mTup []], mTup [mC (.int 20), mTup []], mTup [mVar 1, mBl (op1 dList) [mVar 2]], mLst [mVar 1, mVar 2]]))) (mSeq (mSet 5 (mBin dAdd (mVar 5) (mLst [mTup [mVar 1], mTup [mVar 1, mVar 2, mVar 2], mTup [mVar 2, mVar 1], mTup [mVar 0], mC .non, mDic0, mC (.str "places 3"), mVar 1, mVar 2, mTup [], mLst [], mDic1 (mVar 1) (mVar 2)]))) (mRet (mBin dAdd (mVar 5) (mLst [mTup [mVar 1, mTup [mVar 2]], mTup [mVar 1, mC .non], mTup [mVar 1, mC (.str "()")], mTup [mVar 1, mDic0], mC (.bl true), mLst [mVar 0], mC (.str ""), mTup [mVar 1, mTup [mTup [], mTup []]], mTup [mC (.bl true), mTup []]])))))))
def f_law_bad_wholes : Fn := mFn 1 6 b_law_bad_wholes

def b_law_put : Ms := mRet (mBin dAdd (mBin dAdd (mSl (mVar 0) none (some (mVar 1))) (mTup [mVar 2])) (mSl (mVar 0) (some (mBin dAdd (mVar 1) (mC (.int 1)))) none))
def f_law_put : Fn := mFn 3 3 b_law_put

def b_law_number : Ms := mSeq (mIf (mBin dEq (mCall f_law_take [mVar 0, mC (.int 12)]) (mC (.int 0))) (mRet (mBin dSub (mBin dSub (mBin dPow (mC (.int 10)) (mC (.int 40))) (mC (.int 3))) (mCall f_law_take [mVar 0, mC (.int 3)]))) (mNx)) (mRet (mBin dAdd (mVar 1) (mCall f_law_take [mVar 0, mC (.int 9)])))
def f_law_number : Fn := mFn 2 2 b_law_number

def b_law_net : Ms := mSeq (mSet 1 (mBin dIx (mLst [mC (.int 20), mC (.int 2), mC (.int 3), mC (.int 1), mC (.int 4), mC (.int 6), mC (.int 11), mC (.int 19)]) (mCall f_law_take [mVar 0, mC (.int 8)]))) (mSeq (mPar [2, 3] [mBin dIx (mLst [mC (.int 3), mC (.int 1), mC (.int 120), mC (.int 2), mC (.int 7), mC (.int 0), mC (.int 30), mC (.int 119)]) (mCall f_law_take [mVar 0, mC (.int 8)]), mCall f_law_take [mVar 0, mC (.int 4)]]) (mSeq (mSet 4 (mLst [])) (mSeq (mForR rng1 [mIfE (mBin dGt (mVar 1) (mC (.int 1))) (mVar 2) (mC (.int 0))] (tNm 5) (mSeq (mPar [6, 7] [mCall f_law_take [mVar 0, mVar 1], mCall f_law_take [mVar 0, mBin dSub (mVar 1) (mC (.int 1))]]) (mExpr (mMut dAppend (mVar 4) [mTup [mVar 6, mIfE (mBin dGe (mVar 7) (mVar 6)) (mBin dAdd (mVar 7) (mC (.int 1))) (mVar 7), mCall f_law_number [mVar 0, mC (.int 1)], mCall f_law_number [mVar 0, mC (.int 0)]]])))) (mSeq (mIf (mAnd (mBin dGt (mBl (op1 dLen) [mVar 4]) (mC (.int 1))) (mBin dLtA (mVar 3) (mC (.int 3)))) (mSeq (mAsg (mBin dIx (mVar 4) (mC (.int 0))) (tTp [tNm 6, tNm 7, tNm 8, tNm 9])) (mSetIx (mTup [mVar 6, mVar 7, mBin dAdd (mVar 8) (mBl (op1 dInt) [mBin dEq (mVar 3) (mC (.int 1))]), mBin dAdd (mVar 9) (mBl (op1 dInt) [mBin dEq (mVar 3) (mC (.int 2))])]) (mVar 4) (mC (.int 1)))) (mNx)) (mRet (mTup [mVar 1, mBl (op1 dTuple) [mBl (op1 dSortR) [mVar 4]]]))))))
def f_law_net : Fn := mFn 1 10 b_law_net

def b_law_all_spoilt : Ms := mSeq (mAsg (mVar 1) (tTp [tNm 2, tNm 3])) (mSeq (mSet 4 (mIfE (mBin dGt (mBl (op1 dLen) [mVar 3]) (mC (.int 8))) (mC (.int 8)) (mIfE (mBin dGt (mBl (op1 dLen) [mVar 3]) (mC (.int 3))) (mC (.int 4)) (mC (.int 1))))) (mSeq (mPar [5, 6] [mCall f_law_bad_wholes [mVar 1], mCall f_law_take [mVar 0, mVar 4]]) (mSeq (mIf (mBin dNe (mVar 3) (mTup [])) (mSeq (mSet 7 (mCall f_law_take [mVar 0, mBl (op1 dLen) [mVar 3]])) (mSeq (mAsg (mBin dIx (mVar 3) (mVar 7)) (tTp [tNm 8, tNm 9, tNm 10, tNm 11])) (mSeq (mForR rng1 [mC (.int 2)] (tNm 12) (mSeq (mSet 13 (mCall f_law_bad_numbers [mBin dIx (mLst [mVar 10, mVar 11]) (mVar 12)])) (mForR rng1 [mBl (op1 dLen) [mVar 13]] (tNm 14) (mSeq (mSet 15 (mCall f_law_put [mVar 3, mVar 7, mIfE (mBin dEq (mVar 12) (mC (.int 0))) (mTup [mVar 8, mVar 9, mBin dIx (mVar 13) (mVar 14), mVar 11]) (mTup [mVar 8, mVar 9, mVar 10, mBin dIx (mVar 13) (mVar 14)])])) (mExpr (mMut dAppend (mVar 5) [mTup [mVar 2, mIfE (mBin dLtA (mVar 14) (mC (.int 6))) (mBl (op1 dTuple) [mBl (op1 dSortR) [mVar 15]]) (mVar 15)]])))))) (mSeq (mFor (mCall f_law_bad_ends [mVar 8, mVar 9, mVar 2]) (tTp [tNm 16, tNm 17]) (mExpr (mMut dAppend (mVar 5) [mTup [mVar 2, mBl (op1 dTuple) [mBl (op1 dSortR) [mCall f_law_put [mVar 3, mVar 7, mTup [mVar 16, mVar 17, mVar 10, mVar 11]]]]]]))) (mSet 5 (mBin dAdd (mBin dAdd (mVar 5) (mLc [18] (tNm 18) (mYes) (mTup [mVar 2, mCall f_law_put [mVar 3, mVar 7, mVar 18]]) (mCall f_law_bad_ties [mBin dIx (mVar 3) (mVar 7)]))) (mLst [mTup [mVar 2, mUn dRev (mVar 3)]]))))))) (mNx)) (mSeq (mIf (mBin dGt (mBl (op1 dLen) [mVar 3]) (mC (.int 1))) (mSeq (mSet 7 (mCall f_law_take [mVar 0, mBin dSub (mBl (op1 dLen) [mVar 3]) (mC (.int 1))])) (mSet 5 (mBin dAdd (mVar 5) (mLst [mTup [mVar 2, mBin dAdd (mBin dAdd (mSl (mVar 3) none (some (mVar 7))) (mTup [mBin dIx (mVar 3) (mBin dAdd (mVar 7) (mC (.int 1))), mBin dIx (mVar 3) (mVar 7)])) (mSl (mVar 3) (some (mBin dAdd (mVar 7) (mC (.int 2)))) none)], mTup [mVar 2, mBin dAdd (mSl (mVar 3) (some (mBin dAdd (mVar 7) (mC (.int 1)))) none) (mSl (mVar 3) none (some (mBin dAdd (mVar 7) (mC (.int 1)))))]])))) (mNx)) (mSeq (mSet 5 (mLcC [14] (tNm 14) (mYes) (mBin dIx (mVar 5) (mVar 14)) [mVar 6, mBl (op1 dLen) [mVar 5], mVar 4])) (mSeq (mFor (mLst [mC (.int 120), mC (.int 121)]) (tNm 19) (mExpr (mMut dAppend (mVar 5) [mTup [mVar 2, mBl (op1 dTuple) [mBl (op1 dSortR) [mBin dAdd (mVar 3) (mBin dMul (mTup [mTup [mC (.int 0), mC (.int 1), mC (.int 1), mC (.int 0)]]) (mBin dSub (mVar 19) (mBl (op1 dLen) [mVar 3])))]]]]))) (mRet (mVar 5))))))))
def f_law_all_spoilt : Fn := mFn 2 20 b_law_all_spoilt

def b_law_asked_right : Ms := mSeq (mPar [2, 3] [mCall f_law_is_net [mVar 0], mBl (op1 dRepr) [mVar 0]]) (mSeq (mForR rng1 [mC (.int 2)] (tNm 4) (mSeq (mSet 5 (mIfE (mVar 1) (mCallK f_is_net [0] [mVar 0]) (mCall f_is_net [mVar 0]))) (mIf (mNot (mCall f_law_same [mVar 5, mVar 2])) (mRet (mC (.bl false))) (mNx)))) (mRet (mBin dEq (mBl (op1 dRepr) [mVar 0]) (mVar 3))))
def f_law_asked_right : Fn := mFn 2 6 b_law_asked_right

def b_law_cell_right : Ms := mSeq (mPar [1, 2, 3] [mBin dEq (mCall f_law_take [mVar 0, mC (.int 2)]) (mC (.int 1)), mCall f_law_take [mVar 0, mC (.int 2)], mCall f_law_net [mVar 0]]) (mSeq (mSet 4 (mBin dAdd (mBin dAdd (mLst [mVar 3]) (mCall f_law_all_spoilt [mVar 0, mVar 3])) (mLst [mCall f_law_net [mVar 0], mVar 3]))) (mSeq (mIf (mBin dEq (mVar 2) (mC (.int 1))) (mSet 4 (mUn dRev (mVar 4))) (mNx)) (mSeq (mIf (mBin dNe (mLc [5] (tNm 5) (mNot (mCall f_law_asked_right [mVar 5, mVar 1])) (mVar 5) (mVar 4)) (mLst [])) (mRet (mC (.bl false))) (mNx)) (mRet (mAnd (mCall f_law_same [mCall f_is_net [mExc "InvalidNet" (mVar 3)], mC (.bl false)]) (mCall f_law_same [mCall f_is_net [mTup [mBin dIx (mVar 3) (mC (.int 0)), mTup [mExc "InvalidNet" (mVar 3)]]], mC (.bl false)]))))))
def f_law_cell_right : Fn := mFn 1 6 b_law_cell_right

def b_law : Ms := mSeq (mForR rng1 [mBl (op2 dMax2) [mC (.int 2), mBl (op2 dMin2) [mC (.int 4), mBl (op1 dLen) [mVar 0]]]] (tNm 1) (mIf (mNot (mCall f_law_cell_right [mCall f_law_box [mCall f_law_cell [mVar 0, mVar 1]]])) (mRet (mC (.bl false))) (mNx))) (mRet (mC (.bl true)))
def f_law : Fn := mFn 1 2 b_law

end K01

set_option Elab.async false
set_option linter.all false
set_option maxRecDepth 100000
set_option maxHeartbeats 1000000
/-! the plain law of k01, first part: the program's judge and the law's own say the same -/
namespace K01
open PySem PySem.Spec PyProof.Rows L2 Mx
def isI : D → Bool
  | .int _ => true
  | _ => false
theorem is_integer_eq (d : D) : f_is_integer [.sh d] = .ret (.sh (.bl (isI d))) [.un] := by cases d <;> rfl
theorem law_is_int_eq (d : D) : f_law_is_int [.sh d] = .ret (.sh (.bl (isI d))) [.un] := by cases d <;> rfl
/-- lo ≤ d ≤ hi, lo ≤ d < hi -/
def inLe (lo hi : Int) : D → Bool
  | .int i => decide (lo ≤ i) && decide (i ≤ hi)
  | _ => false
def inLt (lo hi : Int) : D → Bool
  | .int i => decide (lo ≤ i) && decide (i < hi)
  | _ => false
theorem chain_le {a b c : Int} {f g h : Mm} {s : S} (hf : f s = .ok (.sh (.int a)) s) (hg : g s = .ok (.sh (.int b)) s) (hh : h s = .ok (.sh (.int c)) s) : mChain dLe dLe f g h s = .ok (.sh (.bl (decide (a ≤ b) && decide (b ≤ c)))) s := by
  simp only [mChain, hf, hg, hh, Res.bind, rd, dInt2]
  cases decide (a ≤ b) <;> simp
theorem chain_lt {a b c : Int} {f g h : Mm} {s : S} (hf : f s = .ok (.sh (.int a)) s) (hg : g s = .ok (.sh (.int b)) s) (hh : h s = .ok (.sh (.int c)) s) : mChain dLe dLt f g h s = .ok (.sh (.bl (decide (a ≤ b) && decide (b < c)))) s := by
  simp only [mChain, hf, hg, hh, Res.bind, rd, dInt2]
  cases decide (a ≤ b) <;> simp
theorem is_within_eq (d : D) (lo hi : Int) : f_is_within [.sh d, .sh (.int lo), .sh (.int hi)] = .ret (.sh (.bl (inLe lo hi d))) [.un, .un, .un] := by
  cases d with
  | int i =>
    have e := chain_le (f := mVar 1) (g := mVar 0) (h := mVar 2) (s := init 3 [.sh (.int i), .sh (.int lo), .sh (.int hi)]) (a := lo) (b := i) (c := hi) rfl rfl rfl
    show finS ((mChain dLe dLe (mVar 1) (mVar 0) (mVar 2) (init 3 [.sh (.int i), .sh (.int lo), .sh (.int hi)])).thn fun r s1 => .rt r s1) = _
    rw [e]
    rfl
  | _ => rfl
theorem is_index_eq (d : D) (hi : Int) : f_is_index [.sh d, .sh (.int hi)] = .ret (.sh (.bl (inLt 0 hi d))) [.un, .un] := by
  cases d with
  | int i =>
    have e := chain_lt (f := mC (.int 0)) (g := mVar 0) (h := mVar 1) (s := init 2 [.sh (.int i), .sh (.int hi)]) (a := 0) (b := i) (c := hi) rfl rfl rfl
    show finS ((mChain dLe dLt (mC (.int 0)) (mVar 0) (mVar 1) (init 2 [.sh (.int i), .sh (.int hi)])).thn fun r s1 => .rt r s1) = _
    rw [e]
    rfl
  | _ => rfl
def isCnt : D → Bool
  | .int i => decide (0 ≤ i)
  | _ => false
theorem is_count_eq (d : D) : f_is_count [.sh d] = .ret (.sh (.bl (isCnt d))) [.un] := by cases d <;> rfl
/-- a tuple of n items -/
def tupN (n : Int) : D → Bool
  | .tup xs => (xs.length : Int) == n
  | _ => false
theorem is_tuple_eq (d : D) (n : Int) : f_is_tuple [.sh d, .sh (.int n)] = .ret (.sh (.bl (tupN n d))) [.un, .un] := by cases d <;> rfl
/-- a tie between the places of which there are many -/
def tieB (many : Int) : D → Bool
  | .tup [.int a, .int b, .int room, .int price] => inLt 0 many (.int a) && (inLt 0 many (.int b) && (!(a == b) && (decide (0 ≤ room) && (decide (0 < room) && decide (0 ≤ price)))))
  | _ => false
/-- of four items, whatever they are -/
def tie4 (many : Int) (a b room price : D) : Bool := inLt 0 many a && (inLt 0 many b && (!(match a, b with
  | .int i, .int j => i == j
  | _, _ => true) && (isCnt room && ((match room with
  | .int r => decide (0 < r)
  | _ => false) && isCnt price))))
theorem tie4_eq (many : Int) (a b room price : D) : tieB many (.tup [a, b, room, price]) = tie4 many a b room price := by
  cases a <;> (try simp [tieB, tie4, inLt])
  cases b <;> (try simp [tieB, tie4, inLt])
  cases room <;> (try simp [tieB, tie4, inLt, isCnt])
  cases price <;> (try simp [tieB, tie4, inLt, isCnt])
theorem st_is_tie (c d : D) : f_is_tie [.sh c, .sh d] = finS (b_is_tie ⟨[.sh c, .sh d, .un, .un, .un, .un], [.un, .un]⟩) := rfl
theorem tieB_no {many : Int} {xs : List D} (h : tupN 4 (.tup xs) = false) : tieB many (.tup xs) = false := by
  match xs, h with
  | [], _ => simp [tieB]
  | [_], _ => simp [tieB]
  | [_, _], _ => simp [tieB]
  | [_, _, _], _ => simp [tieB]
  | [_, _, _, _], h => simp [tupN] at h
  | a :: b :: c :: d :: e :: r, _ => simp [tieB]
theorem four {xs : List D} (h : tupN 4 (.tup xs) = true) : ∃ a b c d, xs = [a, b, c, d] := by
  match xs, h with
  | [a, b, c, d], _ => exact ⟨a, b, c, d, rfl⟩
  | [], h => simp [tupN] at h
  | [_], h => simp [tupN] at h
  | [_, _], h => simp [tupN] at h
  | [_, _, _], h => simp [tupN] at h
  | a :: b :: c :: d :: e :: r, h => simp [tupN] at h; omega
theorem is_tie_eq (many : Int) (d : D) : f_is_tie [.sh (.int many), .sh d] = .ret (.sh (.bl (tieB many d))) [.un, .un] := by
  cases d with
  | tup xs =>
    have e0 := is_tuple_eq (.tup xs) 4
    cases h4 : tupN 4 (.tup xs) with
    | false =>
      rw [tieB_no h4, st_is_tie]
      unfold b_is_tie
      simp only [bind_ok, bind_ex, bind_no, thn_ok, thn_ex, thn_no, lbind_ok, lthn_ok, seq_nx, seq_rt, seq_bk, seq_ct, seq_ex, seq_no, kB_t, kB_f, kS_t, kS_f, asB_bl, kR_s, kD_s, kD2_s, rd_sh, rd_fr, rd_bs, rd_bp, kCs_o, kCp_o, kCp_s, kV_s, kV_o, kV_a, kVp_o, kVp_s, ap_var, ap_c, ap_un, ap_bin, ap_and, ap_or, ap_ifE, kN_s, ap_not, kBl_ap, ap_nx, ap_seq, ap_expr, ap_ret, ap_retN, ap_if, ap_set, stor_sh, stor_fr, ap_args0, ap_args, kA1_ok, kA2_ok, ap_call, kC1_s, kC2_sh, kC2_fr, kC3_s, argC_sh, argC_fr, argC_bs, argC_bp, kAc_o, kAc_s, argCs_nil, argCs_cons, kAcs_s, kAc2_s, kEs_s, ap_tup, ap_lst, escs_nil, escs_cons, kE1_s, kE2_s, esc_sh, esc_fr, esc_bs, kEo_o, kDs_s, ap_bl, rds_nil, rds_cons, kRd1_s, kRd2_s, op1_s, op2_s, ap_asg, kT_s, kT2_s, tNm_ap, tTp_t, tTp_l, tAll_nil, tAll_cons, kTa_s, finS_nx, finS_sh, finS_fr, finS_bs, kF_o, int2_ap, List.getElem?_cons_zero, List.getElem?_cons_succ, List.set_cons_zero, List.set_cons_succ, ini, prs, dist, putB, List.all_cons, List.all_nil, Bool.and_true, Bool.true_and, if_true, if_pos, e0, h4, Bool.not_true, Bool.not_false]
    | true =>
      obtain ⟨a, b, room, price, rfl⟩ := four h4
      rw [tie4_eq]
      have e1 := is_index_eq a many
      have e2 := is_index_eq b many
      have e3 := is_count_eq room
      have e4 := is_count_eq price
      have i0 : dIx (.tup [a, b, room, price]) (.int 0) = some (.sh a) := rfl
      have i1 : dIx (.tup [a, b, room, price]) (.int 1) = some (.sh b) := rfl
      rw [st_is_tie]
      unfold b_is_tie
      cases h1 : inLt 0 many a with
      | false =>
        simp only [bind_ok, bind_ex, bind_no, thn_ok, thn_ex, thn_no, lbind_ok, lthn_ok, seq_nx, seq_rt, seq_bk, seq_ct, seq_ex, seq_no, kB_t, kB_f, kS_t, kS_f, asB_bl, kR_s, kD_s, kD2_s, rd_sh, rd_fr, rd_bs, rd_bp, kCs_o, kCp_o, kCp_s, kV_s, kV_o, kV_a, kVp_o, kVp_s, ap_var, ap_c, ap_un, ap_bin, ap_and, ap_or, ap_ifE, kN_s, ap_not, kBl_ap, ap_nx, ap_seq, ap_expr, ap_ret, ap_retN, ap_if, ap_set, stor_sh, stor_fr, ap_args0, ap_args, kA1_ok, kA2_ok, ap_call, kC1_s, kC2_sh, kC2_fr, kC3_s, argC_sh, argC_fr, argC_bs, argC_bp, kAc_o, kAc_s, argCs_nil, argCs_cons, kAcs_s, kAc2_s, kEs_s, ap_tup, ap_lst, escs_nil, escs_cons, kE1_s, kE2_s, esc_sh, esc_fr, esc_bs, kEo_o, kDs_s, ap_bl, rds_nil, rds_cons, kRd1_s, kRd2_s, op1_s, op2_s, ap_asg, kT_s, kT2_s, tNm_ap, tTp_t, tTp_l, tAll_nil, tAll_cons, kTa_s, finS_nx, finS_sh, finS_fr, finS_bs, kF_o, int2_ap, List.getElem?_cons_zero, List.getElem?_cons_succ, List.set_cons_zero, List.set_cons_succ, ini, prs, dist, putB, List.all_cons, List.all_nil, Bool.and_true, Bool.true_and, if_true, if_pos, e0, e1, i0, i1, h4, h1, Bool.not_true, Bool.not_false, tie4, Bool.false_and]
      | true =>
        cases h2 : inLt 0 many b with
        | false =>
          simp only [bind_ok, bind_ex, bind_no, thn_ok, thn_ex, thn_no, lbind_ok, lthn_ok, seq_nx, seq_rt, seq_bk, seq_ct, seq_ex, seq_no, kB_t, kB_f, kS_t, kS_f, asB_bl, kR_s, kD_s, kD2_s, rd_sh, rd_fr, rd_bs, rd_bp, kCs_o, kCp_o, kCp_s, kV_s, kV_o, kV_a, kVp_o, kVp_s, ap_var, ap_c, ap_un, ap_bin, ap_and, ap_or, ap_ifE, kN_s, ap_not, kBl_ap, ap_nx, ap_seq, ap_expr, ap_ret, ap_retN, ap_if, ap_set, stor_sh, stor_fr, ap_args0, ap_args, kA1_ok, kA2_ok, ap_call, kC1_s, kC2_sh, kC2_fr, kC3_s, argC_sh, argC_fr, argC_bs, argC_bp, kAc_o, kAc_s, argCs_nil, argCs_cons, kAcs_s, kAc2_s, kEs_s, ap_tup, ap_lst, escs_nil, escs_cons, kE1_s, kE2_s, esc_sh, esc_fr, esc_bs, kEo_o, kDs_s, ap_bl, rds_nil, rds_cons, kRd1_s, kRd2_s, op1_s, op2_s, ap_asg, kT_s, kT2_s, tNm_ap, tTp_t, tTp_l, tAll_nil, tAll_cons, kTa_s, finS_nx, finS_sh, finS_fr, finS_bs, kF_o, int2_ap, List.getElem?_cons_zero, List.getElem?_cons_succ, List.set_cons_zero, List.set_cons_succ, ini, prs, dist, putB, List.all_cons, List.all_nil, Bool.and_true, Bool.true_and, if_true, if_pos, e0, e1, e2, i0, i1, h4, h1, h2, Bool.not_true, Bool.not_false, tie4, Bool.false_and]
        | true =>
          cases a with
          | int a =>
            cases b with
            | int b =>
              have hne : dNe (.int a) (.int b) = some (.sh (.bl (!(a == b)))) := rfl
              cases h3 : (a == b) with
              | true =>
                simp only [bind_ok, bind_ex, bind_no, thn_ok, thn_ex, thn_no, lbind_ok, lthn_ok, seq_nx, seq_rt, seq_bk, seq_ct, seq_ex, seq_no, kB_t, kB_f, kS_t, kS_f, asB_bl, kR_s, kD_s, kD2_s, rd_sh, rd_fr, rd_bs, rd_bp, kCs_o, kCp_o, kCp_s, kV_s, kV_o, kV_a, kVp_o, kVp_s, ap_var, ap_c, ap_un, ap_bin, ap_and, ap_or, ap_ifE, kN_s, ap_not, kBl_ap, ap_nx, ap_seq, ap_expr, ap_ret, ap_retN, ap_if, ap_set, stor_sh, stor_fr, ap_args0, ap_args, kA1_ok, kA2_ok, ap_call, kC1_s, kC2_sh, kC2_fr, kC3_s, argC_sh, argC_fr, argC_bs, argC_bp, kAc_o, kAc_s, argCs_nil, argCs_cons, kAcs_s, kAc2_s, kEs_s, ap_tup, ap_lst, escs_nil, escs_cons, kE1_s, kE2_s, esc_sh, esc_fr, esc_bs, kEo_o, kDs_s, ap_bl, rds_nil, rds_cons, kRd1_s, kRd2_s, op1_s, op2_s, ap_asg, kT_s, kT2_s, tNm_ap, tTp_t, tTp_l, tAll_nil, tAll_cons, kTa_s, finS_nx, finS_sh, finS_fr, finS_bs, kF_o, int2_ap, List.getElem?_cons_zero, List.getElem?_cons_succ, List.set_cons_zero, List.set_cons_succ, ini, prs, dist, putB, List.all_cons, List.all_nil, Bool.and_true, Bool.true_and, if_true, if_pos, e0, e1, e2, i0, i1, h4, h1, h2, h3, hne, Bool.not_true, Bool.not_false, tie4, Bool.false_and]
              | false =>
                cases room with
                | int room =>
                  cases h5 : isCnt (.int room) with
                  | false =>
                    simp only [bind_ok, bind_ex, bind_no, thn_ok, thn_ex, thn_no, lbind_ok, lthn_ok, seq_nx, seq_rt, seq_bk, seq_ct, seq_ex, seq_no, kB_t, kB_f, kS_t, kS_f, asB_bl, kR_s, kD_s, kD2_s, rd_sh, rd_fr, rd_bs, rd_bp, kCs_o, kCp_o, kCp_s, kV_s, kV_o, kV_a, kVp_o, kVp_s, ap_var, ap_c, ap_un, ap_bin, ap_and, ap_or, ap_ifE, kN_s, ap_not, kBl_ap, ap_nx, ap_seq, ap_expr, ap_ret, ap_retN, ap_if, ap_set, stor_sh, stor_fr, ap_args0, ap_args, kA1_ok, kA2_ok, ap_call, kC1_s, kC2_sh, kC2_fr, kC3_s, argC_sh, argC_fr, argC_bs, argC_bp, kAc_o, kAc_s, argCs_nil, argCs_cons, kAcs_s, kAc2_s, kEs_s, ap_tup, ap_lst, escs_nil, escs_cons, kE1_s, kE2_s, esc_sh, esc_fr, esc_bs, kEo_o, kDs_s, ap_bl, rds_nil, rds_cons, kRd1_s, kRd2_s, op1_s, op2_s, ap_asg, kT_s, kT2_s, tNm_ap, tTp_t, tTp_l, tAll_nil, tAll_cons, kTa_s, finS_nx, finS_sh, finS_fr, finS_bs, kF_o, int2_ap, List.getElem?_cons_zero, List.getElem?_cons_succ, List.set_cons_zero, List.set_cons_succ, ini, prs, dist, putB, List.all_cons, List.all_nil, Bool.and_true, Bool.true_and, if_true, if_pos, e0, e1, e2, e3, e4, i0, i1, h4, h1, h2, h3, h5, hne, Bool.not_true, Bool.not_false, tie4, Bool.false_and]
                  | true =>
                    have hgt : dGt (.int room) (.int 0) = some (.sh (.bl (decide (0 < room)))) := rfl
                    cases h6 : decide (0 < room) with
                    | false =>
                      simp only [bind_ok, bind_ex, bind_no, thn_ok, thn_ex, thn_no, lbind_ok, lthn_ok, seq_nx, seq_rt, seq_bk, seq_ct, seq_ex, seq_no, kB_t, kB_f, kS_t, kS_f, asB_bl, kR_s, kD_s, kD2_s, rd_sh, rd_fr, rd_bs, rd_bp, kCs_o, kCp_o, kCp_s, kV_s, kV_o, kV_a, kVp_o, kVp_s, ap_var, ap_c, ap_un, ap_bin, ap_and, ap_or, ap_ifE, kN_s, ap_not, kBl_ap, ap_nx, ap_seq, ap_expr, ap_ret, ap_retN, ap_if, ap_set, stor_sh, stor_fr, ap_args0, ap_args, kA1_ok, kA2_ok, ap_call, kC1_s, kC2_sh, kC2_fr, kC3_s, argC_sh, argC_fr, argC_bs, argC_bp, kAc_o, kAc_s, argCs_nil, argCs_cons, kAcs_s, kAc2_s, kEs_s, ap_tup, ap_lst, escs_nil, escs_cons, kE1_s, kE2_s, esc_sh, esc_fr, esc_bs, kEo_o, kDs_s, ap_bl, rds_nil, rds_cons, kRd1_s, kRd2_s, op1_s, op2_s, ap_asg, kT_s, kT2_s, tNm_ap, tTp_t, tTp_l, tAll_nil, tAll_cons, kTa_s, finS_nx, finS_sh, finS_fr, finS_bs, kF_o, int2_ap, List.getElem?_cons_zero, List.getElem?_cons_succ, List.set_cons_zero, List.set_cons_succ, ini, prs, dist, putB, List.all_cons, List.all_nil, Bool.and_true, Bool.true_and, if_true, if_pos, e0, e1, e2, e3, e4, i0, i1, h4, h1, h2, h3, h5, h6, hne, hgt, Bool.not_true, Bool.not_false, tie4, Bool.false_and]
                    | true =>
                      simp only [bind_ok, bind_ex, bind_no, thn_ok, thn_ex, thn_no, lbind_ok, lthn_ok, seq_nx, seq_rt, seq_bk, seq_ct, seq_ex, seq_no, kB_t, kB_f, kS_t, kS_f, asB_bl, kR_s, kD_s, kD2_s, rd_sh, rd_fr, rd_bs, rd_bp, kCs_o, kCp_o, kCp_s, kV_s, kV_o, kV_a, kVp_o, kVp_s, ap_var, ap_c, ap_un, ap_bin, ap_and, ap_or, ap_ifE, kN_s, ap_not, kBl_ap, ap_nx, ap_seq, ap_expr, ap_ret, ap_retN, ap_if, ap_set, stor_sh, stor_fr, ap_args0, ap_args, kA1_ok, kA2_ok, ap_call, kC1_s, kC2_sh, kC2_fr, kC3_s, argC_sh, argC_fr, argC_bs, argC_bp, kAc_o, kAc_s, argCs_nil, argCs_cons, kAcs_s, kAc2_s, kEs_s, ap_tup, ap_lst, escs_nil, escs_cons, kE1_s, kE2_s, esc_sh, esc_fr, esc_bs, kEo_o, kDs_s, ap_bl, rds_nil, rds_cons, kRd1_s, kRd2_s, op1_s, op2_s, ap_asg, kT_s, kT2_s, tNm_ap, tTp_t, tTp_l, tAll_nil, tAll_cons, kTa_s, finS_nx, finS_sh, finS_fr, finS_bs, kF_o, int2_ap, List.getElem?_cons_zero, List.getElem?_cons_succ, List.set_cons_zero, List.set_cons_succ, ini, prs, dist, putB, List.all_cons, List.all_nil, Bool.and_true, Bool.true_and, if_true, if_pos, e0, e1, e2, e3, e4, i0, i1, h4, h1, h2, h3, h5, h6, hne, hgt, Bool.not_true, Bool.not_false, tie4, Bool.false_and]
                | _ =>
                  have h5 := e3
                  simp only [isCnt] at h5
                  simp only [bind_ok, bind_ex, bind_no, thn_ok, thn_ex, thn_no, lbind_ok, lthn_ok, seq_nx, seq_rt, seq_bk, seq_ct, seq_ex, seq_no, kB_t, kB_f, kS_t, kS_f, asB_bl, kR_s, kD_s, kD2_s, rd_sh, rd_fr, rd_bs, rd_bp, kCs_o, kCp_o, kCp_s, kV_s, kV_o, kV_a, kVp_o, kVp_s, ap_var, ap_c, ap_un, ap_bin, ap_and, ap_or, ap_ifE, kN_s, ap_not, kBl_ap, ap_nx, ap_seq, ap_expr, ap_ret, ap_retN, ap_if, ap_set, stor_sh, stor_fr, ap_args0, ap_args, kA1_ok, kA2_ok, ap_call, kC1_s, kC2_sh, kC2_fr, kC3_s, argC_sh, argC_fr, argC_bs, argC_bp, kAc_o, kAc_s, argCs_nil, argCs_cons, kAcs_s, kAc2_s, kEs_s, ap_tup, ap_lst, escs_nil, escs_cons, kE1_s, kE2_s, esc_sh, esc_fr, esc_bs, kEo_o, kDs_s, ap_bl, rds_nil, rds_cons, kRd1_s, kRd2_s, op1_s, op2_s, ap_asg, kT_s, kT2_s, tNm_ap, tTp_t, tTp_l, tAll_nil, tAll_cons, kTa_s, finS_nx, finS_sh, finS_fr, finS_bs, kF_o, int2_ap, List.getElem?_cons_zero, List.getElem?_cons_succ, List.set_cons_zero, List.set_cons_succ, ini, prs, dist, putB, List.all_cons, List.all_nil, Bool.and_true, Bool.true_and, if_true, if_pos, e0, e1, e2, h5, e4, i0, i1, h4, h1, h2, h3, hne, Bool.not_true, Bool.not_false, tie4, Bool.false_and, isCnt]
            | _ => cases h2
          | _ => cases h1
  | _ => rfl
end K01

set_option Elab.async false
set_option linter.all false
set_option maxRecDepth 100000
set_option maxHeartbeats 1000000
namespace K01
open PySem PySem.Spec PyProof.Rows L2 Mx
/-! ### rows of whole numbers, in order -/
def nsD : D → List Int
  | .tup xs => (intsOf xs).getD []
  | _ => []
theorem nsD_ints (ns : List Int) : nsD (.tup (ns.map D.int)) = ns := by simp only [nsD, intsOf_map, Option.getD_some]
def Row (d : D) : Prop := ∃ ns : List Int, d = .tup (ns.map D.int)
theorem tie_row {many : Int} {d : D} (h : tieB many d = true) : Row d := by
  unfold tieB at h
  split at h
  · rename_i a b r p
    exact ⟨[a, b, r, p], rfl⟩
  · cases h
theorem ix_t {ts : List D} {i : Nat} {t : D} (h : ts[i]? = some t) : dIx (.tup ts) (.int (i : Int)) = some (.sh t) := by
  have hl := (List.getElem?_eq_some_iff.mp h).1
  show sh? (atI ts (i : Int)) = _
  have e : ixN ts.length (i : Int) = some i := by
    unfold ixN
    rw [if_pos (by omega), if_pos (by omega)]
    simp
  simp only [atI, e, Option.bind_some, h, sh?]
theorem ix_l {ts : List D} {i : Nat} {t : D} (h : ts[i]? = some t) : dIx (.lst ts) (.int (i : Int)) = some (.sh t) := ix_t (ts := ts) h
theorem le_rows {a b : D} (ha : Row a) (hb : Row b) : dLeA a b = some (.sh (.bl (!HT.lexLt (nsD b) (nsD a)))) := by
  obtain ⟨ns, rfl⟩ := ha
  obtain ⟨ms, rfl⟩ := hb
  simp only [nsD_ints]
  have e : dLe (.tup (ns.map D.int)) (.tup (ms.map D.int)) = none := rfl
  simp only [dLeA, e, dTupB, intsOf_map]
theorem lt_rows {a b : D} (ha : Row a) (hb : Row b) : dLtA a b = some (.sh (.bl (HT.lexLt (nsD a) (nsD b)))) := by
  obtain ⟨ns, rfl⟩ := ha
  obtain ⟨ms, rfl⟩ := hb
  simp only [nsD_ints]
  have e : dLt (.tup (ns.map D.int)) (.tup (ms.map D.int)) = none := rfl
  simp only [dLtA, e, dTupB, intsOf_map]
/-- the item at i is above the next -/
def fallsAt (ts : List D) (i : Nat) : Bool := HT.lexLt (nsD (ts.getD (i + 1) .non)) (nsD (ts.getD i .non))
def ordB (ts : List D) : Bool := (List.range (ts.length - 1)).all fun i => !fallsAt ts i
theorem all_bls (bs : List Bool) : dAll (.lst (bs.map D.bl)) = some (.sh (.bl (bs.all id))) := by
  simp only [dAll, lItems, blsOf_map]
theorem up_mem {n : Nat} {d : D} (h : d ∈ upFrom 0 n) : ∃ i : Nat, i < n ∧ d = .int (i : Int) := by
  rw [upFrom_map] at h
  obtain ⟨i, hi, rfl⟩ := List.mem_map.mp h
  exact ⟨i, List.mem_range.mp hi, by congr 1; omega⟩
theorem up_filter {n : Nat} {p : D → Bool} {g : D → D} {p' : Nat → Bool} {g' : Nat → D} (hp : ∀ i : Nat, p (.int (i : Int)) = p' i) (hg : ∀ i : Nat, g (.int (i : Int)) = g' i) : ((upFrom 0 n).filter p).map g = ((List.range n).filter p').map g' := by
  have e : upFrom 0 n = (List.range n).map fun (i : Nat) => D.int (i : Int) := by
    rw [upFrom_map]
    apply List.map_congr_left
    intro i _
    congr 1
    omega
  rw [e, List.filter_map, List.map_map]
  congr 1
  · funext i; exact hg i
  · congr 1
    funext i; exact hp i
theorem getD_of {ts : List D} {i : Nat} (h : i < ts.length) : ts[i]? = some (ts.getD i .non) := by
  rw [List.getD_eq_getElem?_getD, List.getElem?_eq_getElem h]; rfl
theorem in_order_eq {ts : List D} (hr : ∀ t ∈ ts, Row t) (hl : ts.length ≤ 120) : f_in_order [.sh (.tup ts)] = .ret (.sh (.bl (ordB ts))) [.un] := by
  have st : f_in_order [.sh (.tup ts)] = finS (b_in_order ⟨[.sh (.tup ts), .un], [.un]⟩) := rfl
  have row : ∀ i, i < ts.length → Row (ts.getD i .non) := fun i hi => hr _ (List.mem_of_getElem? (getD_of hi))
  have e := lc_pure (v := 1) (tt := mYes) (elt := mBin dLeA (mBin dIx (mVar 0) (mVar 1)) (mBin dIx (mVar 0) (mBin dAdd (mVar 1) (mC (.int 1))))) (p := fun _ => true)
    (gg := fun d => match d with | .int i => .bl (!fallsAt ts i.toNat) | _ => .non) (s := ⟨[.sh (.tup ts), .un], [.un]⟩) (cl := .un) rfl (fun d z => by cases z) (upFrom 0 (((ts.length : Int) - 1).toNat)) (fun d hd => by
      obtain ⟨i, hi, rfl⟩ := up_mem hd
      refine ⟨rfl, fun _ => ⟨.sh (.bl (!fallsAt ts i)), ?_, rfl⟩⟩
      have i0 := ix_t (getD_of (ts := ts) (i := i) (by omega))
      have i1 := ix_t (getD_of (ts := ts) (i := i + 1) (by omega))
      have a1 : dAdd (.int (i : Int)) (.int 1) = some (.sh (.int ((i + 1 : Nat) : Int))) := by
        show some (Rv.sh (D.int ((i : Int) + 1))) = _
        congr 3
      have l1 := le_rows (row i (by omega)) (row (i + 1) (by omega))
      simp only [bind_ok, bind_ex, bind_no, thn_ok, thn_ex, thn_no, lbind_ok, lthn_ok, seq_nx, seq_rt, seq_bk, seq_ct, seq_ex, seq_no, kB_t, kB_f, kS_t, kS_f, asB_bl, kR_s, kD_s, kD2_s, rd_sh, rd_fr, rd_bs, rd_bp, kCs_o, kCp_o, kCp_s, kV_s, kV_o, kV_a, kVp_o, kVp_s, ap_var, ap_c, ap_un, ap_bin, ap_and, ap_or, ap_ifE, kN_s, ap_not, kBl_ap, ap_nx, ap_seq, ap_expr, ap_ret, ap_retN, ap_if, ap_set, stor_sh, stor_fr, ap_args0, ap_args, kA1_ok, kA2_ok, ap_call, kC1_s, kC2_sh, kC2_fr, kC3_s, argC_sh, argC_fr, argC_bs, argC_bp, kAc_o, kAc_s, argCs_nil, argCs_cons, kAcs_s, kAc2_s, kEs_s, ap_tup, ap_lst, escs_nil, escs_cons, kE1_s, kE2_s, esc_sh, esc_fr, esc_bs, kEo_o, kDs_s, ap_bl, rds_nil, rds_cons, kRd1_s, kRd2_s, op1_s, op2_s, ap_asg, kT_s, kT2_s, tNm_ap, tTp_t, tTp_l, tAll_nil, tAll_cons, kTa_s, finS_nx, finS_sh, finS_fr, finS_bs, kF_o, int2_ap, ap_lc, kL1_s, kL2_s, itemsOf_l, itemsOf_t, itemsOf_r, ap_lcR, kLr1_s, List.getElem?_cons_zero, List.getElem?_cons_succ, List.set_cons_zero, List.set_cons_succ, ini, prs, dist, putB, List.all_cons, List.all_nil, Bool.and_true, Bool.true_and, if_true, if_pos, i0, i1, a1, l1, fallsAt])
  have d1 : dLen (.tup ts) = some (.sh (.int ts.length)) := rfl
  have d2 : dSub (.int ts.length) (.int 1) = some (.sh (.int ((ts.length : Int) - 1))) := rfl
  have e2 := up_filter (n := ((ts.length : Int) - 1).toNat) (p := fun _ => true) (g := fun d => match d with | .int i => D.bl (!fallsAt ts i.toNat) | _ => .non) (p' := fun _ => true) (g' := fun i => D.bl (!fallsAt ts i)) (fun _ => rfl) (fun i => rfl)
  have e3 : ((List.range ((ts.length : Int) - 1).toNat).filter fun _ => true).map (fun i => D.bl (!fallsAt ts i)) = (((List.range (ts.length - 1)).map fun i => !fallsAt ts i)).map D.bl := by
    rw [List.map_map]
    have : ((ts.length : Int) - 1).toNat = ts.length - 1 := by omega
    rw [this, List.filter_eq_self.mpr (fun _ _ => rfl)]
    rfl
  rw [e2, e3] at e
  rw [st]
  unfold b_in_order
  have h1 := rng1_ap (s := ⟨[.sh (.tup ts), .un], [.un]⟩) (own := [1]) (tm := tNm 1) (tt := mYes) (elt := mBin dLeA (mBin dIx (mVar 0) (mVar 1)) (mBin dIx (mVar 0) (mBin dAdd (mVar 1) (mC (.int 1))))) (j := (ts.length : Int) - 1) (by omega) (by omega)
  simp only [bind_ok, bind_ex, bind_no, thn_ok, thn_ex, thn_no, lbind_ok, lthn_ok, seq_nx, seq_rt, seq_bk, seq_ct, seq_ex, seq_no, kB_t, kB_f, kS_t, kS_f, asB_bl, kR_s, kD_s, kD2_s, rd_sh, rd_fr, rd_bs, rd_bp, kCs_o, kCp_o, kCp_s, kV_s, kV_o, kV_a, kVp_o, kVp_s, ap_var, ap_c, ap_un, ap_bin, ap_and, ap_or, ap_ifE, kN_s, ap_not, kBl_ap, ap_nx, ap_seq, ap_expr, ap_ret, ap_retN, ap_if, ap_set, stor_sh, stor_fr, ap_args0, ap_args, kA1_ok, kA2_ok, ap_call, kC1_s, kC2_sh, kC2_fr, kC3_s, argC_sh, argC_fr, argC_bs, argC_bp, kAc_o, kAc_s, argCs_nil, argCs_cons, kAcs_s, kAc2_s, kEs_s, ap_tup, ap_lst, escs_nil, escs_cons, kE1_s, kE2_s, esc_sh, esc_fr, esc_bs, kEo_o, kDs_s, ap_bl, rds_nil, rds_cons, kRd1_s, kRd2_s, op1_s, op2_s, ap_asg, kT_s, kT2_s, tNm_ap, tTp_t, tTp_l, tAll_nil, tAll_cons, kTa_s, finS_nx, finS_sh, finS_fr, finS_bs, kF_o, int2_ap, ap_lc, kL1_s, kL2_s, itemsOf_l, itemsOf_t, itemsOf_r, ap_lcR, kLr1_s, List.getElem?_cons_zero, List.getElem?_cons_succ, List.set_cons_zero, List.set_cons_succ, ini, prs, dist, putB, List.all_cons, List.all_nil, Bool.and_true, Bool.true_and, if_true, if_pos, d1, d2, h1, e, all_bls]
  unfold ordB
  rw [List.all_map]
  rfl
/-! ### the program's judge -/
def netB : D → Bool
  | .tup [.int many, .tup ties] => decide (1 ≤ many) && (decide (many ≤ 20) && (decide (ties.length ≤ 120) && (ties.all (tieB many) && ordB ties)))
  | _ => false
theorem two {xs : List D} (h : tupN 2 (.tup xs) = true) : ∃ a b, xs = [a, b] := by
  match xs, h with
  | [a, b], _ => exact ⟨a, b, rfl⟩
  | [], h => simp [tupN] at h
  | [_], h => simp [tupN] at h
  | a :: b :: c :: r, h => simp [tupN] at h; omega
theorem netB_no {xs : List D} (h : tupN 2 (.tup xs) = false) : netB (.tup xs) = false := by
  match xs, h with
  | [], _ => simp [netB]
  | [_], _ => simp [netB]
  | [_, _], h => simp [tupN] at h
  | a :: b :: c :: r, _ => simp [netB]
theorem is_net_eq (d : D) : f_is_net [.sh d] = .ret (.sh (.bl (netB d))) [.un] := by
  have st : f_is_net [.sh d] = finS (b_is_net ⟨[.sh d, .un, .un, .un], [.un]⟩) := rfl
  have e0 := is_tuple_eq d 2
  cases h2 : tupN 2 d with
  | false =>
    have hn : netB d = false := by
      cases d with
      | tup xs => exact netB_no h2
      | _ => rfl
    rw [st, hn]
    unfold b_is_net
    simp only [bind_ok, bind_ex, bind_no, thn_ok, thn_ex, thn_no, lbind_ok, lthn_ok, seq_nx, seq_rt, seq_bk, seq_ct, seq_ex, seq_no, kB_t, kB_f, kS_t, kS_f, asB_bl, kR_s, kD_s, kD2_s, rd_sh, rd_fr, rd_bs, rd_bp, kCs_o, kCp_o, kCp_s, kV_s, kV_o, kV_a, kVp_o, kVp_s, ap_var, ap_c, ap_un, ap_bin, ap_and, ap_or, ap_ifE, kN_s, ap_not, kBl_ap, ap_nx, ap_seq, ap_expr, ap_ret, ap_retN, ap_if, ap_set, stor_sh, stor_fr, ap_args0, ap_args, kA1_ok, kA2_ok, ap_call, kC1_s, kC2_sh, kC2_fr, kC3_s, argC_sh, argC_fr, argC_bs, argC_bp, kAc_o, kAc_s, argCs_nil, argCs_cons, kAcs_s, kAc2_s, kEs_s, ap_tup, ap_lst, escs_nil, escs_cons, kE1_s, kE2_s, esc_sh, esc_fr, esc_bs, kEo_o, kDs_s, ap_bl, rds_nil, rds_cons, kRd1_s, kRd2_s, op1_s, op2_s, ap_asg, kT_s, kT2_s, tNm_ap, tTp_t, tTp_l, tAll_nil, tAll_cons, kTa_s, finS_nx, finS_sh, finS_fr, finS_bs, kF_o, int2_ap, ap_lc, kL1_s, kL2_s, itemsOf_l, itemsOf_t, itemsOf_r, ap_lcR, kLr1_s, List.getElem?_cons_zero, List.getElem?_cons_succ, List.set_cons_zero, List.set_cons_succ, ini, prs, dist, putB, List.all_cons, List.all_nil, Bool.and_true, Bool.true_and, if_true, if_pos, e0, h2, Bool.not_true, Bool.not_false]
  | true =>
    obtain ⟨xs, rfl⟩ : ∃ xs, d = .tup xs := by
      cases d with
      | tup xs => exact ⟨xs, rfl⟩
      | _ => cases h2
    obtain ⟨a, b, rfl⟩ := two h2
    have e1 := is_within_eq a 1 20
    have i0 : dIx (.tup [a, b]) (.int 0) = some (.sh a) := rfl
    rw [st]
    unfold b_is_net
    cases h3 : inLe 1 20 a with
    | false =>
      have hn : netB (.tup [a, b]) = false := by
        cases a <;> (try rfl)
        rename_i i
        cases b <;> (try rfl)
        simp only [inLe, Bool.and_eq_false_iff] at h3
        simp only [netB]
        rcases h3 with h3 | h3 <;> simp [h3]
      rw [hn]
      simp only [bind_ok, bind_ex, bind_no, thn_ok, thn_ex, thn_no, lbind_ok, lthn_ok, seq_nx, seq_rt, seq_bk, seq_ct, seq_ex, seq_no, kB_t, kB_f, kS_t, kS_f, asB_bl, kR_s, kD_s, kD2_s, rd_sh, rd_fr, rd_bs, rd_bp, kCs_o, kCp_o, kCp_s, kV_s, kV_o, kV_a, kVp_o, kVp_s, ap_var, ap_c, ap_un, ap_bin, ap_and, ap_or, ap_ifE, kN_s, ap_not, kBl_ap, ap_nx, ap_seq, ap_expr, ap_ret, ap_retN, ap_if, ap_set, stor_sh, stor_fr, ap_args0, ap_args, kA1_ok, kA2_ok, ap_call, kC1_s, kC2_sh, kC2_fr, kC3_s, argC_sh, argC_fr, argC_bs, argC_bp, kAc_o, kAc_s, argCs_nil, argCs_cons, kAcs_s, kAc2_s, kEs_s, ap_tup, ap_lst, escs_nil, escs_cons, kE1_s, kE2_s, esc_sh, esc_fr, esc_bs, kEo_o, kDs_s, ap_bl, rds_nil, rds_cons, kRd1_s, kRd2_s, op1_s, op2_s, ap_asg, kT_s, kT2_s, tNm_ap, tTp_t, tTp_l, tAll_nil, tAll_cons, kTa_s, finS_nx, finS_sh, finS_fr, finS_bs, kF_o, int2_ap, ap_lc, kL1_s, kL2_s, itemsOf_l, itemsOf_t, itemsOf_r, ap_lcR, kLr1_s, List.getElem?_cons_zero, List.getElem?_cons_succ, List.set_cons_zero, List.set_cons_succ, ini, prs, dist, putB, List.all_cons, List.all_nil, Bool.and_true, Bool.true_and, if_true, if_pos, e0, e1, i0, h2, h3, Bool.not_true, Bool.not_false]
    | true =>
      obtain ⟨many, rfl⟩ : ∃ i, a = .int i := by
        cases a with
        | int i => exact ⟨i, rfl⟩
        | _ => cases h3
      simp only [inLe, Bool.and_eq_true, decide_eq_true_eq] at h3
      have h3' : inLe 1 20 (.int many) = true := by simp [inLe, h3]
      have d20 : dGt (.int 0) (.int 0) = some (.sh (.bl (decide ((0 : Int) < 0)))) := rfl
      cases b with
      | tup ties =>
        have is1 : opIsi "tuple" (.tup ties) = some (.sh (.bl true)) := rfl
        have l1 : dLen (.tup ties) = some (.sh (.int ties.length)) := rfl
        have g1 : dGt (.int ties.length) (.int 120) = some (.sh (.bl (decide ((120 : Int) < ties.length)))) := rfl
        cases h4 : decide ((120 : Int) < ties.length) with
        | true =>
          have hn : netB (.tup [.int many, .tup ties]) = false := by
            have := of_decide_eq_true h4
            have z : decide (ties.length ≤ 120) = false := decide_eq_false (by omega)
            simp only [netB, z, Bool.false_and, Bool.and_false]
          rw [hn]
          simp only [bind_ok, bind_ex, bind_no, thn_ok, thn_ex, thn_no, lbind_ok, lthn_ok, seq_nx, seq_rt, seq_bk, seq_ct, seq_ex, seq_no, kB_t, kB_f, kS_t, kS_f, asB_bl, kR_s, kD_s, kD2_s, rd_sh, rd_fr, rd_bs, rd_bp, kCs_o, kCp_o, kCp_s, kV_s, kV_o, kV_a, kVp_o, kVp_s, ap_var, ap_c, ap_un, ap_bin, ap_and, ap_or, ap_ifE, kN_s, ap_not, kBl_ap, ap_nx, ap_seq, ap_expr, ap_ret, ap_retN, ap_if, ap_set, stor_sh, stor_fr, ap_args0, ap_args, kA1_ok, kA2_ok, ap_call, kC1_s, kC2_sh, kC2_fr, kC3_s, argC_sh, argC_fr, argC_bs, argC_bp, kAc_o, kAc_s, argCs_nil, argCs_cons, kAcs_s, kAc2_s, kEs_s, ap_tup, ap_lst, escs_nil, escs_cons, kE1_s, kE2_s, esc_sh, esc_fr, esc_bs, kEo_o, kDs_s, ap_bl, rds_nil, rds_cons, kRd1_s, kRd2_s, op1_s, op2_s, ap_asg, kT_s, kT2_s, tNm_ap, tTp_t, tTp_l, tAll_nil, tAll_cons, kTa_s, finS_nx, finS_sh, finS_fr, finS_bs, kF_o, int2_ap, ap_lc, kL1_s, kL2_s, itemsOf_l, itemsOf_t, itemsOf_r, ap_lcR, kLr1_s, List.getElem?_cons_zero, List.getElem?_cons_succ, List.set_cons_zero, List.set_cons_succ, ini, prs, dist, putB, List.all_cons, List.all_nil, Bool.and_true, Bool.true_and, if_true, if_pos, e0, e1, i0, h2, h3', is1, l1, g1, h4, Bool.not_true, Bool.not_false]
        | false =>
          have hle := of_decide_eq_false h4
          have hle : ties.length ≤ 120 := by omega
          have e := lc_pure (v := 3) (tt := mYes) (elt := mCall f_is_tie [mVar 1, mVar 3]) (p := fun _ => true) (gg := fun d => .bl (tieB many d)) (s := ⟨[.sh (.tup [.int many, .tup ties]), .sh (.int many), .sh (.tup ties), .un], [.un]⟩) (cl := .un) rfl (fun d z => by cases z) ties (fun d hd => by
            refine ⟨rfl, fun _ => ⟨.sh (.bl (tieB many d)), ?_, rfl⟩⟩
            have et := is_tie_eq many d
            simp only [bind_ok, bind_ex, bind_no, thn_ok, thn_ex, thn_no, lbind_ok, lthn_ok, seq_nx, seq_rt, seq_bk, seq_ct, seq_ex, seq_no, kB_t, kB_f, kS_t, kS_f, asB_bl, kR_s, kD_s, kD2_s, rd_sh, rd_fr, rd_bs, rd_bp, kCs_o, kCp_o, kCp_s, kV_s, kV_o, kV_a, kVp_o, kVp_s, ap_var, ap_c, ap_un, ap_bin, ap_and, ap_or, ap_ifE, kN_s, ap_not, kBl_ap, ap_nx, ap_seq, ap_expr, ap_ret, ap_retN, ap_if, ap_set, stor_sh, stor_fr, ap_args0, ap_args, kA1_ok, kA2_ok, ap_call, kC1_s, kC2_sh, kC2_fr, kC3_s, argC_sh, argC_fr, argC_bs, argC_bp, kAc_o, kAc_s, argCs_nil, argCs_cons, kAcs_s, kAc2_s, kEs_s, ap_tup, ap_lst, escs_nil, escs_cons, kE1_s, kE2_s, esc_sh, esc_fr, esc_bs, kEo_o, kDs_s, ap_bl, rds_nil, rds_cons, kRd1_s, kRd2_s, op1_s, op2_s, ap_asg, kT_s, kT2_s, tNm_ap, tTp_t, tTp_l, tAll_nil, tAll_cons, kTa_s, finS_nx, finS_sh, finS_fr, finS_bs, kF_o, int2_ap, ap_lc, kL1_s, kL2_s, itemsOf_l, itemsOf_t, itemsOf_r, ap_lcR, kLr1_s, List.getElem?_cons_zero, List.getElem?_cons_succ, List.set_cons_zero, List.set_cons_succ, ini, prs, dist, putB, List.all_cons, List.all_nil, Bool.and_true, Bool.true_and, if_true, if_pos, et])
          have e3 : (ties.filter fun _ => true).map (fun d => D.bl (tieB many d)) = (ties.map (tieB many)).map D.bl := by
            rw [List.filter_eq_self.mpr (fun _ _ => rfl), List.map_map]
            rfl
          rw [e3] at e
          have hA : (ties.map (tieB many)).all id = ties.all (tieB many) := by rw [List.all_map]; rfl
          cases h5 : ties.all (tieB many) with
          | false =>
            have hn : netB (.tup [.int many, .tup ties]) = false := by simp [netB, h5]
            rw [hn]
            simp only [bind_ok, bind_ex, bind_no, thn_ok, thn_ex, thn_no, lbind_ok, lthn_ok, seq_nx, seq_rt, seq_bk, seq_ct, seq_ex, seq_no, kB_t, kB_f, kS_t, kS_f, asB_bl, kR_s, kD_s, kD2_s, rd_sh, rd_fr, rd_bs, rd_bp, kCs_o, kCp_o, kCp_s, kV_s, kV_o, kV_a, kVp_o, kVp_s, ap_var, ap_c, ap_un, ap_bin, ap_and, ap_or, ap_ifE, kN_s, ap_not, kBl_ap, ap_nx, ap_seq, ap_expr, ap_ret, ap_retN, ap_if, ap_set, stor_sh, stor_fr, ap_args0, ap_args, kA1_ok, kA2_ok, ap_call, kC1_s, kC2_sh, kC2_fr, kC3_s, argC_sh, argC_fr, argC_bs, argC_bp, kAc_o, kAc_s, argCs_nil, argCs_cons, kAcs_s, kAc2_s, kEs_s, ap_tup, ap_lst, escs_nil, escs_cons, kE1_s, kE2_s, esc_sh, esc_fr, esc_bs, kEo_o, kDs_s, ap_bl, rds_nil, rds_cons, kRd1_s, kRd2_s, op1_s, op2_s, ap_asg, kT_s, kT2_s, tNm_ap, tTp_t, tTp_l, tAll_nil, tAll_cons, kTa_s, finS_nx, finS_sh, finS_fr, finS_bs, kF_o, int2_ap, ap_lc, kL1_s, kL2_s, itemsOf_l, itemsOf_t, itemsOf_r, ap_lcR, kLr1_s, List.getElem?_cons_zero, List.getElem?_cons_succ, List.set_cons_zero, List.set_cons_succ, ini, prs, dist, putB, List.all_cons, List.all_nil, Bool.and_true, Bool.true_and, if_true, if_pos, e0, e1, i0, h2, h3', is1, l1, g1, h4, e, all_bls, hA, h5, Bool.not_true, Bool.not_false]
          | true =>
            have eo := in_order_eq (ts := ties) (fun t ht => tie_row (List.all_eq_true.mp h5 t ht)) hle
            have hn : netB (.tup [.int many, .tup ties]) = ordB ties := by simp [netB, h3, hle, h5]
            rw [hn]
            simp only [bind_ok, bind_ex, bind_no, thn_ok, thn_ex, thn_no, lbind_ok, lthn_ok, seq_nx, seq_rt, seq_bk, seq_ct, seq_ex, seq_no, kB_t, kB_f, kS_t, kS_f, asB_bl, kR_s, kD_s, kD2_s, rd_sh, rd_fr, rd_bs, rd_bp, kCs_o, kCp_o, kCp_s, kV_s, kV_o, kV_a, kVp_o, kVp_s, ap_var, ap_c, ap_un, ap_bin, ap_and, ap_or, ap_ifE, kN_s, ap_not, kBl_ap, ap_nx, ap_seq, ap_expr, ap_ret, ap_retN, ap_if, ap_set, stor_sh, stor_fr, ap_args0, ap_args, kA1_ok, kA2_ok, ap_call, kC1_s, kC2_sh, kC2_fr, kC3_s, argC_sh, argC_fr, argC_bs, argC_bp, kAc_o, kAc_s, argCs_nil, argCs_cons, kAcs_s, kAc2_s, kEs_s, ap_tup, ap_lst, escs_nil, escs_cons, kE1_s, kE2_s, esc_sh, esc_fr, esc_bs, kEo_o, kDs_s, ap_bl, rds_nil, rds_cons, kRd1_s, kRd2_s, op1_s, op2_s, ap_asg, kT_s, kT2_s, tNm_ap, tTp_t, tTp_l, tAll_nil, tAll_cons, kTa_s, finS_nx, finS_sh, finS_fr, finS_bs, kF_o, int2_ap, ap_lc, kL1_s, kL2_s, itemsOf_l, itemsOf_t, itemsOf_r, ap_lcR, kLr1_s, List.getElem?_cons_zero, List.getElem?_cons_succ, List.set_cons_zero, List.set_cons_succ, ini, prs, dist, putB, List.all_cons, List.all_nil, Bool.and_true, Bool.true_and, if_true, if_pos, e0, e1, i0, h2, h3', is1, l1, g1, h4, e, all_bls, hA, h5, eo, Bool.not_true, Bool.not_false]
      | _ =>
        simp only [bind_ok, bind_ex, bind_no, thn_ok, thn_ex, thn_no, lbind_ok, lthn_ok, seq_nx, seq_rt, seq_bk, seq_ct, seq_ex, seq_no, kB_t, kB_f, kS_t, kS_f, asB_bl, kR_s, kD_s, kD2_s, rd_sh, rd_fr, rd_bs, rd_bp, kCs_o, kCp_o, kCp_s, kV_s, kV_o, kV_a, kVp_o, kVp_s, ap_var, ap_c, ap_un, ap_bin, ap_and, ap_or, ap_ifE, kN_s, ap_not, kBl_ap, ap_nx, ap_seq, ap_expr, ap_ret, ap_retN, ap_if, ap_set, stor_sh, stor_fr, ap_args0, ap_args, kA1_ok, kA2_ok, ap_call, kC1_s, kC2_sh, kC2_fr, kC3_s, argC_sh, argC_fr, argC_bs, argC_bp, kAc_o, kAc_s, argCs_nil, argCs_cons, kAcs_s, kAc2_s, kEs_s, ap_tup, ap_lst, escs_nil, escs_cons, kE1_s, kE2_s, esc_sh, esc_fr, esc_bs, kEo_o, kDs_s, ap_bl, rds_nil, rds_cons, kRd1_s, kRd2_s, op1_s, op2_s, ap_asg, kT_s, kT2_s, tNm_ap, tTp_t, tTp_l, tAll_nil, tAll_cons, kTa_s, finS_nx, finS_sh, finS_fr, finS_bs, kF_o, int2_ap, ap_lc, kL1_s, kL2_s, itemsOf_l, itemsOf_t, itemsOf_r, ap_lcR, kLr1_s, List.getElem?_cons_zero, List.getElem?_cons_succ, List.set_cons_zero, List.set_cons_succ, ini, prs, dist, putB, List.all_cons, List.all_nil, Bool.and_true, Bool.true_and, if_true, if_pos, e0, e1, i0, h2, h3', Bool.not_true, Bool.not_false]
        rfl
end K01

set_option Elab.async false
set_option linter.all false
set_option maxRecDepth 100000
set_option maxHeartbeats 1000000
namespace K01
open PySem PySem.Spec PyProof.Rows L2 Mx
/-! ### the law's own judge -/
theorem ne_nil (xs : List D) : dNe (.lst xs) (.lst []) = some (.sh (.bl (!xs.isEmpty))) := by
  cases xs <;> rfl
theorem eq_nil (xs : List D) : dEq (.lst xs) (.lst []) = some (.sh (.bl xs.isEmpty)) := by
  cases xs <;> rfl
theorem int_items {xs : List D} (h : (xs.filter fun d => !isI d).isEmpty = true) : ∃ ns : List Int, xs = ns.map D.int := by
  induction xs with
  | nil => exact ⟨[], rfl⟩
  | cons x xs ih =>
    cases hx : isI x with
    | false =>
      rw [List.filter_cons_of_pos (by simp [hx])] at h
      cases h
    | true =>
      rw [List.filter_cons_of_neg (by simp [hx])] at h
      obtain ⟨ns, rfl⟩ := ih h
      cases x with
      | int i => exact ⟨i :: ns, rfl⟩
      | _ => cases hx
theorem no_int {xs : List D} {many : Int} (h : (xs.filter fun d => !isI d).isEmpty = false) : tieB many (.tup xs) = false := by
  unfold tieB
  split
  · rename_i a b r p e
    cases e
    cases h
  · rfl
theorem law_is_tie_eq (many : Int) (d : D) : f_law_is_tie [.sh d, .sh (.int many)] = .ret (.sh (.bl (tieB many d))) [.un, .un] := by
  have st : f_law_is_tie [.sh d, .sh (.int many)] = finS (b_law_is_tie ⟨[.sh d, .sh (.int many), .un, .un, .un, .un, .un], [.un, .un]⟩) := rfl
  cases d with
  | tup xs =>
    have is1 : opIsi "tuple" (.tup xs) = some (.sh (.bl true)) := rfl
    have l1 : dLen (.tup xs) = some (.sh (.int xs.length)) := rfl
    have n1 : dNe (.int xs.length) (.int 4) = some (.sh (.bl (!((xs.length : Int) == 4)))) := rfl
    have h4' : tupN 4 (.tup xs) = ((xs.length : Int) == 4) := rfl
    rw [st]
    unfold b_law_is_tie
    cases h4 : ((xs.length : Int) == 4) with
    | false =>
      rw [tieB_no (h4'.trans h4)]
      simp only [bind_ok, bind_ex, bind_no, thn_ok, thn_ex, thn_no, lbind_ok, lthn_ok, seq_nx, seq_rt, seq_bk, seq_ct, seq_ex, seq_no, kB_t, kB_f, kS_t, kS_f, asB_bl, kR_s, kD_s, kD2_s, rd_sh, rd_fr, rd_bs, rd_bp, kCs_o, kCp_o, kCp_s, kV_s, kV_o, kV_a, kVp_o, kVp_s, ap_var, ap_c, ap_un, ap_bin, ap_and, ap_or, ap_ifE, kN_s, ap_not, kBl_ap, ap_nx, ap_seq, ap_expr, ap_ret, ap_retN, ap_if, ap_set, stor_sh, stor_fr, ap_args0, ap_args, kA1_ok, kA2_ok, ap_call, kC1_s, kC2_sh, kC2_fr, kC3_s, argC_sh, argC_fr, argC_bs, argC_bp, kAc_o, kAc_s, argCs_nil, argCs_cons, kAcs_s, kAc2_s, kEs_s, ap_tup, ap_lst, escs_nil, escs_cons, kE1_s, kE2_s, esc_sh, esc_fr, esc_bs, kEo_o, kDs_s, ap_bl, rds_nil, rds_cons, kRd1_s, kRd2_s, op1_s, op2_s, ap_asg, kT_s, kT2_s, tNm_ap, tTp_t, tTp_l, tAll_nil, tAll_cons, kTa_s, finS_nx, finS_sh, finS_fr, finS_bs, kF_o, int2_ap, ap_lc, kL1_s, kL2_s, itemsOf_l, itemsOf_t, itemsOf_r, ap_lcR, kLr1_s, List.getElem?_cons_zero, List.getElem?_cons_succ, List.set_cons_zero, List.set_cons_succ, ini, prs, dist, putB, List.all_cons, List.all_nil, Bool.and_true, Bool.true_and, if_true, if_pos, is1, l1, n1, h4, Bool.not_true, Bool.not_false]
    | true =>
      have e := lc_pure (v := 2) (tt := mNot (mCall f_law_is_int [mVar 2])) (elt := mVar 2) (p := fun d => !isI d) (gg := fun d => d) (s := ⟨[.sh (.tup xs), .sh (.int many), .un, .un, .un, .un, .un], [.un, .un]⟩) (cl := .un) rfl (fun d z => by cases z) xs (fun d hd => by
        have ei := law_is_int_eq d
        refine ⟨?_, fun _ => ⟨.sh d, rfl, rfl⟩⟩
        simp only [bind_ok, bind_ex, bind_no, thn_ok, thn_ex, thn_no, lbind_ok, lthn_ok, seq_nx, seq_rt, seq_bk, seq_ct, seq_ex, seq_no, kB_t, kB_f, kS_t, kS_f, asB_bl, kR_s, kD_s, kD2_s, rd_sh, rd_fr, rd_bs, rd_bp, kCs_o, kCp_o, kCp_s, kV_s, kV_o, kV_a, kVp_o, kVp_s, ap_var, ap_c, ap_un, ap_bin, ap_and, ap_or, ap_ifE, kN_s, ap_not, kBl_ap, ap_nx, ap_seq, ap_expr, ap_ret, ap_retN, ap_if, ap_set, stor_sh, stor_fr, ap_args0, ap_args, kA1_ok, kA2_ok, ap_call, kC1_s, kC2_sh, kC2_fr, kC3_s, argC_sh, argC_fr, argC_bs, argC_bp, kAc_o, kAc_s, argCs_nil, argCs_cons, kAcs_s, kAc2_s, kEs_s, ap_tup, ap_lst, escs_nil, escs_cons, kE1_s, kE2_s, esc_sh, esc_fr, esc_bs, kEo_o, kDs_s, ap_bl, rds_nil, rds_cons, kRd1_s, kRd2_s, op1_s, op2_s, ap_asg, kT_s, kT2_s, tNm_ap, tTp_t, tTp_l, tAll_nil, tAll_cons, kTa_s, finS_nx, finS_sh, finS_fr, finS_bs, kF_o, int2_ap, ap_lc, kL1_s, kL2_s, itemsOf_l, itemsOf_t, itemsOf_r, ap_lcR, kLr1_s, List.getElem?_cons_zero, List.getElem?_cons_succ, List.set_cons_zero, List.set_cons_succ, ini, prs, dist, putB, List.all_cons, List.all_nil, Bool.and_true, Bool.true_and, if_true, if_pos, ei])
      rw [List.map_id'] at e
      cases h5 : (xs.filter fun d => !isI d).isEmpty with
      | false =>
        rw [no_int h5]
        simp only [bind_ok, bind_ex, bind_no, thn_ok, thn_ex, thn_no, lbind_ok, lthn_ok, seq_nx, seq_rt, seq_bk, seq_ct, seq_ex, seq_no, kB_t, kB_f, kS_t, kS_f, asB_bl, kR_s, kD_s, kD2_s, rd_sh, rd_fr, rd_bs, rd_bp, kCs_o, kCp_o, kCp_s, kV_s, kV_o, kV_a, kVp_o, kVp_s, ap_var, ap_c, ap_un, ap_bin, ap_and, ap_or, ap_ifE, kN_s, ap_not, kBl_ap, ap_nx, ap_seq, ap_expr, ap_ret, ap_retN, ap_if, ap_set, stor_sh, stor_fr, ap_args0, ap_args, kA1_ok, kA2_ok, ap_call, kC1_s, kC2_sh, kC2_fr, kC3_s, argC_sh, argC_fr, argC_bs, argC_bp, kAc_o, kAc_s, argCs_nil, argCs_cons, kAcs_s, kAc2_s, kEs_s, ap_tup, ap_lst, escs_nil, escs_cons, kE1_s, kE2_s, esc_sh, esc_fr, esc_bs, kEo_o, kDs_s, ap_bl, rds_nil, rds_cons, kRd1_s, kRd2_s, op1_s, op2_s, ap_asg, kT_s, kT2_s, tNm_ap, tTp_t, tTp_l, tAll_nil, tAll_cons, kTa_s, finS_nx, finS_sh, finS_fr, finS_bs, kF_o, int2_ap, ap_lc, kL1_s, kL2_s, itemsOf_l, itemsOf_t, itemsOf_r, ap_lcR, kLr1_s, List.getElem?_cons_zero, List.getElem?_cons_succ, List.set_cons_zero, List.set_cons_succ, ini, prs, dist, putB, List.all_cons, List.all_nil, Bool.and_true, Bool.true_and, if_true, if_pos, is1, l1, n1, h4, e, ne_nil, h5, Bool.not_true, Bool.not_false]
      | true =>
        obtain ⟨a, b, c, f, rfl⟩ := four (h4'.trans h4)
        obtain ⟨ns, hns⟩ := int_items h5
        obtain ⟨a, rfl⟩ : ∃ i, a = .int i := by
          cases ns with
          | nil => cases hns
          | cons n ns => exact ⟨n, by simp at hns; exact hns.1⟩
        obtain ⟨b, rfl⟩ : ∃ i, b = .int i := by
          match ns, hns with
          | _ :: m :: _, hns => exact ⟨m, by simp at hns; exact hns.2.1⟩
        obtain ⟨c, rfl⟩ : ∃ i, c = .int i := by
          match ns, hns with
          | _ :: _ :: m :: _, hns => exact ⟨m, by simp at hns; exact hns.2.2.1⟩
        obtain ⟨f, rfl⟩ : ∃ i, f = .int i := by
          match ns, hns with
          | _ :: _ :: _ :: m :: _, hns => exact ⟨m, by simp at hns; exact hns.2.2.2.1⟩
        have c1 := chain_lt (f := mC (.int 0)) (g := mVar 3) (h := mVar 1) (s := ⟨[.sh (.tup [.int a, .int b, .int c, .int f]), .sh (.int many), .un, .sh (.int a), .sh (.int b), .sh (.int c), .sh (.int f)], [.un, .un]⟩) (a := 0) (b := a) (c := many) rfl rfl rfl
        have c2 := chain_lt (f := mC (.int 0)) (g := mVar 4) (h := mVar 1) (s := ⟨[.sh (.tup [.int a, .int b, .int c, .int f]), .sh (.int many), .un, .sh (.int a), .sh (.int b), .sh (.int c), .sh (.int f)], [.un, .un]⟩) (a := 0) (b := b) (c := many) rfl rfl rfl
        have ne1 : dNe (.int a) (.int b) = some (.sh (.bl (!(a == b)))) := rfl
        have g1 : dGt (.int c) (.int 0) = some (.sh (.bl (decide (0 < c)))) := rfl
        have g2 : dGe (.int f) (.int 0) = some (.sh (.bl (decide (0 ≤ f)))) := rfl
        have tb : tieB many (.tup [.int a, .int b, .int c, .int f]) = ((decide (0 ≤ a) && decide (a < many)) && ((decide (0 ≤ b) && decide (b < many)) && (!(a == b) && (decide (0 < c) && decide (0 ≤ f))))) := by
          simp only [tieB, inLt]
          cases h : decide (0 < c) with
          | false => simp
          | true =>
            have := of_decide_eq_true h
            have z : decide (0 ≤ c) = true := decide_eq_true (by omega)
            rw [z, Bool.true_and]
        rw [tb]
        cases k1 : (decide (0 ≤ a) && decide (a < many)) with
        | false => simp only [bind_ok, bind_ex, bind_no, thn_ok, thn_ex, thn_no, lbind_ok, lthn_ok, seq_nx, seq_rt, seq_bk, seq_ct, seq_ex, seq_no, kB_t, kB_f, kS_t, kS_f, asB_bl, kR_s, kD_s, kD2_s, rd_sh, rd_fr, rd_bs, rd_bp, kCs_o, kCp_o, kCp_s, kV_s, kV_o, kV_a, kVp_o, kVp_s, ap_var, ap_c, ap_un, ap_bin, ap_and, ap_or, ap_ifE, kN_s, ap_not, kBl_ap, ap_nx, ap_seq, ap_expr, ap_ret, ap_retN, ap_if, ap_set, stor_sh, stor_fr, ap_args0, ap_args, kA1_ok, kA2_ok, ap_call, kC1_s, kC2_sh, kC2_fr, kC3_s, argC_sh, argC_fr, argC_bs, argC_bp, kAc_o, kAc_s, argCs_nil, argCs_cons, kAcs_s, kAc2_s, kEs_s, ap_tup, ap_lst, escs_nil, escs_cons, kE1_s, kE2_s, esc_sh, esc_fr, esc_bs, kEo_o, kDs_s, ap_bl, rds_nil, rds_cons, kRd1_s, kRd2_s, op1_s, op2_s, ap_asg, kT_s, kT2_s, tNm_ap, tTp_t, tTp_l, tAll_nil, tAll_cons, kTa_s, finS_nx, finS_sh, finS_fr, finS_bs, kF_o, int2_ap, ap_lc, kL1_s, kL2_s, itemsOf_l, itemsOf_t, itemsOf_r, ap_lcR, kLr1_s, List.getElem?_cons_zero, List.getElem?_cons_succ, List.set_cons_zero, List.set_cons_succ, ini, prs, dist, putB, List.all_cons, List.all_nil, Bool.and_true, Bool.true_and, if_true, if_pos, is1, l1, n1, h4, e, ne_nil, h5, c1, k1, Bool.not_true, Bool.not_false, Bool.false_and]
        | true =>
          cases k2 : (decide (0 ≤ b) && decide (b < many)) with
          | false => simp only [bind_ok, bind_ex, bind_no, thn_ok, thn_ex, thn_no, lbind_ok, lthn_ok, seq_nx, seq_rt, seq_bk, seq_ct, seq_ex, seq_no, kB_t, kB_f, kS_t, kS_f, asB_bl, kR_s, kD_s, kD2_s, rd_sh, rd_fr, rd_bs, rd_bp, kCs_o, kCp_o, kCp_s, kV_s, kV_o, kV_a, kVp_o, kVp_s, ap_var, ap_c, ap_un, ap_bin, ap_and, ap_or, ap_ifE, kN_s, ap_not, kBl_ap, ap_nx, ap_seq, ap_expr, ap_ret, ap_retN, ap_if, ap_set, stor_sh, stor_fr, ap_args0, ap_args, kA1_ok, kA2_ok, ap_call, kC1_s, kC2_sh, kC2_fr, kC3_s, argC_sh, argC_fr, argC_bs, argC_bp, kAc_o, kAc_s, argCs_nil, argCs_cons, kAcs_s, kAc2_s, kEs_s, ap_tup, ap_lst, escs_nil, escs_cons, kE1_s, kE2_s, esc_sh, esc_fr, esc_bs, kEo_o, kDs_s, ap_bl, rds_nil, rds_cons, kRd1_s, kRd2_s, op1_s, op2_s, ap_asg, kT_s, kT2_s, tNm_ap, tTp_t, tTp_l, tAll_nil, tAll_cons, kTa_s, finS_nx, finS_sh, finS_fr, finS_bs, kF_o, int2_ap, ap_lc, kL1_s, kL2_s, itemsOf_l, itemsOf_t, itemsOf_r, ap_lcR, kLr1_s, List.getElem?_cons_zero, List.getElem?_cons_succ, List.set_cons_zero, List.set_cons_succ, ini, prs, dist, putB, List.all_cons, List.all_nil, Bool.and_true, Bool.true_and, if_true, if_pos, is1, l1, n1, h4, e, ne_nil, h5, c1, c2, k1, k2, Bool.not_true, Bool.not_false, Bool.false_and]
          | true =>
            cases k3 : (a == b) with
            | true => simp only [bind_ok, bind_ex, bind_no, thn_ok, thn_ex, thn_no, lbind_ok, lthn_ok, seq_nx, seq_rt, seq_bk, seq_ct, seq_ex, seq_no, kB_t, kB_f, kS_t, kS_f, asB_bl, kR_s, kD_s, kD2_s, rd_sh, rd_fr, rd_bs, rd_bp, kCs_o, kCp_o, kCp_s, kV_s, kV_o, kV_a, kVp_o, kVp_s, ap_var, ap_c, ap_un, ap_bin, ap_and, ap_or, ap_ifE, kN_s, ap_not, kBl_ap, ap_nx, ap_seq, ap_expr, ap_ret, ap_retN, ap_if, ap_set, stor_sh, stor_fr, ap_args0, ap_args, kA1_ok, kA2_ok, ap_call, kC1_s, kC2_sh, kC2_fr, kC3_s, argC_sh, argC_fr, argC_bs, argC_bp, kAc_o, kAc_s, argCs_nil, argCs_cons, kAcs_s, kAc2_s, kEs_s, ap_tup, ap_lst, escs_nil, escs_cons, kE1_s, kE2_s, esc_sh, esc_fr, esc_bs, kEo_o, kDs_s, ap_bl, rds_nil, rds_cons, kRd1_s, kRd2_s, op1_s, op2_s, ap_asg, kT_s, kT2_s, tNm_ap, tTp_t, tTp_l, tAll_nil, tAll_cons, kTa_s, finS_nx, finS_sh, finS_fr, finS_bs, kF_o, int2_ap, ap_lc, kL1_s, kL2_s, itemsOf_l, itemsOf_t, itemsOf_r, ap_lcR, kLr1_s, List.getElem?_cons_zero, List.getElem?_cons_succ, List.set_cons_zero, List.set_cons_succ, ini, prs, dist, putB, List.all_cons, List.all_nil, Bool.and_true, Bool.true_and, if_true, if_pos, is1, l1, n1, h4, e, ne_nil, h5, c1, c2, k1, k2, k3, ne1, Bool.not_true, Bool.not_false, Bool.false_and]
            | false =>
              cases k4 : decide (0 < c) with
              | false => simp only [bind_ok, bind_ex, bind_no, thn_ok, thn_ex, thn_no, lbind_ok, lthn_ok, seq_nx, seq_rt, seq_bk, seq_ct, seq_ex, seq_no, kB_t, kB_f, kS_t, kS_f, asB_bl, kR_s, kD_s, kD2_s, rd_sh, rd_fr, rd_bs, rd_bp, kCs_o, kCp_o, kCp_s, kV_s, kV_o, kV_a, kVp_o, kVp_s, ap_var, ap_c, ap_un, ap_bin, ap_and, ap_or, ap_ifE, kN_s, ap_not, kBl_ap, ap_nx, ap_seq, ap_expr, ap_ret, ap_retN, ap_if, ap_set, stor_sh, stor_fr, ap_args0, ap_args, kA1_ok, kA2_ok, ap_call, kC1_s, kC2_sh, kC2_fr, kC3_s, argC_sh, argC_fr, argC_bs, argC_bp, kAc_o, kAc_s, argCs_nil, argCs_cons, kAcs_s, kAc2_s, kEs_s, ap_tup, ap_lst, escs_nil, escs_cons, kE1_s, kE2_s, esc_sh, esc_fr, esc_bs, kEo_o, kDs_s, ap_bl, rds_nil, rds_cons, kRd1_s, kRd2_s, op1_s, op2_s, ap_asg, kT_s, kT2_s, tNm_ap, tTp_t, tTp_l, tAll_nil, tAll_cons, kTa_s, finS_nx, finS_sh, finS_fr, finS_bs, kF_o, int2_ap, ap_lc, kL1_s, kL2_s, itemsOf_l, itemsOf_t, itemsOf_r, ap_lcR, kLr1_s, List.getElem?_cons_zero, List.getElem?_cons_succ, List.set_cons_zero, List.set_cons_succ, ini, prs, dist, putB, List.all_cons, List.all_nil, Bool.and_true, Bool.true_and, if_true, if_pos, is1, l1, n1, h4, e, ne_nil, h5, c1, c2, k1, k2, k3, k4, ne1, g1, Bool.not_true, Bool.not_false, Bool.false_and]
              | true => simp only [bind_ok, bind_ex, bind_no, thn_ok, thn_ex, thn_no, lbind_ok, lthn_ok, seq_nx, seq_rt, seq_bk, seq_ct, seq_ex, seq_no, kB_t, kB_f, kS_t, kS_f, asB_bl, kR_s, kD_s, kD2_s, rd_sh, rd_fr, rd_bs, rd_bp, kCs_o, kCp_o, kCp_s, kV_s, kV_o, kV_a, kVp_o, kVp_s, ap_var, ap_c, ap_un, ap_bin, ap_and, ap_or, ap_ifE, kN_s, ap_not, kBl_ap, ap_nx, ap_seq, ap_expr, ap_ret, ap_retN, ap_if, ap_set, stor_sh, stor_fr, ap_args0, ap_args, kA1_ok, kA2_ok, ap_call, kC1_s, kC2_sh, kC2_fr, kC3_s, argC_sh, argC_fr, argC_bs, argC_bp, kAc_o, kAc_s, argCs_nil, argCs_cons, kAcs_s, kAc2_s, kEs_s, ap_tup, ap_lst, escs_nil, escs_cons, kE1_s, kE2_s, esc_sh, esc_fr, esc_bs, kEo_o, kDs_s, ap_bl, rds_nil, rds_cons, kRd1_s, kRd2_s, op1_s, op2_s, ap_asg, kT_s, kT2_s, tNm_ap, tTp_t, tTp_l, tAll_nil, tAll_cons, kTa_s, finS_nx, finS_sh, finS_fr, finS_bs, kF_o, int2_ap, ap_lc, kL1_s, kL2_s, itemsOf_l, itemsOf_t, itemsOf_r, ap_lcR, kLr1_s, List.getElem?_cons_zero, List.getElem?_cons_succ, List.set_cons_zero, List.set_cons_succ, ini, prs, dist, putB, List.all_cons, List.all_nil, Bool.and_true, Bool.true_and, if_true, if_pos, is1, l1, n1, h4, e, ne_nil, h5, c1, c2, k1, k2, k3, k4, ne1, g1, g2, Bool.not_true, Bool.not_false, Bool.false_and]
  | _ => rfl
end K01

set_option Elab.async false
set_option linter.all false
set_option maxRecDepth 100000
set_option maxHeartbeats 1000000
namespace K01
open PySem PySem.Spec PyProof.Rows L2 Mx
theorem ties_filter (many : Int) (ts : List D) : (ts.filter fun d => !tieB many d).isEmpty = ts.all (tieB many) := by
  induction ts with
  | nil => rfl
  | cons t ts ih =>
    cases h : tieB many t with
    | false => rw [List.filter_cons_of_pos (by simp [h]), List.all_cons, h]; rfl
    | true => rw [List.filter_cons_of_neg (by simp [h]), List.all_cons, h, ih]; rfl
theorem falls_filter (ts : List D) (l : List Nat) : (l.filter (fallsAt ts)).isEmpty = l.all fun i => !fallsAt ts i := by
  induction l with
  | nil => rfl
  | cons t l ih =>
    cases h : fallsAt ts t with
    | true => rw [List.filter_cons_of_pos h, List.all_cons, h]; rfl
    | false => rw [List.filter_cons_of_neg (by simp [h]), List.all_cons, h, ih]; rfl
theorem law_is_net_eq (d : D) : f_law_is_net [.sh d] = .ret (.sh (.bl (netB d))) [.un] := by
  have st : f_law_is_net [.sh d] = finS (b_law_is_net ⟨[.sh d, .un, .un, .un, .un], [.un]⟩) := rfl
  cases d with
  | tup xs =>
    have is0 : opIsi "tuple" (.tup xs) = some (.sh (.bl true)) := rfl
    have l0 : dLen (.tup xs) = some (.sh (.int xs.length)) := rfl
    have n0 : dNe (.int xs.length) (.int 2) = some (.sh (.bl (!((xs.length : Int) == 2)))) := rfl
    have h2' : tupN 2 (.tup xs) = ((xs.length : Int) == 2) := rfl
    rw [st]
    unfold b_law_is_net
    cases h2 : ((xs.length : Int) == 2) with
    | false =>
      rw [netB_no (h2'.trans h2)]
      simp only [bind_ok, bind_ex, bind_no, thn_ok, thn_ex, thn_no, lbind_ok, lthn_ok, seq_nx, seq_rt, seq_bk, seq_ct, seq_ex, seq_no, kB_t, kB_f, kS_t, kS_f, asB_bl, kR_s, kD_s, kD2_s, rd_sh, rd_fr, rd_bs, rd_bp, kCs_o, kCp_o, kCp_s, kV_s, kV_o, kV_a, kVp_o, kVp_s, ap_var, ap_c, ap_un, ap_bin, ap_and, ap_or, ap_ifE, kN_s, ap_not, kBl_ap, ap_nx, ap_seq, ap_expr, ap_ret, ap_retN, ap_if, ap_set, stor_sh, stor_fr, ap_args0, ap_args, kA1_ok, kA2_ok, ap_call, kC1_s, kC2_sh, kC2_fr, kC3_s, argC_sh, argC_fr, argC_bs, argC_bp, kAc_o, kAc_s, argCs_nil, argCs_cons, kAcs_s, kAc2_s, kEs_s, ap_tup, ap_lst, escs_nil, escs_cons, kE1_s, kE2_s, esc_sh, esc_fr, esc_bs, kEo_o, kDs_s, ap_bl, rds_nil, rds_cons, kRd1_s, kRd2_s, op1_s, op2_s, ap_asg, kT_s, kT2_s, tNm_ap, tTp_t, tTp_l, tAll_nil, tAll_cons, kTa_s, finS_nx, finS_sh, finS_fr, finS_bs, kF_o, int2_ap, ap_lc, kL1_s, kL2_s, itemsOf_l, itemsOf_t, itemsOf_r, ap_lcR, kLr1_s, List.getElem?_cons_zero, List.getElem?_cons_succ, List.set_cons_zero, List.set_cons_succ, ini, prs, dist, putB, List.all_cons, List.all_nil, Bool.and_true, Bool.true_and, if_true, if_pos, is0, l0, n0, h2, Bool.not_true, Bool.not_false]
    | true =>
      obtain ⟨a, b, rfl⟩ := two (h2'.trans h2)
      have e1 := law_is_int_eq a
      have i0 : dIx (.tup [a, b]) (.int 0) = some (.sh a) := rfl
      cases h3 : isI a with
      | false =>
        have hn : netB (.tup [a, b]) = false := by
          cases a with
          | int i => cases h3
          | _ => rfl
        rw [hn]
        simp only [bind_ok, bind_ex, bind_no, thn_ok, thn_ex, thn_no, lbind_ok, lthn_ok, seq_nx, seq_rt, seq_bk, seq_ct, seq_ex, seq_no, kB_t, kB_f, kS_t, kS_f, asB_bl, kR_s, kD_s, kD2_s, rd_sh, rd_fr, rd_bs, rd_bp, kCs_o, kCp_o, kCp_s, kV_s, kV_o, kV_a, kVp_o, kVp_s, ap_var, ap_c, ap_un, ap_bin, ap_and, ap_or, ap_ifE, kN_s, ap_not, kBl_ap, ap_nx, ap_seq, ap_expr, ap_ret, ap_retN, ap_if, ap_set, stor_sh, stor_fr, ap_args0, ap_args, kA1_ok, kA2_ok, ap_call, kC1_s, kC2_sh, kC2_fr, kC3_s, argC_sh, argC_fr, argC_bs, argC_bp, kAc_o, kAc_s, argCs_nil, argCs_cons, kAcs_s, kAc2_s, kEs_s, ap_tup, ap_lst, escs_nil, escs_cons, kE1_s, kE2_s, esc_sh, esc_fr, esc_bs, kEo_o, kDs_s, ap_bl, rds_nil, rds_cons, kRd1_s, kRd2_s, op1_s, op2_s, ap_asg, kT_s, kT2_s, tNm_ap, tTp_t, tTp_l, tAll_nil, tAll_cons, kTa_s, finS_nx, finS_sh, finS_fr, finS_bs, kF_o, int2_ap, ap_lc, kL1_s, kL2_s, itemsOf_l, itemsOf_t, itemsOf_r, ap_lcR, kLr1_s, List.getElem?_cons_zero, List.getElem?_cons_succ, List.set_cons_zero, List.set_cons_succ, ini, prs, dist, putB, List.all_cons, List.all_nil, Bool.and_true, Bool.true_and, if_true, if_pos, is0, l0, n0, h2, e1, i0, h3, Bool.not_true, Bool.not_false]
      | true =>
        obtain ⟨many, rfl⟩ : ∃ i, a = .int i := by
          cases a with
          | int i => exact ⟨i, rfl⟩
          | _ => cases h3
        have c1 := chain_le (f := mC (.int 1)) (g := mBin dIx (mVar 0) (mC (.int 0))) (h := mC (.int 20)) (s := ⟨[.sh (.tup [.int many, b]), .un, .un, .un, .un], [.un]⟩) (a := 1) (b := many) (c := 20) rfl rfl rfl
        cases h4 : (decide (1 ≤ many) && decide (many ≤ 20)) with
        | false =>
          have hn : netB (.tup [.int many, b]) = false := by
            cases b with
            | tup ts =>
              simp only [netB]
              rw [← Bool.and_assoc, h4, Bool.false_and]
            | _ => rfl
          rw [hn]
          simp only [bind_ok, bind_ex, bind_no, thn_ok, thn_ex, thn_no, lbind_ok, lthn_ok, seq_nx, seq_rt, seq_bk, seq_ct, seq_ex, seq_no, kB_t, kB_f, kS_t, kS_f, asB_bl, kR_s, kD_s, kD2_s, rd_sh, rd_fr, rd_bs, rd_bp, kCs_o, kCp_o, kCp_s, kV_s, kV_o, kV_a, kVp_o, kVp_s, ap_var, ap_c, ap_un, ap_bin, ap_and, ap_or, ap_ifE, kN_s, ap_not, kBl_ap, ap_nx, ap_seq, ap_expr, ap_ret, ap_retN, ap_if, ap_set, stor_sh, stor_fr, ap_args0, ap_args, kA1_ok, kA2_ok, ap_call, kC1_s, kC2_sh, kC2_fr, kC3_s, argC_sh, argC_fr, argC_bs, argC_bp, kAc_o, kAc_s, argCs_nil, argCs_cons, kAcs_s, kAc2_s, kEs_s, ap_tup, ap_lst, escs_nil, escs_cons, kE1_s, kE2_s, esc_sh, esc_fr, esc_bs, kEo_o, kDs_s, ap_bl, rds_nil, rds_cons, kRd1_s, kRd2_s, op1_s, op2_s, ap_asg, kT_s, kT2_s, tNm_ap, tTp_t, tTp_l, tAll_nil, tAll_cons, kTa_s, finS_nx, finS_sh, finS_fr, finS_bs, kF_o, int2_ap, ap_lc, kL1_s, kL2_s, itemsOf_l, itemsOf_t, itemsOf_r, ap_lcR, kLr1_s, List.getElem?_cons_zero, List.getElem?_cons_succ, List.set_cons_zero, List.set_cons_succ, ini, prs, dist, putB, List.all_cons, List.all_nil, Bool.and_true, Bool.true_and, if_true, if_pos, is0, l0, n0, h2, e1, i0, h3, c1, h4, Bool.not_true, Bool.not_false]
        | true =>
          cases b with
          | tup ts =>
            have is1 : opIsi "tuple" (.tup ts) = some (.sh (.bl true)) := rfl
            have l1 : dLen (.tup ts) = some (.sh (.int ts.length)) := rfl
            have g1 : dGt (.int ts.length) (.int 120) = some (.sh (.bl (decide ((120 : Int) < ts.length)))) := rfl
            have nb : netB (.tup [.int many, .tup ts]) = (decide (ts.length ≤ 120) && (ts.all (tieB many) && ordB ts)) := by
              simp only [netB]
              rw [← Bool.and_assoc, h4, Bool.true_and]
            rw [nb]
            cases h5 : decide ((120 : Int) < ts.length) with
            | true =>
              have := of_decide_eq_true h5
              have z : decide (ts.length ≤ 120) = false := decide_eq_false (by omega)
              simp only [bind_ok, bind_ex, bind_no, thn_ok, thn_ex, thn_no, lbind_ok, lthn_ok, seq_nx, seq_rt, seq_bk, seq_ct, seq_ex, seq_no, kB_t, kB_f, kS_t, kS_f, asB_bl, kR_s, kD_s, kD2_s, rd_sh, rd_fr, rd_bs, rd_bp, kCs_o, kCp_o, kCp_s, kV_s, kV_o, kV_a, kVp_o, kVp_s, ap_var, ap_c, ap_un, ap_bin, ap_and, ap_or, ap_ifE, kN_s, ap_not, kBl_ap, ap_nx, ap_seq, ap_expr, ap_ret, ap_retN, ap_if, ap_set, stor_sh, stor_fr, ap_args0, ap_args, kA1_ok, kA2_ok, ap_call, kC1_s, kC2_sh, kC2_fr, kC3_s, argC_sh, argC_fr, argC_bs, argC_bp, kAc_o, kAc_s, argCs_nil, argCs_cons, kAcs_s, kAc2_s, kEs_s, ap_tup, ap_lst, escs_nil, escs_cons, kE1_s, kE2_s, esc_sh, esc_fr, esc_bs, kEo_o, kDs_s, ap_bl, rds_nil, rds_cons, kRd1_s, kRd2_s, op1_s, op2_s, ap_asg, kT_s, kT2_s, tNm_ap, tTp_t, tTp_l, tAll_nil, tAll_cons, kTa_s, finS_nx, finS_sh, finS_fr, finS_bs, kF_o, int2_ap, ap_lc, kL1_s, kL2_s, itemsOf_l, itemsOf_t, itemsOf_r, ap_lcR, kLr1_s, List.getElem?_cons_zero, List.getElem?_cons_succ, List.set_cons_zero, List.set_cons_succ, ini, prs, dist, putB, List.all_cons, List.all_nil, Bool.and_true, Bool.true_and, if_true, if_pos, is0, l0, n0, h2, e1, i0, h3, c1, h4, is1, l1, g1, h5, z, Bool.not_true, Bool.not_false, Bool.false_and]
            | false =>
              have hle := of_decide_eq_false h5
              have hle : ts.length ≤ 120 := by omega
              have z : decide (ts.length ≤ 120) = true := decide_eq_true hle
              have e := lc_pure (v := 3) (tt := mNot (mCall f_law_is_tie [mVar 3, mVar 1])) (elt := mVar 3) (p := fun d => !tieB many d) (gg := fun d => d) (s := ⟨[.sh (.tup [.int many, .tup ts]), .sh (.int many), .sh (.tup ts), .un, .un], [.un]⟩) (cl := .un) rfl (fun d z => by cases z) ts (fun d hd => by
                have et := law_is_tie_eq many d
                refine ⟨?_, fun _ => ⟨.sh d, rfl, rfl⟩⟩
                simp only [bind_ok, bind_ex, bind_no, thn_ok, thn_ex, thn_no, lbind_ok, lthn_ok, seq_nx, seq_rt, seq_bk, seq_ct, seq_ex, seq_no, kB_t, kB_f, kS_t, kS_f, asB_bl, kR_s, kD_s, kD2_s, rd_sh, rd_fr, rd_bs, rd_bp, kCs_o, kCp_o, kCp_s, kV_s, kV_o, kV_a, kVp_o, kVp_s, ap_var, ap_c, ap_un, ap_bin, ap_and, ap_or, ap_ifE, kN_s, ap_not, kBl_ap, ap_nx, ap_seq, ap_expr, ap_ret, ap_retN, ap_if, ap_set, stor_sh, stor_fr, ap_args0, ap_args, kA1_ok, kA2_ok, ap_call, kC1_s, kC2_sh, kC2_fr, kC3_s, argC_sh, argC_fr, argC_bs, argC_bp, kAc_o, kAc_s, argCs_nil, argCs_cons, kAcs_s, kAc2_s, kEs_s, ap_tup, ap_lst, escs_nil, escs_cons, kE1_s, kE2_s, esc_sh, esc_fr, esc_bs, kEo_o, kDs_s, ap_bl, rds_nil, rds_cons, kRd1_s, kRd2_s, op1_s, op2_s, ap_asg, kT_s, kT2_s, tNm_ap, tTp_t, tTp_l, tAll_nil, tAll_cons, kTa_s, finS_nx, finS_sh, finS_fr, finS_bs, kF_o, int2_ap, ap_lc, kL1_s, kL2_s, itemsOf_l, itemsOf_t, itemsOf_r, ap_lcR, kLr1_s, List.getElem?_cons_zero, List.getElem?_cons_succ, List.set_cons_zero, List.set_cons_succ, ini, prs, dist, putB, List.all_cons, List.all_nil, Bool.and_true, Bool.true_and, if_true, if_pos, et])
              rw [List.map_id'] at e
              have hf := ties_filter many ts
              cases h6 : ts.all (tieB many) with
              | false =>
                rw [h6] at hf
                simp only [bind_ok, bind_ex, bind_no, thn_ok, thn_ex, thn_no, lbind_ok, lthn_ok, seq_nx, seq_rt, seq_bk, seq_ct, seq_ex, seq_no, kB_t, kB_f, kS_t, kS_f, asB_bl, kR_s, kD_s, kD2_s, rd_sh, rd_fr, rd_bs, rd_bp, kCs_o, kCp_o, kCp_s, kV_s, kV_o, kV_a, kVp_o, kVp_s, ap_var, ap_c, ap_un, ap_bin, ap_and, ap_or, ap_ifE, kN_s, ap_not, kBl_ap, ap_nx, ap_seq, ap_expr, ap_ret, ap_retN, ap_if, ap_set, stor_sh, stor_fr, ap_args0, ap_args, kA1_ok, kA2_ok, ap_call, kC1_s, kC2_sh, kC2_fr, kC3_s, argC_sh, argC_fr, argC_bs, argC_bp, kAc_o, kAc_s, argCs_nil, argCs_cons, kAcs_s, kAc2_s, kEs_s, ap_tup, ap_lst, escs_nil, escs_cons, kE1_s, kE2_s, esc_sh, esc_fr, esc_bs, kEo_o, kDs_s, ap_bl, rds_nil, rds_cons, kRd1_s, kRd2_s, op1_s, op2_s, ap_asg, kT_s, kT2_s, tNm_ap, tTp_t, tTp_l, tAll_nil, tAll_cons, kTa_s, finS_nx, finS_sh, finS_fr, finS_bs, kF_o, int2_ap, ap_lc, kL1_s, kL2_s, itemsOf_l, itemsOf_t, itemsOf_r, ap_lcR, kLr1_s, List.getElem?_cons_zero, List.getElem?_cons_succ, List.set_cons_zero, List.set_cons_succ, ini, prs, dist, putB, List.all_cons, List.all_nil, Bool.and_true, Bool.true_and, if_true, if_pos, is0, l0, n0, h2, e1, i0, h3, c1, h4, is1, l1, g1, h5, z, e, ne_nil, hf, Bool.not_true, Bool.not_false, Bool.false_and]
              | true =>
                rw [h6] at hf
                have row : ∀ i, i < ts.length → Row (ts.getD i .non) := fun i hi => tie_row (List.all_eq_true.mp h6 _ (List.mem_of_getElem? (getD_of hi)))
                have e2 := lc_pure (v := 4) (tt := mBin dLtA (mBin dIx (mVar 2) (mBin dAdd (mVar 4) (mC (.int 1)))) (mBin dIx (mVar 2) (mVar 4))) (elt := mVar 4) (p := fun d => match d with | .int i => fallsAt ts i.toNat | _ => false)
                  (gg := fun d => d) (s := ⟨[.sh (.tup [.int many, .tup ts]), .sh (.int many), .sh (.tup ts), .un, .un], [.un]⟩) (cl := .un) rfl (fun d z => by cases z) (upFrom 0 (((ts.length : Int) - 1).toNat)) (fun d hd => by
                  obtain ⟨i, hi, rfl⟩ := up_mem hd
                  refine ⟨?_, fun _ => ⟨.sh (.int i), rfl, rfl⟩⟩
                  have i0 := ix_t (getD_of (ts := ts) (i := i) (by omega))
                  have i1 := ix_t (getD_of (ts := ts) (i := i + 1) (by omega))
                  have a1 : dAdd (.int (i : Int)) (.int 1) = some (.sh (.int ((i + 1 : Nat) : Int))) := by
                    show some (Rv.sh (D.int ((i : Int) + 1))) = _
                    congr 3
                  have l1 := lt_rows (row (i + 1) (by omega)) (row i (by omega))
                  simp only [bind_ok, bind_ex, bind_no, thn_ok, thn_ex, thn_no, lbind_ok, lthn_ok, seq_nx, seq_rt, seq_bk, seq_ct, seq_ex, seq_no, kB_t, kB_f, kS_t, kS_f, asB_bl, kR_s, kD_s, kD2_s, rd_sh, rd_fr, rd_bs, rd_bp, kCs_o, kCp_o, kCp_s, kV_s, kV_o, kV_a, kVp_o, kVp_s, ap_var, ap_c, ap_un, ap_bin, ap_and, ap_or, ap_ifE, kN_s, ap_not, kBl_ap, ap_nx, ap_seq, ap_expr, ap_ret, ap_retN, ap_if, ap_set, stor_sh, stor_fr, ap_args0, ap_args, kA1_ok, kA2_ok, ap_call, kC1_s, kC2_sh, kC2_fr, kC3_s, argC_sh, argC_fr, argC_bs, argC_bp, kAc_o, kAc_s, argCs_nil, argCs_cons, kAcs_s, kAc2_s, kEs_s, ap_tup, ap_lst, escs_nil, escs_cons, kE1_s, kE2_s, esc_sh, esc_fr, esc_bs, kEo_o, kDs_s, ap_bl, rds_nil, rds_cons, kRd1_s, kRd2_s, op1_s, op2_s, ap_asg, kT_s, kT2_s, tNm_ap, tTp_t, tTp_l, tAll_nil, tAll_cons, kTa_s, finS_nx, finS_sh, finS_fr, finS_bs, kF_o, int2_ap, ap_lc, kL1_s, kL2_s, itemsOf_l, itemsOf_t, itemsOf_r, ap_lcR, kLr1_s, List.getElem?_cons_zero, List.getElem?_cons_succ, List.set_cons_zero, List.set_cons_succ, ini, prs, dist, putB, List.all_cons, List.all_nil, Bool.and_true, Bool.true_and, if_true, if_pos, i0, i1, a1, l1]
                  rfl)
                have e3 := up_filter (n := ((ts.length : Int) - 1).toNat) (p := fun d => match d with | .int i => fallsAt ts i.toNat | _ => false) (g := fun d => d) (p' := fallsAt ts) (g' := fun i => D.int (i : Int)) (fun i => rfl) (fun i => rfl)
                rw [e3] at e2
                have d2 : dSub (.int ts.length) (.int 1) = some (.sh (.int ((ts.length : Int) - 1))) := rfl
                have hr := rng1_ap (s := ⟨[.sh (.tup [.int many, .tup ts]), .sh (.int many), .sh (.tup ts), .un, .un], [.un]⟩) (own := [4]) (tm := tNm 4) (tt := mBin dLtA (mBin dIx (mVar 2) (mBin dAdd (mVar 4) (mC (.int 1)))) (mBin dIx (mVar 2) (mVar 4))) (elt := mVar 4) (j := (ts.length : Int) - 1) (by omega) (by omega)
                have hn : ((ts.length : Int) - 1).toNat = ts.length - 1 := by omega
                simp only [bind_ok, bind_ex, bind_no, thn_ok, thn_ex, thn_no, lbind_ok, lthn_ok, seq_nx, seq_rt, seq_bk, seq_ct, seq_ex, seq_no, kB_t, kB_f, kS_t, kS_f, asB_bl, kR_s, kD_s, kD2_s, rd_sh, rd_fr, rd_bs, rd_bp, kCs_o, kCp_o, kCp_s, kV_s, kV_o, kV_a, kVp_o, kVp_s, ap_var, ap_c, ap_un, ap_bin, ap_and, ap_or, ap_ifE, kN_s, ap_not, kBl_ap, ap_nx, ap_seq, ap_expr, ap_ret, ap_retN, ap_if, ap_set, stor_sh, stor_fr, ap_args0, ap_args, kA1_ok, kA2_ok, ap_call, kC1_s, kC2_sh, kC2_fr, kC3_s, argC_sh, argC_fr, argC_bs, argC_bp, kAc_o, kAc_s, argCs_nil, argCs_cons, kAcs_s, kAc2_s, kEs_s, ap_tup, ap_lst, escs_nil, escs_cons, kE1_s, kE2_s, esc_sh, esc_fr, esc_bs, kEo_o, kDs_s, ap_bl, rds_nil, rds_cons, kRd1_s, kRd2_s, op1_s, op2_s, ap_asg, kT_s, kT2_s, tNm_ap, tTp_t, tTp_l, tAll_nil, tAll_cons, kTa_s, finS_nx, finS_sh, finS_fr, finS_bs, kF_o, int2_ap, ap_lc, kL1_s, kL2_s, itemsOf_l, itemsOf_t, itemsOf_r, ap_lcR, kLr1_s, List.getElem?_cons_zero, List.getElem?_cons_succ, List.set_cons_zero, List.set_cons_succ, ini, prs, dist, putB, List.all_cons, List.all_nil, Bool.and_true, Bool.true_and, if_true, if_pos, is0, l0, n0, h2, e1, i0, h3, c1, h4, is1, l1, g1, h5, z, e, ne_nil, eq_nil, hf, hr, d2, e2, Bool.not_true, Bool.not_false, Bool.false_and]
                rw [List.isEmpty_map, hn, falls_filter]
                rfl
          | _ =>
            simp only [bind_ok, bind_ex, bind_no, thn_ok, thn_ex, thn_no, lbind_ok, lthn_ok, seq_nx, seq_rt, seq_bk, seq_ct, seq_ex, seq_no, kB_t, kB_f, kS_t, kS_f, asB_bl, kR_s, kD_s, kD2_s, rd_sh, rd_fr, rd_bs, rd_bp, kCs_o, kCp_o, kCp_s, kV_s, kV_o, kV_a, kVp_o, kVp_s, ap_var, ap_c, ap_un, ap_bin, ap_and, ap_or, ap_ifE, kN_s, ap_not, kBl_ap, ap_nx, ap_seq, ap_expr, ap_ret, ap_retN, ap_if, ap_set, stor_sh, stor_fr, ap_args0, ap_args, kA1_ok, kA2_ok, ap_call, kC1_s, kC2_sh, kC2_fr, kC3_s, argC_sh, argC_fr, argC_bs, argC_bp, kAc_o, kAc_s, argCs_nil, argCs_cons, kAcs_s, kAc2_s, kEs_s, ap_tup, ap_lst, escs_nil, escs_cons, kE1_s, kE2_s, esc_sh, esc_fr, esc_bs, kEo_o, kDs_s, ap_bl, rds_nil, rds_cons, kRd1_s, kRd2_s, op1_s, op2_s, ap_asg, kT_s, kT2_s, tNm_ap, tTp_t, tTp_l, tAll_nil, tAll_cons, kTa_s, finS_nx, finS_sh, finS_fr, finS_bs, kF_o, int2_ap, ap_lc, kL1_s, kL2_s, itemsOf_l, itemsOf_t, itemsOf_r, ap_lcR, kLr1_s, List.getElem?_cons_zero, List.getElem?_cons_succ, List.set_cons_zero, List.set_cons_succ, ini, prs, dist, putB, List.all_cons, List.all_nil, Bool.and_true, Bool.true_and, if_true, if_pos, is0, l0, n0, h2, e1, i0, h3, c1, h4, Bool.not_true, Bool.not_false]
            rfl
  | _ => rfl
/-! ### the comparing of what is told -/
theorem same_bl (x y : Bool) : f_law_same [.sh (.bl x), .sh (.bl y)] = .ret (.sh (.bl (x == y))) [.un, .un] := by
  cases x <;> cases y <;> rfl
/-- what can be shown -/
def Sho (d : D) : Prop := ∃ p, D.rp d = some p ∧ shOk p = true
theorem repr_eq {d : D} (h : Sho d) : ∃ z : Str, dRepr d = some (.sh (.str z)) := by
  obtain ⟨p, e, ok⟩ := h
  exact ⟨p.shown, by simp only [dRepr, e, ok, if_true]⟩
theorem eq_str (z : Str) : dEq (.str z) (.str z) = some (.sh (.bl true)) := by
  have e : (z == z) = true := by simp
  simp only [dEq, dStrB, e, id]
end K01

set_option Elab.async false
set_option linter.all false
set_option maxRecDepth 100000
set_option maxHeartbeats 1000000
namespace K01
open PySem PySem.Spec PyProof.Rows L2 Mx
/-! ### the box of draws -/
/-- a box, its counter at most n -/
def boxD (x : Int) (g : Bool) (m c : Int) : D := .lst [.int x, .bl g, .int m, .int c]
def Box (n : Int) (d : D) : Prop := ∃ x g m c, d = boxD x g m c ∧ 0 ≤ m ∧ m < 2147483629 ∧ 0 ≤ c ∧ c ≤ n
theorem Box.mono {n k : Int} {d : D} (h : Box n d) (l : n ≤ k) : Box k d := by
  obtain ⟨x, g, m, c, e, h1, h2, h3, h4⟩ := h
  exact ⟨x, g, m, c, e, h1, h2, h3, by omega⟩
theorem pow_int {i j : Int} (h0 : 0 ≤ j) (h1 : j ≤ 1000000) (h2 : i.natAbs < 2 ^ 64) : dPow (.int i) (.int j) = some (.sh (.int (i ^ j.toNat))) := if_pos (by unfold cPow; exact decide_eq_true ⟨h0, h1, h2⟩)
theorem mod_int {i j : Int} (h : 0 < j) : dMod (.int i) (.int j) = some (.sh (.int (i % j))) := if_pos (decide_eq_true h)
theorem fdiv_int {i j : Int} (h0 : 0 < j) (h1 : j < 1073741824) : dFdiv (.int i) (.int j) = some (.sh (.int (i / j))) := if_pos (by unfold cDiv; exact decide_eq_true ⟨h0, h1⟩)
theorem mul_intS {i j : Int} (h : i.natAbs < 2 ^ 64) (h2 : j.natAbs < 2 ^ 64) : dMul (.int i) (.int j) = some (.sh (.int (i * j))) := by
  have e : dMulI (.int i) (.int j) = some (.sh (.int (i * j))) := by
    refine if_pos ?_
    unfold cMul
    refine decide_eq_true ?_
    have l1 : i.natAbs.log2 < 65 := by
      rcases Nat.eq_zero_or_pos i.natAbs with z | z
      · rw [z]; decide
      · exact (Nat.log2_lt (by omega)).mpr (by omega)
    have l2 : j.natAbs.log2 < 65 := by
      rcases Nat.eq_zero_or_pos j.natAbs with z | z
      · rw [z]; decide
      · exact (Nat.log2_lt (by omega)).mpr (by omega)
    omega
  simp only [dMul, e]
theorem add_int (i j : Int) : dAdd (.int i) (.int j) = some (.sh (.int (i + j))) := rfl
theorem sub_int (i j : Int) : dSub (.int i) (.int j) = some (.sh (.int (i - j))) := rfl
theorem int_int (i : Int) : dInt (.int i) = some (.sh (.int i)) := rfl
theorem gt_int (i j : Int) : dGt (.int i) (.int j) = some (.sh (.bl (decide (j < i)))) := rfl
theorem mr (d : D) : (0 : Nat) = 0 := rfl
/-- a draw -/
theorem take_ok {n many : Int} {d : D} (hb : Box n d) (hn : n ≤ 10000000) (h0 : 0 < many) (h1 : many < 1073741824) : ∃ r d', f_law_take [.ow d, .sh (.int many)] = .ret (.sh (.int r)) [.ow d', .un] ∧ Box (n + 1) d' ∧ 0 ≤ r ∧ r < many := by
  obtain ⟨x, g, m, c, rfl, m0, mlt, c0, c1⟩ := hb
  have st : f_law_take [.ow (boxD x g m c), .sh (.int many)] = finS (b_law_take ⟨[.al 0, .sh (.int many), .un, .un], [.ow (boxD x g m c), .un]⟩) := rfl
  have i0 : dIx (boxD x g m c) (.int 0) = some (.sh (.int x)) := rfl
  have i1 : dIx (boxD x g m c) (.int 1) = some (.sh (.bl g)) := rfl
  have i2 : dIx (boxD x g m c) (.int 2) = some (.sh (.int m)) := rfl
  have i3 : dIx (boxD x g m c) (.int 3) = some (.sh (.int c)) := rfl
  cases hg : (g && decide (0 < x)) with
  | true =>
    simp only [Bool.and_eq_true, decide_eq_true_eq] at hg
    obtain ⟨rfl, hx⟩ := hg
    have q1 : decide ((0 : Int) < x) = true := decide_eq_true hx
    have e1 := mod_int (i := x) h0
    have e2 := fdiv_int (i := x) h0 h1
    refine ⟨x % many, boxD (x / many) true m c, ?_, ⟨_, _, m, c, rfl, m0, mlt, c0, by omega⟩, Int.emod_nonneg _ (by omega), Int.emod_lt_of_pos _ h0⟩
    have hs : (mSetIx (mBin dFdiv (mBin dIx (mVar 0) (mC (.int 0))) (mVar 1)) (mVar 0) (mC (.int 0))) ⟨[.al 0, .sh (.int many), .sh (.int (x % many)), .un], [.ow (boxD x true m c), .un]⟩ = .nx ⟨[.al 0, .sh (.int many), .sh (.int (x % many)), .un], [.ow (boxD (x / many) true m c), .un]⟩ := by
      have z : (mBin dFdiv (mBin dIx (mVar 0) (mC (.int 0))) (mVar 1)) ⟨[.al 0, .sh (.int many), .sh (.int (x % many)), .un], [.ow (boxD x true m c), .un]⟩ = .ok (.sh (.int (x / many))) ⟨[.al 0, .sh (.int many), .sh (.int (x % many)), .un], [.ow (boxD x true m c), .un]⟩ := by
        simp only [bind_ok, bind_ex, bind_no, thn_ok, thn_ex, thn_no, lbind_ok, lthn_ok, seq_nx, seq_rt, seq_bk, seq_ct, seq_ex, seq_no, kB_t, kB_f, kS_t, kS_f, asB_bl, kR_s, kD_s, kD2_s, rd_sh, rd_fr, rd_bs, rd_bp, kCs_o, kCp_o, kCp_s, kV_s, kV_o, kV_a, kVp_o, kVp_s, ap_var, ap_c, ap_un, ap_bin, ap_and, ap_or, ap_ifE, kN_s, ap_not, kBl_ap, ap_nx, ap_seq, ap_expr, ap_ret, ap_retN, ap_if, ap_set, stor_sh, stor_fr, ap_args0, ap_args, kA1_ok, kA2_ok, ap_call, kC1_s, kC2_sh, kC2_fr, kC3_s, argC_sh, argC_fr, argC_bs, argC_bp, kAc_o, kAc_s, argCs_nil, argCs_cons, kAcs_s, kAc2_s, kEs_s, ap_tup, ap_lst, escs_nil, escs_cons, kE1_s, kE2_s, esc_sh, esc_fr, esc_bs, kEo_o, kDs_s, ap_bl, rds_nil, rds_cons, kRd1_s, kRd2_s, op1_s, op2_s, ap_asg, kT_s, kT2_s, tNm_ap, tTp_t, tTp_l, tAll_nil, tAll_cons, kTa_s, finS_nx, finS_sh, finS_fr, finS_bs, kF_o, int2_ap, ap_lc, kL1_s, kL2_s, itemsOf_l, itemsOf_t, itemsOf_r, ap_lcR, kLr1_s, List.getElem?_cons_zero, List.getElem?_cons_succ, List.set_cons_zero, List.set_cons_succ, ini, prs, dist, putB, List.all_cons, List.all_nil, Bool.and_true, Bool.true_and, if_true, if_pos, i0, e2]
      unfold mSetIx
      rw [z]
      rfl
    rw [st]
    unfold b_law_take
    simp only [bind_ok, bind_ex, bind_no, thn_ok, thn_ex, thn_no, lbind_ok, lthn_ok, seq_nx, seq_rt, seq_bk, seq_ct, seq_ex, seq_no, kB_t, kB_f, kS_t, kS_f, asB_bl, kR_s, kD_s, kD2_s, rd_sh, rd_fr, rd_bs, rd_bp, kCs_o, kCp_o, kCp_s, kV_s, kV_o, kV_a, kVp_o, kVp_s, ap_var, ap_c, ap_un, ap_bin, ap_and, ap_or, ap_ifE, kN_s, ap_not, kBl_ap, ap_nx, ap_seq, ap_expr, ap_ret, ap_retN, ap_if, ap_set, stor_sh, stor_fr, ap_args0, ap_args, kA1_ok, kA2_ok, ap_call, kC1_s, kC2_sh, kC2_fr, kC3_s, argC_sh, argC_fr, argC_bs, argC_bp, kAc_o, kAc_s, argCs_nil, argCs_cons, kAcs_s, kAc2_s, kEs_s, ap_tup, ap_lst, escs_nil, escs_cons, kE1_s, kE2_s, esc_sh, esc_fr, esc_bs, kEo_o, kDs_s, ap_bl, rds_nil, rds_cons, kRd1_s, kRd2_s, op1_s, op2_s, ap_asg, kT_s, kT2_s, tNm_ap, tTp_t, tTp_l, tAll_nil, tAll_cons, kTa_s, finS_nx, finS_sh, finS_fr, finS_bs, kF_o, int2_ap, ap_lc, kL1_s, kL2_s, itemsOf_l, itemsOf_t, itemsOf_r, ap_lcR, kLr1_s, List.getElem?_cons_zero, List.getElem?_cons_succ, List.set_cons_zero, List.set_cons_succ, ini, prs, dist, putB, List.all_cons, List.all_nil, Bool.and_true, Bool.true_and, if_true, if_pos, i0, i1, gt_int, q1, int_int, e1, hs]
  | false =>
    -- the generator
    have hs1 : (mSetIx (mBin dAdd (mBin dIx (mVar 0) (mC (.int 3))) (mC (.int 1))) (mVar 0) (mC (.int 3))) ⟨[.al 0, .sh (.int many), .un, .un], [.ow (boxD x g m c), .un]⟩ = .nx ⟨[.al 0, .sh (.int many), .un, .un], [.ow (boxD x g m (c + 1)), .un]⟩ := by
      have z : (mBin dAdd (mBin dIx (mVar 0) (mC (.int 3))) (mC (.int 1))) ⟨[.al 0, .sh (.int many), .un, .un], [.ow (boxD x g m c), .un]⟩ = .ok (.sh (.int (c + 1))) ⟨[.al 0, .sh (.int many), .un, .un], [.ow (boxD x g m c), .un]⟩ := by
        simp only [bind_ok, bind_ex, bind_no, thn_ok, thn_ex, thn_no, lbind_ok, lthn_ok, seq_nx, seq_rt, seq_bk, seq_ct, seq_ex, seq_no, kB_t, kB_f, kS_t, kS_f, asB_bl, kR_s, kD_s, kD2_s, rd_sh, rd_fr, rd_bs, rd_bp, kCs_o, kCp_o, kCp_s, kV_s, kV_o, kV_a, kVp_o, kVp_s, ap_var, ap_c, ap_un, ap_bin, ap_and, ap_or, ap_ifE, kN_s, ap_not, kBl_ap, ap_nx, ap_seq, ap_expr, ap_ret, ap_retN, ap_if, ap_set, stor_sh, stor_fr, ap_args0, ap_args, kA1_ok, kA2_ok, ap_call, kC1_s, kC2_sh, kC2_fr, kC3_s, argC_sh, argC_fr, argC_bs, argC_bp, kAc_o, kAc_s, argCs_nil, argCs_cons, kAcs_s, kAc2_s, kEs_s, ap_tup, ap_lst, escs_nil, escs_cons, kE1_s, kE2_s, esc_sh, esc_fr, esc_bs, kEo_o, kDs_s, ap_bl, rds_nil, rds_cons, kRd1_s, kRd2_s, op1_s, op2_s, ap_asg, kT_s, kT2_s, tNm_ap, tTp_t, tTp_l, tAll_nil, tAll_cons, kTa_s, finS_nx, finS_sh, finS_fr, finS_bs, kF_o, int2_ap, ap_lc, kL1_s, kL2_s, itemsOf_l, itemsOf_t, itemsOf_r, ap_lcR, kLr1_s, List.getElem?_cons_zero, List.getElem?_cons_succ, List.set_cons_zero, List.set_cons_succ, ini, prs, dist, putB, List.all_cons, List.all_nil, Bool.and_true, Bool.true_and, if_true, if_pos, i3, add_int]
      unfold mSetIx
      rw [z]
      rfl
    have j2 : dIx (boxD x g m (c + 1)) (.int 2) = some (.sh (.int m)) := rfl
    have j3 : dIx (boxD x g m (c + 1)) (.int 3) = some (.sh (.int (c + 1))) := rfl
    have m1 : dMul (.int 15485867) (.int (c + 1)) = some (.sh (.int (15485867 * (c + 1)))) := mul_intS (by decide) (by omega)
    have p1 : dPow (.int (m + 15485867 * (c + 1) + 179425033)) (.int 5) = some (.sh (.int ((m + 15485867 * (c + 1) + 179425033) ^ (5 : Int).toNat))) := pow_int (by decide) (by decide) (by omega)
    have r1 := mod_int (i := (m + 15485867 * (c + 1) + 179425033) ^ (5 : Int).toNat) (j := 2147483647) (by decide)
    generalize hy : (m + 15485867 * (c + 1) + 179425033) ^ (5 : Int).toNat % 2147483647 = y at r1
    have y0 : 0 ≤ y := by rw [← hy]; exact Int.emod_nonneg _ (by decide)
    have y1 : y < 2147483647 := by rw [← hy]; exact Int.emod_lt_of_pos _ (by decide)
    have m2 : dMul (.int y) (.int 48271) = some (.sh (.int (y * 48271))) := mul_intS (by omega) (by decide)
    have m3 : dMul (.int 7919) (.int (c + 1)) = some (.sh (.int (7919 * (c + 1)))) := mul_intS (by decide) (by omega)
    have p2 : dPow (.int (y * 48271 + 7919 * (c + 1))) (.int 3) = some (.sh (.int ((y * 48271 + 7919 * (c + 1)) ^ (3 : Int).toNat))) := pow_int (by decide) (by decide) (by omega)
    have r2 := mod_int (i := (y * 48271 + 7919 * (c + 1)) ^ (3 : Int).toNat) (j := 2147483587) (by decide)
    have r3 := fdiv_int (i := (y * 48271 + 7919 * (c + 1)) ^ (3 : Int).toNat % 2147483587) (j := 64) (by decide) (by decide)
    have r4 := mod_int (i := (y * 48271 + 7919 * (c + 1)) ^ (3 : Int).toNat % 2147483587 / 64) h0
    refine ⟨(y * 48271 + 7919 * (c + 1)) ^ (3 : Int).toNat % 2147483587 / 64 % many, boxD x g m (c + 1), ?_, ⟨x, g, m, c + 1, rfl, m0, mlt, by omega, by omega⟩, Int.emod_nonneg _ (by omega : many ≠ 0), Int.emod_lt_of_pos _ h0⟩
    rw [st]
    unfold b_law_take
    cases g with
    | false => simp only [bind_ok, bind_ex, bind_no, thn_ok, thn_ex, thn_no, lbind_ok, lthn_ok, seq_nx, seq_rt, seq_bk, seq_ct, seq_ex, seq_no, kB_t, kB_f, kS_t, kS_f, asB_bl, kR_s, kD_s, kD2_s, rd_sh, rd_fr, rd_bs, rd_bp, kCs_o, kCp_o, kCp_s, kV_s, kV_o, kV_a, kVp_o, kVp_s, ap_var, ap_c, ap_un, ap_bin, ap_and, ap_or, ap_ifE, kN_s, ap_not, kBl_ap, ap_nx, ap_seq, ap_expr, ap_ret, ap_retN, ap_if, ap_set, stor_sh, stor_fr, ap_args0, ap_args, kA1_ok, kA2_ok, ap_call, kC1_s, kC2_sh, kC2_fr, kC3_s, argC_sh, argC_fr, argC_bs, argC_bp, kAc_o, kAc_s, argCs_nil, argCs_cons, kAcs_s, kAc2_s, kEs_s, ap_tup, ap_lst, escs_nil, escs_cons, kE1_s, kE2_s, esc_sh, esc_fr, esc_bs, kEo_o, kDs_s, ap_bl, rds_nil, rds_cons, kRd1_s, kRd2_s, op1_s, op2_s, ap_asg, kT_s, kT2_s, tNm_ap, tTp_t, tTp_l, tAll_nil, tAll_cons, kTa_s, finS_nx, finS_sh, finS_fr, finS_bs, kF_o, int2_ap, ap_lc, kL1_s, kL2_s, itemsOf_l, itemsOf_t, itemsOf_r, ap_lcR, kLr1_s, List.getElem?_cons_zero, List.getElem?_cons_succ, List.set_cons_zero, List.set_cons_succ, ini, prs, dist, putB, List.all_cons, List.all_nil, Bool.and_true, Bool.true_and, if_true, if_pos, i0, i1, hs1, j2, j3, m1, m2, m3, p1, p2, r1, r2, r3, r4, int_int, add_int]
    | true =>
      have q1 : decide ((0 : Int) < x) = false := by simpa using hg
      simp only [bind_ok, bind_ex, bind_no, thn_ok, thn_ex, thn_no, lbind_ok, lthn_ok, seq_nx, seq_rt, seq_bk, seq_ct, seq_ex, seq_no, kB_t, kB_f, kS_t, kS_f, asB_bl, kR_s, kD_s, kD2_s, rd_sh, rd_fr, rd_bs, rd_bp, kCs_o, kCp_o, kCp_s, kV_s, kV_o, kV_a, kVp_o, kVp_s, ap_var, ap_c, ap_un, ap_bin, ap_and, ap_or, ap_ifE, kN_s, ap_not, kBl_ap, ap_nx, ap_seq, ap_expr, ap_ret, ap_retN, ap_if, ap_set, stor_sh, stor_fr, ap_args0, ap_args, kA1_ok, kA2_ok, ap_call, kC1_s, kC2_sh, kC2_fr, kC3_s, argC_sh, argC_fr, argC_bs, argC_bp, kAc_o, kAc_s, argCs_nil, argCs_cons, kAcs_s, kAc2_s, kEs_s, ap_tup, ap_lst, escs_nil, escs_cons, kE1_s, kE2_s, esc_sh, esc_fr, esc_bs, kEo_o, kDs_s, ap_bl, rds_nil, rds_cons, kRd1_s, kRd2_s, op1_s, op2_s, ap_asg, kT_s, kT2_s, tNm_ap, tTp_t, tTp_l, tAll_nil, tAll_cons, kTa_s, finS_nx, finS_sh, finS_fr, finS_bs, kF_o, int2_ap, ap_lc, kL1_s, kL2_s, itemsOf_l, itemsOf_t, itemsOf_r, ap_lcR, kLr1_s, List.getElem?_cons_zero, List.getElem?_cons_succ, List.set_cons_zero, List.set_cons_succ, ini, prs, dist, putB, List.all_cons, List.all_nil, Bool.and_true, Bool.true_and, if_true, if_pos, i0, i1, gt_int, q1, hs1, j2, j3, m1, m2, m3, p1, p2, r1, r2, r3, r4, int_int, add_int]
end K01

set_option Elab.async false
set_option linter.all false
set_option maxRecDepth 100000
set_option maxHeartbeats 1000000
namespace K01
open PySem PySem.Spec PyProof.Rows L2 Mx
theorem eq_int (i j : Int) : dEq (.int i) (.int j) = some (.sh (.bl (i == j))) := rfl
theorem ge_int (i j : Int) : dGe (.int i) (.int j) = some (.sh (.bl (decide (j ≤ i)))) := rfl
theorem lt_intA (i j : Int) : dLtA (.int i) (.int j) = some (.sh (.bl (decide (i < j)))) := rfl
theorem p1040 : dPow (.int 10) (.int 40) = some (.sh (.int (10 ^ 40))) := rfl
theorem p1039 : dPow (.int 10) (.int 39) = some (.sh (.int (10 ^ 39))) := rfl
/-- a number of a tie -/
theorem number_ok {n low : Int} {d : D} (hb : Box n d) (hn : n ≤ 9000000) (l0 : 0 ≤ low) (l1 : low ≤ 1) : ∃ r d', f_law_number [.ow d, .sh (.int low)] = .ret (.sh (.int r)) [.ow d', .un] ∧ Box (n + 2) d' ∧ low ≤ r ∧ r ≤ 10 ^ 40 := by
  obtain ⟨r1, d1, e1, b1, _, _⟩ := take_ok (many := 12) hb (by omega) (by decide) (by decide)
  have st : f_law_number [.ow d, .sh (.int low)] = finS (b_law_number ⟨[.al 0, .sh (.int low)], [.ow d, .un]⟩) := rfl
  cases h : (r1 == 0) with
  | true =>
    obtain ⟨r2, d2, e2, b2, _, _⟩ := take_ok (many := 3) b1 (by omega) (by decide) (by decide)
    refine ⟨10 ^ 40 - 3 - r2, d2, ?_, b2.mono (by omega), by omega, by omega⟩
    rw [st]
    unfold b_law_number
    simp only [bind_ok,bind_ex,bind_no,thn_ok,thn_ex,thn_no,lbind_ok,lthn_ok,seq_nx,seq_rt,seq_bk,seq_ct,seq_ex,seq_no,kB_t,kB_f,kS_t,kS_f,asB_bl,kR_s,kD_s,kD2_s,rd_sh,rd_fr,rd_bs,rd_bp,kCs_o,kCp_o,kCp_s,kV_s,kV_o,kV_a,kVp_o,kVp_s,ap_var,ap_c,ap_un,ap_bin,ap_and,ap_or,ap_ifE,kN_s,ap_not,kBl_ap,ap_nx,ap_seq,ap_expr,ap_ret,ap_retN,ap_if,ap_set,stor_sh,stor_fr,ap_args0,ap_args,kA1_ok,kA2_ok,ap_call,kC1_s,kC2_sh,kC2_fr,kC3_s,argC_sh,argC_fr,argC_bs,argC_bp,kAc_o,kAc_s,argCs_nil,argCs_cons,kAcs_s,kAc2_s,kEs_s,ap_tup,ap_lst,escs_nil,escs_cons,kE1_s,kE2_s,esc_sh,esc_fr,esc_bs,kEo_o,kDs_s,ap_bl,rds_nil,rds_cons,kRd1_s,kRd2_s,op1_s,op2_s,ap_asg,kT_s,kT2_s,tNm_ap,tTp_t,tTp_l,tAll_nil,tAll_cons,kTa_s,finS_nx,finS_sh,finS_fr,finS_bs,kF_o,ap_lc,kL1_s,kL2_s,itemsOf_l,itemsOf_t,itemsOf_r,ap_lcR,kLr1_s,own_bs,own_bp,put_bs,put_bp,ap_setIx,kI1_s,kI2_s,kI3_s,kI4_s,ap_mut,isL_l,kM1_t,kM2_s,kM3_s,kM4_s,ap_forR,kFr_s,kFr2_s,ap_for,kFo_s,kFo2_s,ap_par,kP1_s,kP2_s,fixL_nil,fixL_sh,fixL_fr,kX_s,putL_nil,putL_sh,putL_fr,part_n,part_s,kPi_s,ap_sl,partI_i,partI_n,ap_dic0,ap_dic1,kDi_s,kDi2_s,kDi3_s,keyOf_i,mCallR_eq,ap_callK,kCk_s,perm1,nodup1,ap_exc,kX1_s,List.getElem?_cons_zero,List.getElem?_cons_succ,List.set_cons_zero,List.set_cons_succ,ini,prs,dist,putB,List.all_cons,List.all_nil,Bool.and_true,Bool.true_and,if_true,if_pos, e1, e2, eq_int, h, p1040, sub_int]
  | false =>
    obtain ⟨r2, d2, e2, b2, _, _⟩ := take_ok (many := 9) b1 (by omega) (by decide) (by decide)
    refine ⟨low + r2, d2, ?_, b2.mono (by omega), by omega, by omega⟩
    rw [st]
    unfold b_law_number
    simp only [bind_ok, bind_ex, bind_no, thn_ok, thn_ex, thn_no, lbind_ok, lthn_ok, seq_nx, seq_rt, seq_bk, seq_ct, seq_ex, seq_no, kB_t, kB_f, kS_t, kS_f, asB_bl, kR_s, kD_s, kD2_s, rd_sh, rd_fr, rd_bs, rd_bp, kCs_o, kCp_o, kCp_s, kV_s, kV_o, kV_a, kVp_o, kVp_s, ap_var, ap_c, ap_un, ap_bin, ap_and, ap_or, ap_ifE, kN_s, ap_not, kBl_ap, ap_nx, ap_seq, ap_expr, ap_ret, ap_retN, ap_if, ap_set, stor_sh, stor_fr, ap_args0, ap_args, kA1_ok, kA2_ok, ap_call, kC1_s, kC2_sh, kC2_fr, kC3_s, argC_sh, argC_fr, argC_bs, argC_bp, kAc_o, kAc_s, argCs_nil, argCs_cons, kAcs_s, kAc2_s, kEs_s, ap_tup, ap_lst, escs_nil, escs_cons, kE1_s, kE2_s, esc_sh, esc_fr, esc_bs, kEo_o, kDs_s, ap_bl, rds_nil, rds_cons, kRd1_s, kRd2_s, op1_s, op2_s, ap_asg, kT_s, kT2_s, tNm_ap, tTp_t, tTp_l, tAll_nil, tAll_cons, kTa_s, finS_nx, finS_sh, finS_fr, finS_bs, kF_o, int2_ap, ap_lc, kL1_s, kL2_s, itemsOf_l, itemsOf_t, itemsOf_r, ap_lcR, kLr1_s, own_bs, own_bp, put_bs, put_bp, ap_setIx, kI1_s, kI2_s, kI3_s, kI4_s, ap_mut, isL_l, kM1_t, kM2_s, kM3_s, kM4_s, ap_forR, kFr_s, kFr2_s, ap_for, kFo_s, kFo2_s, ap_par, kP1_s, kP2_s, fixL_nil, fixL_sh, fixL_fr, kX_s, putL_nil, putL_sh, putL_fr, part_n, part_s, kPi_s, ap_sl, partI_i, partI_n, ap_dic0, ap_dic1, kDi_s, kDi2_s, kDi3_s, keyOf_i, mCallR_eq, ap_callK, kCk_s, perm1, nodup1, ap_exc, kX1_s, List.getElem?_cons_zero, List.getElem?_cons_succ, List.set_cons_zero, List.set_cons_succ, ini, prs, dist, putB, List.all_cons, List.all_nil, Bool.and_true, Bool.true_and, if_true, if_pos, e1, e2, eq_int, h, add_int]
/-! ### ties and nets as drawn -/
def TieV (many : Int) (t : D) : Prop := ∃ a b r p : Int, t = .tup [.int a, .int b, .int r, .int p] ∧ 0 ≤ a ∧ a < many ∧ 0 ≤ b ∧ b < many ∧ 0 ≤ r ∧ r ≤ 10 ^ 40 + 1 ∧ 0 ≤ p ∧ p ≤ 10 ^ 40 + 1
def TieV0 (many : Int) (t : D) : Prop := ∃ a b r p : Int, t = .tup [.int a, .int b, .int r, .int p] ∧ 0 ≤ a ∧ a < many ∧ 0 ≤ b ∧ b < many ∧ 0 ≤ r ∧ r ≤ 10 ^ 40 ∧ 0 ≤ p ∧ p ≤ 10 ^ 40
theorem TieV0.to {many : Int} {t : D} (h : TieV0 many t) : TieV many t := by
  obtain ⟨a, b, r, p, e, h1, h2, h3, h4, h5, h6, h7, h8⟩ := h
  exact ⟨a, b, r, p, e, h1, h2, h3, h4, h5, by omega, h7, by omega⟩
def NetV (d : D) : Prop := ∃ many ts, d = .tup [.int many, .tup ts] ∧ 1 ≤ many ∧ many ≤ 20 ∧ ts.length ≤ 120 ∧ ∀ t ∈ ts, TieV many t
theorem tie_rowOk {many : Int} {t : D} (h : TieV many t) : (rowD t).isSome = true := by
  obtain ⟨a, b, r, p, rfl, _⟩ := h
  rfl
theorem sort_mem {ds : List D} {d : D} : d ∈ sortR ds ↔ d ∈ ds := List.mem_mergeSort
theorem sort_len {ds : List D} : (sortR ds).length = ds.length := List.length_mergeSort _
theorem sort_eq {ds : List D} (h : ∀ d ∈ ds, (rowD d).isSome = true) : dSortR (.lst ds) = some (.fr (.lst (sortR ds))) := by
  have e : rowsOk ds = true := List.all_eq_true.mpr h
  simp only [dSortR, itemsOf, e, if_true]
theorem sort_eqT {ds : List D} (h : ∀ d ∈ ds, (rowD d).isSome = true) : dSortR (.tup ds) = some (.fr (.lst (sortR ds))) := by
  have e : rowsOk ds = true := List.all_eq_true.mpr h
  simp only [dSortR, itemsOf, e, if_true]
theorem pick {xs : List D} {i : Int} (h0 : 0 ≤ i) (h1 : i < xs.length) : ∃ x, x ∈ xs ∧ dIx (.lst xs) (.int i) = some (.sh x) := by
  have e : i = ((i.toNat : Nat) : Int) := by omega
  have hl : i.toNat < xs.length := by omega
  refine ⟨xs[i.toNat], List.getElem_mem hl, ?_⟩
  have z := ix_l (List.getElem?_eq_getElem hl)
  rw [← e] at z
  exact z
theorem pickI {ns : List Int} {i lo hi : Int} (h0 : 0 ≤ i) (h1 : i < ns.length) (hb : ∀ n ∈ ns, lo ≤ n ∧ n ≤ hi) : ∃ x, dIx (.lst (ns.map D.int)) (.int i) = some (.sh (.int x)) ∧ lo ≤ x ∧ x ≤ hi := by
  obtain ⟨x, hx, e⟩ := pick (xs := ns.map D.int) h0 (by rw [List.length_map]; exact h1)
  obtain ⟨n, hn, rfl⟩ := List.mem_map.mp hx
  exact ⟨n, e, hb n hn⟩
/-- one more tie -/
theorem net_turn {many c dbl : Int} {n : Int} {d : D} {ts : List D} {x5 x6 x7 x8 x9 : Cell} (hb : Box n d) (hn : n ≤ 8000000) (m1 : 2 ≤ many) (m2 : many ≤ 20) (ht : ∀ t ∈ ts, TieV0 many t) (hl : ts.length < 120) :
    ∃ s2 d' y6 y7 t, (mSeq (mPar [6, 7] [mCall f_law_take [mVar 0, mVar 1], mCall f_law_take [mVar 0, mBin dSub (mVar 1) (mC (.int 1))]]) (mExpr (mMut dAppend (mVar 4) [mTup [mVar 6, mIfE (mBin dGe (mVar 7) (mVar 6)) (mBin dAdd (mVar 7) (mC (.int 1))) (mVar 7), mCall f_law_number [mVar 0, mC (.int 1)], mCall f_law_number [mVar 0, mC (.int 0)]]]))) ⟨[.al 0, .sh (.int many), .sh (.int c), .sh (.int dbl), .ow (.lst ts), x5, x6, x7, x8, x9], [.ow d]⟩ = .nx s2 ∧ s2 = ⟨[.al 0, .sh (.int many), .sh (.int c), .sh (.int dbl), .ow (.lst (ts ++ [t])), x5, y6, y7, x8, x9], [.ow d']⟩ ∧ TieV0 many t ∧ Box (n + 6) d' := by
  obtain ⟨a, d1, e1, b1, a0, a1⟩ := take_ok (many := many) hb (by omega) (by omega) (by omega)
  obtain ⟨b, d2, e2, b2, c0, c1⟩ := take_ok (many := many - 1) b1 (by omega) (by omega) (by omega)
  obtain ⟨r, d3, e3, b3, r0, r1⟩ := number_ok (low := 1) b2 (by omega) (by decide) (by decide)
  obtain ⟨p, d4, e4, b4, p0, p1⟩ := number_ok (low := 0) b3 (by omega) (by decide) (by decide)
  have ap : ∀ t : D, dAppend ts [t] = some (.non, ts ++ [t]) := fun t => if_pos (by omega)
  cases h : decide (a ≤ b) with
  | true =>
    have := of_decide_eq_true h
    refine ⟨_, d4, .sh (.int a), .sh (.int b), .tup [.int a, .int (b + 1), .int r, .int p], ?_, rfl, ⟨a, b + 1, r, p, rfl, by omega, by omega, by omega, by omega, by omega, by omega, by omega, by omega⟩, b4.mono (by omega)⟩
    simp only [bind_ok, bind_ex, bind_no, thn_ok, thn_ex, thn_no, lbind_ok, lthn_ok, seq_nx, seq_rt, seq_bk, seq_ct, seq_ex, seq_no, kB_t, kB_f, kS_t, kS_f, asB_bl, kR_s, kD_s, kD2_s, rd_sh, rd_fr, rd_bs, rd_bp, kCs_o, kCp_o, kCp_s, kV_s, kV_o, kV_a, kVp_o, kVp_s, ap_var, ap_c, ap_un, ap_bin, ap_and, ap_or, ap_ifE, kN_s, ap_not, kBl_ap, ap_nx, ap_seq, ap_expr, ap_ret, ap_retN, ap_if, ap_set, stor_sh, stor_fr, ap_args0, ap_args, kA1_ok, kA2_ok, ap_call, kC1_s, kC2_sh, kC2_fr, kC3_s, argC_sh, argC_fr, argC_bs, argC_bp, kAc_o, kAc_s, argCs_nil, argCs_cons, kAcs_s, kAc2_s, kEs_s, ap_tup, ap_lst, escs_nil, escs_cons, kE1_s, kE2_s, esc_sh, esc_fr, esc_bs, kEo_o, kDs_s, ap_bl, rds_nil, rds_cons, kRd1_s, kRd2_s, op1_s, op2_s, ap_asg, kT_s, kT2_s, tNm_ap, tTp_t, tTp_l, tAll_nil, tAll_cons, kTa_s, finS_nx, finS_sh, finS_fr, finS_bs, kF_o, int2_ap, ap_lc, kL1_s, kL2_s, itemsOf_l, itemsOf_t, itemsOf_r, ap_lcR, kLr1_s, own_bs, own_bp, put_bs, put_bp, ap_setIx, kI1_s, kI2_s, kI3_s, kI4_s, ap_mut, isL_l, kM1_t, kM2_s, kM3_s, kM4_s, ap_forR, kFr_s, kFr2_s, ap_for, kFo_s, kFo2_s, ap_par, kP1_s, kP2_s, fixL_nil, fixL_sh, fixL_fr, kX_s, putL_nil, putL_sh, putL_fr, part_n, part_s, kPi_s, ap_sl, partI_i, partI_n, ap_dic0, ap_dic1, kDi_s, kDi2_s, kDi3_s, keyOf_i, mCallR_eq, ap_callK, kCk_s, perm1, nodup1, ap_exc, kX1_s, List.getElem?_cons_zero, List.getElem?_cons_succ, List.set_cons_zero, List.set_cons_succ, ini, prs, dist, putB, List.all_cons, List.all_nil, Bool.and_true, Bool.true_and, if_true, if_pos, e1, e2, e3, e4, sub_int, add_int, ge_int, h, ap, List.length_cons, List.length_nil]
  | false =>
    have := of_decide_eq_false h
    refine ⟨_, d4, .sh (.int a), .sh (.int b), .tup [.int a, .int b, .int r, .int p], ?_, rfl, ⟨a, b, r, p, rfl, by omega, by omega, by omega, by omega, by omega, by omega, by omega, by omega⟩, b4.mono (by omega)⟩
    simp only [bind_ok, bind_ex, bind_no, thn_ok, thn_ex, thn_no, lbind_ok, lthn_ok, seq_nx, seq_rt, seq_bk, seq_ct, seq_ex, seq_no, kB_t, kB_f, kS_t, kS_f, asB_bl, kR_s, kD_s, kD2_s, rd_sh, rd_fr, rd_bs, rd_bp, kCs_o, kCp_o, kCp_s, kV_s, kV_o, kV_a, kVp_o, kVp_s, ap_var, ap_c, ap_un, ap_bin, ap_and, ap_or, ap_ifE, kN_s, ap_not, kBl_ap, ap_nx, ap_seq, ap_expr, ap_ret, ap_retN, ap_if, ap_set, stor_sh, stor_fr, ap_args0, ap_args, kA1_ok, kA2_ok, ap_call, kC1_s, kC2_sh, kC2_fr, kC3_s, argC_sh, argC_fr, argC_bs, argC_bp, kAc_o, kAc_s, argCs_nil, argCs_cons, kAcs_s, kAc2_s, kEs_s, ap_tup, ap_lst, escs_nil, escs_cons, kE1_s, kE2_s, esc_sh, esc_fr, esc_bs, kEo_o, kDs_s, ap_bl, rds_nil, rds_cons, kRd1_s, kRd2_s, op1_s, op2_s, ap_asg, kT_s, kT2_s, tNm_ap, tTp_t, tTp_l, tAll_nil, tAll_cons, kTa_s, finS_nx, finS_sh, finS_fr, finS_bs, kF_o, int2_ap, ap_lc, kL1_s, kL2_s, itemsOf_l, itemsOf_t, itemsOf_r, ap_lcR, kLr1_s, own_bs, own_bp, put_bs, put_bp, ap_setIx, kI1_s, kI2_s, kI3_s, kI4_s, ap_mut, isL_l, kM1_t, kM2_s, kM3_s, kM4_s, ap_forR, kFr_s, kFr2_s, ap_for, kFo_s, kFo2_s, ap_par, kP1_s, kP2_s, fixL_nil, fixL_sh, fixL_fr, kX_s, putL_nil, putL_sh, putL_fr, part_n, part_s, kPi_s, ap_sl, partI_i, partI_n, ap_dic0, ap_dic1, kDi_s, kDi2_s, kDi3_s, keyOf_i, mCallR_eq, ap_callK, kCk_s, perm1, nodup1, ap_exc, kX1_s, List.getElem?_cons_zero, List.getElem?_cons_succ, List.set_cons_zero, List.set_cons_succ, ini, prs, dist, putB, List.all_cons, List.all_nil, Bool.and_true, Bool.true_and, if_true, if_pos, e1, e2, e3, e4, sub_int, add_int, ge_int, h, ap, List.length_cons, List.length_nil]
end K01

set_option Elab.async false
set_option linter.all false
set_option maxRecDepth 100000
set_option maxHeartbeats 1000000
namespace K01
open PySem PySem.Spec PyProof.Rows L2 Mx
theorem tup_l (xs : List D) : dTuple (.lst xs) = some (.sh (.tup xs)) := rfl
theorem tup_t (xs : List D) : dTuple (.tup xs) = some (.sh (.tup xs)) := rfl
theorem len_l (xs : List D) : dLen (.lst xs) = some (.sh (.int xs.length)) := rfl
theorem len_t (xs : List D) : dLen (.tup xs) = some (.sh (.int xs.length)) := rfl
theorem int_bl (b : Bool) : dInt (.bl b) = some (.sh (.int (if b = true then 1 else 0))) := rfl
theorem kA1_fr {f : Mm} {r : Rv} {s : S} : kA1 [f] (.ok r s) = kA2 r (mArgs [f] s) := rfl
def NetI (many c dbl n : Int) (k : Nat) (s : S) : Prop := ∃ d x5 x6 x7 ts, s = ⟨[.al 0, .sh (.int many), .sh (.int c), .sh (.int dbl), .ow (.lst ts), x5, x6, x7, .un, .un], [.ow d]⟩ ∧ (∀ t ∈ ts, TieV0 many t) ∧ ts.length = k ∧ Box (n + 6 * k) d
theorem net_loop {many c dbl n : Int} (x : Int) {d : D} (hb : Box n d) (hn : n ≤ 7000000) (hx0 : 0 ≤ x) (hx : x ≤ 120) (m : 2 ≤ many ∨ x = 0) (m2 : many ≤ 20) : ∃ s', forL (tNm 5) (mSeq (mPar [6, 7] [mCall f_law_take [mVar 0, mVar 1], mCall f_law_take [mVar 0, mBin dSub (mVar 1) (mC (.int 1))]]) (mExpr (mMut dAppend (mVar 4) [mTup [mVar 6, mIfE (mBin dGe (mVar 7) (mVar 6)) (mBin dAdd (mVar 7) (mC (.int 1))) (mVar 7), mCall f_law_number [mVar 0, mC (.int 1)], mCall f_law_number [mVar 0, mC (.int 0)]]]))) (upFrom 0 x.toNat) ⟨[.al 0, .sh (.int many), .sh (.int c), .sh (.int dbl), .ow (.lst []), .un, .un, .un, .un, .un], [.ow d]⟩ = .nx s' ∧ NetI many c dbl n x.toNat s' := by
  have I0 : NetI many c dbl n 0 ⟨[.al 0, .sh (.int many), .sh (.int c), .sh (.int dbl), .ow (.lst []), .un, .un, .un, .un, .un], [.ow d]⟩ := ⟨d, _, _, _, [], rfl, (fun t h => nomatch h), rfl, hb.mono (by omega)⟩
  obtain ⟨s', e, h⟩ := for_inv (tm := tNm 5) (ds := upFrom 0 x.toNat) (body := _) 0 I0 (by
    intro i y s hy hs
    have hi : i < x.toNat := by
      have z := (List.getElem?_eq_some_iff.mp hy).1
      rw [upFrom_map, List.length_map, List.length_range] at z
      exact z
    obtain ⟨d1, x5, x6, x7, ts, rfl, ht, hl, hb1⟩ := hs
    obtain ⟨s2, d', y6, y7, t, e2, rfl, ht2, hb2⟩ := net_turn (many := many) (c := c) (dbl := dbl) (ts := ts) (x5 := .sh y) (x6 := x6) (x7 := x7) (x8 := .un) (x9 := .un) hb1 (by omega) (by omega) m2 ht (by omega)
    refine ⟨_, _, tNm_ap, e2, d', _, _, _, _, rfl, ?_, ?_, hb2.mono (by omega)⟩
    · intro u hu
      rcases List.mem_append.mp hu with h | h
      · exact ht u h
      · rw [List.mem_singleton.mp h]; exact ht2
    · rw [List.length_append, hl]; rfl)
  refine ⟨s', e, ?_⟩
  have z : (upFrom 0 x.toNat).length = x.toNat := by rw [upFrom_map, List.length_map, List.length_range]
  rw [z, Nat.zero_add] at h
  exact h
theorem law_net_ok {n : Int} {d : D} (hb : Box n d) (hn : n ≤ 6000000) : ∃ r d', f_law_net [.ow d] = .ret (.sh r) [.ow d'] ∧ NetV r ∧ Box (n + 1000) d' := by
  obtain ⟨i1, d1, e1, b1, i1a, i1b⟩ := take_ok (many := 8) hb (by omega) (by decide) (by decide)
  obtain ⟨many, em, m1, m2⟩ := pickI (ns := [20, 2, 3, 1, 4, 6, 11, 19]) (lo := 1) (hi := 20) i1a i1b (by decide)
  obtain ⟨i2, d2, e2, b2, i2a, i2b⟩ := take_ok (many := 8) b1 (by omega) (by decide) (by decide)
  obtain ⟨c, ec, c1, c2⟩ := pickI (ns := [3, 1, 120, 2, 7, 0, 30, 119]) (lo := 0) (hi := 120) i2a i2b (by decide)
  obtain ⟨dbl, d3, e3, b3, i3a, i3b⟩ := take_ok (many := 4) b2 (by omega) (by decide) (by decide)
  simp only [List.map_cons, List.map_nil] at em ec
  obtain ⟨x, hx0, hx, hm, ex⟩ : ∃ x : Int, 0 ≤ x ∧ x ≤ 120 ∧ (2 ≤ many ∨ x = 0) ∧ x = (bif decide (1 < many) then c else 0) := by
    cases h : decide (1 < many) with
    | true => have := of_decide_eq_true h; exact ⟨c, c1, c2, by omega, rfl⟩
    | false => exact ⟨0, by omega, by omega, Or.inr rfl, rfl⟩
  obtain ⟨s', el, d4, x5, x6, x7, ts, rfl, ht, hl, hb4⟩ := net_loop (many := many) (c := c) (dbl := dbl) x b3 (by omega) hx0 hx hm m2
  have er : rng1 [.int x] = some (0, x.toNat) := rng1_eq (by omega) (by omega)
  have st : f_law_net [.ow d] = finS (b_law_net ⟨[.al 0, .un, .un, .un, .un, .un, .un, .un, .un, .un], [.ow d]⟩) := rfl
  have hl2 : ts.length ≤ 120 := by omega
  have fin : ∀ us : List D, us.length ≤ 120 → (∀ t ∈ us, TieV many t) → dSortR (.lst us) = some (.fr (.lst (sortR us))) ∧ NetV (.tup [.int many, .tup (sortR us)]) := fun us l h => ⟨sort_eq fun u hu => tie_rowOk (h u hu), many, sortR us, rfl, m1, m2, by rw [sort_len]; exact l, fun t ht => h t (sort_mem.mp ht)⟩
  have hcase : ∀ s9, (finS (Mx.mSeq (mIf (mAnd (mBin dGt (mBl (op1 dLen) [mVar 4]) (mC (.int 1))) (mBin dLtA (mVar 3) (mC (.int 3)))) (mSeq (mAsg (mBin dIx (mVar 4) (mC (.int 0))) (tTp [tNm 6, tNm 7, tNm 8, tNm 9])) (mSetIx (mTup [mVar 6, mVar 7, mBin dAdd (mVar 8) (mBl (op1 dInt) [mBin dEq (mVar 3) (mC (.int 1))]), mBin dAdd (mVar 9) (mBl (op1 dInt) [mBin dEq (mVar 3) (mC (.int 2))])]) (mVar 4) (mC (.int 1)))) (mNx)) (mRet (mTup [mVar 1, mBl (op1 dTuple) [mBl (op1 dSortR) [mVar 4]]])) ⟨[.al 0, .sh (.int many), .sh (.int c), .sh (.int dbl), .ow (.lst ts), x5, x6, x7, .un, .un], [.ow d4]⟩)) = s9 → ∃ r d', s9 = .ret (.sh r) [.ow d'] ∧ NetV r ∧ Box (n + 1000) d' := by
    intro s9 e9
    cases h1 : decide ((1 : Int) < ts.length) with
    | false =>
      obtain ⟨f1, f2⟩ := fin ts hl2 fun t h => (ht t h).to
      refine ⟨_, d4, ?_, f2, hb4.mono (by omega)⟩
      rw [← e9]
      simp only [bind_ok, bind_ex, bind_no, thn_ok, thn_ex, thn_no, lbind_ok, lthn_ok, seq_nx, seq_rt, seq_bk, seq_ct, seq_ex, seq_no, kB_t, kB_f, kS_t, kS_f, asB_bl, kR_s, kD_s, kD2_s, rd_sh, rd_fr, rd_bs, rd_bp, kCs_o, kCp_o, kCp_s, kV_s, kV_o, kV_a, kVp_o, kVp_s, ap_var, ap_c, ap_un, ap_bin, ap_and, ap_or, ap_ifE, kN_s, ap_not, kBl_ap, ap_nx, ap_seq, ap_expr, ap_ret, ap_retN, ap_if, ap_set, stor_sh, stor_fr, ap_args0, ap_args, kA1_ok, kA2_ok, ap_call, kC1_s, kC2_sh, kC2_fr, kC3_s, argC_sh, argC_fr, argC_bs, argC_bp, kAc_o, kAc_s, argCs_nil, argCs_cons, kAcs_s, kAc2_s, kEs_s, ap_tup, ap_lst, escs_nil, escs_cons, kE1_s, kE2_s, esc_sh, esc_fr, esc_bs, kEo_o, kDs_s, ap_bl, rds_nil, rds_cons, kRd1_s, kRd2_s, op1_s, op2_s, ap_asg, kT_s, kT2_s, tNm_ap, tTp_t, tTp_l, tAll_nil, tAll_cons, kTa_s, finS_nx, finS_sh, finS_fr, finS_bs, kF_o, int2_ap, ap_lc, kL1_s, kL2_s, itemsOf_l, itemsOf_t, itemsOf_r, ap_lcR, kLr1_s, own_bs, own_bp, put_bs, put_bp, ap_setIx, kI1_s, kI2_s, kI3_s, kI4_s, ap_mut, isL_l, kM1_t, kM2_s, kM3_s, kM4_s, ap_forR, kFr_s, kFr2_s, ap_for, kFo_s, kFo2_s, ap_par, kP1_s, kP2_s, fixL_nil, fixL_sh, fixL_fr, kX_s, putL_nil, putL_sh, putL_fr, part_n, part_s, kPi_s, ap_sl, partI_i, partI_n, ap_dic0, ap_dic1, kDi_s, kDi2_s, kDi3_s, keyOf_i, mCallR_eq, ap_callK, kCk_s, perm1, nodup1, ap_exc, kX1_s, List.getElem?_cons_zero, List.getElem?_cons_succ, List.set_cons_zero, List.set_cons_succ, ini, prs, dist, putB, List.all_cons, List.all_nil, Bool.and_true, Bool.true_and, if_true, if_pos, len_l, gt_int, h1, f1, tup_l]
    | true =>
      cases h2 : decide (dbl < 3) with
      | false =>
        obtain ⟨f1, f2⟩ := fin ts hl2 fun t h => (ht t h).to
        refine ⟨_, d4, ?_, f2, hb4.mono (by omega)⟩
        rw [← e9]
        simp only [bind_ok, bind_ex, bind_no, thn_ok, thn_ex, thn_no, lbind_ok, lthn_ok, seq_nx, seq_rt, seq_bk, seq_ct, seq_ex, seq_no, kB_t, kB_f, kS_t, kS_f, asB_bl, kR_s, kD_s, kD2_s, rd_sh, rd_fr, rd_bs, rd_bp, kCs_o, kCp_o, kCp_s, kV_s, kV_o, kV_a, kVp_o, kVp_s, ap_var, ap_c, ap_un, ap_bin, ap_and, ap_or, ap_ifE, kN_s, ap_not, kBl_ap, ap_nx, ap_seq, ap_expr, ap_ret, ap_retN, ap_if, ap_set, stor_sh, stor_fr, ap_args0, ap_args, kA1_ok, kA2_ok, ap_call, kC1_s, kC2_sh, kC2_fr, kC3_s, argC_sh, argC_fr, argC_bs, argC_bp, kAc_o, kAc_s, argCs_nil, argCs_cons, kAcs_s, kAc2_s, kEs_s, ap_tup, ap_lst, escs_nil, escs_cons, kE1_s, kE2_s, esc_sh, esc_fr, esc_bs, kEo_o, kDs_s, ap_bl, rds_nil, rds_cons, kRd1_s, kRd2_s, op1_s, op2_s, ap_asg, kT_s, kT2_s, tNm_ap, tTp_t, tTp_l, tAll_nil, tAll_cons, kTa_s, finS_nx, finS_sh, finS_fr, finS_bs, kF_o, int2_ap, ap_lc, kL1_s, kL2_s, itemsOf_l, itemsOf_t, itemsOf_r, ap_lcR, kLr1_s, own_bs, own_bp, put_bs, put_bp, ap_setIx, kI1_s, kI2_s, kI3_s, kI4_s, ap_mut, isL_l, kM1_t, kM2_s, kM3_s, kM4_s, ap_forR, kFr_s, kFr2_s, ap_for, kFo_s, kFo2_s, ap_par, kP1_s, kP2_s, fixL_nil, fixL_sh, fixL_fr, kX_s, putL_nil, putL_sh, putL_fr, part_n, part_s, kPi_s, ap_sl, partI_i, partI_n, ap_dic0, ap_dic1, kDi_s, kDi2_s, kDi3_s, keyOf_i, mCallR_eq, ap_callK, kCk_s, perm1, nodup1, ap_exc, kX1_s, List.getElem?_cons_zero, List.getElem?_cons_succ, List.set_cons_zero, List.set_cons_succ, ini, prs, dist, putB, List.all_cons, List.all_nil, Bool.and_true, Bool.true_and, if_true, if_pos, len_l, gt_int, h1, lt_intA, h2, f1, tup_l]
      | true =>
        match ts, ht, hl2, h1, hl with
        | [], _, _, h1, _ => exact absurd h1 (by decide)
        | [_], _, _, h1, _ => exact absurd (of_decide_eq_true h1) (by simp only [List.length_singleton]; decide)
        | t0 :: t1 :: us, ht, hl2, h1, hl =>
          obtain ⟨a, b, r, p, rfl, a0, a1, b0, b1', r0, r1, p0, p1⟩ := ht t0 (List.mem_cons_self ..)
          have ix0 : dIx (.lst (.tup [.int a, .int b, .int r, .int p] :: t1 :: us)) (.int 0) = some (.sh (.tup [.int a, .int b, .int r, .int p])) := ix_l (i := 0) rfl
          have ix1 : ixN (D.tup [.int a, .int b, .int r, .int p] :: t1 :: us).length 1 = some 1 := by
            simp only [ixN, List.length_cons]
            rw [if_pos (by decide), if_pos (by omega)]
            rfl
          have two : ∀ v : Bool, (0 : Int) ≤ (if v = true then 1 else 0) ∧ (if v = true then 1 else 0) ≤ (1 : Int) := fun v => by cases v <;> decide
          obtain ⟨f1, f2⟩ := fin (.tup [.int a, .int b, .int r, .int p] :: .tup [.int a, .int b, .int (r + (if (dbl == 1) = true then 1 else 0)), .int (p + (if (dbl == 2) = true then 1 else 0))] :: us) hl2 fun t h => by
            rcases List.mem_cons.mp h with h | h
            · exact (ht t (h ▸ List.mem_cons_self ..)).to
            · rcases List.mem_cons.mp h with h | h
              · have y1 := two (dbl == 1)
                have y2 := two (dbl == 2)
                exact ⟨_, _, _, _, h, a0, a1, b0, b1', by omega, by omega, by omega, by omega⟩
              · exact (ht t (List.mem_cons_of_mem _ (List.mem_cons_of_mem _ h))).to
          refine ⟨_, d4, ?_, f2, hb4.mono (by omega)⟩
          rw [← e9]
          simp only [bind_ok, bind_ex, bind_no, thn_ok, thn_ex, thn_no, lbind_ok, lthn_ok, seq_nx, seq_rt, seq_bk, seq_ct, seq_ex, seq_no, kB_t, kB_f, kS_t, kS_f, asB_bl, kR_s, kD_s, kD2_s, rd_sh, rd_fr, rd_bs, rd_bp, kCs_o, kCp_o, kCp_s, kV_s, kV_o, kV_a, kVp_o, kVp_s, ap_var, ap_c, ap_un, ap_bin, ap_and, ap_or, ap_ifE, kN_s, ap_not, kBl_ap, ap_nx, ap_seq, ap_expr, ap_ret, ap_retN, ap_if, ap_set, stor_sh, stor_fr, ap_args0, ap_args, kA1_ok, kA2_ok, ap_call, kC1_s, kC2_sh, kC2_fr, kC3_s, argC_sh, argC_fr, argC_bs, argC_bp, kAc_o, kAc_s, argCs_nil, argCs_cons, kAcs_s, kAc2_s, kEs_s, ap_tup, ap_lst, escs_nil, escs_cons, kE1_s, kE2_s, esc_sh, esc_fr, esc_bs, kEo_o, kDs_s, ap_bl, rds_nil, rds_cons, kRd1_s, kRd2_s, op1_s, op2_s, ap_asg, kT_s, kT2_s, tNm_ap, tTp_t, tTp_l, tAll_nil, tAll_cons, kTa_s, finS_nx, finS_sh, finS_fr, finS_bs, kF_o, int2_ap, ap_lc, kL1_s, kL2_s, itemsOf_l, itemsOf_t, itemsOf_r, ap_lcR, kLr1_s, own_bs, own_bp, put_bs, put_bp, ap_setIx, kI1_s, kI2_s, kI3_s, kI4_s, ap_mut, isL_l, kM1_t, kM2_s, kM3_s, kM4_s, ap_forR, kFr_s, kFr2_s, ap_for, kFo_s, kFo2_s, ap_par, kP1_s, kP2_s, fixL_nil, fixL_sh, fixL_fr, kX_s, putL_nil, putL_sh, putL_fr, part_n, part_s, kPi_s, ap_sl, partI_i, partI_n, ap_dic0, ap_dic1, kDi_s, kDi2_s, kDi3_s, keyOf_i, mCallR_eq, ap_callK, kCk_s, perm1, nodup1, ap_exc, kX1_s, List.getElem?_cons_zero, List.getElem?_cons_succ, List.set_cons_zero, List.set_cons_succ, ini, prs, dist, putB, List.all_cons, List.all_nil, Bool.and_true, Bool.true_and, if_true, if_pos, len_l, gt_int, h1, lt_intA, h2, ix0, ix1, eq_int, int_bl, add_int, f1, tup_l]
  rw [st]
  unfold b_law_net
  cases h : decide (1 < many) with
  | true =>
    rw [h] at ex
    simp only [cond_true] at ex
    subst ex
    refine hcase _ (Eq.symm ?_)
    simp only [bind_ok, bind_ex, bind_no, thn_ok, thn_ex, thn_no, lbind_ok, lthn_ok, seq_nx, seq_rt, seq_bk, seq_ct, seq_ex, seq_no, kB_t, kB_f, kS_t, kS_f, asB_bl, kR_s, kD_s, kD2_s, rd_sh, rd_fr, rd_bs, rd_bp, kCs_o, kCp_o, kCp_s, kV_s, kV_o, kV_a, kVp_o, kVp_s, ap_var, ap_c, ap_un, ap_bin, ap_and, ap_or, ap_ifE, kN_s, ap_not, kBl_ap, ap_nx, ap_seq, ap_expr, ap_ret, ap_retN, ap_if, ap_set, stor_sh, stor_fr, ap_args0, ap_args, kA1_ok, kA2_ok, ap_call, kC1_s, kC2_sh, kC2_fr, kC3_s, argC_sh, argC_fr, argC_bs, argC_bp, kAc_o, kAc_s, argCs_nil, argCs_cons, kAcs_s, kAc2_s, kEs_s, ap_tup, ap_lst, escs_nil, escs_cons, kE1_s, kE2_s, esc_sh, esc_fr, esc_bs, kEo_o, kDs_s, ap_bl, rds_nil, rds_cons, kRd1_s, kRd2_s, op1_s, op2_s, ap_asg, kT_s, kT2_s, tNm_ap, tTp_t, tTp_l, tAll_nil, tAll_cons, kTa_s, finS_nx, finS_sh, finS_fr, finS_bs, kF_o, int2_ap, ap_lc, kL1_s, kL2_s, itemsOf_l, itemsOf_t, itemsOf_r, ap_lcR, kLr1_s, own_bs, own_bp, put_bs, put_bp, ap_setIx, kI1_s, kI2_s, kI3_s, kI4_s, ap_mut, isL_l, kM1_t, kM2_s, kM3_s, kM4_s, ap_forR, kFr_s, kFr2_s, ap_for, kFo_s, kFo2_s, ap_par, kP1_s, kP2_s, fixL_nil, fixL_sh, fixL_fr, kX_s, putL_nil, putL_sh, putL_fr, part_n, part_s, kPi_s, ap_sl, partI_i, partI_n, ap_dic0, ap_dic1, kDi_s, kDi2_s, kDi3_s, keyOf_i, mCallR_eq, ap_callK, kCk_s, perm1, nodup1, ap_exc, kX1_s, List.getElem?_cons_zero, List.getElem?_cons_succ, List.set_cons_zero, List.set_cons_succ, ini, prs, dist, putB, List.all_cons, List.all_nil, Bool.and_true, Bool.true_and, if_true, if_pos, e1, em, e2, ec, e3, gt_int, h, er, el]
  | false =>
    rw [h] at ex
    simp only [cond_false] at ex
    subst ex
    refine hcase _ (Eq.symm ?_)
    simp only [bind_ok, bind_ex, bind_no, thn_ok, thn_ex, thn_no, lbind_ok, lthn_ok, seq_nx, seq_rt, seq_bk, seq_ct, seq_ex, seq_no, kB_t, kB_f, kS_t, kS_f, asB_bl, kR_s, kD_s, kD2_s, rd_sh, rd_fr, rd_bs, rd_bp, kCs_o, kCp_o, kCp_s, kV_s, kV_o, kV_a, kVp_o, kVp_s, ap_var, ap_c, ap_un, ap_bin, ap_and, ap_or, ap_ifE, kN_s, ap_not, kBl_ap, ap_nx, ap_seq, ap_expr, ap_ret, ap_retN, ap_if, ap_set, stor_sh, stor_fr, ap_args0, ap_args, kA1_ok, kA2_ok, ap_call, kC1_s, kC2_sh, kC2_fr, kC3_s, argC_sh, argC_fr, argC_bs, argC_bp, kAc_o, kAc_s, argCs_nil, argCs_cons, kAcs_s, kAc2_s, kEs_s, ap_tup, ap_lst, escs_nil, escs_cons, kE1_s, kE2_s, esc_sh, esc_fr, esc_bs, kEo_o, kDs_s, ap_bl, rds_nil, rds_cons, kRd1_s, kRd2_s, op1_s, op2_s, ap_asg, kT_s, kT2_s, tNm_ap, tTp_t, tTp_l, tAll_nil, tAll_cons, kTa_s, finS_nx, finS_sh, finS_fr, finS_bs, kF_o, int2_ap, ap_lc, kL1_s, kL2_s, itemsOf_l, itemsOf_t, itemsOf_r, ap_lcR, kLr1_s, own_bs, own_bp, put_bs, put_bp, ap_setIx, kI1_s, kI2_s, kI3_s, kI4_s, ap_mut, isL_l, kM1_t, kM2_s, kM3_s, kM4_s, ap_forR, kFr_s, kFr2_s, ap_for, kFo_s, kFo2_s, ap_par, kP1_s, kP2_s, fixL_nil, fixL_sh, fixL_fr, kX_s, putL_nil, putL_sh, putL_fr, part_n, part_s, kPi_s, ap_sl, partI_i, partI_n, ap_dic0, ap_dic1, kDi_s, kDi2_s, kDi3_s, keyOf_i, mCallR_eq, ap_callK, kCk_s, perm1, nodup1, ap_exc, kX1_s, List.getElem?_cons_zero, List.getElem?_cons_succ, List.set_cons_zero, List.set_cons_succ, ini, prs, dist, putB, List.all_cons, List.all_nil, Bool.and_true, Bool.true_and, if_true, if_pos, e1, em, e2, ec, e3, gt_int, h, er, el]
end K01

set_option Elab.async false
set_option linter.all false
set_option maxRecDepth 100000
set_option maxHeartbeats 1000000
namespace K01
open PySem PySem.Spec PyProof.Rows L2 Mx
theorem neg_int (i : Int) : dNeg (.int i) = some (.sh (.int (-i))) := rfl
theorem str_int {i : Int} (h : i.natAbs < 10 ^ 60) : dStr (.int i) = some (.sh (.str (toString i))) := if_pos (log_of h)
theorem add_lst {x y : List D} (h : x.length + y.length ≤ 16777216) : dAdd (.lst x) (.lst y) = some (.fr (.lst (x ++ y))) := if_pos h
theorem add_tup {x y : List D} (h : x.length + y.length ≤ 16777216) : dAdd (.tup x) (.tup y) = some (.sh (.tup (x ++ y))) := if_pos h
def badN (n : Int) : List D := [.int 0, .int (-1), .int (-n), .bl true, .bl false, .int (n + 1), .non, .str (toString n), .tup [.int n], .lst [.int n], .dic [(.inl n, .int 1)], .str "", .tup [], .lst [], .str "0", .tup [.bl true], .lst [.non], .dic []]
theorem bad_numbers_eq {n : Int} (h : n.natAbs < 10 ^ 60) : f_law_bad_numbers [.sh (.int n)] = .ret (.fr (.lst (badN n))) [.un] := by
  have st : f_law_bad_numbers [.sh (.int n)] = finS (b_law_bad_numbers ⟨[.sh (.int n), .un], [.un]⟩) := rfl
  rw [st]
  unfold b_law_bad_numbers
  simp only [bind_ok, bind_ex, bind_no, thn_ok, thn_ex, thn_no, lbind_ok, lthn_ok, seq_nx, seq_rt, seq_bk, seq_ct, seq_ex, seq_no, kB_t, kB_f, kS_t, kS_f, asB_bl, kR_s, kD_s, kD2_s, rd_sh, rd_fr, rd_bs, rd_bp, kCs_o, kCp_o, kCp_s, kV_s, kV_o, kV_a, kVp_o, kVp_s, ap_var, ap_c, ap_un, ap_bin, ap_and, ap_or, ap_ifE, kN_s, ap_not, kBl_ap, ap_nx, ap_seq, ap_expr, ap_ret, ap_retN, ap_if, ap_set, stor_sh, stor_fr, ap_args0, ap_args, kA1_ok, kA2_ok, ap_call, kC1_s, kC2_sh, kC2_fr, kC3_s, argC_sh, argC_fr, argC_bs, argC_bp, kAc_o, kAc_s, argCs_nil, argCs_cons, kAcs_s, kAc2_s, kEs_s, ap_tup, ap_lst, escs_nil, escs_cons, kE1_s, kE2_s, esc_sh, esc_fr, esc_bs, kEo_o, kDs_s, ap_bl, rds_nil, rds_cons, kRd1_s, kRd2_s, op1_s, op2_s, ap_asg, kT_s, kT2_s, tNm_ap, tTp_t, tTp_l, tAll_nil, tAll_cons, kTa_s, finS_nx, finS_sh, finS_fr, finS_bs, kF_o, int2_ap, ap_lc, kL1_s, kL2_s, itemsOf_l, itemsOf_t, itemsOf_r, ap_lcR, kLr1_s, own_bs, own_bp, put_bs, put_bp, ap_setIx, kI1_s, kI2_s, kI3_s, kI4_s, ap_mut, isL_l, kM1_t, kM2_s, kM3_s, kM4_s, ap_forR, kFr_s, kFr2_s, ap_for, kFo_s, kFo2_s, ap_par, kP1_s, kP2_s, fixL_nil, fixL_sh, fixL_fr, kX_s, putL_nil, putL_sh, putL_fr, part_n, part_s, kPi_s, ap_sl, partI_i, partI_n, ap_dic0, ap_dic1, kDi_s, kDi2_s, kDi3_s, keyOf_i, mCallR_eq, ap_callK, kCk_s, perm1, nodup1, ap_exc, kX1_s, List.getElem?_cons_zero, List.getElem?_cons_succ, List.set_cons_zero, List.set_cons_succ, ini, prs, dist, putB, List.all_cons, List.all_nil, Bool.and_true, Bool.true_and, if_true, if_pos, neg_int, str_int h, add_int]
  rfl
def badE (a b m : Int) : List D := [.tup [.int b, .int a], .tup [.int a, .int a], .tup [.int b, .int b], .tup [.int (-1), .int b], .tup [.int a, .int (-1)], .tup [.int a, .int m], .tup [.int m, .int b], .tup [.int (a - m), .int b], .tup [.int a, .int (b - m)], .tup [.int (m + 7), .int b], .tup [.bl true, .int b], .tup [.int a, .bl true], .tup [.bl false, .int b], .tup [.int a, .bl false], .tup [.int a, .int (10 ^ 39)], .tup [.int (-(10 ^ 39)), .int b]]
theorem bad_ends_eq (a b m : Int) : f_law_bad_ends [.sh (.int a), .sh (.int b), .sh (.int m)] = .ret (.fr (.lst (badE a b m))) [.un, .un, .un] := by
  have st : f_law_bad_ends [.sh (.int a), .sh (.int b), .sh (.int m)] = finS (b_law_bad_ends ⟨[.sh (.int a), .sh (.int b), .sh (.int m), .un], [.un, .un, .un]⟩) := rfl
  rw [st]
  unfold b_law_bad_ends
  simp only [bind_ok,bind_ex,bind_no,thn_ok,thn_ex,thn_no,lbind_ok,lthn_ok,seq_nx,seq_rt,seq_bk,seq_ct,seq_ex,seq_no,kB_t,kB_f,kS_t,kS_f,asB_bl,kR_s,kD_s,kD2_s,rd_sh,rd_fr,rd_bs,rd_bp,kCs_o,kCp_o,kCp_s,kV_s,kV_o,kV_a,kVp_o,kVp_s,ap_var,ap_c,ap_un,ap_bin,ap_and,ap_or,ap_ifE,kN_s,ap_not,kBl_ap,ap_nx,ap_seq,ap_expr,ap_ret,ap_retN,ap_if,ap_set,stor_sh,stor_fr,ap_args0,ap_args,kA1_ok,kA2_ok,ap_call,kC1_s,kC2_sh,kC2_fr,kC3_s,argC_sh,argC_fr,argC_bs,argC_bp,kAc_o,kAc_s,argCs_nil,argCs_cons,kAcs_s,kAc2_s,kEs_s,ap_tup,ap_lst,escs_nil,escs_cons,kE1_s,kE2_s,esc_sh,esc_fr,esc_bs,kEo_o,kDs_s,ap_bl,rds_nil,rds_cons,kRd1_s,kRd2_s,op1_s,op2_s,ap_asg,kT_s,kT2_s,tNm_ap,tTp_t,tTp_l,tAll_nil,tAll_cons,kTa_s,finS_nx,finS_sh,finS_fr,finS_bs,kF_o,ap_lc,kL1_s,kL2_s,itemsOf_l,itemsOf_t,itemsOf_r,ap_lcR,kLr1_s,own_bs,own_bp,put_bs,put_bp,ap_setIx,kI1_s,kI2_s,kI3_s,kI4_s,ap_mut,isL_l,kM1_t,kM2_s,kM3_s,kM4_s,ap_forR,kFr_s,kFr2_s,ap_for,kFo_s,kFo2_s,ap_par,kP1_s,kP2_s,fixL_nil,fixL_sh,fixL_fr,kX_s,putL_nil,putL_sh,putL_fr,part_n,part_s,kPi_s,ap_sl,partI_i,partI_n,ap_dic0,ap_dic1,kDi_s,kDi2_s,kDi3_s,keyOf_i,mCallR_eq,ap_callK,kCk_s,perm1,nodup1,ap_exc,kX1_s,List.getElem?_cons_zero,List.getElem?_cons_succ,List.set_cons_zero,List.set_cons_succ,ini,prs,dist,putB,List.all_cons,List.all_nil,Bool.and_true,Bool.true_and,if_true,if_pos, neg_int, sub_int, add_int, p1039]
  rfl
def badT (a b r p : Int) : List D := [.lst [.int a, .int b, .int r, .int p], .tup [.int a, .int b, .int r], .tup [.int a, .int b, .int r, .int p, .int p], .tup [.int a, .int b], .tup [.tup [.int a, .int b], .int r, .int p], .tup [.int a, .int b, .tup [.int r, .int p]], .non,
  .dic [(.inl a, .int b)], .str "tie 0 1 1 0", .tup [], .tup [.non, .int b, .int r, .int p], .tup [.int a, .str (toString b), .int r, .int p], .tup [.tup [.int a], .int b, .int r, .int p],
  .tup [.int a, .lst [.int b], .int r, .int p], .tup [.tup [.int a, .int b, .int r, .int p]], .int a, .bl true, .lst [.tup [.int a, .int b, .int r, .int p]], .tup [.int a, .int b, .int r, .non], .tup [.str "", .int b, .int r, .int p], .dic []]
theorem list_t (xs : List D) : dList (.tup xs) = some (.fr (.lst xs)) := rfl
theorem bad_ties_eq {a b r p : Int} (h : b.natAbs < 10 ^ 60) : f_law_bad_ties [.sh (.tup [.int a, .int b, .int r, .int p])] = .ret (.fr (.lst (badT a b r p))) [.un] := by
  have st : f_law_bad_ties [.sh (.tup [.int a, .int b, .int r, .int p])] = finS (b_law_bad_ties ⟨[.sh (.tup [.int a, .int b, .int r, .int p]), .un, .un, .un, .un, .un], [.un]⟩) := rfl
  rw [st]
  unfold b_law_bad_ties
  simp only [bind_ok, bind_ex, bind_no, thn_ok, thn_ex, thn_no, lbind_ok, lthn_ok, seq_nx, seq_rt, seq_bk, seq_ct, seq_ex, seq_no, kB_t, kB_f, kS_t, kS_f, asB_bl, kR_s, kD_s, kD2_s, rd_sh, rd_fr, rd_bs, rd_bp, kCs_o, kCp_o, kCp_s, kV_s, kV_o, kV_a, kVp_o, kVp_s, ap_var, ap_c, ap_un, ap_bin, ap_and, ap_or, ap_ifE, kN_s, ap_not, kBl_ap, ap_nx, ap_seq, ap_expr, ap_ret, ap_retN, ap_if, ap_set, stor_sh, stor_fr, ap_args0, ap_args, kA1_ok, kA2_ok, ap_call, kC1_s, kC2_sh, kC2_fr, kC3_s, argC_sh, argC_fr, argC_bs, argC_bp, kAc_o, kAc_s, argCs_nil, argCs_cons, kAcs_s, kAc2_s, kEs_s, ap_tup, ap_lst, escs_nil, escs_cons, kE1_s, kE2_s, esc_sh, esc_fr, esc_bs, kEo_o, kDs_s, ap_bl, rds_nil, rds_cons, kRd1_s, kRd2_s, op1_s, op2_s, ap_asg, kT_s, kT2_s, tNm_ap, tTp_t, tTp_l, tAll_nil, tAll_cons, kTa_s, finS_nx, finS_sh, finS_fr, finS_bs, kF_o, int2_ap, ap_lc, kL1_s, kL2_s, itemsOf_l, itemsOf_t, itemsOf_r, ap_lcR, kLr1_s, own_bs, own_bp, put_bs, put_bp, ap_setIx, kI1_s, kI2_s, kI3_s, kI4_s, ap_mut, isL_l, kM1_t, kM2_s, kM3_s, kM4_s, ap_forR, kFr_s, kFr2_s, ap_for, kFo_s, kFo2_s, ap_par, kP1_s, kP2_s, fixL_nil, fixL_sh, fixL_fr, kX_s, putL_nil, putL_sh, putL_fr, part_n, part_s, kPi_s, ap_sl, partI_i, partI_n, ap_dic0, ap_dic1, kDi_s, kDi2_s, kDi3_s, keyOf_i, mCallR_eq, ap_callK, kCk_s, perm1, nodup1, ap_exc, kX1_s, List.getElem?_cons_zero, List.getElem?_cons_succ, List.set_cons_zero, List.set_cons_succ, ini, prs, dist, putB, List.all_cons, List.all_nil, Bool.and_true, Bool.true_and, if_true, if_pos, list_t, str_int h]
  rfl
/-! ### small data -/
def PU (d : D) : Prop := Fin' d ∧ wt d ≤ 3000 ∧ dep d ≤ 10 ∧ noLD d = true ∧ noDD d = true
def Bd (d : D) : Prop := Fin' d ∧ wt d ≤ 3000 ∧ dep d ≤ 10 ∧ (noLD d = true ∨ noDD d = true)
theorem PU.bd {d : D} (h : PU d) : Bd d := ⟨h.1, h.2.1, h.2.2.1, .inl h.2.2.2.1⟩
theorem TieV.pu {many : Int} {t : D} (h : TieV many t) (hm : many ≤ 20) : PU t := by
  obtain ⟨a, b, r, p, rfl, h1, h2, h3, h4, h5, h6, h7, h8⟩ := h
  refine ⟨⟨?_, ?_, ?_, ?_, trivial⟩, by simp only [wt, wts]; omega, by simp only [dep, deps]; omega, rfl, rfl⟩ <;> (simp only [Fin']; omega)
theorem many_bd : ∀ {us : List D} {x : D}, (∀ u ∈ us, PU u ∨ u = x) → Bd x → Fins us ∧ wts us ≤ 3002 * us.length ∧ deps us ≤ 10 ∧ (noLD x = true → noLDs us = true) ∧ (noDD x = true → noDDs us = true)
  | [], x, _, _ => ⟨trivial, Nat.le_refl _, Nat.zero_le _, fun _ => rfl, fun _ => rfl⟩
  | u :: us, x, h, hx => by
    obtain ⟨i1, i2, i3, i4, i5⟩ := many_bd (us := us) (x := x) (fun v hv => h v (List.mem_cons_of_mem _ hv)) hx
    have hu : Bd u ∧ (noLD x = true → noLD u = true) ∧ (noDD x = true → noDD u = true) := by
      rcases h u (List.mem_cons_self ..) with z | z
      · exact ⟨z.bd, fun _ => z.2.2.2.1, fun _ => z.2.2.2.2⟩
      · subst z; exact ⟨hx, id, id⟩
    obtain ⟨⟨j1, j2, j3, _⟩, j5, j6⟩ := hu
    refine ⟨⟨j1, i1⟩, ?_, ?_, ?_, ?_⟩
    · simp only [wts, List.length_cons]; omega
    · simp only [deps]; omega
    · intro z; simp only [noLDs, j5 z, i4 z, Bool.and_self]
    · intro z; simp only [noDDs, j6 z, i5 z, Bool.and_self]
theorem sho_put {many : Int} {us : List D} {x : D} (m1 : 1 ≤ many) (m2 : many ≤ 20) (hl : us.length ≤ 4000) (h : ∀ u ∈ us, PU u ∨ u = x) (hx : Bd x) : Sho (.tup [.int many, .tup us]) := by
  obtain ⟨i1, i2, i3, i4, i5⟩ := many_bd h hx
  refine sho_of ⟨by simp only [Fin']; omega, i1, trivial⟩ ?_ ?_ ?_
  · simp only [wt, wts]; omega
  · simp only [dep, deps]; omega
  · rcases hx.2.2.2 with z | z
    · left; simp only [noLD, noLDs, i4 z, Bool.and_self]
    · right; simp only [noDD, noDDs, i5 z, Bool.and_self]
end K01

set_option Elab.async false
set_option linter.all false
set_option maxRecDepth 100000
set_option maxHeartbeats 1000000
namespace K01
open PySem PySem.Spec PyProof.Rows L2 Mx
theorem strF (s : String) : StrF (s : Str) := by
  intro c hc
  rw [show ((s : Str)) = ⟨(s.toList.map Char.toNat).toArray⟩ from Str.ofString_eq_toList s] at hc
  obtain ⟨k, _, rfl⟩ := List.mem_map.mp (show c ∈ s.toList.map Char.toNat from hc)
  exact UInt32.toNat_lt k.val
theorem wt_s (s : String) : wt (.str (s : Str)) = 10 * s.length + 2 := by
  show 10 * ((s : Str)).length + 2 = _
  rw [PySem.ofString_length]
theorem fin_s (s : String) : Fin' (.str (s : Str)) := strF s
theorem wt_n {n : Int} (h : n.natAbs < 10 ^ 60) : wt (.str (toString n)) ≤ 612 := by
  have z := tostr_len n h
  show 10 * _ + 2 ≤ 612
  omega
theorem bd_str (s : String) (h : s.length ≤ 60) : Bd (.str (s : Str)) := ⟨strF s, by rw [wt_s]; omega, (by decide : 0 ≤ 10), .inl rfl⟩
theorem bd_int {i : Int} (h : i.natAbs < 10 ^ 59) : PU (.int i) := ⟨by simp only [Fin']; omega, (by decide : 70 ≤ 3000), (by decide : 0 ≤ 10), rfl, rfl⟩
theorem badN_bd {n : Int} (h : n.natAbs < 10 ^ 59) : ∀ x ∈ badN n, Fin' x ∧ wt x ≤ 2000 ∧ dep x ≤ 5 ∧ (noLD x = true ∨ noDD x = true) := by
  have z := wt_n (n := n) (by omega)
  have z2 : wt (.str "") ≤ 2000 := by rw [wt_s]; decide
  have z3 : wt (.str "0") ≤ 2000 := by rw [wt_s]; decide
  have f1 := fin_s (toString n)
  have f2 := fin_s ""
  have f3 := fin_s "0"
  simp only [wt] at z z2 z3
  simp only [Fin'] at f1 f2 f3
  simp only [badN, List.forall_mem_cons, Fin', Fins, Fink, KeyF, wt, wts, wtk, dep, deps, depk, noLD, noLDs, noLDk, noDD, noDDs, Bool.and_true, Bool.and_self, Bool.and_false, Bool.false_and, true_or, or_true, and_true, true_and, f1, f2, f3]
  refine ⟨?_, ?_, ?_, ?_, ?_, ?_, ?_, ?_, ?_, ?_, ?_, ?_, ?_, ?_, ?_, ?_, ?_, ?_, fun x hx => nomatch hx⟩ <;> omega
theorem badT_bd {a b r p : Int} (ha : a.natAbs < 10 ^ 59) (hb : b.natAbs < 10 ^ 59) (hr : r.natAbs < 10 ^ 59) (hp : p.natAbs < 10 ^ 59) : ∀ x ∈ badT a b r p, Fin' x ∧ wt x ≤ 3000 ∧ dep x ≤ 10 ∧ (noLD x = true ∨ noDD x = true) := by
  have z := wt_n (n := b) (by omega)
  have z2 : wt (.str "") ≤ 2000 := by rw [wt_s]; decide
  have z3 : wt (.str "tie 0 1 1 0") ≤ 2000 := by rw [wt_s]; decide
  have f1 := fin_s (toString b)
  have f2 := fin_s ""
  have f3 := fin_s "tie 0 1 1 0"
  simp only [wt] at z z2 z3
  simp only [Fin'] at f1 f2 f3
  simp only [badT, List.forall_mem_cons, Fin', Fins, Fink, KeyF, wt, wts, wtk, dep, deps, depk, noLD, noLDs, noLDk, noDD, noDDs, Bool.and_true, Bool.and_self, Bool.and_false, Bool.false_and, true_or, or_true, and_true, true_and, f1, f2, f3]
  refine ⟨?_, ?_, ?_, ?_, ?_, ?_, ?_, ?_, ?_, ?_, ?_, ?_, ?_, ?_, ?_, ?_, ?_, ?_, ?_, ?_, ?_, fun x hx => nomatch hx⟩ <;> omega
/-! ### the wholes -/
def tops : D → D
  | .tup [.int a, .int b, _, _] => .int (if b > a then b else a)
  | _ => .int 0
theorem max_ints : ∀ {ds : List D} {many : Int}, 1 ≤ many → (∀ t ∈ ds, TieV many t) → ∃ ns, intsOf (ds.map tops) = some ns ∧ (∀ n ∈ ns, 0 ≤ n ∧ n < many)
  | [], _, _, _ => ⟨[], rfl, fun n h => nomatch h⟩
  | t :: ts, many, hm, h => by
    obtain ⟨ns, e, hn⟩ := max_ints hm fun u hu => h u (List.mem_cons_of_mem _ hu)
    obtain ⟨a, b, r, p, rfl, h1, h2, h3, h4, _⟩ := h t (List.mem_cons_self ..)
    refine ⟨(if b > a then b else a) :: ns, ?_, ?_⟩
    · simp only [List.map_cons, tops, intsOf, e]
    · intro n hx
      rcases List.mem_cons.mp hx with z | z
      · subst z
        split <;> omega
      · exact hn n z
theorem maxI_ok : ∀ {ns : List Int} {lo hi x : Int}, (∀ n ∈ x :: ns, lo ≤ n ∧ n ≤ hi) → ∃ m, maxI (x :: ns) = some m ∧ lo ≤ m ∧ m ≤ hi
  | [], lo, hi, x, h => ⟨x, rfl, h x (List.mem_cons_self ..)⟩
  | y :: ns, lo, hi, x, h => by
    obtain ⟨m, e, h1, h2⟩ := maxI_ok (ns := ns) (x := y) (lo := lo) (hi := hi) fun n hn => h n (List.mem_cons_of_mem _ hn)
    have hx := h x (List.mem_cons_self ..)
    refine ⟨if m ≤ x then x else m, by rw [maxI, e], ?_, ?_⟩ <;> split <;> omega
def badW (many last : Int) (ts : List D) : List D := [.tup [.int 0, .tup ts], .tup [.int 21, .tup ts], .tup [.int (-1), .tup ts], .tup [.bl true, .tup ts], .tup [.str (toString many), .tup ts], .tup [.non, .tup ts], .tup [.tup [.int many], .tup ts], .tup [.int last, .tup ts],
  .tup [.int 20, .tup ts], .tup [.int (10 ^ 39), .tup ts], .tup [.bl false, .tup []], .tup [.int 0, .tup []], .tup [.int 21, .tup []], .tup [.int 20, .tup []], .tup [.int many, .lst ts], .lst [.int many, .tup ts],
  .tup [.int many], .tup [.int many, .tup ts, .tup ts], .tup [.tup ts, .int many], .tup [.tup [.int many, .tup ts]], .non, .dic [], .str "places 3", .int many, .tup ts, .tup [], .lst [], .dic [(.inl many, .tup ts)],
  .tup [.int many, .tup [.tup ts]], .tup [.int many, .non], .tup [.int many, .str "()"], .tup [.int many, .dic []], .bl true, .lst [.tup [.int many, .tup ts]], .str "", .tup [.int many, .tup [.tup [], .tup []]], .tup [.bl true, .tup []]]
theorem badW_sho {many last : Int} {ts : List D} (h1 : many.natAbs < 10 ^ 59) (h2 : last.natAbs < 10 ^ 59) (hl : ts.length ≤ 120) (ht : ∀ t ∈ ts, PU t) : ∀ x ∈ badW many last ts, Sho x := by
  obtain ⟨i1, i2, i3, i4, i5⟩ := many_bd (us := ts) (x := .non) (fun u hu => .inl (ht u hu)) ⟨trivial, by decide, by decide, .inl rfl⟩
  have i4 := i4 rfl
  have i5 := i5 rfl
  have z := wt_n (n := many) (by omega)
  have z2 : wt (.str "") ≤ 2000 := by rw [wt_s]; decide
  have z3 : wt (.str "places 3") ≤ 2000 := by rw [wt_s]; decide
  have z4 : wt (.str "()") ≤ 2000 := by rw [wt_s]; decide
  have f1 := fin_s (toString many)
  have f2 := fin_s ""
  have f3 := fin_s "places 3"
  have f4 := fin_s "()"
  simp only [wt] at z z2 z3 z4
  simp only [Fin'] at f1 f2 f3 f4
  suffices H : ∀ x ∈ badW many last ts, Fin' x ∧ wt x ≤ 16777216 ∧ dep x ≤ 50 ∧ (noLD x = true ∨ noDD x = true) from fun x hx => sho_of (H x hx).1 (H x hx).2.1 (H x hx).2.2.1 (H x hx).2.2.2
  simp only [badW, List.forall_mem_cons, Fin', Fins, Fink, KeyF, wt, wts, wtk, dep, deps, depk, noLD, noLDs, noLDk, noDD, noDDs, Bool.and_true, Bool.and_self, Bool.and_false, Bool.false_and, true_or, or_true, and_true, true_and, f1, f2, f3, f4, i1, i4, i5]
  refine ⟨?_, ?_, ?_, ?_, ?_, ?_, ?_, ?_, ?_, ?_, ?_, ?_, ?_, ?_, ?_, ?_, ?_, ?_, ?_, ?_, ?_, ?_, ?_, ?_, ?_, ?_, ?_, ?_, ?_, ?_, ?_, ?_, ?_, ?_, ?_, ?_, ?_, fun x hx => nomatch hx⟩ <;> omega
theorem bad_wholes_eq {many : Int} {ts : List D} (h1 : 1 ≤ many) (h2 : many ≤ 20) (hl : ts.length ≤ 120) (ht : ∀ t ∈ ts, TieV many t) : ∃ last, 0 ≤ last ∧ last ≤ many ∧ f_law_bad_wholes [.sh (.tup [.int many, .tup ts])] = .ret (.fr (.lst (badW many last ts))) [.un] := by
  obtain ⟨ns, e, hn⟩ := max_ints h1 ht
  obtain ⟨m, em, m0, m1⟩ := maxI_ok (ns := ns) (x := 0) (lo := 0) (hi := many) (by
    intro n h
    rcases List.mem_cons.mp h with z | z
    · omega
    · have := hn n z; omega)
  have st : f_law_bad_wholes [.sh (.tup [.int many, .tup ts])] = finS (b_law_bad_wholes ⟨[.sh (.tup [.int many, .tup ts]), .un, .un, .un, .un, .un], [.un]⟩) := rfl
  have lc := lc_pure (v := 4) (tt := mYes) (elt := mBl (op2 dMax2) [mBin dIx (mVar 4) (mC (.int 0)), mBin dIx (mVar 4) (mC (.int 1))]) (p := fun _ => true) (gg := tops) (s := ⟨[.sh (.tup [.int many, .tup ts]), .sh (.int many), .sh (.tup ts), .un, .un, .un], [.un]⟩) (cl := .un) rfl (fun d z => by cases z) ts (fun d hd => by
    obtain ⟨a, b, r, p, rfl, _⟩ := ht d hd
    have j0 : dIx (.tup [.int a, .int b, .int r, .int p]) (.int 0) = some (.sh (.int a)) := rfl
    have j1 : dIx (.tup [.int a, .int b, .int r, .int p]) (.int 1) = some (.sh (.int b)) := rfl
    have j2 : dMax2 (.int a) (.int b) = some (.sh (.int (if b > a then b else a))) := rfl
    refine ⟨rfl, fun _ => ⟨.sh (tops (.tup [.int a, .int b, .int r, .int p])), ?_, rfl⟩⟩
    simp only [bind_ok, bind_ex, bind_no, thn_ok, thn_ex, thn_no, lbind_ok, lthn_ok, seq_nx, seq_rt, seq_bk, seq_ct, seq_ex, seq_no, kB_t, kB_f, kS_t, kS_f, asB_bl, kR_s, kD_s, kD2_s, rd_sh, rd_fr, rd_bs, rd_bp, kCs_o, kCp_o, kCp_s, kV_s, kV_o, kV_a, kVp_o, kVp_s, ap_var, ap_c, ap_un, ap_bin, ap_and, ap_or, ap_ifE, kN_s, ap_not, kBl_ap, ap_nx, ap_seq, ap_expr, ap_ret, ap_retN, ap_if, ap_set, stor_sh, stor_fr, ap_args0, ap_args, kA1_ok, kA2_ok, ap_call, kC1_s, kC2_sh, kC2_fr, kC3_s, argC_sh, argC_fr, argC_bs, argC_bp, kAc_o, kAc_s, argCs_nil, argCs_cons, kAcs_s, kAc2_s, kEs_s, ap_tup, ap_lst, escs_nil, escs_cons, kE1_s, kE2_s, esc_sh, esc_fr, esc_bs, kEo_o, kDs_s, ap_bl, rds_nil, rds_cons, kRd1_s, kRd2_s, op1_s, op2_s, ap_asg, kT_s, kT2_s, tNm_ap, tTp_t, tTp_l, tAll_nil, tAll_cons, kTa_s, finS_nx, finS_sh, finS_fr, finS_bs, kF_o, int2_ap, ap_lc, kL1_s, kL2_s, itemsOf_l, itemsOf_t, itemsOf_r, ap_lcR, kLr1_s, own_bs, own_bp, put_bs, put_bp, ap_setIx, kI1_s, kI2_s, kI3_s, kI4_s, ap_mut, isL_l, kM1_t, kM2_s, kM3_s, kM4_s, ap_forR, kFr_s, kFr2_s, ap_for, kFo_s, kFo2_s, ap_par, kP1_s, kP2_s, fixL_nil, fixL_sh, fixL_fr, kX_s, putL_nil, putL_sh, putL_fr, part_n, part_s, kPi_s, ap_sl, partI_i, partI_n, ap_dic0, ap_dic1, kDi_s, kDi2_s, kDi3_s, keyOf_i, mCallR_eq, ap_callK, kCk_s, perm1, nodup1, ap_exc, kX1_s, List.getElem?_cons_zero, List.getElem?_cons_succ, List.set_cons_zero, List.set_cons_succ, ini, prs, dist, putB, List.all_cons, List.all_nil, Bool.and_true, Bool.true_and, if_true, if_pos, j0, j1, j2, tops])
  rw [List.filter_eq_self.mpr fun _ _ => rfl] at lc
  have a0 : dAdd (.lst [.int 0]) (.lst (ts.map tops)) = some (.fr (.lst (.int 0 :: ts.map tops))) := add_lst (by simp only [List.length_cons, List.length_nil, List.length_map]; omega)
  have mx : dMaxL (.lst (.int 0 :: ts.map tops)) = some (.sh (.int m)) := by
    simp only [dMaxL, lItems, intsOf, e, em]
  have sI := str_int (i := many) (by omega)
  refine ⟨m, m0, m1, ?_⟩
  rw [st]
  unfold b_law_bad_wholes
  simp only [bind_ok,bind_ex,bind_no,thn_ok,thn_ex,thn_no,lbind_ok,lthn_ok,seq_nx,seq_rt,seq_bk,seq_ct,seq_ex,seq_no,kB_t,kB_f,kS_t,kS_f,asB_bl,kR_s,kD_s,kD2_s,rd_sh,rd_fr,rd_bs,rd_bp,kCs_o,kCp_o,kCp_s,kV_s,kV_o,kV_a,kVp_o,kVp_s,ap_var,ap_c,ap_un,ap_bin,ap_and,ap_or,ap_ifE,kN_s,ap_not,kBl_ap,ap_nx,ap_seq,ap_expr,ap_ret,ap_retN,ap_if,ap_set,stor_sh,stor_fr,ap_args0,ap_args,kA1_ok,kA2_ok,ap_call,kC1_s,kC2_sh,kC2_fr,kC3_s,argC_sh,argC_fr,argC_bs,argC_bp,kAc_o,kAc_s,argCs_nil,argCs_cons,kAcs_s,kAc2_s,kEs_s,ap_tup,ap_lst,escs_nil,escs_cons,kE1_s,kE2_s,esc_sh,esc_fr,esc_bs,kEo_o,kDs_s,ap_bl,rds_nil,rds_cons,kRd1_s,kRd2_s,op1_s,op2_s,ap_asg,kT_s,kT2_s,tNm_ap,tTp_t,tTp_l,tAll_nil,tAll_cons,kTa_s,finS_nx,finS_sh,finS_fr,finS_bs,kF_o,ap_lc,kL1_s,kL2_s,itemsOf_l,itemsOf_t,itemsOf_r,ap_lcR,kLr1_s,own_bs,own_bp,put_bs,put_bp,ap_setIx,kI1_s,kI2_s,kI3_s,kI4_s,ap_mut,isL_l,kM1_t,kM2_s,kM3_s,kM4_s,ap_forR,kFr_s,kFr2_s,ap_for,kFo_s,kFo2_s,ap_par,kP1_s,kP2_s,fixL_nil,fixL_sh,fixL_fr,kX_s,putL_nil,putL_sh,putL_fr,part_n,part_s,kPi_s,ap_sl,partI_i,partI_n,ap_dic0,ap_dic1,kDi_s,kDi2_s,kDi3_s,keyOf_i,mCallR_eq,ap_callK,kCk_s,perm1,nodup1,ap_exc,kX1_s,List.getElem?_cons_zero,List.getElem?_cons_succ,List.set_cons_zero,List.set_cons_succ,ini,prs,dist,putB,List.all_cons,List.all_nil,Bool.and_true,Bool.true_and,if_true,if_pos, lc, a0, mx, neg_int, sI, list_t, p1039]
  rfl
theorem put_eq {ts : List D} {i : Nat} {x : D} (hi : i < ts.length) (hl : ts.length ≤ 120) : ∃ us, f_law_put [.sh (.tup ts), .sh (.int i), .sh x] = .ret (.sh (.tup us)) [.un, .un, .un] ∧ us.length ≤ 241 ∧ ∀ u ∈ us, u ∈ ts ∨ u = x := by
  have st : f_law_put [.sh (.tup ts), .sh (.int i), .sh x] = finS (b_law_put ⟨[.sh (.tup ts), .sh (.int i), .sh x], [.un, .un, .un]⟩) := rfl
  have sl : ∀ lo hi, dSl (.tup ts) lo hi = some (.sh (.tup (cutL ts lo hi))) := fun lo hi => rfl
  have cl : ∀ lo hi, (cutL ts lo hi).length ≤ ts.length := fun lo hi => by
    unfold cutL
    rw [List.length_take, List.length_drop]; omega
  have cm : ∀ lo hi u, u ∈ cutL ts lo hi → u ∈ ts := fun lo hi u h => List.mem_of_mem_drop (List.mem_of_mem_take h)
  have l1 := cl none (some (i : Int))
  have l2 := cl (some ((i : Int) + 1)) none
  have a1 : dAdd (.tup (cutL ts none (some (i : Int)))) (.tup [x]) = some (.sh (.tup (cutL ts none (some (i : Int)) ++ [x]))) := add_tup (by simp only [List.length_cons, List.length_nil]; omega)
  have a2 : dAdd (.tup (cutL ts none (some (i : Int)) ++ [x])) (.tup (cutL ts (some ((i : Int) + 1)) none)) = some (.sh (.tup (cutL ts none (some (i : Int)) ++ [x] ++ cutL ts (some ((i : Int) + 1)) none))) := add_tup (by simp only [List.length_append, List.length_cons, List.length_nil]; omega)
  refine ⟨cutL ts none (some (i : Int)) ++ [x] ++ cutL ts (some ((i : Int) + 1)) none, ?_, by simp only [List.length_append, List.length_cons, List.length_nil]; omega, ?_⟩
  · rw [st]
    unfold b_law_put
    simp only [bind_ok, bind_ex, bind_no, thn_ok, thn_ex, thn_no, lbind_ok, lthn_ok, seq_nx, seq_rt, seq_bk, seq_ct, seq_ex, seq_no, kB_t, kB_f, kS_t, kS_f, asB_bl, kR_s, kD_s, kD2_s, rd_sh, rd_fr, rd_bs, rd_bp, kCs_o, kCp_o, kCp_s, kV_s, kV_o, kV_a, kVp_o, kVp_s, ap_var, ap_c, ap_un, ap_bin, ap_and, ap_or, ap_ifE, kN_s, ap_not, kBl_ap, ap_nx, ap_seq, ap_expr, ap_ret, ap_retN, ap_if, ap_set, stor_sh, stor_fr, ap_args0, ap_args, kA1_ok, kA2_ok, ap_call, kC1_s, kC2_sh, kC2_fr, kC3_s, argC_sh, argC_fr, argC_bs, argC_bp, kAc_o, kAc_s, argCs_nil, argCs_cons, kAcs_s, kAc2_s, kEs_s, ap_tup, ap_lst, escs_nil, escs_cons, kE1_s, kE2_s, esc_sh, esc_fr, esc_bs, kEo_o, kDs_s, ap_bl, rds_nil, rds_cons, kRd1_s, kRd2_s, op1_s, op2_s, ap_asg, kT_s, kT2_s, tNm_ap, tTp_t, tTp_l, tAll_nil, tAll_cons, kTa_s, finS_nx, finS_sh, finS_fr, finS_bs, kF_o, int2_ap, ap_lc, kL1_s, kL2_s, itemsOf_l, itemsOf_t, itemsOf_r, ap_lcR, kLr1_s, own_bs, own_bp, put_bs, put_bp, ap_setIx, kI1_s, kI2_s, kI3_s, kI4_s, ap_mut, isL_l, kM1_t, kM2_s, kM3_s, kM4_s, ap_forR, kFr_s, kFr2_s, ap_for, kFo_s, kFo2_s, ap_par, kP1_s, kP2_s, fixL_nil, fixL_sh, fixL_fr, kX_s, putL_nil, putL_sh, putL_fr, part_n, part_s, kPi_s, ap_sl, partI_i, partI_n, ap_dic0, ap_dic1, kDi_s, kDi2_s, kDi3_s, keyOf_i, mCallR_eq, ap_callK, kCk_s, perm1, nodup1, ap_exc, kX1_s, List.getElem?_cons_zero, List.getElem?_cons_succ, List.set_cons_zero, List.set_cons_succ, ini, prs, dist, putB, List.all_cons, List.all_nil, Bool.and_true, Bool.true_and, if_true, if_pos, sl, add_int, a1, a2]
  · intro u hu
    rcases List.mem_append.mp hu with h | h
    · rcases List.mem_append.mp h with h | h
      · exact .inl (cm _ _ _ h)
      · exact .inr (List.mem_singleton.mp h)
    · exact .inl (cm _ _ _ h)
end K01

set_option Elab.async false
set_option linter.all false
set_option maxRecDepth 100000
set_option maxHeartbeats 1000000
namespace K01
open PySem PySem.Spec PyProof.Rows L2 Mx
/-! ### the spoilt ones, in parts -/
def inB : Ms := mSeq (mSet 15 (mCall f_law_put [mVar 3, mVar 7, mIfE (mBin dEq (mVar 12) (mC (.int 0))) (mTup [mVar 8, mVar 9, mBin dIx (mVar 13) (mVar 14), mVar 11]) (mTup [mVar 8, mVar 9, mVar 10, mBin dIx (mVar 13) (mVar 14)])])) (mExpr (mMut dAppend (mVar 5) [mTup [mVar 2, mIfE (mBin dLtA (mVar 14) (mC (.int 6))) (mBl (op1 dTuple) [mBl (op1 dSortR) [mVar 15]]) (mVar 15)]]))
def inL : Ms := mForR rng1 [mBl (op1 dLen) [mVar 13]] (tNm 14) (inB)
def outB : Ms := mSeq (mSet 13 (mCall f_law_bad_numbers [mBin dIx (mLst [mVar 10, mVar 11]) (mVar 12)])) (inL)
def outL : Ms := mForR rng1 [mC (.int 2)] (tNm 12) (outB)
def endB : Ms := mExpr (mMut dAppend (mVar 5) [mTup [mVar 2, mBl (op1 dTuple) [mBl (op1 dSortR) [mCall f_law_put [mVar 3, mVar 7, mTup [mVar 16, mVar 17, mVar 10, mVar 11]]]]]])
def endL : Ms := mFor (mCall f_law_bad_ends [mVar 8, mVar 9, mVar 2]) (tTp [tNm 16, tNm 17]) (endB)
def setM : Ms := mSet 5 (mBin dAdd (mBin dAdd (mVar 5) (mLc [18] (tNm 18) (mYes) (mTup [mVar 2, mCall f_law_put [mVar 3, mVar 7, mVar 18]]) (mCall f_law_bad_ties [mBin dIx (mVar 3) (mVar 7)]))) (mLst [mTup [mVar 2, mUn dRev (mVar 3)]]))
def swB : Ms := mSet 5 (mBin dAdd (mVar 5) (mLst [mTup [mVar 2, mBin dAdd (mBin dAdd (mSl (mVar 3) none (some (mVar 7))) (mTup [mBin dIx (mVar 3) (mBin dAdd (mVar 7) (mC (.int 1))), mBin dIx (mVar 3) (mVar 7)])) (mSl (mVar 3) (some (mBin dAdd (mVar 7) (mC (.int 2)))) none)], mTup [mVar 2, mBin dAdd (mSl (mVar 3) (some (mBin dAdd (mVar 7) (mC (.int 1)))) none) (mSl (mVar 3) none (some (mBin dAdd (mVar 7) (mC (.int 1)))))]]))
def pick5 : Ms := mSet 5 (mLcC [14] (tNm 14) (mYes) (mBin dIx (mVar 5) (mVar 14)) [mVar 6, mBl (op1 dLen) [mVar 5], mVar 4])
def endB2 : Ms := mExpr (mMut dAppend (mVar 5) [mTup [mVar 2, mBl (op1 dTuple) [mBl (op1 dSortR) [mBin dAdd (mVar 3) (mBin dMul (mTup [mTup [mC (.int 0), mC (.int 1), mC (.int 1), mC (.int 0)]]) (mBin dSub (mVar 19) (mBl (op1 dLen) [mVar 3])))]]]])
def endL2 : Ms := mFor (mLst [mC (.int 120), mC (.int 121)]) (tNm 19) (endB2)
def allB : Ms := mSeq (mAsg (mVar 1) (tTp [tNm 2, tNm 3])) (mSeq (mSet 4 (mIfE (mBin dGt (mBl (op1 dLen) [mVar 3]) (mC (.int 8))) (mC (.int 8)) (mIfE (mBin dGt (mBl (op1 dLen) [mVar 3]) (mC (.int 3))) (mC (.int 4)) (mC (.int 1))))) (mSeq (mPar [5, 6] [mCall f_law_bad_wholes [mVar 1], mCall f_law_take [mVar 0, mVar 4]]) (mSeq (mIf (mBin dNe (mVar 3) (mTup [])) (mSeq (mSet 7 (mCall f_law_take [mVar 0, mBl (op1 dLen) [mVar 3]])) (mSeq (mAsg (mBin dIx (mVar 3) (mVar 7)) (tTp [tNm 8, tNm 9, tNm 10, tNm 11])) (mSeq (outL) (mSeq (endL) (setM))))) (mNx)) (mSeq (mIf (mBin dGt (mBl (op1 dLen) [mVar 3]) (mC (.int 1))) (mSeq (mSet 7 (mCall f_law_take [mVar 0, mBin dSub (mBl (op1 dLen) [mVar 3]) (mC (.int 1))])) (swB)) (mNx)) (mSeq (pick5) (mSeq (endL2) (mRet (mVar 5))))))))
theorem all_eq : b_law_all_spoilt = allB := rfl

def ST (net : D) (many : Int) (ts : List D) (step first : Int) (i : Int) (a b r p : Int) (bs : List D) (d : D) (x12 x13 x14 x15 x16 x17 : Cell) : S := ⟨[.al 0, .sh net, .sh (.int many), .sh (.tup ts), .sh (.int step), .ow (.lst bs), .sh (.int first), .sh (.int i), .sh (.int a), .sh (.int b), .sh (.int r), .sh (.int p), x12, x13, x14, x15, x16, x17, .un, .un], [.ow d, .un]⟩
def GL (m : Nat) (bs : List D) : Prop := (∀ v ∈ bs, Sho v) ∧ bs.length ≤ m
theorem GL.push {m : Nat} {bs : List D} {v : D} (h : GL m bs) (hv : Sho v) : GL (m + 1) (bs ++ [v]) := ⟨fun u hu => by
  rcases List.mem_append.mp hu with z | z
  · exact h.1 u z
  · rw [List.mem_singleton.mp z]; exact hv, by rw [List.length_append]; have := h.2; simp only [List.length_cons, List.length_nil]; omega⟩
theorem app_ok {bs : List D} {v : D} (h : bs.length < 16777216) : dAppend bs [v] = some (.non, bs ++ [v]) := if_pos h
theorem badN_row {n : Int} {k : Nat} {x : D} (h : (badN n)[k]? = some x) (hk : k < 6) (a b p : Int) : (rowD (.tup [.int a, .int b, x, .int p])).isSome = true ∧ (rowD (.tup [.int a, .int b, .int p, x])).isSome = true := by
  match k, h, hk with
  | 0, h, _ => cases h; exact ⟨rfl, rfl⟩
  | 1, h, _ => cases h; exact ⟨rfl, rfl⟩
  | 2, h, _ => cases h; exact ⟨rfl, rfl⟩
  | 3, h, _ => cases h; exact ⟨rfl, rfl⟩
  | 4, h, _ => cases h; exact ⟨rfl, rfl⟩
  | 5, h, _ => cases h; exact ⟨rfl, rfl⟩
  | k + 6, _, h => exact absurd h (by omega)
theorem bd4 {a b c d : D} (h1 : PU a) (h2 : PU b) (h3 : Fin' c ∧ wt c ≤ 2000 ∧ dep c ≤ 5 ∧ (noLD c = true ∨ noDD c = true)) (h4 : PU d) (w1 : wt a ≤ 100) (w2 : wt b ≤ 100) (w4 : wt d ≤ 100) (d1 : dep a ≤ 5) (d2 : dep b ≤ 5) (d4 : dep d ≤ 5) : Bd (.tup [a, b, c, d]) ∧ Bd (.tup [a, b, d, c]) := by
  obtain ⟨a1, a2, a3, a4, a5⟩ := h1
  obtain ⟨b1, b2, b3, b4, b5⟩ := h2
  obtain ⟨c1, c2, c3, c4⟩ := h3
  obtain ⟨e1, e2, e3, e4, e5⟩ := h4
  refine ⟨⟨⟨a1, b1, c1, e1, trivial⟩, ?_, ?_, ?_⟩, ⟨⟨a1, b1, e1, c1, trivial⟩, ?_, ?_, ?_⟩⟩
  · simp only [wt, wts]; omega
  · simp only [dep, deps]; omega
  · simp only [noLD, noLDs, noDD, noDDs, a4, a5, b4, b5, e4, e5, Bool.and_true, Bool.true_and]; exact c4
  · simp only [wt, wts]; omega
  · simp only [dep, deps]; omega
  · simp only [noLD, noLDs, noDD, noDDs, a4, a5, b4, b5, e4, e5, Bool.and_true, Bool.true_and]; exact c4
structure TieEnv (net : D) (many : Int) (ts : List D) (i : Nat) (a b r p : Int) : Prop where
  m1 : 1 ≤ many
  m2 : many ≤ 20
  hl : ts.length ≤ 120
  ht : ∀ t ∈ ts, TieV many t
  hi : i < ts.length
  at' : ts[i]? = some (.tup [.int a, .int b, .int r, .int p])
  tv : TieV many (.tup [.int a, .int b, .int r, .int p])
theorem TieEnv.nums {net : D} {many : Int} {ts : List D} {i : Nat} {a b r p : Int} (E : TieEnv net many ts i a b r p) : a.natAbs < 10 ^ 59 ∧ b.natAbs < 10 ^ 59 ∧ r.natAbs < 10 ^ 59 ∧ p.natAbs < 10 ^ 59 := by
  obtain ⟨a', b', r', p', e, h1, h2, h3, h4, h5, h6, h7, h8⟩ := E.tv
  cases e
  have := E.m2
  refine ⟨?_, ?_, ?_, ?_⟩ <;> omega
theorem dep_i (i : Int) : dep (.int i) ≤ 5 := (by decide : 0 ≤ 5)
theorem wt_i (i : Int) : wt (.int i) ≤ 100 := (by decide : 70 ≤ 100)
/-- a net with one tie put in is shown; and sorted, if its ties are rows -/
theorem put_sho {net : D} {many : Int} {ts us : List D} {i : Nat} {a b r p : Int} {x : D} (E : TieEnv net many ts i a b r p) (hx : Bd x) (hl : us.length ≤ 241) (h : ∀ u ∈ us, u ∈ ts ∨ u = x) : Sho (.tup [.int many, .tup us]) ∧ ((rowD x).isSome = true → dSortR (.tup us) = some (.fr (.lst (sortR us))) ∧ Sho (.tup [.int many, .tup (sortR us)])) := by
  have hu : ∀ u ∈ us, PU u ∨ u = x := fun u hu => (h u hu).imp (fun z => (E.ht u z).pu E.m2) id
  refine ⟨sho_put E.m1 E.m2 (by omega) hu hx, fun hr => ⟨sort_eqT fun u hm => ?_, sho_put E.m1 E.m2 (by rw [sort_len]; omega) (fun u hm => hu u (sort_mem.mp hm)) hx⟩⟩
  rcases h u hm with z | z
  · exact tie_rowOk (E.ht u z)
  · rw [z]; exact hr
theorem in_turn {net : D} {many : Int} {ts : List D} {i : Nat} {a b r p step first : Int} {bs : List D} {d : D} {m : Nat} {w q : Int} {k : Nat} {x15 x16 x17 : Cell} (E : TieEnv net many ts i a b r p) (hb : GL m bs) (hm : m < 100000) (hq : q.natAbs < 10 ^ 59) (hk : k < 18) :
    ∃ y15 v, inB (ST net many ts step first i a b r p bs d (.sh (.int w)) (.ow (.lst (badN q))) (.sh (.int k)) x15 x16 x17) = .nx (ST net many ts step first i a b r p (bs ++ [v]) d (.sh (.int w)) (.ow (.lst (badN q))) (.sh (.int k)) y15 x16 x17) ∧ Sho v := by
  obtain ⟨na, nb, nr, np⟩ := E.nums
  have hk' : k < (badN q).length := hk
  have hx := List.getElem?_eq_getElem hk'
  have hxb := badN_bd hq _ (List.getElem_mem hk')
  generalize (badN q)[k] = x at hx hxb
  have ix := ix_l hx
  have ap : ∀ v, dAppend bs [v] = some (.non, bs ++ [v]) := fun v => app_ok (by have := hb.2; omega)
  have q1 := bd4 (bd_int na) (bd_int nb) hxb (bd_int np) (wt_i a) (wt_i b) (wt_i p) (dep_i a) (dep_i b) (dep_i p)
  have q2 := bd4 (bd_int na) (bd_int nb) hxb (bd_int nr) (wt_i a) (wt_i b) (wt_i r) (dep_i a) (dep_i b) (dep_i r)
  unfold inB ST
  cases hw : (w == 0) with
  | true =>
    obtain ⟨us, e1, l1, h1⟩ := put_eq (x := .tup [.int a, .int b, x, .int p]) E.hi E.hl
    obtain ⟨s1, s2⟩ := put_sho E q1.1 l1 h1
    cases h6 : decide ((k : Int) < 6) with
    | true =>
      obtain ⟨s3, s4⟩ := s2 (badN_row hx (by have := of_decide_eq_true h6; omega) a b p).1
      refine ⟨.sh (.tup us), _, ?_, s4⟩
      simp only [bind_ok, bind_ex, bind_no, thn_ok, thn_ex, thn_no, lbind_ok, lthn_ok, seq_nx, seq_rt, seq_bk, seq_ct, seq_ex, seq_no, kB_t, kB_f, kS_t, kS_f, asB_bl, kR_s, kD_s, kD2_s, rd_sh, rd_fr, rd_bs, rd_bp, kCs_o, kCp_o, kCp_s, kV_s, kV_o, kV_a, kVp_o, kVp_s, ap_var, ap_c, ap_un, ap_bin, ap_and, ap_or, ap_ifE, kN_s, ap_not, kBl_ap, ap_nx, ap_seq, ap_expr, ap_ret, ap_retN, ap_if, ap_set, stor_sh, stor_fr, ap_args0, ap_args, kA1_ok, kA2_ok, ap_call, kC1_s, kC2_sh, kC2_fr, kC3_s, argC_sh, argC_fr, argC_bs, argC_bp, kAc_o, kAc_s, argCs_nil, argCs_cons, kAcs_s, kAc2_s, kEs_s, ap_tup, ap_lst, escs_nil, escs_cons, kE1_s, kE2_s, esc_sh, esc_fr, esc_bs, kEo_o, kDs_s, ap_bl, rds_nil, rds_cons, kRd1_s, kRd2_s, op1_s, op2_s, ap_asg, kT_s, kT2_s, tNm_ap, tTp_t, tTp_l, tAll_nil, tAll_cons, kTa_s, finS_nx, finS_sh, finS_fr, finS_bs, kF_o, int2_ap, ap_lc, kL1_s, kL2_s, itemsOf_l, itemsOf_t, itemsOf_r, ap_lcR, kLr1_s, own_bs, own_bp, put_bs, put_bp, ap_setIx, kI1_s, kI2_s, kI3_s, kI4_s, ap_mut, isL_l, kM1_t, kM2_s, kM3_s, kM4_s, ap_forR, kFr_s, kFr2_s, ap_for, kFo_s, kFo2_s, ap_par, kP1_s, kP2_s, fixL_nil, fixL_sh, fixL_fr, kX_s, putL_nil, putL_sh, putL_fr, part_n, part_s, kPi_s, ap_sl, partI_i, partI_n, ap_dic0, ap_dic1, kDi_s, kDi2_s, kDi3_s, keyOf_i, mCallR_eq, ap_callK, kCk_s, perm1, nodup1, ap_exc, kX1_s, List.getElem?_cons_zero, List.getElem?_cons_succ, List.set_cons_zero, List.set_cons_succ, ini, prs, dist, putB, List.all_cons, List.all_nil, Bool.and_true, Bool.true_and, if_true, if_pos, eq_int, hw, ix, e1, lt_intA, h6, s3, tup_l, ap]
    | false =>
      refine ⟨.sh (.tup us), _, ?_, s1⟩
      simp only [bind_ok, bind_ex, bind_no, thn_ok, thn_ex, thn_no, lbind_ok, lthn_ok, seq_nx, seq_rt, seq_bk, seq_ct, seq_ex, seq_no, kB_t, kB_f, kS_t, kS_f, asB_bl, kR_s, kD_s, kD2_s, rd_sh, rd_fr, rd_bs, rd_bp, kCs_o, kCp_o, kCp_s, kV_s, kV_o, kV_a, kVp_o, kVp_s, ap_var, ap_c, ap_un, ap_bin, ap_and, ap_or, ap_ifE, kN_s, ap_not, kBl_ap, ap_nx, ap_seq, ap_expr, ap_ret, ap_retN, ap_if, ap_set, stor_sh, stor_fr, ap_args0, ap_args, kA1_ok, kA2_ok, ap_call, kC1_s, kC2_sh, kC2_fr, kC3_s, argC_sh, argC_fr, argC_bs, argC_bp, kAc_o, kAc_s, argCs_nil, argCs_cons, kAcs_s, kAc2_s, kEs_s, ap_tup, ap_lst, escs_nil, escs_cons, kE1_s, kE2_s, esc_sh, esc_fr, esc_bs, kEo_o, kDs_s, ap_bl, rds_nil, rds_cons, kRd1_s, kRd2_s, op1_s, op2_s, ap_asg, kT_s, kT2_s, tNm_ap, tTp_t, tTp_l, tAll_nil, tAll_cons, kTa_s, finS_nx, finS_sh, finS_fr, finS_bs, kF_o, int2_ap, ap_lc, kL1_s, kL2_s, itemsOf_l, itemsOf_t, itemsOf_r, ap_lcR, kLr1_s, own_bs, own_bp, put_bs, put_bp, ap_setIx, kI1_s, kI2_s, kI3_s, kI4_s, ap_mut, isL_l, kM1_t, kM2_s, kM3_s, kM4_s, ap_forR, kFr_s, kFr2_s, ap_for, kFo_s, kFo2_s, ap_par, kP1_s, kP2_s, fixL_nil, fixL_sh, fixL_fr, kX_s, putL_nil, putL_sh, putL_fr, part_n, part_s, kPi_s, ap_sl, partI_i, partI_n, ap_dic0, ap_dic1, kDi_s, kDi2_s, kDi3_s, keyOf_i, mCallR_eq, ap_callK, kCk_s, perm1, nodup1, ap_exc, kX1_s, List.getElem?_cons_zero, List.getElem?_cons_succ, List.set_cons_zero, List.set_cons_succ, ini, prs, dist, putB, List.all_cons, List.all_nil, Bool.and_true, Bool.true_and, if_true, if_pos, eq_int, hw, ix, e1, lt_intA, h6, ap]
  | false =>
    obtain ⟨us, e1, l1, h1⟩ := put_eq (x := .tup [.int a, .int b, .int r, x]) E.hi E.hl
    obtain ⟨s1, s2⟩ := put_sho E q2.2 l1 h1
    cases h6 : decide ((k : Int) < 6) with
    | true =>
      obtain ⟨s3, s4⟩ := s2 (badN_row hx (by have := of_decide_eq_true h6; omega) a b r).2
      refine ⟨.sh (.tup us), _, ?_, s4⟩
      simp only [bind_ok, bind_ex, bind_no, thn_ok, thn_ex, thn_no, lbind_ok, lthn_ok, seq_nx, seq_rt, seq_bk, seq_ct, seq_ex, seq_no, kB_t, kB_f, kS_t, kS_f, asB_bl, kR_s, kD_s, kD2_s, rd_sh, rd_fr, rd_bs, rd_bp, kCs_o, kCp_o, kCp_s, kV_s, kV_o, kV_a, kVp_o, kVp_s, ap_var, ap_c, ap_un, ap_bin, ap_and, ap_or, ap_ifE, kN_s, ap_not, kBl_ap, ap_nx, ap_seq, ap_expr, ap_ret, ap_retN, ap_if, ap_set, stor_sh, stor_fr, ap_args0, ap_args, kA1_ok, kA2_ok, ap_call, kC1_s, kC2_sh, kC2_fr, kC3_s, argC_sh, argC_fr, argC_bs, argC_bp, kAc_o, kAc_s, argCs_nil, argCs_cons, kAcs_s, kAc2_s, kEs_s, ap_tup, ap_lst, escs_nil, escs_cons, kE1_s, kE2_s, esc_sh, esc_fr, esc_bs, kEo_o, kDs_s, ap_bl, rds_nil, rds_cons, kRd1_s, kRd2_s, op1_s, op2_s, ap_asg, kT_s, kT2_s, tNm_ap, tTp_t, tTp_l, tAll_nil, tAll_cons, kTa_s, finS_nx, finS_sh, finS_fr, finS_bs, kF_o, int2_ap, ap_lc, kL1_s, kL2_s, itemsOf_l, itemsOf_t, itemsOf_r, ap_lcR, kLr1_s, own_bs, own_bp, put_bs, put_bp, ap_setIx, kI1_s, kI2_s, kI3_s, kI4_s, ap_mut, isL_l, kM1_t, kM2_s, kM3_s, kM4_s, ap_forR, kFr_s, kFr2_s, ap_for, kFo_s, kFo2_s, ap_par, kP1_s, kP2_s, fixL_nil, fixL_sh, fixL_fr, kX_s, putL_nil, putL_sh, putL_fr, part_n, part_s, kPi_s, ap_sl, partI_i, partI_n, ap_dic0, ap_dic1, kDi_s, kDi2_s, kDi3_s, keyOf_i, mCallR_eq, ap_callK, kCk_s, perm1, nodup1, ap_exc, kX1_s, List.getElem?_cons_zero, List.getElem?_cons_succ, List.set_cons_zero, List.set_cons_succ, ini, prs, dist, putB, List.all_cons, List.all_nil, Bool.and_true, Bool.true_and, if_true, if_pos, eq_int, hw, ix, e1, lt_intA, h6, s3, tup_l, ap]
    | false =>
      refine ⟨.sh (.tup us), _, ?_, s1⟩
      simp only [bind_ok, bind_ex, bind_no, thn_ok, thn_ex, thn_no, lbind_ok, lthn_ok, seq_nx, seq_rt, seq_bk, seq_ct, seq_ex, seq_no, kB_t, kB_f, kS_t, kS_f, asB_bl, kR_s, kD_s, kD2_s, rd_sh, rd_fr, rd_bs, rd_bp, kCs_o, kCp_o, kCp_s, kV_s, kV_o, kV_a, kVp_o, kVp_s, ap_var, ap_c, ap_un, ap_bin, ap_and, ap_or, ap_ifE, kN_s, ap_not, kBl_ap, ap_nx, ap_seq, ap_expr, ap_ret, ap_retN, ap_if, ap_set, stor_sh, stor_fr, ap_args0, ap_args, kA1_ok, kA2_ok, ap_call, kC1_s, kC2_sh, kC2_fr, kC3_s, argC_sh, argC_fr, argC_bs, argC_bp, kAc_o, kAc_s, argCs_nil, argCs_cons, kAcs_s, kAc2_s, kEs_s, ap_tup, ap_lst, escs_nil, escs_cons, kE1_s, kE2_s, esc_sh, esc_fr, esc_bs, kEo_o, kDs_s, ap_bl, rds_nil, rds_cons, kRd1_s, kRd2_s, op1_s, op2_s, ap_asg, kT_s, kT2_s, tNm_ap, tTp_t, tTp_l, tAll_nil, tAll_cons, kTa_s, finS_nx, finS_sh, finS_fr, finS_bs, kF_o, int2_ap, ap_lc, kL1_s, kL2_s, itemsOf_l, itemsOf_t, itemsOf_r, ap_lcR, kLr1_s, own_bs, own_bp, put_bs, put_bp, ap_setIx, kI1_s, kI2_s, kI3_s, kI4_s, ap_mut, isL_l, kM1_t, kM2_s, kM3_s, kM4_s, ap_forR, kFr_s, kFr2_s, ap_for, kFo_s, kFo2_s, ap_par, kP1_s, kP2_s, fixL_nil, fixL_sh, fixL_fr, kX_s, putL_nil, putL_sh, putL_fr, part_n, part_s, kPi_s, ap_sl, partI_i, partI_n, ap_dic0, ap_dic1, kDi_s, kDi2_s, kDi3_s, keyOf_i, mCallR_eq, ap_callK, kCk_s, perm1, nodup1, ap_exc, kX1_s, List.getElem?_cons_zero, List.getElem?_cons_succ, List.set_cons_zero, List.set_cons_succ, ini, prs, dist, putB, List.all_cons, List.all_nil, Bool.and_true, Bool.true_and, if_true, if_pos, eq_int, hw, ix, e1, lt_intA, h6, ap]
theorem up_at {n i : Nat} {d : D} (h : (upFrom 0 n)[i]? = some d) : i < n ∧ d = .int i := by
  rw [upFrom_map] at h
  have hi := (List.getElem?_eq_some_iff.mp h).1
  rw [List.length_map, List.length_range] at hi
  refine ⟨hi, ?_⟩
  rw [List.getElem?_map, List.getElem?_range hi] at h
  simp only [Option.map_some, Option.some.injEq] at h
  rw [← h, Int.zero_add]
theorem up_len (n : Nat) : (upFrom 0 n).length = n := by rw [upFrom_map, List.length_map, List.length_range]
def Nw (c : Cell) : Prop := ∀ d, c ≠ .ow d
theorem nw_sh (d : D) : Nw (.sh d) := fun x h => by cases h
theorem in_loop {net : D} {many : Int} {ts : List D} {i : Nat} {a b r p step first : Int} {bs : List D} {d : D} {m : Nat} {w q : Int} {x14 x15 x16 x17 : Cell} (E : TieEnv net many ts i a b r p) (hb : GL m bs) (hm : m < 99900) (hq : q.natAbs < 10 ^ 59) (n14 : Nw x14) :
    ∃ y14 y15 cs, inL (ST net many ts step first i a b r p bs d (.sh (.int w)) (.ow (.lst (badN q))) x14 x15 x16 x17) = .nx (ST net many ts step first i a b r p cs d (.sh (.int w)) (.ow (.lst (badN q))) y14 y15 x16 x17) ∧ GL (m + 18) cs ∧ Nw y14 := by
  obtain ⟨s', e, y14, y15, cs, rfl, hg, hn⟩ := for_inv (tm := tNm 14) (body := inB) (ds := upFrom 0 18) (I := fun k s => ∃ y14 y15 cs, s = ST net many ts step first i a b r p cs d (.sh (.int w)) (.ow (.lst (badN q))) y14 y15 x16 x17 ∧ GL (m + k) cs ∧ Nw y14) 0 ⟨x14, x15, bs, rfl, hb, n14⟩ (by
    intro k y s hy hs
    obtain ⟨hk, rfl⟩ := up_at hy
    obtain ⟨y14, y15, cs, rfl, hg, _⟩ := hs
    obtain ⟨z15, v, e, hv⟩ := in_turn (step := step) (first := first) (d := d) (w := w) (x15 := y15) (x16 := x16) (x17 := x17) E hg (by omega) hq hk
    exact ⟨_, _, rfl, e, _, z15, cs ++ [v], rfl, by have := hg.push hv; rw [show m + (0 + k + 1) = m + (0 + k) + 1 by omega]; exact this, nw_sh _⟩)
  refine ⟨y14, y15, cs, ?_, by rw [up_len] at hg; exact hg, hn⟩
  rw [← e]
  have l1 : dLen (.lst (badN q)) = some (.sh (.int 18)) := rfl
  have r1 : rng1 [.int 18] = some (0, 18) := rfl
  unfold inL
  simp only [ST, bind_ok, bind_ex, bind_no, thn_ok, thn_ex, thn_no, lbind_ok, lthn_ok, seq_nx, seq_rt, seq_bk, seq_ct, seq_ex, seq_no, kB_t, kB_f, kS_t, kS_f, asB_bl, kR_s, kD_s, kD2_s, rd_sh, rd_fr, rd_bs, rd_bp, kCs_o, kCp_o, kCp_s, kV_s, kV_o, kV_a, kVp_o, kVp_s, ap_var, ap_c, ap_un, ap_bin, ap_and, ap_or, ap_ifE, kN_s, ap_not, kBl_ap, ap_nx, ap_seq, ap_expr, ap_ret, ap_retN, ap_if, ap_set, stor_sh, stor_fr, ap_args0, ap_args, kA1_ok, kA2_ok, ap_call, kC1_s, kC2_sh, kC2_fr, kC3_s, argC_sh, argC_fr, argC_bs, argC_bp, kAc_o, kAc_s, argCs_nil, argCs_cons, kAcs_s, kAc2_s, kEs_s, ap_tup, ap_lst, escs_nil, escs_cons, kE1_s, kE2_s, esc_sh, esc_fr, esc_bs, kEo_o, kDs_s, ap_bl, rds_nil, rds_cons, kRd1_s, kRd2_s, op1_s, op2_s, ap_asg, kT_s, kT2_s, tNm_ap, tTp_t, tTp_l, tAll_nil, tAll_cons, kTa_s, finS_nx, finS_sh, finS_fr, finS_bs, kF_o, int2_ap, ap_lc, kL1_s, kL2_s, itemsOf_l, itemsOf_t, itemsOf_r, ap_lcR, kLr1_s, own_bs, own_bp, put_bs, put_bp, ap_setIx, kI1_s, kI2_s, kI3_s, kI4_s, ap_mut, isL_l, kM1_t, kM2_s, kM3_s, kM4_s, ap_forR, kFr_s, kFr2_s, ap_for, kFo_s, kFo2_s, ap_par, kP1_s, kP2_s, fixL_nil, fixL_sh, fixL_fr, kX_s, putL_nil, putL_sh, putL_fr, part_n, part_s, kPi_s, ap_sl, partI_i, partI_n, ap_dic0, ap_dic1, kDi_s, kDi2_s, kDi3_s, keyOf_i, mCallR_eq, ap_callK, kCk_s, perm1, nodup1, ap_exc, kX1_s, List.getElem?_cons_zero, List.getElem?_cons_succ, List.set_cons_zero, List.set_cons_succ, ini, prs, dist, putB, List.all_cons, List.all_nil, Bool.and_true, Bool.true_and, if_true, if_pos, l1, r1]
theorem out_turn {net : D} {many : Int} {ts : List D} {i : Nat} {a b r p step first : Int} {bs : List D} {d : D} {m : Nat} {w : Int} {x13 x14 x15 x16 x17 : Cell} (E : TieEnv net many ts i a b r p) (hb : GL m bs) (hm : m < 99900) (h0 : 0 ≤ w) (h1 : w < 2) (n14 : Nw x14) :
    ∃ y13 y14 y15 cs, outB (ST net many ts step first i a b r p bs d (.sh (.int w)) x13 x14 x15 x16 x17) = .nx (ST net many ts step first i a b r p cs d (.sh (.int w)) y13 y14 y15 x16 x17) ∧ GL (m + 18) cs ∧ Nw y14 := by
  obtain ⟨na, nb, nr, np⟩ := E.nums
  obtain ⟨q, hq, hlo, hhi⟩ := pickI (ns := [r, p]) (lo := -(10 ^ 59) + 1) (hi := 10 ^ 59 - 1) h0 h1 (by
    intro n hn
    rcases List.mem_cons.mp hn with z | z
    · omega
    · have := List.mem_singleton.mp z; omega)
  simp only [List.map_cons, List.map_nil] at hq
  have e1 := bad_numbers_eq (n := q) (by omega)
  obtain ⟨y14, y15, cs, e, hg, hn⟩ := in_loop (step := step) (first := first) (d := d) (w := w) (x14 := x14) (x15 := x15) (x16 := x16) (x17 := x17) E hb hm (q := q) (by omega) n14
  refine ⟨.ow (.lst (badN q)), y14, y15, cs, ?_, hg, hn⟩
  rw [← e]
  unfold outB
  simp only [ST, bind_ok, bind_ex, bind_no, thn_ok, thn_ex, thn_no, lbind_ok, lthn_ok, seq_nx, seq_rt, seq_bk, seq_ct, seq_ex, seq_no, kB_t, kB_f, kS_t, kS_f, asB_bl, kR_s, kD_s, kD2_s, rd_sh, rd_fr, rd_bs, rd_bp, kCs_o, kCp_o, kCp_s, kV_s, kV_o, kV_a, kVp_o, kVp_s, ap_var, ap_c, ap_un, ap_bin, ap_and, ap_or, ap_ifE, kN_s, ap_not, kBl_ap, ap_nx, ap_seq, ap_expr, ap_ret, ap_retN, ap_if, ap_set, stor_sh, stor_fr, ap_args0, ap_args, kA1_ok, kA2_ok, ap_call, kC1_s, kC2_sh, kC2_fr, kC3_s, argC_sh, argC_fr, argC_bs, argC_bp, kAc_o, kAc_s, argCs_nil, argCs_cons, kAcs_s, kAc2_s, kEs_s, ap_tup, ap_lst, escs_nil, escs_cons, kE1_s, kE2_s, esc_sh, esc_fr, esc_bs, kEo_o, kDs_s, ap_bl, rds_nil, rds_cons, kRd1_s, kRd2_s, op1_s, op2_s, ap_asg, kT_s, kT2_s, tNm_ap, tTp_t, tTp_l, tAll_nil, tAll_cons, kTa_s, finS_nx, finS_sh, finS_fr, finS_bs, kF_o, int2_ap, ap_lc, kL1_s, kL2_s, itemsOf_l, itemsOf_t, itemsOf_r, ap_lcR, kLr1_s, own_bs, own_bp, put_bs, put_bp, ap_setIx, kI1_s, kI2_s, kI3_s, kI4_s, ap_mut, isL_l, kM1_t, kM2_s, kM3_s, kM4_s, ap_forR, kFr_s, kFr2_s, ap_for, kFo_s, kFo2_s, ap_par, kP1_s, kP2_s, fixL_nil, fixL_sh, fixL_fr, kX_s, putL_nil, putL_sh, putL_fr, part_n, part_s, kPi_s, ap_sl, partI_i, partI_n, ap_dic0, ap_dic1, kDi_s, kDi2_s, kDi3_s, keyOf_i, mCallR_eq, ap_callK, kCk_s, perm1, nodup1, ap_exc, kX1_s, List.getElem?_cons_zero, List.getElem?_cons_succ, List.set_cons_zero, List.set_cons_succ, ini, prs, dist, putB, List.all_cons, List.all_nil, Bool.and_true, Bool.true_and, if_true, if_pos, hq, e1]
theorem out_loop {net : D} {many : Int} {ts : List D} {i : Nat} {a b r p step first : Int} {bs : List D} {d : D} {m : Nat} {x12 x13 x14 x15 x16 x17 : Cell} (E : TieEnv net many ts i a b r p) (hb : GL m bs) (hm : m < 99800) (n14 : Nw x14) :
    ∃ y12 y13 y14 y15 cs, outL (ST net many ts step first i a b r p bs d x12 x13 x14 x15 x16 x17) = .nx (ST net many ts step first i a b r p cs d y12 y13 y14 y15 x16 x17) ∧ GL (m + 36) cs ∧ Nw y14 := by
  obtain ⟨s', e, y12, y13, y14, y15, cs, rfl, hg, hn⟩ := for_inv (tm := tNm 12) (body := outB) (ds := upFrom 0 2) (I := fun k s => ∃ y12 y13 y14 y15 cs, s = ST net many ts step first i a b r p cs d y12 y13 y14 y15 x16 x17 ∧ GL (m + 18 * k) cs ∧ Nw y14) 0 ⟨x12, x13, x14, x15, bs, rfl, hb, n14⟩ (by
    intro k y s hy hs
    obtain ⟨hk, rfl⟩ := up_at hy
    obtain ⟨y12, y13, y14, y15, cs, rfl, hg, hn⟩ := hs
    obtain ⟨z13, z14, z15, ds, e, hv, hz⟩ := out_turn (step := step) (first := first) (d := d) (w := (k : Int)) (x13 := y13) (x14 := y14) (x15 := y15) (x16 := x16) (x17 := x17) E hg (by omega) (by omega) (by omega) hn
    exact ⟨_, _, rfl, e, _, z13, z14, z15, ds, rfl, by rw [show m + 18 * (0 + k + 1) = m + 18 * (0 + k) + 18 by omega]; exact hv, hz⟩)
  refine ⟨y12, y13, y14, y15, cs, ?_, by rw [up_len] at hg; exact hg, hn⟩
  rw [← e]
  have r1 : rng1 [.int 2] = some (0, 2) := rfl
  unfold outL
  simp only [ST, bind_ok, bind_ex, bind_no, thn_ok, thn_ex, thn_no, lbind_ok, lthn_ok, seq_nx, seq_rt, seq_bk, seq_ct, seq_ex, seq_no, kB_t, kB_f, kS_t, kS_f, asB_bl, kR_s, kD_s, kD2_s, rd_sh, rd_fr, rd_bs, rd_bp, kCs_o, kCp_o, kCp_s, kV_s, kV_o, kV_a, kVp_o, kVp_s, ap_var, ap_c, ap_un, ap_bin, ap_and, ap_or, ap_ifE, kN_s, ap_not, kBl_ap, ap_nx, ap_seq, ap_expr, ap_ret, ap_retN, ap_if, ap_set, stor_sh, stor_fr, ap_args0, ap_args, kA1_ok, kA2_ok, ap_call, kC1_s, kC2_sh, kC2_fr, kC3_s, argC_sh, argC_fr, argC_bs, argC_bp, kAc_o, kAc_s, argCs_nil, argCs_cons, kAcs_s, kAc2_s, kEs_s, ap_tup, ap_lst, escs_nil, escs_cons, kE1_s, kE2_s, esc_sh, esc_fr, esc_bs, kEo_o, kDs_s, ap_bl, rds_nil, rds_cons, kRd1_s, kRd2_s, op1_s, op2_s, ap_asg, kT_s, kT2_s, tNm_ap, tTp_t, tTp_l, tAll_nil, tAll_cons, kTa_s, finS_nx, finS_sh, finS_fr, finS_bs, kF_o, int2_ap, ap_lc, kL1_s, kL2_s, itemsOf_l, itemsOf_t, itemsOf_r, ap_lcR, kLr1_s, own_bs, own_bp, put_bs, put_bp, ap_setIx, kI1_s, kI2_s, kI3_s, kI4_s, ap_mut, isL_l, kM1_t, kM2_s, kM3_s, kM4_s, ap_forR, kFr_s, kFr2_s, ap_for, kFo_s, kFo2_s, ap_par, kP1_s, kP2_s, fixL_nil, fixL_sh, fixL_fr, kX_s, putL_nil, putL_sh, putL_fr, part_n, part_s, kPi_s, ap_sl, partI_i, partI_n, ap_dic0, ap_dic1, kDi_s, kDi2_s, kDi3_s, keyOf_i, mCallR_eq, ap_callK, kCk_s, perm1, nodup1, ap_exc, kX1_s, List.getElem?_cons_zero, List.getElem?_cons_succ, List.set_cons_zero, List.set_cons_succ, ini, prs, dist, putB, List.all_cons, List.all_nil, Bool.and_true, Bool.true_and, if_true, if_pos, r1]
end K01

set_option Elab.async false
set_option linter.all false
set_option maxRecDepth 100000
set_option maxHeartbeats 1000000
namespace K01
open PySem PySem.Spec PyProof.Rows L2 Mx
def IB (x : D) : Prop := (∃ i : Int, x = .int i ∧ i.natAbs < 10 ^ 59) ∨ ∃ b, x = .bl b
theorem IB.pu {x : D} (h : IB x) : PU x ∧ wt x ≤ 100 ∧ dep x ≤ 5 := by
  rcases h with ⟨i, rfl, h⟩ | ⟨b, rfl⟩
  · exact ⟨bd_int h, wt_i i, dep_i i⟩
  · exact ⟨⟨trivial, (by decide : 5 ≤ 3000), (by decide : 0 ≤ 10), rfl, rfl⟩, (by decide : 5 ≤ 100), (by decide : 0 ≤ 5)⟩
theorem IB.row {x y : D} (h : IB x) (g : IB y) (r p : Int) : (rowD (.tup [x, y, .int r, .int p])).isSome = true := by
  rcases h with ⟨i, rfl, h⟩ | ⟨b, rfl⟩ <;> rcases g with ⟨j, rfl, g⟩ | ⟨c, rfl⟩ <;> rfl
theorem badE_ok {a b m : Int} (ha : a.natAbs < 10 ^ 50) (hb : b.natAbs < 10 ^ 50) (hm : m.natAbs < 10 ^ 50) : ∀ e ∈ badE a b m, ∃ x y, e = .tup [x, y] ∧ IB x ∧ IB y := by
  have i0 : ∀ i : Int, i.natAbs < 10 ^ 59 → IB (.int i) := fun i h => .inl ⟨i, rfl, h⟩
  have b0 : ∀ b, IB (.bl b) := fun b => .inr ⟨b, rfl⟩
  simp only [badE, List.forall_mem_cons]
  refine ⟨⟨_, _, rfl, i0 _ ?_, i0 _ ?_⟩, ⟨_, _, rfl, i0 _ ?_, i0 _ ?_⟩, ⟨_, _, rfl, i0 _ ?_, i0 _ ?_⟩, ⟨_, _, rfl, i0 _ ?_, i0 _ ?_⟩, ⟨_, _, rfl, i0 _ ?_, i0 _ ?_⟩, ⟨_, _, rfl, i0 _ ?_, i0 _ ?_⟩, ⟨_, _, rfl, i0 _ ?_, i0 _ ?_⟩, ⟨_, _, rfl, i0 _ ?_, i0 _ ?_⟩, ⟨_, _, rfl, i0 _ ?_, i0 _ ?_⟩, ⟨_, _, rfl, i0 _ ?_, i0 _ ?_⟩,
    ⟨_, _, rfl, b0 _, i0 _ ?_⟩, ⟨_, _, rfl, i0 _ ?_, b0 _⟩, ⟨_, _, rfl, b0 _, i0 _ ?_⟩, ⟨_, _, rfl, i0 _ ?_, b0 _⟩, ⟨_, _, rfl, i0 _ ?_, i0 _ ?_⟩, ⟨_, _, rfl, i0 _ ?_, i0 _ ?_⟩, fun x hx => nomatch hx⟩ <;> omega
theorem TieEnv.small {net : D} {many : Int} {ts : List D} {i : Nat} {a b r p : Int} (E : TieEnv net many ts i a b r p) : a.natAbs < 10 ^ 50 ∧ b.natAbs < 10 ^ 50 ∧ many.natAbs < 10 ^ 50 := by
  obtain ⟨a', b', r', p', e, h1, h2, h3, h4, h5, h6, h7, h8⟩ := E.tv
  cases e
  have := E.m2
  refine ⟨?_, ?_, ?_⟩ <;> omega
theorem end_turn {net : D} {many : Int} {ts : List D} {i : Nat} {a b r p step first : Int} {bs : List D} {d : D} {m : Nat} {x y : D} {x12 x13 x14 x15 : Cell} (E : TieEnv net many ts i a b r p) (hb : GL m bs) (hm : m < 100000) (hx : IB x) (hy : IB y) :
    ∃ v, endB (ST net many ts step first i a b r p bs d x12 x13 x14 x15 (.sh x) (.sh y)) = .nx (ST net many ts step first i a b r p (bs ++ [v]) d x12 x13 x14 x15 (.sh x) (.sh y)) ∧ Sho v := by
  obtain ⟨na, nb, nr, np⟩ := E.nums
  have ap : ∀ v, dAppend bs [v] = some (.non, bs ++ [v]) := fun v => app_ok (by have := hb.2; omega)
  have hr := bd_int nr
  have q1 := bd4 hx.pu.1 hy.pu.1 (c := .int r) ⟨hr.1, by have := wt_i r; omega, dep_i r, .inl rfl⟩ (bd_int np) hx.pu.2.1 hy.pu.2.1 (wt_i p) hx.pu.2.2 hy.pu.2.2 (dep_i p)
  obtain ⟨us, e1, l1, h1⟩ := put_eq (x := .tup [x, y, .int r, .int p]) E.hi E.hl
  obtain ⟨s1, s2⟩ := put_sho E q1.1 l1 h1
  obtain ⟨s3, s4⟩ := s2 (hx.row hy r p)
  refine ⟨_, ?_, s4⟩
  unfold endB ST
  simp only [bind_ok, bind_ex, bind_no, thn_ok, thn_ex, thn_no, lbind_ok, lthn_ok, seq_nx, seq_rt, seq_bk, seq_ct, seq_ex, seq_no, kB_t, kB_f, kS_t, kS_f, asB_bl, kR_s, kD_s, kD2_s, rd_sh, rd_fr, rd_bs, rd_bp, kCs_o, kCp_o, kCp_s, kV_s, kV_o, kV_a, kVp_o, kVp_s, ap_var, ap_c, ap_un, ap_bin, ap_and, ap_or, ap_ifE, kN_s, ap_not, kBl_ap, ap_nx, ap_seq, ap_expr, ap_ret, ap_retN, ap_if, ap_set, stor_sh, stor_fr, ap_args0, ap_args, kA1_ok, kA2_ok, ap_call, kC1_s, kC2_sh, kC2_fr, kC3_s, argC_sh, argC_fr, argC_bs, argC_bp, kAc_o, kAc_s, argCs_nil, argCs_cons, kAcs_s, kAc2_s, kEs_s, ap_tup, ap_lst, escs_nil, escs_cons, kE1_s, kE2_s, esc_sh, esc_fr, esc_bs, kEo_o, kDs_s, ap_bl, rds_nil, rds_cons, kRd1_s, kRd2_s, op1_s, op2_s, ap_asg, kT_s, kT2_s, tNm_ap, tTp_t, tTp_l, tAll_nil, tAll_cons, kTa_s, finS_nx, finS_sh, finS_fr, finS_bs, kF_o, int2_ap, ap_lc, kL1_s, kL2_s, itemsOf_l, itemsOf_t, itemsOf_r, ap_lcR, kLr1_s, own_bs, own_bp, put_bs, put_bp, ap_setIx, kI1_s, kI2_s, kI3_s, kI4_s, ap_mut, isL_l, kM1_t, kM2_s, kM3_s, kM4_s, ap_forR, kFr_s, kFr2_s, ap_for, kFo_s, kFo2_s, ap_par, kP1_s, kP2_s, fixL_nil, fixL_sh, fixL_fr, kX_s, putL_nil, putL_sh, putL_fr, part_n, part_s, kPi_s, ap_sl, partI_i, partI_n, ap_dic0, ap_dic1, kDi_s, kDi2_s, kDi3_s, keyOf_i, mCallR_eq, ap_callK, kCk_s, perm1, nodup1, ap_exc, kX1_s, List.getElem?_cons_zero, List.getElem?_cons_succ, List.set_cons_zero, List.set_cons_succ, ini, prs, dist, putB, List.all_cons, List.all_nil, Bool.and_true, Bool.true_and, if_true, if_pos, e1, s3, tup_l, ap]
theorem end_loop {net : D} {many : Int} {ts : List D} {i : Nat} {a b r p step first : Int} {bs : List D} {d : D} {m : Nat} {x12 x13 x14 x15 x16 x17 : Cell} (E : TieEnv net many ts i a b r p) (hb : GL m bs) (hm : m < 99900) :
    ∃ y16 y17 cs, endL (ST net many ts step first i a b r p bs d x12 x13 x14 x15 x16 x17) = .nx (ST net many ts step first i a b r p cs d x12 x13 x14 x15 y16 y17) ∧ GL (m + 16) cs := by
  obtain ⟨sa, sb, sm⟩ := E.small
  have ok := badE_ok sa sb sm
  obtain ⟨s', e, y16, y17, cs, rfl, hg⟩ := for_inv (tm := tTp [tNm 16, tNm 17]) (body := endB) (ds := badE a b many) (I := fun k s => ∃ y16 y17 cs, s = ST net many ts step first i a b r p cs d x12 x13 x14 x15 y16 y17 ∧ GL (m + k) cs) 0 ⟨x16, x17, bs, rfl, hb⟩ (by
    intro k y s hy hs
    have hk : k < 16 := (List.getElem?_eq_some_iff.mp hy).1
    obtain ⟨u, w, rfl, hu, hw⟩ := ok y (List.mem_of_getElem? hy)
    obtain ⟨y16, y17, cs, rfl, hg⟩ := hs
    obtain ⟨v, e, hv⟩ := end_turn (step := step) (first := first) (d := d) (x12 := x12) (x13 := x13) (x14 := x14) (x15 := x15) E hg (by omega) hu hw
    exact ⟨ST net many ts step first i a b r p cs d x12 x13 x14 x15 (.sh u) (.sh w), _, rfl, e, _, _, cs ++ [v], rfl, by have := hg.push hv; rw [show m + (0 + k + 1) = m + (0 + k) + 1 by omega]; exact this⟩)
  refine ⟨y16, y17, cs, ?_, hg⟩
  rw [← e]
  have e1 := bad_ends_eq a b many
  unfold endL
  simp only [ST, bind_ok, bind_ex, bind_no, thn_ok, thn_ex, thn_no, lbind_ok, lthn_ok, seq_nx, seq_rt, seq_bk, seq_ct, seq_ex, seq_no, kB_t, kB_f, kS_t, kS_f, asB_bl, kR_s, kD_s, kD2_s, rd_sh, rd_fr, rd_bs, rd_bp, kCs_o, kCp_o, kCp_s, kV_s, kV_o, kV_a, kVp_o, kVp_s, ap_var, ap_c, ap_un, ap_bin, ap_and, ap_or, ap_ifE, kN_s, ap_not, kBl_ap, ap_nx, ap_seq, ap_expr, ap_ret, ap_retN, ap_if, ap_set, stor_sh, stor_fr, ap_args0, ap_args, kA1_ok, kA2_ok, ap_call, kC1_s, kC2_sh, kC2_fr, kC3_s, argC_sh, argC_fr, argC_bs, argC_bp, kAc_o, kAc_s, argCs_nil, argCs_cons, kAcs_s, kAc2_s, kEs_s, ap_tup, ap_lst, escs_nil, escs_cons, kE1_s, kE2_s, esc_sh, esc_fr, esc_bs, kEo_o, kDs_s, ap_bl, rds_nil, rds_cons, kRd1_s, kRd2_s, op1_s, op2_s, ap_asg, kT_s, kT2_s, tNm_ap, tTp_t, tTp_l, tAll_nil, tAll_cons, kTa_s, finS_nx, finS_sh, finS_fr, finS_bs, kF_o, int2_ap, ap_lc, kL1_s, kL2_s, itemsOf_l, itemsOf_t, itemsOf_r, ap_lcR, kLr1_s, own_bs, own_bp, put_bs, put_bp, ap_setIx, kI1_s, kI2_s, kI3_s, kI4_s, ap_mut, isL_l, kM1_t, kM2_s, kM3_s, kM4_s, ap_forR, kFr_s, kFr2_s, ap_for, kFo_s, kFo2_s, ap_par, kP1_s, kP2_s, fixL_nil, fixL_sh, fixL_fr, kX_s, putL_nil, putL_sh, putL_fr, part_n, part_s, kPi_s, ap_sl, partI_i, partI_n, ap_dic0, ap_dic1, kDi_s, kDi2_s, kDi3_s, keyOf_i, mCallR_eq, ap_callK, kCk_s, perm1, nodup1, ap_exc, kX1_s, List.getElem?_cons_zero, List.getElem?_cons_succ, List.set_cons_zero, List.set_cons_succ, ini, prs, dist, putB, List.all_cons, List.all_nil, Bool.and_true, Bool.true_and, if_true, if_pos, e1]
theorem GL.app {m n : Nat} {bs cs : List D} (h : GL m bs) (g : GL n cs) : GL (m + n) (bs ++ cs) := ⟨fun u hu => (List.mem_append.mp hu).elim (h.1 u) (g.1 u), by rw [List.length_append]; have := h.2; have := g.2; omega⟩
noncomputable def putG (many : Int) (ts : List D) (i : Nat) (x : D) : D := if h : i < ts.length ∧ ts.length ≤ 120 then .tup [.int many, .tup (Classical.choose (put_eq (x := x) h.1 h.2))] else .non
theorem putG_ok {many : Int} {ts : List D} {i : Nat} {x : D} (h1 : i < ts.length) (h2 : ts.length ≤ 120) : ∃ us, f_law_put [.sh (.tup ts), .sh (.int i), .sh x] = .ret (.sh (.tup us)) [.un, .un, .un] ∧ us.length ≤ 241 ∧ (∀ u ∈ us, u ∈ ts ∨ u = x) ∧ putG many ts i x = .tup [.int many, .tup us] := by
  have z := Classical.choose_spec (put_eq (x := x) h1 h2)
  exact ⟨_, z.1, z.2.1, z.2.2, dif_pos ⟨h1, h2⟩⟩
theorem setM_ok {net : D} {many : Int} {ts : List D} {i : Nat} {a b r p step first : Int} {bs : List D} {d : D} {m : Nat} {x12 x13 x14 x15 x16 x17 : Cell} (E : TieEnv net many ts i a b r p) (hb : GL m bs) (hm : m < 99900) :
    ∃ cs, setM (ST net many ts step first i a b r p bs d x12 x13 x14 x15 x16 x17) = .nx (ST net many ts step first i a b r p cs d x12 x13 x14 x15 x16 x17) ∧ GL (m + 22) cs := by
  obtain ⟨na, nb, nr, np⟩ := E.nums
  have i1 := ix_t E.at'
  have e1 := bad_ties_eq (a := a) (b := b) (r := r) (p := p) (by omega)
  have lc := lc_pure (v := 18) (tt := mYes) (elt := mTup [mVar 2, mCall f_law_put [mVar 3, mVar 7, mVar 18]]) (p := fun _ => true) (gg := putG many ts i) (s := ST net many ts step first i a b r p bs d x12 x13 x14 x15 x16 x17) (cl := .un) rfl (fun d z => by cases z) (badT a b r p) (fun x hx => by
    obtain ⟨us, e2, _, _, e3⟩ := putG_ok (many := many) (x := x) E.hi E.hl
    refine ⟨rfl, fun _ => ⟨.sh (putG many ts i x), ?_, rfl⟩⟩
    rw [e3]
    simp only [ST, bind_ok, bind_ex, bind_no, thn_ok, thn_ex, thn_no, lbind_ok, lthn_ok, seq_nx, seq_rt, seq_bk, seq_ct, seq_ex, seq_no, kB_t, kB_f, kS_t, kS_f, asB_bl, kR_s, kD_s, kD2_s, rd_sh, rd_fr, rd_bs, rd_bp, kCs_o, kCp_o, kCp_s, kV_s, kV_o, kV_a, kVp_o, kVp_s, ap_var, ap_c, ap_un, ap_bin, ap_and, ap_or, ap_ifE, kN_s, ap_not, kBl_ap, ap_nx, ap_seq, ap_expr, ap_ret, ap_retN, ap_if, ap_set, stor_sh, stor_fr, ap_args0, ap_args, kA1_ok, kA2_ok, ap_call, kC1_s, kC2_sh, kC2_fr, kC3_s, argC_sh, argC_fr, argC_bs, argC_bp, kAc_o, kAc_s, argCs_nil, argCs_cons, kAcs_s, kAc2_s, kEs_s, ap_tup, ap_lst, escs_nil, escs_cons, kE1_s, kE2_s, esc_sh, esc_fr, esc_bs, kEo_o, kDs_s, ap_bl, rds_nil, rds_cons, kRd1_s, kRd2_s, op1_s, op2_s, ap_asg, kT_s, kT2_s, tNm_ap, tTp_t, tTp_l, tAll_nil, tAll_cons, kTa_s, finS_nx, finS_sh, finS_fr, finS_bs, kF_o, int2_ap, ap_lc, kL1_s, kL2_s, itemsOf_l, itemsOf_t, itemsOf_r, ap_lcR, kLr1_s, own_bs, own_bp, put_bs, put_bp, ap_setIx, kI1_s, kI2_s, kI3_s, kI4_s, ap_mut, isL_l, kM1_t, kM2_s, kM3_s, kM4_s, ap_forR, kFr_s, kFr2_s, ap_for, kFo_s, kFo2_s, ap_par, kP1_s, kP2_s, fixL_nil, fixL_sh, fixL_fr, kX_s, putL_nil, putL_sh, putL_fr, part_n, part_s, kPi_s, ap_sl, partI_i, partI_n, ap_dic0, ap_dic1, kDi_s, kDi2_s, kDi3_s, keyOf_i, mCallR_eq, ap_callK, kCk_s, perm1, nodup1, ap_exc, kX1_s, List.getElem?_cons_zero, List.getElem?_cons_succ, List.set_cons_zero, List.set_cons_succ, ini, prs, dist, putB, List.all_cons, List.all_nil, Bool.and_true, Bool.true_and, if_true, if_pos, e2])
  rw [List.filter_eq_self.mpr fun _ _ => rfl] at lc
  have g1 : GL 21 ((badT a b r p).map (putG many ts i)) := by
    refine ⟨fun u hu => ?_, by rw [List.length_map]; exact Nat.le_refl 21⟩
    obtain ⟨x, hx, rfl⟩ := List.mem_map.mp hu
    obtain ⟨us, _, l1, h1, e3⟩ := putG_ok (many := many) (x := x) E.hi E.hl
    rw [e3]
    exact (put_sho E (badT_bd na nb nr np x hx) l1 h1).1
  have g2 : GL 1 [D.tup [.int many, .tup ts.reverse]] := ⟨fun u hu => by
    rw [List.mem_singleton.mp hu]
    exact sho_put (x := .non) E.m1 E.m2 (by rw [List.length_reverse]; have := E.hl; omega) (fun u hu => .inl ((E.ht u (List.mem_reverse.mp hu)).pu E.m2)) ⟨trivial, by decide, by decide, .inl rfl⟩, Nat.le_refl 1⟩
  have g3 := (hb.app g1).app g2
  have a1 : dAdd (.lst bs) (.lst ((badT a b r p).map (putG many ts i))) = some (.fr (.lst (bs ++ (badT a b r p).map (putG many ts i)))) := add_lst (by have := hb.2; have := g1.2; omega)
  have a2 : dAdd (.lst (bs ++ (badT a b r p).map (putG many ts i))) (.lst [D.tup [.int many, .tup ts.reverse]]) = some (.fr (.lst (bs ++ (badT a b r p).map (putG many ts i) ++ [D.tup [.int many, .tup ts.reverse]]))) := add_lst (by have := (hb.app g1).2; simp only [List.length_cons, List.length_nil]; omega)
  have rv : dRev (.tup ts) = some (.sh (.tup ts.reverse)) := rfl
  refine ⟨_, ?_, g3⟩
  unfold ST at lc
  unfold setM
  simp only [ST, bind_ok, bind_ex, bind_no, thn_ok, thn_ex, thn_no, lbind_ok, lthn_ok, seq_nx, seq_rt, seq_bk, seq_ct, seq_ex, seq_no, kB_t, kB_f, kS_t, kS_f, asB_bl, kR_s, kD_s, kD2_s, rd_sh, rd_fr, rd_bs, rd_bp, kCs_o, kCp_o, kCp_s, kV_s, kV_o, kV_a, kVp_o, kVp_s, ap_var, ap_c, ap_un, ap_bin, ap_and, ap_or, ap_ifE, kN_s, ap_not, kBl_ap, ap_nx, ap_seq, ap_expr, ap_ret, ap_retN, ap_if, ap_set, stor_sh, stor_fr, ap_args0, ap_args, kA1_ok, kA2_ok, ap_call, kC1_s, kC2_sh, kC2_fr, kC3_s, argC_sh, argC_fr, argC_bs, argC_bp, kAc_o, kAc_s, argCs_nil, argCs_cons, kAcs_s, kAc2_s, kEs_s, ap_tup, ap_lst, escs_nil, escs_cons, kE1_s, kE2_s, esc_sh, esc_fr, esc_bs, kEo_o, kDs_s, ap_bl, rds_nil, rds_cons, kRd1_s, kRd2_s, op1_s, op2_s, ap_asg, kT_s, kT2_s, tNm_ap, tTp_t, tTp_l, tAll_nil, tAll_cons, kTa_s, finS_nx, finS_sh, finS_fr, finS_bs, kF_o, int2_ap, ap_lc, kL1_s, kL2_s, itemsOf_l, itemsOf_t, itemsOf_r, ap_lcR, kLr1_s, own_bs, own_bp, put_bs, put_bp, ap_setIx, kI1_s, kI2_s, kI3_s, kI4_s, ap_mut, isL_l, kM1_t, kM2_s, kM3_s, kM4_s, ap_forR, kFr_s, kFr2_s, ap_for, kFo_s, kFo2_s, ap_par, kP1_s, kP2_s, fixL_nil, fixL_sh, fixL_fr, kX_s, putL_nil, putL_sh, putL_fr, part_n, part_s, kPi_s, ap_sl, partI_i, partI_n, ap_dic0, ap_dic1, kDi_s, kDi2_s, kDi3_s, keyOf_i, mCallR_eq, ap_callK, kCk_s, perm1, nodup1, ap_exc, kX1_s, List.getElem?_cons_zero, List.getElem?_cons_succ, List.set_cons_zero, List.set_cons_succ, ini, prs, dist, putB, List.all_cons, List.all_nil, Bool.and_true, Bool.true_and, if_true, if_pos, i1, e1, lc, a1, a2, rv]
def partA : Ms := mIf (mBin dNe (mVar 3) (mTup [])) (mSeq (mSet 7 (mCall f_law_take [mVar 0, mBl (op1 dLen) [mVar 3]])) (mSeq (mAsg (mBin dIx (mVar 3) (mVar 7)) (tTp [tNm 8, tNm 9, tNm 10, tNm 11])) (mSeq outL (mSeq endL setM)))) (mNx)
/-- the state between the parts -/
def SU (net : D) (many : Int) (ts : List D) (step first : Int) (bs : List D) (d : D) (x7 x8 x9 x10 x11 x12 x13 x14 x15 x16 x17 : Cell) : S := ⟨[.al 0, .sh net, .sh (.int many), .sh (.tup ts), .sh (.int step), .ow (.lst bs), .sh (.int first), x7, x8, x9, x10, x11, x12, x13, x14, x15, x16, x17, .un, .un], [.ow d, .un]⟩
def SI (net : D) (many : Int) (ts : List D) (step first : Int) (n : Int) (m : Nat) (s : S) : Prop := ∃ bs d x7 x8 x9 x10 x11 x12 x13 x14 x15 x16 x17, s = SU net many ts step first bs d x7 x8 x9 x10 x11 x12 x13 x14 x15 x16 x17 ∧ GL m bs ∧ Box n d ∧ Nw x14
theorem ne_nilT (xs : List D) : dNe (.tup xs) (.tup []) = some (.sh (.bl (!xs.isEmpty))) := by
  cases xs <;> rfl
theorem partA_ok {net : D} {many : Int} {ts : List D} {step first n : Int} {m : Nat} {bs : List D} {d : D} (m1 : 1 ≤ many) (m2 : many ≤ 20) (hl : ts.length ≤ 120) (ht : ∀ t ∈ ts, TieV many t) (hb : GL m bs) (hx : Box n d) (hn : n ≤ 9000000) (hm : m < 90000) :
    ∃ s', partA (SU net many ts step first bs d .un .un .un .un .un .un .un .un .un .un .un) = .nx s' ∧ SI net many ts step first (n + 1) (m + 74) s' := by
  cases he : ts.isEmpty with
  | true =>
    have ne := ne_nilT ts
    rw [he] at ne
    refine ⟨_, ?_, bs, d, .un, .un, .un, .un, .un, .un, .un, .un, .un, .un, .un, rfl, ⟨hb.1, by have := hb.2; omega⟩, hx.mono (by omega), fun d h => by cases h⟩
    unfold partA
    simp only [SU, bind_ok, bind_ex, bind_no, thn_ok, thn_ex, thn_no, lbind_ok, lthn_ok, seq_nx, seq_rt, seq_bk, seq_ct, seq_ex, seq_no, kB_t, kB_f, kS_t, kS_f, asB_bl, kR_s, kD_s, kD2_s, rd_sh, rd_fr, rd_bs, rd_bp, kCs_o, kCp_o, kCp_s, kV_s, kV_o, kV_a, kVp_o, kVp_s, ap_var, ap_c, ap_un, ap_bin, ap_and, ap_or, ap_ifE, kN_s, ap_not, kBl_ap, ap_nx, ap_seq, ap_expr, ap_ret, ap_retN, ap_if, ap_set, stor_sh, stor_fr, ap_args0, ap_args, kA1_ok, kA2_ok, ap_call, kC1_s, kC2_sh, kC2_fr, kC3_s, argC_sh, argC_fr, argC_bs, argC_bp, kAc_o, kAc_s, argCs_nil, argCs_cons, kAcs_s, kAc2_s, kEs_s, ap_tup, ap_lst, escs_nil, escs_cons, kE1_s, kE2_s, esc_sh, esc_fr, esc_bs, kEo_o, kDs_s, ap_bl, rds_nil, rds_cons, kRd1_s, kRd2_s, op1_s, op2_s, ap_asg, kT_s, kT2_s, tNm_ap, tTp_t, tTp_l, tAll_nil, tAll_cons, kTa_s, finS_nx, finS_sh, finS_fr, finS_bs, kF_o, int2_ap, ap_lc, kL1_s, kL2_s, itemsOf_l, itemsOf_t, itemsOf_r, ap_lcR, kLr1_s, own_bs, own_bp, put_bs, put_bp, ap_setIx, kI1_s, kI2_s, kI3_s, kI4_s, ap_mut, isL_l, kM1_t, kM2_s, kM3_s, kM4_s, ap_forR, kFr_s, kFr2_s, ap_for, kFo_s, kFo2_s, ap_par, kP1_s, kP2_s, fixL_nil, fixL_sh, fixL_fr, kX_s, putL_nil, putL_sh, putL_fr, part_n, part_s, kPi_s, ap_sl, partI_i, partI_n, ap_dic0, ap_dic1, kDi_s, kDi2_s, kDi3_s, keyOf_i, mCallR_eq, ap_callK, kCk_s, perm1, nodup1, ap_exc, kX1_s, List.getElem?_cons_zero, List.getElem?_cons_succ, List.set_cons_zero, List.set_cons_succ, ini, prs, dist, putB, List.all_cons, List.all_nil, Bool.and_true, Bool.true_and, if_true, if_pos, ne, Bool.not_true]
  | false =>
    have ne := ne_nilT ts
    rw [he] at ne
    have hp : 0 < ts.length := by
      cases ts with
      | nil => cases he
      | cons t ts => exact Nat.succ_pos _
    obtain ⟨i, d1, e1, b1, i0, i1⟩ := take_ok (many := (ts.length : Int)) hx (by omega) (by omega) (by omega)
    obtain ⟨j, rfl⟩ : ∃ j : Nat, i = (j : Int) := ⟨i.toNat, by omega⟩
    have hj : j < ts.length := by omega
    have hget := List.getElem?_eq_getElem hj
    have tv := ht _ (List.getElem_mem hj)
    have ix := ix_t hget
    obtain ⟨a, b, r, p, ea, h1, h2, h3, h4, h5, h6, h7, h8⟩ := tv
    rw [ea] at hget ix
    have E : TieEnv net many ts j a b r p := ⟨m1, m2, hl, ht, hj, hget, ⟨a, b, r, p, rfl, h1, h2, h3, h4, h5, h6, h7, h8⟩⟩
    obtain ⟨y12, y13, y14, y15, cs, e2, g2, n2⟩ := out_loop (step := step) (first := first) (d := d1) (x12 := .un) (x13 := .un) (x14 := .un) (x15 := .un) (x16 := .un) (x17 := .un) E hb (by omega) (fun d h => by cases h)
    obtain ⟨y16, y17, ds, e3, g3⟩ := end_loop (step := step) (first := first) (d := d1) (x12 := y12) (x13 := y13) (x14 := y14) (x15 := y15) (x16 := .un) (x17 := .un) E g2 (by omega)
    obtain ⟨es, e4, g4⟩ := setM_ok (step := step) (first := first) (d := d1) (x12 := y12) (x13 := y13) (x14 := y14) (x15 := y15) (x16 := y16) (x17 := y17) E g3 (by omega)
    have ln : dLen (.tup ts) = some (.sh (.int ts.length)) := rfl
    refine ⟨_, ?_, es, d1, .sh (.int j), .sh (.int a), .sh (.int b), .sh (.int r), .sh (.int p), y12, y13, y14, y15, y16, y17, rfl, g4, b1, n2⟩
    rw [show SU net many ts step first es d1 (.sh (.int j)) (.sh (.int a)) (.sh (.int b)) (.sh (.int r)) (.sh (.int p)) y12 y13 y14 y15 y16 y17 = ST net many ts step first j a b r p es d1 y12 y13 y14 y15 y16 y17 from rfl]
    unfold ST at e2 e3 e4
    unfold partA
    simp only [ST, SU, bind_ok, bind_ex, bind_no, thn_ok, thn_ex, thn_no, lbind_ok, lthn_ok, seq_nx, seq_rt, seq_bk, seq_ct, seq_ex, seq_no, kB_t, kB_f, kS_t, kS_f, asB_bl, kR_s, kD_s, kD2_s, rd_sh, rd_fr, rd_bs, rd_bp, kCs_o, kCp_o, kCp_s, kV_s, kV_o, kV_a, kVp_o, kVp_s, ap_var, ap_c, ap_un, ap_bin, ap_and, ap_or, ap_ifE, kN_s, ap_not, kBl_ap, ap_nx, ap_seq, ap_expr, ap_ret, ap_retN, ap_if, ap_set, stor_sh, stor_fr, ap_args0, ap_args, kA1_ok, kA2_ok, ap_call, kC1_s, kC2_sh, kC2_fr, kC3_s, argC_sh, argC_fr, argC_bs, argC_bp, kAc_o, kAc_s, argCs_nil, argCs_cons, kAcs_s, kAc2_s, kEs_s, ap_tup, ap_lst, escs_nil, escs_cons, kE1_s, kE2_s, esc_sh, esc_fr, esc_bs, kEo_o, kDs_s, ap_bl, rds_nil, rds_cons, kRd1_s, kRd2_s, op1_s, op2_s, ap_asg, kT_s, kT2_s, tNm_ap, tTp_t, tTp_l, tAll_nil, tAll_cons, kTa_s, finS_nx, finS_sh, finS_fr, finS_bs, kF_o, int2_ap, ap_lc, kL1_s, kL2_s, itemsOf_l, itemsOf_t, itemsOf_r, ap_lcR, kLr1_s, own_bs, own_bp, put_bs, put_bp, ap_setIx, kI1_s, kI2_s, kI3_s, kI4_s, ap_mut, isL_l, kM1_t, kM2_s, kM3_s, kM4_s, ap_forR, kFr_s, kFr2_s, ap_for, kFo_s, kFo2_s, ap_par, kP1_s, kP2_s, fixL_nil, fixL_sh, fixL_fr, kX_s, putL_nil, putL_sh, putL_fr, part_n, part_s, kPi_s, ap_sl, partI_i, partI_n, ap_dic0, ap_dic1, kDi_s, kDi2_s, kDi3_s, keyOf_i, mCallR_eq, ap_callK, kCk_s, perm1, nodup1, ap_exc, kX1_s, List.getElem?_cons_zero, List.getElem?_cons_succ, List.set_cons_zero, List.set_cons_succ, ini, prs, dist, putB, List.all_cons, List.all_nil, Bool.and_true, Bool.true_and, if_true, if_pos, ne, ln, e1, ix, Bool.not_false, e2, e3, e4]
end K01

set_option Elab.async false
set_option linter.all false
set_option maxRecDepth 100000
set_option maxHeartbeats 1000000
namespace K01
open PySem PySem.Spec PyProof.Rows L2 Mx
def partB : Ms := mIf (mBin dGt (mBl (op1 dLen) [mVar 3]) (mC (.int 1))) (mSeq (mSet 7 (mCall f_law_take [mVar 0, mBin dSub (mBl (op1 dLen) [mVar 3]) (mC (.int 1))])) (swB)) (mNx)
def allC : Ms := mSeq (mAsg (mVar 1) (tTp [tNm 2, tNm 3])) (mSeq (mSet 4 (mIfE (mBin dGt (mBl (op1 dLen) [mVar 3]) (mC (.int 8))) (mC (.int 8)) (mIfE (mBin dGt (mBl (op1 dLen) [mVar 3]) (mC (.int 3))) (mC (.int 4)) (mC (.int 1))))) (mSeq (mPar [5, 6] [mCall f_law_bad_wholes [mVar 1], mCall f_law_take [mVar 0, mVar 4]]) (mSeq (partA) (mSeq (partB) (mSeq (pick5) (mSeq (endL2) (mRet (mVar 5))))))))
theorem allC_eq : b_law_all_spoilt = allC := rfl
theorem partB_ok {net : D} {many : Int} {ts : List D} {step first n : Int} {m : Nat} {s : S} (m1 : 1 ≤ many) (m2 : many ≤ 20) (hl : ts.length ≤ 120) (ht : ∀ t ∈ ts, TieV many t) (hn : n ≤ 9000000) (hm : m < 90000) (hs : SI net many ts step first n m s) :
    ∃ s', partB s = .nx s' ∧ SI net many ts step first (n + 1) (m + 2) s' := by
  obtain ⟨bs, d, x7, x8, x9, x10, x11, x12, x13, x14, x15, x16, x17, rfl, hb, hx, n14⟩ := hs
  have ln : dLen (.tup ts) = some (.sh (.int ts.length)) := rfl
  cases hg : decide ((1 : Int) < ts.length) with
  | false =>
    refine ⟨_, ?_, bs, d, x7, x8, x9, x10, x11, x12, x13, x14, x15, x16, x17, rfl, ⟨hb.1, by have := hb.2; omega⟩, hx.mono (by omega), n14⟩
    unfold partB
    simp only [SU, bind_ok, bind_ex, bind_no, thn_ok, thn_ex, thn_no, lbind_ok, lthn_ok, seq_nx, seq_rt, seq_bk, seq_ct, seq_ex, seq_no, kB_t, kB_f, kS_t, kS_f, asB_bl, kR_s, kD_s, kD2_s, rd_sh, rd_fr, rd_bs, rd_bp, kCs_o, kCp_o, kCp_s, kV_s, kV_o, kV_a, kVp_o, kVp_s, ap_var, ap_c, ap_un, ap_bin, ap_and, ap_or, ap_ifE, kN_s, ap_not, kBl_ap, ap_nx, ap_seq, ap_expr, ap_ret, ap_retN, ap_if, ap_set, stor_sh, stor_fr, ap_args0, ap_args, kA1_ok, kA2_ok, ap_call, kC1_s, kC2_sh, kC2_fr, kC3_s, argC_sh, argC_fr, argC_bs, argC_bp, kAc_o, kAc_s, argCs_nil, argCs_cons, kAcs_s, kAc2_s, kEs_s, ap_tup, ap_lst, escs_nil, escs_cons, kE1_s, kE2_s, esc_sh, esc_fr, esc_bs, kEo_o, kDs_s, ap_bl, rds_nil, rds_cons, kRd1_s, kRd2_s, op1_s, op2_s, ap_asg, kT_s, kT2_s, tNm_ap, tTp_t, tTp_l, tAll_nil, tAll_cons, kTa_s, finS_nx, finS_sh, finS_fr, finS_bs, kF_o, int2_ap, ap_lc, kL1_s, kL2_s, itemsOf_l, itemsOf_t, itemsOf_r, ap_lcR, kLr1_s, own_bs, own_bp, put_bs, put_bp, ap_setIx, kI1_s, kI2_s, kI3_s, kI4_s, ap_mut, isL_l, kM1_t, kM2_s, kM3_s, kM4_s, ap_forR, kFr_s, kFr2_s, ap_for, kFo_s, kFo2_s, ap_par, kP1_s, kP2_s, fixL_nil, fixL_sh, fixL_fr, kX_s, putL_nil, putL_sh, putL_fr, part_n, part_s, kPi_s, ap_sl, partI_i, partI_n, ap_dic0, ap_dic1, kDi_s, kDi2_s, kDi3_s, keyOf_i, mCallR_eq, ap_callK, kCk_s, perm1, nodup1, ap_exc, kX1_s, List.getElem?_cons_zero, List.getElem?_cons_succ, List.set_cons_zero, List.set_cons_succ, ini, prs, dist, putB, List.all_cons, List.all_nil, Bool.and_true, Bool.true_and, if_true, if_pos, ln, gt_int, hg]
  | true =>
    have h1 := of_decide_eq_true hg
    obtain ⟨i, d1, e1, b1, i0, i1⟩ := take_ok (many := (ts.length : Int) - 1) hx (by omega) (by omega) (by omega)
    obtain ⟨j, rfl⟩ : ∃ j : Nat, i = (j : Int) := ⟨i.toNat, by omega⟩
    have hj : j < ts.length := by omega
    have hj1 : j + 1 < ts.length := by omega
    have ix0 := ix_t (List.getElem?_eq_getElem hj)
    have ix1 : dIx (.tup ts) (.int ((j : Int) + 1)) = some (.sh ts[j + 1]) := ix_t (i := j + 1) (List.getElem?_eq_getElem hj1)
    have sl : ∀ lo hi, dSl (.tup ts) lo hi = some (.sh (.tup (cutL ts lo hi))) := fun lo hi => rfl
    have cl : ∀ lo hi, (cutL ts lo hi).length ≤ ts.length := fun lo hi => by
      unfold cutL
      rw [List.length_take, List.length_drop]; omega
    have cm : ∀ lo hi u, u ∈ cutL ts lo hi → u ∈ ts := fun lo hi u h => List.mem_of_mem_drop (List.mem_of_mem_take h)
    have c1 := cl none (some (j : Int))
    have c2 := cl (some ((j : Int) + 2)) none
    have c3 := cl (some ((j : Int) + 1)) none
    have c4 := cl none (some ((j : Int) + 1))
    have a1 : dAdd (.tup (cutL ts none (some (j : Int)))) (.tup [ts[j + 1], ts[j]]) = some (.sh (.tup (cutL ts none (some (j : Int)) ++ [ts[j + 1], ts[j]]))) := add_tup (by simp only [List.length_cons, List.length_nil]; omega)
    have a2 : dAdd (.tup (cutL ts none (some (j : Int)) ++ [ts[j + 1], ts[j]])) (.tup (cutL ts (some ((j : Int) + 2)) none)) = some (.sh (.tup (cutL ts none (some (j : Int)) ++ [ts[j + 1], ts[j]] ++ cutL ts (some ((j : Int) + 2)) none))) := add_tup (by simp only [List.length_append, List.length_cons, List.length_nil]; omega)
    have a3 : dAdd (.tup (cutL ts (some ((j : Int) + 1)) none)) (.tup (cutL ts none (some ((j : Int) + 1)))) = some (.sh (.tup (cutL ts (some ((j : Int) + 1)) none ++ cutL ts none (some ((j : Int) + 1))))) := add_tup (by omega)
    have pu : ∀ u ∈ ts, PU u ∨ u = D.non := fun u hu => .inl ((ht u hu).pu m2)
    have nb : Bd .non := ⟨trivial, by decide, by decide, .inl rfl⟩
    have g : GL 2 [D.tup [.int many, .tup (cutL ts none (some (j : Int)) ++ [ts[j + 1], ts[j]] ++ cutL ts (some ((j : Int) + 2)) none)], D.tup [.int many, .tup (cutL ts (some ((j : Int) + 1)) none ++ cutL ts none (some ((j : Int) + 1)))]] := by
      refine ⟨fun u hu => ?_, Nat.le_refl 2⟩
      rcases List.mem_cons.mp hu with rfl | hu
      · refine sho_put (x := .non) m1 m2 (by simp only [List.length_append, List.length_cons, List.length_nil]; omega) (fun u hu => pu u ?_) nb
        rcases List.mem_append.mp hu with h | h
        · rcases List.mem_append.mp h with h | h
          · exact cm _ _ _ h
          · rcases List.mem_cons.mp h with h | h
            · rw [h]; exact List.getElem_mem hj1
            · rw [List.mem_singleton.mp h]; exact List.getElem_mem hj
        · exact cm _ _ _ h
      · rw [List.mem_singleton.mp hu]
        refine sho_put (x := .non) m1 m2 (by simp only [List.length_append]; omega) (fun u hu => pu u ?_) nb
        exact (List.mem_append.mp hu).elim (cm _ _ _) (cm _ _ _)
    have g2 := hb.app g
    have a4 : dAdd (.lst bs) (.lst [D.tup [.int many, .tup (cutL ts none (some (j : Int)) ++ [ts[j + 1], ts[j]] ++ cutL ts (some ((j : Int) + 2)) none)], D.tup [.int many, .tup (cutL ts (some ((j : Int) + 1)) none ++ cutL ts none (some ((j : Int) + 1)))]]) = _ := add_lst (by have := hb.2; simp only [List.length_cons, List.length_nil]; omega)
    refine ⟨_, ?_, _, d1, .sh (.int j), x8, x9, x10, x11, x12, x13, x14, x15, x16, x17, rfl, g2, b1, n14⟩
    unfold partB swB
    simp only [SU, bind_ok, bind_ex, bind_no, thn_ok, thn_ex, thn_no, lbind_ok, lthn_ok, seq_nx, seq_rt, seq_bk, seq_ct, seq_ex, seq_no, kB_t, kB_f, kS_t, kS_f, asB_bl, kR_s, kD_s, kD2_s, rd_sh, rd_fr, rd_bs, rd_bp, kCs_o, kCp_o, kCp_s, kV_s, kV_o, kV_a, kVp_o, kVp_s, ap_var, ap_c, ap_un, ap_bin, ap_and, ap_or, ap_ifE, kN_s, ap_not, kBl_ap, ap_nx, ap_seq, ap_expr, ap_ret, ap_retN, ap_if, ap_set, stor_sh, stor_fr, ap_args0, ap_args, kA1_ok, kA2_ok, ap_call, kC1_s, kC2_sh, kC2_fr, kC3_s, argC_sh, argC_fr, argC_bs, argC_bp, kAc_o, kAc_s, argCs_nil, argCs_cons, kAcs_s, kAc2_s, kEs_s, ap_tup, ap_lst, escs_nil, escs_cons, kE1_s, kE2_s, esc_sh, esc_fr, esc_bs, kEo_o, kDs_s, ap_bl, rds_nil, rds_cons, kRd1_s, kRd2_s, op1_s, op2_s, ap_asg, kT_s, kT2_s, tNm_ap, tTp_t, tTp_l, tAll_nil, tAll_cons, kTa_s, finS_nx, finS_sh, finS_fr, finS_bs, kF_o, int2_ap, ap_lc, kL1_s, kL2_s, itemsOf_l, itemsOf_t, itemsOf_r, ap_lcR, kLr1_s, own_bs, own_bp, put_bs, put_bp, ap_setIx, kI1_s, kI2_s, kI3_s, kI4_s, ap_mut, isL_l, kM1_t, kM2_s, kM3_s, kM4_s, ap_forR, kFr_s, kFr2_s, ap_for, kFo_s, kFo2_s, ap_par, kP1_s, kP2_s, fixL_nil, fixL_sh, fixL_fr, kX_s, putL_nil, putL_sh, putL_fr, part_n, part_s, kPi_s, ap_sl, partI_i, partI_n, ap_dic0, ap_dic1, kDi_s, kDi2_s, kDi3_s, keyOf_i, mCallR_eq, ap_callK, kCk_s, perm1, nodup1, ap_exc, kX1_s, List.getElem?_cons_zero, List.getElem?_cons_succ, List.set_cons_zero, List.set_cons_succ, ini, prs, dist, putB, List.all_cons, List.all_nil, Bool.and_true, Bool.true_and, if_true, if_pos, ln, gt_int, hg, sub_int, e1, add_int, ix0, ix1, sl, a1, a2, a3, a4]
/-! every step-th -/
def kLc2 (own : List Nat) (tm : Mx.Tm) (tt elt : Mm) (s : S) : Option (Int × Int × Nat) → Res
  | some (lo, c, n) => if n ≤ 16777216 then lcR own tm tt elt (stepFrom lo c n) s else .no
  | none => .no
def kLc1 (own : List Nat) (tm : Mx.Tm) (tt elt : Mm) (s : S) : Option (List D) → Res
  | some ds => kLc2 own tm tt elt s (rng3 ds)
  | none => .no
theorem ap_lcC {own : List Nat} {tm : Mx.Tm} {tt elt : Mm} {ms : List Mm} {s : S} : mLcC own tm tt elt ms s = (mArgs ms s).bind fun rs s1 => kLc1 own tm tt elt s1 (rds s1 rs) := rfl
theorem kLc1_s {own : List Nat} {tm : Mx.Tm} {tt elt : Mm} {s : S} {ds : List D} : kLc1 own tm tt elt s (some ds) = kLc2 own tm tt elt s (rng3 ds) := rfl
theorem step_mem : ∀ {lo c : Int} {n : Nat} {d : D}, d ∈ stepFrom lo c n → ∃ j : Nat, j < n ∧ d = .int (lo + (j : Int) * c) := by
  intro lo c n d h
  obtain ⟨j, hj, e⟩ := List.getElem_of_mem h
  rw [stepFrom_len] at hj
  have z := stepFrom_get lo c n j hj
  rw [List.getElem?_eq_getElem (by rw [stepFrom_len]; exact hj), e] at z
  exact ⟨j, hj, by cases z; rfl⟩
def getG (bs : List D) : D → D
  | .int i => bs.getD i.toNat .non
  | _ => .non
theorem pick5_ok {net : D} {many : Int} {ts : List D} {step first n : Int} {m : Nat} {s : S} (hs : SI net many ts step first n m s) (h8 : step = 8 ∨ step = 4 ∨ step = 1) (f0 : 0 ≤ first) (f1 : first < step) (hm : m < 90000) :
    ∃ s', pick5 s = .nx s' ∧ SI net many ts step first n (m + 1) s' := by
  obtain ⟨bs, d, x7, x8, x9, x10, x11, x12, x13, x14, x15, x16, x17, rfl, hb, hx, n14⟩ := hs
  have hbl := hb.2
  have ln : dLen (.lst bs) = some (.sh (.int bs.length)) := rfl
  obtain ⟨N, eN, hN, hN2⟩ : ∃ N : Nat, rng3 [.int first, .int bs.length, .int step] = some (first, step, N) ∧ N ≤ m + 1 ∧ ∀ j : Nat, j < N → 0 ≤ first + (j : Int) * step ∧ first + (j : Int) * step < bs.length := by
    refine ⟨_, if_pos ⟨by omega, by omega, by omega, by omega, by omega, by omega⟩, ?_, ?_⟩
    · split
      · rcases h8 with rfl | rfl | rfl <;> omega
      · omega
    · intro j hj
      split at hj
      · rcases h8 with rfl | rfl | rfl <;> (constructor <;> omega)
      · exact absurd hj (by omega)
  have lc := lc_pure (v := 14) (tt := mYes) (elt := mBin dIx (mVar 5) (mVar 14)) (p := fun _ => true) (gg := getG bs) (s := SU net many ts step first bs d x7 x8 x9 x10 x11 x12 x13 x14 x15 x16 x17) (cl := x14) rfl n14 (stepFrom first step N) (fun x hx => by
    obtain ⟨j, hj, rfl⟩ := step_mem hx
    obtain ⟨q0, q1⟩ := hN2 j hj
    have ez : first + (j : Int) * step = (((first + (j : Int) * step).toNat : Nat) : Int) := by omega
    have ix := ix_l (ts := bs) (i := (first + (j : Int) * step).toNat) (getD_of (by omega))
    rw [← ez] at ix
    refine ⟨rfl, fun _ => ⟨.sh (getG bs (.int (first + (j : Int) * step))), ?_, rfl⟩⟩
    simp only [SU, bind_ok, bind_ex, bind_no, thn_ok, thn_ex, thn_no, lbind_ok, lthn_ok, seq_nx, seq_rt, seq_bk, seq_ct, seq_ex, seq_no, kB_t, kB_f, kS_t, kS_f, asB_bl, kR_s, kD_s, kD2_s, rd_sh, rd_fr, rd_bs, rd_bp, kCs_o, kCp_o, kCp_s, kV_s, kV_o, kV_a, kVp_o, kVp_s, ap_var, ap_c, ap_un, ap_bin, ap_and, ap_or, ap_ifE, kN_s, ap_not, kBl_ap, ap_nx, ap_seq, ap_expr, ap_ret, ap_retN, ap_if, ap_set, stor_sh, stor_fr, ap_args0, ap_args, kA1_ok, kA2_ok, ap_call, kC1_s, kC2_sh, kC2_fr, kC3_s, argC_sh, argC_fr, argC_bs, argC_bp, kAc_o, kAc_s, argCs_nil, argCs_cons, kAcs_s, kAc2_s, kEs_s, ap_tup, ap_lst, escs_nil, escs_cons, kE1_s, kE2_s, esc_sh, esc_fr, esc_bs, kEo_o, kDs_s, ap_bl, rds_nil, rds_cons, kRd1_s, kRd2_s, op1_s, op2_s, ap_asg, kT_s, kT2_s, tNm_ap, tTp_t, tTp_l, tAll_nil, tAll_cons, kTa_s, finS_nx, finS_sh, finS_fr, finS_bs, kF_o, int2_ap, ap_lc, kL1_s, kL2_s, itemsOf_l, itemsOf_t, itemsOf_r, ap_lcR, kLr1_s, own_bs, own_bp, put_bs, put_bp, ap_setIx, kI1_s, kI2_s, kI3_s, kI4_s, ap_mut, isL_l, kM1_t, kM2_s, kM3_s, kM4_s, ap_forR, kFr_s, kFr2_s, ap_for, kFo_s, kFo2_s, ap_par, kP1_s, kP2_s, fixL_nil, fixL_sh, fixL_fr, kX_s, putL_nil, putL_sh, putL_fr, part_n, part_s, kPi_s, ap_sl, partI_i, partI_n, ap_dic0, ap_dic1, kDi_s, kDi2_s, kDi3_s, keyOf_i, mCallR_eq, ap_callK, kCk_s, perm1, nodup1, ap_exc, kX1_s, List.getElem?_cons_zero, List.getElem?_cons_succ, List.set_cons_zero, List.set_cons_succ, ini, prs, dist, putB, List.all_cons, List.all_nil, Bool.and_true, Bool.true_and, if_true, if_pos, ix, getG])
  rw [List.filter_eq_self.mpr fun _ _ => rfl] at lc
  have g : GL (m + 1) ((stepFrom first step N).map (getG bs)) := by
    refine ⟨fun u hu => ?_, by rw [List.length_map, stepFrom_len]; exact hN⟩
    obtain ⟨x, hx, rfl⟩ := List.mem_map.mp hu
    obtain ⟨j, hj, rfl⟩ := step_mem hx
    obtain ⟨q0, q1⟩ := hN2 j hj
    exact hb.1 _ (List.mem_of_getElem? (getD_of (i := (first + (j : Int) * step).toNat) (by omega)))
  refine ⟨_, ?_, _, d, x7, x8, x9, x10, x11, x12, x13, x14, x15, x16, x17, rfl, g, hx, n14⟩
  have k2 : ∀ s, kLc2 [14] (tNm 14) mYes (mBin dIx (mVar 5) (mVar 14)) s (some (first, step, N)) = lcR [14] (tNm 14) mYes (mBin dIx (mVar 5) (mVar 14)) (stepFrom first step N) s := fun s => if_pos (by omega)
  unfold SU at lc
  unfold pick5
  simp only [SU, bind_ok, bind_ex, bind_no, thn_ok, thn_ex, thn_no, lbind_ok, lthn_ok, seq_nx, seq_rt, seq_bk, seq_ct, seq_ex, seq_no, kB_t, kB_f, kS_t, kS_f, asB_bl, kR_s, kD_s, kD2_s, rd_sh, rd_fr, rd_bs, rd_bp, kCs_o, kCp_o, kCp_s, kV_s, kV_o, kV_a, kVp_o, kVp_s, ap_var, ap_c, ap_un, ap_bin, ap_and, ap_or, ap_ifE, kN_s, ap_not, kBl_ap, ap_nx, ap_seq, ap_expr, ap_ret, ap_retN, ap_if, ap_set, stor_sh, stor_fr, ap_args0, ap_args, kA1_ok, kA2_ok, ap_call, kC1_s, kC2_sh, kC2_fr, kC3_s, argC_sh, argC_fr, argC_bs, argC_bp, kAc_o, kAc_s, argCs_nil, argCs_cons, kAcs_s, kAc2_s, kEs_s, ap_tup, ap_lst, escs_nil, escs_cons, kE1_s, kE2_s, esc_sh, esc_fr, esc_bs, kEo_o, kDs_s, ap_bl, rds_nil, rds_cons, kRd1_s, kRd2_s, op1_s, op2_s, ap_asg, kT_s, kT2_s, tNm_ap, tTp_t, tTp_l, tAll_nil, tAll_cons, kTa_s, finS_nx, finS_sh, finS_fr, finS_bs, kF_o, int2_ap, ap_lc, kL1_s, kL2_s, itemsOf_l, itemsOf_t, itemsOf_r, ap_lcR, kLr1_s, own_bs, own_bp, put_bs, put_bp, ap_setIx, kI1_s, kI2_s, kI3_s, kI4_s, ap_mut, isL_l, kM1_t, kM2_s, kM3_s, kM4_s, ap_forR, kFr_s, kFr2_s, ap_for, kFo_s, kFo2_s, ap_par, kP1_s, kP2_s, fixL_nil, fixL_sh, fixL_fr, kX_s, putL_nil, putL_sh, putL_fr, part_n, part_s, kPi_s, ap_sl, partI_i, partI_n, ap_dic0, ap_dic1, kDi_s, kDi2_s, kDi3_s, keyOf_i, mCallR_eq, ap_callK, kCk_s, perm1, nodup1, ap_exc, kX1_s, List.getElem?_cons_zero, List.getElem?_cons_succ, List.set_cons_zero, List.set_cons_succ, ini, prs, dist, putB, List.all_cons, List.all_nil, Bool.and_true, Bool.true_and, if_true, if_pos, ap_lcC, kLc1_s, ln, eN, k2, lc]
theorem rep_one (t : D) : ∀ n : Nat, (List.replicate n [t]).flatten = List.replicate n t
  | 0 => rfl
  | n + 1 => by rw [List.replicate_succ, List.flatten_cons, rep_one t n, List.replicate_succ]; rfl
theorem end2 {net : D} {many : Int} {ts : List D} {step first n : Int} {m : Nat} {s : S} (m1 : 1 ≤ many) (m2 : many ≤ 20) (hl : ts.length ≤ 120) (ht : ∀ t ∈ ts, TieV many t) (hm : m < 90000) (hs : SI net many ts step first n m s) :
    ∃ s' cs d, endL2 s = .nx s' ∧ mRet (mVar 5) s' = .rt (.bs 5) s' ∧ s'.sl[5]? = some (.ow (.lst cs)) ∧ s'.pr = [.ow d, .un] ∧ GL (m + 2) cs ∧ Box n d := by
  obtain ⟨bs, d, x7, x8, x9, x10, x11, x12, x13, x14, x15, x16, x17, rfl, hb, hx, n14⟩ := hs
  obtain ⟨s', e, cs, x19, rfl, hg⟩ := for_inv (tm := tNm 19) (body := endB2) (ds := [.int 120, .int 121]) (I := fun k s => ∃ cs x19, s = ⟨[.al 0, .sh net, .sh (.int many), .sh (.tup ts), .sh (.int step), .ow (.lst cs), .sh (.int first), x7, x8, x9, x10, x11, x12, x13, x14, x15, x16, x17, .un, x19], [.ow d, .un]⟩ ∧ GL (m + k) cs) 0 (s := SU net many ts step first bs d x7 x8 x9 x10 x11 x12 x13 x14 x15 x16 x17) ⟨bs, .un, rfl, hb⟩ (by
    intro k y s hy hs
    obtain ⟨q, rfl, q0, q1, hk⟩ : ∃ q : Int, y = .int q ∧ 120 ≤ q ∧ q ≤ 121 ∧ k < 2 := by
      match k, hy with
      | 0, hy => cases hy; exact ⟨_, rfl, by omega, by omega, by omega⟩
      | 1, hy => cases hy; exact ⟨_, rfl, by omega, by omega, by omega⟩
      | k + 2, hy => cases hy
    obtain ⟨cs, x19, rfl, hg⟩ := hs
    have ln : dLen (.tup ts) = some (.sh (.int ts.length)) := rfl
    have mu : dMul (.tup [.tup [.int 0, .int 1, .int 1, .int 0]]) (.int (q - ts.length)) = some (.sh (.tup (List.replicate (q - ts.length).toNat (.tup [.int 0, .int 1, .int 1, .int 0])))) := by
      have z : dTmul (.tup [.tup [.int 0, .int 1, .int 1, .int 0]]) (.int (q - ts.length)) = some (.sh (.tup (repD [.tup [.int 0, .int 1, .int 1, .int 0]] (q - ts.length)))) := if_pos ⟨by omega, by omega, by decide⟩
      rw [repD, rep_one] at z
      exact z
    have ad : dAdd (.tup ts) (.tup (List.replicate (q - ts.length).toNat (.tup [.int 0, .int 1, .int 1, .int 0]))) = some (.sh (.tup (ts ++ List.replicate (q - ts.length).toNat (.tup [.int 0, .int 1, .int 1, .int 0])))) := add_tup (by rw [List.length_replicate]; omega)
    have so : dSortR (.tup (ts ++ List.replicate (q - ts.length).toNat (.tup [.int 0, .int 1, .int 1, .int 0]))) = _ := sort_eqT fun u hu => by
      rcases List.mem_append.mp hu with h | h
      · exact tie_rowOk (ht u h)
      · rw [List.eq_of_mem_replicate h]; rfl
    have ap : ∀ v, dAppend cs [v] = some (.non, cs ++ [v]) := fun v => app_ok (by have := hg.2; omega)
    have sv : Sho (.tup [.int many, .tup (sortR (ts ++ List.replicate (q - ts.length).toNat (.tup [.int 0, .int 1, .int 1, .int 0])))]) := by
      refine sho_put (x := .non) m1 m2 (by rw [sort_len, List.length_append, List.length_replicate]; omega) (fun u hu => .inl ?_) ⟨trivial, by decide, by decide, .inl rfl⟩
      rcases List.mem_append.mp (sort_mem.mp hu) with h | h
      · exact (ht u h).pu m2
      · rw [List.eq_of_mem_replicate h]
        exact ⟨⟨(by decide : (0 : Int).natAbs < 10 ^ 60), (by decide : (1 : Int).natAbs < 10 ^ 60), (by decide : (1 : Int).natAbs < 10 ^ 60), (by decide : (0 : Int).natAbs < 10 ^ 60), trivial⟩, by decide, by decide, rfl, rfl⟩
    refine ⟨_, _, rfl, ?_, cs ++ [.tup [.int many, .tup (sortR (ts ++ List.replicate (q - ts.length).toNat (.tup [.int 0, .int 1, .int 1, .int 0])))]], .sh (.int q), rfl, by have := hg.push sv; rw [show m + (0 + k + 1) = m + (0 + k) + 1 by omega]; exact this⟩
    unfold endB2
    simp only [bind_ok, bind_ex, bind_no, thn_ok, thn_ex, thn_no, lbind_ok, lthn_ok, seq_nx, seq_rt, seq_bk, seq_ct, seq_ex, seq_no, kB_t, kB_f, kS_t, kS_f, asB_bl, kR_s, kD_s, kD2_s, rd_sh, rd_fr, rd_bs, rd_bp, kCs_o, kCp_o, kCp_s, kV_s, kV_o, kV_a, kVp_o, kVp_s, ap_var, ap_c, ap_un, ap_bin, ap_and, ap_or, ap_ifE, kN_s, ap_not, kBl_ap, ap_nx, ap_seq, ap_expr, ap_ret, ap_retN, ap_if, ap_set, stor_sh, stor_fr, ap_args0, ap_args, kA1_ok, kA2_ok, ap_call, kC1_s, kC2_sh, kC2_fr, kC3_s, argC_sh, argC_fr, argC_bs, argC_bp, kAc_o, kAc_s, argCs_nil, argCs_cons, kAcs_s, kAc2_s, kEs_s, ap_tup, ap_lst, escs_nil, escs_cons, kE1_s, kE2_s, esc_sh, esc_fr, esc_bs, kEo_o, kDs_s, ap_bl, rds_nil, rds_cons, kRd1_s, kRd2_s, op1_s, op2_s, ap_asg, kT_s, kT2_s, tNm_ap, tTp_t, tTp_l, tAll_nil, tAll_cons, kTa_s, finS_nx, finS_sh, finS_fr, finS_bs, kF_o, int2_ap, ap_lc, kL1_s, kL2_s, itemsOf_l, itemsOf_t, itemsOf_r, ap_lcR, kLr1_s, own_bs, own_bp, put_bs, put_bp, ap_setIx, kI1_s, kI2_s, kI3_s, kI4_s, ap_mut, isL_l, kM1_t, kM2_s, kM3_s, kM4_s, ap_forR, kFr_s, kFr2_s, ap_for, kFo_s, kFo2_s, ap_par, kP1_s, kP2_s, fixL_nil, fixL_sh, fixL_fr, kX_s, putL_nil, putL_sh, putL_fr, part_n, part_s, kPi_s, ap_sl, partI_i, partI_n, ap_dic0, ap_dic1, kDi_s, kDi2_s, kDi3_s, keyOf_i, mCallR_eq, ap_callK, kCk_s, perm1, nodup1, ap_exc, kX1_s, List.getElem?_cons_zero, List.getElem?_cons_succ, List.set_cons_zero, List.set_cons_succ, ini, prs, dist, putB, List.all_cons, List.all_nil, Bool.and_true, Bool.true_and, if_true, if_pos, ln, sub_int, mu, ad, so, tup_l, ap])
  have e' : endL2 (SU net many ts step first bs d x7 x8 x9 x10 x11 x12 x13 x14 x15 x16 x17) = forL (tNm 19) endB2 [.int 120, .int 121] (SU net many ts step first bs d x7 x8 x9 x10 x11 x12 x13 x14 x15 x16 x17) := by
    unfold endL2
    simp only [SU, bind_ok, bind_ex, bind_no, thn_ok, thn_ex, thn_no, lbind_ok, lthn_ok, seq_nx, seq_rt, seq_bk, seq_ct, seq_ex, seq_no, kB_t, kB_f, kS_t, kS_f, asB_bl, kR_s, kD_s, kD2_s, rd_sh, rd_fr, rd_bs, rd_bp, kCs_o, kCp_o, kCp_s, kV_s, kV_o, kV_a, kVp_o, kVp_s, ap_var, ap_c, ap_un, ap_bin, ap_and, ap_or, ap_ifE, kN_s, ap_not, kBl_ap, ap_nx, ap_seq, ap_expr, ap_ret, ap_retN, ap_if, ap_set, stor_sh, stor_fr, ap_args0, ap_args, kA1_ok, kA2_ok, ap_call, kC1_s, kC2_sh, kC2_fr, kC3_s, argC_sh, argC_fr, argC_bs, argC_bp, kAc_o, kAc_s, argCs_nil, argCs_cons, kAcs_s, kAc2_s, kEs_s, ap_tup, ap_lst, escs_nil, escs_cons, kE1_s, kE2_s, esc_sh, esc_fr, esc_bs, kEo_o, kDs_s, ap_bl, rds_nil, rds_cons, kRd1_s, kRd2_s, op1_s, op2_s, ap_asg, kT_s, kT2_s, tNm_ap, tTp_t, tTp_l, tAll_nil, tAll_cons, kTa_s, finS_nx, finS_sh, finS_fr, finS_bs, kF_o, int2_ap, ap_lc, kL1_s, kL2_s, itemsOf_l, itemsOf_t, itemsOf_r, ap_lcR, kLr1_s, own_bs, own_bp, put_bs, put_bp, ap_setIx, kI1_s, kI2_s, kI3_s, kI4_s, ap_mut, isL_l, kM1_t, kM2_s, kM3_s, kM4_s, ap_forR, kFr_s, kFr2_s, ap_for, kFo_s, kFo2_s, ap_par, kP1_s, kP2_s, fixL_nil, fixL_sh, fixL_fr, kX_s, putL_nil, putL_sh, putL_fr, part_n, part_s, kPi_s, ap_sl, partI_i, partI_n, ap_dic0, ap_dic1, kDi_s, kDi2_s, kDi3_s, keyOf_i, mCallR_eq, ap_callK, kCk_s, perm1, nodup1, ap_exc, kX1_s, List.getElem?_cons_zero, List.getElem?_cons_succ, List.set_cons_zero, List.set_cons_succ, ini, prs, dist, putB, List.all_cons, List.all_nil, Bool.and_true, Bool.true_and, if_true, if_pos]
  have E := e'.trans e
  exact ⟨_, cs, d, E, by simp only [bind_ok, bind_ex, bind_no, thn_ok, thn_ex, thn_no, lbind_ok, lthn_ok, seq_nx, seq_rt, seq_bk, seq_ct, seq_ex, seq_no, kB_t, kB_f, kS_t, kS_f, asB_bl, kR_s, kD_s, kD2_s, rd_sh, rd_fr, rd_bs, rd_bp, kCs_o, kCp_o, kCp_s, kV_s, kV_o, kV_a, kVp_o, kVp_s, ap_var, ap_c, ap_un, ap_bin, ap_and, ap_or, ap_ifE, kN_s, ap_not, kBl_ap, ap_nx, ap_seq, ap_expr, ap_ret, ap_retN, ap_if, ap_set, stor_sh, stor_fr, ap_args0, ap_args, kA1_ok, kA2_ok, ap_call, kC1_s, kC2_sh, kC2_fr, kC3_s, argC_sh, argC_fr, argC_bs, argC_bp, kAc_o, kAc_s, argCs_nil, argCs_cons, kAcs_s, kAc2_s, kEs_s, ap_tup, ap_lst, escs_nil, escs_cons, kE1_s, kE2_s, esc_sh, esc_fr, esc_bs, kEo_o, kDs_s, ap_bl, rds_nil, rds_cons, kRd1_s, kRd2_s, op1_s, op2_s, ap_asg, kT_s, kT2_s, tNm_ap, tTp_t, tTp_l, tAll_nil, tAll_cons, kTa_s, finS_nx, finS_sh, finS_fr, finS_bs, kF_o, int2_ap, ap_lc, kL1_s, kL2_s, itemsOf_l, itemsOf_t, itemsOf_r, ap_lcR, kLr1_s, own_bs, own_bp, put_bs, put_bp, ap_setIx, kI1_s, kI2_s, kI3_s, kI4_s, ap_mut, isL_l, kM1_t, kM2_s, kM3_s, kM4_s, ap_forR, kFr_s, kFr2_s, ap_for, kFo_s, kFo2_s, ap_par, kP1_s, kP2_s, fixL_nil, fixL_sh, fixL_fr, kX_s, putL_nil, putL_sh, putL_fr, part_n, part_s, kPi_s, ap_sl, partI_i, partI_n, ap_dic0, ap_dic1, kDi_s, kDi2_s, kDi3_s, keyOf_i, mCallR_eq, ap_callK, kCk_s, perm1, nodup1, ap_exc, kX1_s, List.getElem?_cons_zero, List.getElem?_cons_succ, List.set_cons_zero, List.set_cons_succ, ini, prs, dist, putB, List.all_cons, List.all_nil, Bool.and_true, Bool.true_and, if_true, if_pos], rfl, rfl, hg, hx⟩
end K01

set_option Elab.async false
set_option linter.all false
set_option maxRecDepth 100000
set_option maxHeartbeats 1000000
namespace K01
open PySem PySem.Spec PyProof.Rows L2 Mx
theorem all_ok {net : D} {n : Int} {d : D} (hv : NetV net) (hb : Box n d) (hn : n ≤ 6000000) : ∃ bs d', f_law_all_spoilt [.ow d, .sh net] = .ret (.fr (.lst bs)) [.ow d', .un] ∧ GL 200 bs ∧ Box (n + 3) d' := by
  obtain ⟨many, ts, rfl, m1, m2, hl, ht⟩ := hv
  have st : f_law_all_spoilt [.ow d, .sh (.tup [.int many, .tup ts])] = finS (b_law_all_spoilt ⟨[.al 0, .sh (.tup [.int many, .tup ts]), .un, .un, .un, .un, .un, .un, .un, .un, .un, .un, .un, .un, .un, .un, .un, .un, .un, .un], [.ow d, .un]⟩) := rfl
  have ln : dLen (.tup ts) = some (.sh (.int ts.length)) := rfl
  obtain ⟨last, l0, l1, ew⟩ := bad_wholes_eq m1 m2 hl ht
  have gw : GL 37 (badW many last ts) := ⟨badW_sho (by omega) (by omega) hl fun t h => (ht t h).pu m2, Nat.le_refl 37⟩
  have rest : ∀ step : Int, (step = 8 ∨ step = 4 ∨ step = 1) → (∀ c : S, (mSet 4 (mIfE (mBin dGt (mBl (op1 dLen) [mVar 3]) (mC (.int 8))) (mC (.int 8)) (mIfE (mBin dGt (mBl (op1 dLen) [mVar 3]) (mC (.int 3))) (mC (.int 4)) (mC (.int 1))))) ⟨[.al 0, .sh (.tup [.int many, .tup ts]), .sh (.int many), .sh (.tup ts), .un, .un, .un, .un, .un, .un, .un, .un, .un, .un, .un, .un, .un, .un, .un, .un], [.ow d, .un]⟩ = .nx ⟨[.al 0, .sh (.tup [.int many, .tup ts]), .sh (.int many), .sh (.tup ts), .sh (.int step), .un, .un, .un, .un, .un, .un, .un, .un, .un, .un, .un, .un, .un, .un, .un], [.ow d, .un]⟩) →
      ∃ bs d', f_law_all_spoilt [.ow d, .sh (.tup [.int many, .tup ts])] = .ret (.fr (.lst bs)) [.ow d', .un] ∧ GL 200 bs ∧ Box (n + 3) d' := by
    intro step h8 e4
    have e4 := e4 ⟨[], []⟩
    obtain ⟨first, d1, e1, b1, f0, f1⟩ := take_ok (many := step) hb (by omega) (by omega) (by omega)
    obtain ⟨s2, e2, i2⟩ := partA_ok (net := .tup [.int many, .tup ts]) (step := step) (first := first) m1 m2 hl ht gw b1 (by omega) (by omega)
    obtain ⟨s3, e3, i3⟩ := partB_ok m1 m2 hl ht (by omega) (by omega) i2
    obtain ⟨s5, e5, i5⟩ := pick5_ok i3 h8 f0 f1 (by omega)
    obtain ⟨s6, cs, d6, e6, e7, e8, e9, g6, b6⟩ := end2 m1 m2 hl ht (by omega) i5
    refine ⟨cs, d6, ?_, ⟨g6.1, by have := g6.2; omega⟩, b6.mono (by omega)⟩
    unfold SU at e2
    rw [st, allC_eq]
    unfold allC
    have e0 : (mAsg (mVar 1) (tTp [tNm 2, tNm 3])) ⟨[.al 0, .sh (.tup [.int many, .tup ts]), .un, .un, .un, .un, .un, .un, .un, .un, .un, .un, .un, .un, .un, .un, .un, .un, .un, .un], [.ow d, .un]⟩ = .nx ⟨[.al 0, .sh (.tup [.int many, .tup ts]), .sh (.int many), .sh (.tup ts), .un, .un, .un, .un, .un, .un, .un, .un, .un, .un, .un, .un, .un, .un, .un, .un], [.ow d, .un]⟩ := by
      simp only [bind_ok, bind_ex, bind_no, thn_ok, thn_ex, thn_no, lbind_ok, lthn_ok, seq_nx, seq_rt, seq_bk, seq_ct, seq_ex, seq_no, kB_t, kB_f, kS_t, kS_f, asB_bl, kR_s, kD_s, kD2_s, rd_sh, rd_fr, rd_bs, rd_bp, kCs_o, kCp_o, kCp_s, kV_s, kV_o, kV_a, kVp_o, kVp_s, ap_var, ap_c, ap_un, ap_bin, ap_and, ap_or, ap_ifE, kN_s, ap_not, kBl_ap, ap_nx, ap_seq, ap_expr, ap_ret, ap_retN, ap_if, ap_set, stor_sh, stor_fr, ap_args0, ap_args, kA1_ok, kA2_ok, ap_call, kC1_s, kC2_sh, kC2_fr, kC3_s, argC_sh, argC_fr, argC_bs, argC_bp, kAc_o, kAc_s, argCs_nil, argCs_cons, kAcs_s, kAc2_s, kEs_s, ap_tup, ap_lst, escs_nil, escs_cons, kE1_s, kE2_s, esc_sh, esc_fr, esc_bs, kEo_o, kDs_s, ap_bl, rds_nil, rds_cons, kRd1_s, kRd2_s, op1_s, op2_s, ap_asg, kT_s, kT2_s, tNm_ap, tTp_t, tTp_l, tAll_nil, tAll_cons, kTa_s, finS_nx, finS_sh, finS_fr, finS_bs, kF_o, int2_ap, ap_lc, kL1_s, kL2_s, itemsOf_l, itemsOf_t, itemsOf_r, ap_lcR, kLr1_s, own_bs, own_bp, put_bs, put_bp, ap_setIx, kI1_s, kI2_s, kI3_s, kI4_s, ap_mut, isL_l, kM1_t, kM2_s, kM3_s, kM4_s, ap_forR, kFr_s, kFr2_s, ap_for, kFo_s, kFo2_s, ap_par, kP1_s, kP2_s, fixL_nil, fixL_sh, fixL_fr, kX_s, putL_nil, putL_sh, putL_fr, part_n, part_s, kPi_s, ap_sl, partI_i, partI_n, ap_dic0, ap_dic1, kDi_s, kDi2_s, kDi3_s, keyOf_i, mCallR_eq, ap_callK, kCk_s, perm1, nodup1, ap_exc, kX1_s, List.getElem?_cons_zero, List.getElem?_cons_succ, List.set_cons_zero, List.set_cons_succ, ini, prs, dist, putB, List.all_cons, List.all_nil, Bool.and_true, Bool.true_and, if_true, if_pos]
    have e10 : (mPar [5, 6] [mCall f_law_bad_wholes [mVar 1], mCall f_law_take [mVar 0, mVar 4]]) ⟨[.al 0, .sh (.tup [.int many, .tup ts]), .sh (.int many), .sh (.tup ts), .sh (.int step), .un, .un, .un, .un, .un, .un, .un, .un, .un, .un, .un, .un, .un, .un, .un], [.ow d, .un]⟩ = .nx ⟨[.al 0, .sh (.tup [.int many, .tup ts]), .sh (.int many), .sh (.tup ts), .sh (.int step), .ow (.lst (badW many last ts)), .sh (.int first), .un, .un, .un, .un, .un, .un, .un, .un, .un, .un, .un, .un, .un], [.ow d1, .un]⟩ := by
      simp only [bind_ok, bind_ex, bind_no, thn_ok, thn_ex, thn_no, lbind_ok, lthn_ok, seq_nx, seq_rt, seq_bk, seq_ct, seq_ex, seq_no, kB_t, kB_f, kS_t, kS_f, asB_bl, kR_s, kD_s, kD2_s, rd_sh, rd_fr, rd_bs, rd_bp, kCs_o, kCp_o, kCp_s, kV_s, kV_o, kV_a, kVp_o, kVp_s, ap_var, ap_c, ap_un, ap_bin, ap_and, ap_or, ap_ifE, kN_s, ap_not, kBl_ap, ap_nx, ap_seq, ap_expr, ap_ret, ap_retN, ap_if, ap_set, stor_sh, stor_fr, ap_args0, ap_args, kA1_ok, kA2_ok, ap_call, kC1_s, kC2_sh, kC2_fr, kC3_s, argC_sh, argC_fr, argC_bs, argC_bp, kAc_o, kAc_s, argCs_nil, argCs_cons, kAcs_s, kAc2_s, kEs_s, ap_tup, ap_lst, escs_nil, escs_cons, kE1_s, kE2_s, esc_sh, esc_fr, esc_bs, kEo_o, kDs_s, ap_bl, rds_nil, rds_cons, kRd1_s, kRd2_s, op1_s, op2_s, ap_asg, kT_s, kT2_s, tNm_ap, tTp_t, tTp_l, tAll_nil, tAll_cons, kTa_s, finS_nx, finS_sh, finS_fr, finS_bs, kF_o, int2_ap, ap_lc, kL1_s, kL2_s, itemsOf_l, itemsOf_t, itemsOf_r, ap_lcR, kLr1_s, own_bs, own_bp, put_bs, put_bp, ap_setIx, kI1_s, kI2_s, kI3_s, kI4_s, ap_mut, isL_l, kM1_t, kM2_s, kM3_s, kM4_s, ap_forR, kFr_s, kFr2_s, ap_for, kFo_s, kFo2_s, ap_par, kP1_s, kP2_s, fixL_nil, fixL_sh, fixL_fr, kX_s, putL_nil, putL_sh, putL_fr, part_n, part_s, kPi_s, ap_sl, partI_i, partI_n, ap_dic0, ap_dic1, kDi_s, kDi2_s, kDi3_s, keyOf_i, mCallR_eq, ap_callK, kCk_s, perm1, nodup1, ap_exc, kX1_s, List.getElem?_cons_zero, List.getElem?_cons_succ, List.set_cons_zero, List.set_cons_succ, ini, prs, dist, putB, List.all_cons, List.all_nil, Bool.and_true, Bool.true_and, if_true, if_pos, ew, e1]
    simp only [ap_seq, e0, e4, e10, seq_nx, e2, e3, e5, e6, e7, finS_bs, e8, kF_o, e9]
  cases h8 : decide ((8 : Int) < ts.length) with
  | true =>
    exact rest 8 (.inl rfl) fun _ => by simp only [bind_ok, bind_ex, bind_no, thn_ok, thn_ex, thn_no, lbind_ok, lthn_ok, seq_nx, seq_rt, seq_bk, seq_ct, seq_ex, seq_no, kB_t, kB_f, kS_t, kS_f, asB_bl, kR_s, kD_s, kD2_s, rd_sh, rd_fr, rd_bs, rd_bp, kCs_o, kCp_o, kCp_s, kV_s, kV_o, kV_a, kVp_o, kVp_s, ap_var, ap_c, ap_un, ap_bin, ap_and, ap_or, ap_ifE, kN_s, ap_not, kBl_ap, ap_nx, ap_seq, ap_expr, ap_ret, ap_retN, ap_if, ap_set, stor_sh, stor_fr, ap_args0, ap_args, kA1_ok, kA2_ok, ap_call, kC1_s, kC2_sh, kC2_fr, kC3_s, argC_sh, argC_fr, argC_bs, argC_bp, kAc_o, kAc_s, argCs_nil, argCs_cons, kAcs_s, kAc2_s, kEs_s, ap_tup, ap_lst, escs_nil, escs_cons, kE1_s, kE2_s, esc_sh, esc_fr, esc_bs, kEo_o, kDs_s, ap_bl, rds_nil, rds_cons, kRd1_s, kRd2_s, op1_s, op2_s, ap_asg, kT_s, kT2_s, tNm_ap, tTp_t, tTp_l, tAll_nil, tAll_cons, kTa_s, finS_nx, finS_sh, finS_fr, finS_bs, kF_o, int2_ap, ap_lc, kL1_s, kL2_s, itemsOf_l, itemsOf_t, itemsOf_r, ap_lcR, kLr1_s, own_bs, own_bp, put_bs, put_bp, ap_setIx, kI1_s, kI2_s, kI3_s, kI4_s, ap_mut, isL_l, kM1_t, kM2_s, kM3_s, kM4_s, ap_forR, kFr_s, kFr2_s, ap_for, kFo_s, kFo2_s, ap_par, kP1_s, kP2_s, fixL_nil, fixL_sh, fixL_fr, kX_s, putL_nil, putL_sh, putL_fr, part_n, part_s, kPi_s, ap_sl, partI_i, partI_n, ap_dic0, ap_dic1, kDi_s, kDi2_s, kDi3_s, keyOf_i, mCallR_eq, ap_callK, kCk_s, perm1, nodup1, ap_exc, kX1_s, List.getElem?_cons_zero, List.getElem?_cons_succ, List.set_cons_zero, List.set_cons_succ, ini, prs, dist, putB, List.all_cons, List.all_nil, Bool.and_true, Bool.true_and, if_true, if_pos, ln, gt_int, h8]
  | false =>
    cases h3 : decide ((3 : Int) < ts.length) with
    | true => exact rest 4 (.inr (.inl rfl)) fun _ => by simp only [bind_ok, bind_ex, bind_no, thn_ok, thn_ex, thn_no, lbind_ok, lthn_ok, seq_nx, seq_rt, seq_bk, seq_ct, seq_ex, seq_no, kB_t, kB_f, kS_t, kS_f, asB_bl, kR_s, kD_s, kD2_s, rd_sh, rd_fr, rd_bs, rd_bp, kCs_o, kCp_o, kCp_s, kV_s, kV_o, kV_a, kVp_o, kVp_s, ap_var, ap_c, ap_un, ap_bin, ap_and, ap_or, ap_ifE, kN_s, ap_not, kBl_ap, ap_nx, ap_seq, ap_expr, ap_ret, ap_retN, ap_if, ap_set, stor_sh, stor_fr, ap_args0, ap_args, kA1_ok, kA2_ok, ap_call, kC1_s, kC2_sh, kC2_fr, kC3_s, argC_sh, argC_fr, argC_bs, argC_bp, kAc_o, kAc_s, argCs_nil, argCs_cons, kAcs_s, kAc2_s, kEs_s, ap_tup, ap_lst, escs_nil, escs_cons, kE1_s, kE2_s, esc_sh, esc_fr, esc_bs, kEo_o, kDs_s, ap_bl, rds_nil, rds_cons, kRd1_s, kRd2_s, op1_s, op2_s, ap_asg, kT_s, kT2_s, tNm_ap, tTp_t, tTp_l, tAll_nil, tAll_cons, kTa_s, finS_nx, finS_sh, finS_fr, finS_bs, kF_o, int2_ap, ap_lc, kL1_s, kL2_s, itemsOf_l, itemsOf_t, itemsOf_r, ap_lcR, kLr1_s, own_bs, own_bp, put_bs, put_bp, ap_setIx, kI1_s, kI2_s, kI3_s, kI4_s, ap_mut, isL_l, kM1_t, kM2_s, kM3_s, kM4_s, ap_forR, kFr_s, kFr2_s, ap_for, kFo_s, kFo2_s, ap_par, kP1_s, kP2_s, fixL_nil, fixL_sh, fixL_fr, kX_s, putL_nil, putL_sh, putL_fr, part_n, part_s, kPi_s, ap_sl, partI_i, partI_n, ap_dic0, ap_dic1, kDi_s, kDi2_s, kDi3_s, keyOf_i, mCallR_eq, ap_callK, kCk_s, perm1, nodup1, ap_exc, kX1_s, List.getElem?_cons_zero, List.getElem?_cons_succ, List.set_cons_zero, List.set_cons_succ, ini, prs, dist, putB, List.all_cons, List.all_nil, Bool.and_true, Bool.true_and, if_true, if_pos, ln, gt_int, h8, h3]
    | false => exact rest 1 (.inr (.inr rfl)) fun _ => by simp only [bind_ok, bind_ex, bind_no, thn_ok, thn_ex, thn_no, lbind_ok, lthn_ok, seq_nx, seq_rt, seq_bk, seq_ct, seq_ex, seq_no, kB_t, kB_f, kS_t, kS_f, asB_bl, kR_s, kD_s, kD2_s, rd_sh, rd_fr, rd_bs, rd_bp, kCs_o, kCp_o, kCp_s, kV_s, kV_o, kV_a, kVp_o, kVp_s, ap_var, ap_c, ap_un, ap_bin, ap_and, ap_or, ap_ifE, kN_s, ap_not, kBl_ap, ap_nx, ap_seq, ap_expr, ap_ret, ap_retN, ap_if, ap_set, stor_sh, stor_fr, ap_args0, ap_args, kA1_ok, kA2_ok, ap_call, kC1_s, kC2_sh, kC2_fr, kC3_s, argC_sh, argC_fr, argC_bs, argC_bp, kAc_o, kAc_s, argCs_nil, argCs_cons, kAcs_s, kAc2_s, kEs_s, ap_tup, ap_lst, escs_nil, escs_cons, kE1_s, kE2_s, esc_sh, esc_fr, esc_bs, kEo_o, kDs_s, ap_bl, rds_nil, rds_cons, kRd1_s, kRd2_s, op1_s, op2_s, ap_asg, kT_s, kT2_s, tNm_ap, tTp_t, tTp_l, tAll_nil, tAll_cons, kTa_s, finS_nx, finS_sh, finS_fr, finS_bs, kF_o, int2_ap, ap_lc, kL1_s, kL2_s, itemsOf_l, itemsOf_t, itemsOf_r, ap_lcR, kLr1_s, own_bs, own_bp, put_bs, put_bp, ap_setIx, kI1_s, kI2_s, kI3_s, kI4_s, ap_mut, isL_l, kM1_t, kM2_s, kM3_s, kM4_s, ap_forR, kFr_s, kFr2_s, ap_for, kFo_s, kFo2_s, ap_par, kP1_s, kP2_s, fixL_nil, fixL_sh, fixL_fr, kX_s, putL_nil, putL_sh, putL_fr, part_n, part_s, kPi_s, ap_sl, partI_i, partI_n, ap_dic0, ap_dic1, kDi_s, kDi2_s, kDi3_s, keyOf_i, mCallR_eq, ap_callK, kCk_s, perm1, nodup1, ap_exc, kX1_s, List.getElem?_cons_zero, List.getElem?_cons_succ, List.set_cons_zero, List.set_cons_succ, ini, prs, dist, putB, List.all_cons, List.all_nil, Bool.and_true, Bool.true_and, if_true, if_pos, ln, gt_int, h8, h3]
theorem asked_ok {v : D} {b : Bool} (h : Sho v) : f_law_asked_right [.sh v, .sh (.bl b)] = .ret (.sh (.bl true)) [.un, .un] := by
  obtain ⟨z, ez⟩ := repr_eq h
  have st : f_law_asked_right [.sh v, .sh (.bl b)] = finS (b_law_asked_right ⟨[.sh v, .sh (.bl b), .un, .un, .un, .un], [.un, .un]⟩) := rfl
  have e1 := law_is_net_eq v
  have e2 := is_net_eq v
  have e3 := same_bl (netB v) (netB v)
  rw [beq_self_eq_true] at e3
  obtain ⟨s', e, x4, x5, rfl⟩ := for_inv (tm := tNm 4) (body := mSeq (mSet 5 (mIfE (mVar 1) (mCallK f_is_net [0] [mVar 0]) (mCall f_is_net [mVar 0]))) (mIf (mNot (mCall f_law_same [mVar 5, mVar 2])) (mRet (mC (.bl false))) (mNx))) (ds := upFrom 0 2) (I := fun k s => ∃ x4 x5, s = ⟨[.sh v, .sh (.bl b), .sh (.bl (netB v)), .sh (.str z), x4, x5], [.un, .un]⟩) 0 (s := ⟨[.sh v, .sh (.bl b), .sh (.bl (netB v)), .sh (.str z), .un, .un], [.un, .un]⟩) ⟨_, _, rfl⟩ (by
    intro k y s hy hs
    obtain ⟨x4, x5, rfl⟩ := hs
    refine ⟨⟨[.sh v, .sh (.bl b), .sh (.bl (netB v)), .sh (.str z), .sh y, x5], [.un, .un]⟩, ⟨[.sh v, .sh (.bl b), .sh (.bl (netB v)), .sh (.str z), .sh y, .sh (.bl (netB v))], [.un, .un]⟩, rfl, ?_, _, _, rfl⟩
    cases b with
    | true => simp only [bind_ok, bind_ex, bind_no, thn_ok, thn_ex, thn_no, lbind_ok, lthn_ok, seq_nx, seq_rt, seq_bk, seq_ct, seq_ex, seq_no, kB_t, kB_f, kS_t, kS_f, asB_bl, kR_s, kD_s, kD2_s, rd_sh, rd_fr, rd_bs, rd_bp, kCs_o, kCp_o, kCp_s, kV_s, kV_o, kV_a, kVp_o, kVp_s, ap_var, ap_c, ap_un, ap_bin, ap_and, ap_or, ap_ifE, kN_s, ap_not, kBl_ap, ap_nx, ap_seq, ap_expr, ap_ret, ap_retN, ap_if, ap_set, stor_sh, stor_fr, ap_args0, ap_args, kA1_ok, kA2_ok, ap_call, kC1_s, kC2_sh, kC2_fr, kC3_s, argC_sh, argC_fr, argC_bs, argC_bp, kAc_o, kAc_s, argCs_nil, argCs_cons, kAcs_s, kAc2_s, kEs_s, ap_tup, ap_lst, escs_nil, escs_cons, kE1_s, kE2_s, esc_sh, esc_fr, esc_bs, kEo_o, kDs_s, ap_bl, rds_nil, rds_cons, kRd1_s, kRd2_s, op1_s, op2_s, ap_asg, kT_s, kT2_s, tNm_ap, tTp_t, tTp_l, tAll_nil, tAll_cons, kTa_s, finS_nx, finS_sh, finS_fr, finS_bs, kF_o, int2_ap, ap_lc, kL1_s, kL2_s, itemsOf_l, itemsOf_t, itemsOf_r, ap_lcR, kLr1_s, own_bs, own_bp, put_bs, put_bp, ap_setIx, kI1_s, kI2_s, kI3_s, kI4_s, ap_mut, isL_l, kM1_t, kM2_s, kM3_s, kM4_s, ap_forR, kFr_s, kFr2_s, ap_for, kFo_s, kFo2_s, ap_par, kP1_s, kP2_s, fixL_nil, fixL_sh, fixL_fr, kX_s, putL_nil, putL_sh, putL_fr, part_n, part_s, kPi_s, ap_sl, partI_i, partI_n, ap_dic0, ap_dic1, kDi_s, kDi2_s, kDi3_s, keyOf_i, mCallR_eq, ap_callK, kCk_s, perm1, nodup1, ap_exc, kX1_s, List.getElem?_cons_zero, List.getElem?_cons_succ, List.set_cons_zero, List.set_cons_succ, ini, prs, dist, putB, List.all_cons, List.all_nil, Bool.and_true, Bool.true_and, if_true, if_pos, e2, e3, Bool.not_true]
    | false => simp only [bind_ok, bind_ex, bind_no, thn_ok, thn_ex, thn_no, lbind_ok, lthn_ok, seq_nx, seq_rt, seq_bk, seq_ct, seq_ex, seq_no, kB_t, kB_f, kS_t, kS_f, asB_bl, kR_s, kD_s, kD2_s, rd_sh, rd_fr, rd_bs, rd_bp, kCs_o, kCp_o, kCp_s, kV_s, kV_o, kV_a, kVp_o, kVp_s, ap_var, ap_c, ap_un, ap_bin, ap_and, ap_or, ap_ifE, kN_s, ap_not, kBl_ap, ap_nx, ap_seq, ap_expr, ap_ret, ap_retN, ap_if, ap_set, stor_sh, stor_fr, ap_args0, ap_args, kA1_ok, kA2_ok, ap_call, kC1_s, kC2_sh, kC2_fr, kC3_s, argC_sh, argC_fr, argC_bs, argC_bp, kAc_o, kAc_s, argCs_nil, argCs_cons, kAcs_s, kAc2_s, kEs_s, ap_tup, ap_lst, escs_nil, escs_cons, kE1_s, kE2_s, esc_sh, esc_fr, esc_bs, kEo_o, kDs_s, ap_bl, rds_nil, rds_cons, kRd1_s, kRd2_s, op1_s, op2_s, ap_asg, kT_s, kT2_s, tNm_ap, tTp_t, tTp_l, tAll_nil, tAll_cons, kTa_s, finS_nx, finS_sh, finS_fr, finS_bs, kF_o, int2_ap, ap_lc, kL1_s, kL2_s, itemsOf_l, itemsOf_t, itemsOf_r, ap_lcR, kLr1_s, own_bs, own_bp, put_bs, put_bp, ap_setIx, kI1_s, kI2_s, kI3_s, kI4_s, ap_mut, isL_l, kM1_t, kM2_s, kM3_s, kM4_s, ap_forR, kFr_s, kFr2_s, ap_for, kFo_s, kFo2_s, ap_par, kP1_s, kP2_s, fixL_nil, fixL_sh, fixL_fr, kX_s, putL_nil, putL_sh, putL_fr, part_n, part_s, kPi_s, ap_sl, partI_i, partI_n, ap_dic0, ap_dic1, kDi_s, kDi2_s, kDi3_s, keyOf_i, mCallR_eq, ap_callK, kCk_s, perm1, nodup1, ap_exc, kX1_s, List.getElem?_cons_zero, List.getElem?_cons_succ, List.set_cons_zero, List.set_cons_succ, ini, prs, dist, putB, List.all_cons, List.all_nil, Bool.and_true, Bool.true_and, if_true, if_pos, e2, e3, Bool.not_true])
  have r2 : rng1 [.int 2] = some (0, 2) := rfl
  rw [st]
  unfold b_law_asked_right
  simp only [bind_ok, bind_ex, bind_no, thn_ok, thn_ex, thn_no, lbind_ok, lthn_ok, seq_nx, seq_rt, seq_bk, seq_ct, seq_ex, seq_no, kB_t, kB_f, kS_t, kS_f, asB_bl, kR_s, kD_s, kD2_s, rd_sh, rd_fr, rd_bs, rd_bp, kCs_o, kCp_o, kCp_s, kV_s, kV_o, kV_a, kVp_o, kVp_s, ap_var, ap_c, ap_un, ap_bin, ap_and, ap_or, ap_ifE, kN_s, ap_not, kBl_ap, ap_nx, ap_seq, ap_expr, ap_ret, ap_retN, ap_if, ap_set, stor_sh, stor_fr, ap_args0, ap_args, kA1_ok, kA2_ok, ap_call, kC1_s, kC2_sh, kC2_fr, kC3_s, argC_sh, argC_fr, argC_bs, argC_bp, kAc_o, kAc_s, argCs_nil, argCs_cons, kAcs_s, kAc2_s, kEs_s, ap_tup, ap_lst, escs_nil, escs_cons, kE1_s, kE2_s, esc_sh, esc_fr, esc_bs, kEo_o, kDs_s, ap_bl, rds_nil, rds_cons, kRd1_s, kRd2_s, op1_s, op2_s, ap_asg, kT_s, kT2_s, tNm_ap, tTp_t, tTp_l, tAll_nil, tAll_cons, kTa_s, finS_nx, finS_sh, finS_fr, finS_bs, kF_o, int2_ap, ap_lc, kL1_s, kL2_s, itemsOf_l, itemsOf_t, itemsOf_r, ap_lcR, kLr1_s, own_bs, own_bp, put_bs, put_bp, ap_setIx, kI1_s, kI2_s, kI3_s, kI4_s, ap_mut, isL_l, kM1_t, kM2_s, kM3_s, kM4_s, ap_forR, kFr_s, kFr2_s, ap_for, kFo_s, kFo2_s, ap_par, kP1_s, kP2_s, fixL_nil, fixL_sh, fixL_fr, kX_s, putL_nil, putL_sh, putL_fr, part_n, part_s, kPi_s, ap_sl, partI_i, partI_n, ap_dic0, ap_dic1, kDi_s, kDi2_s, kDi3_s, keyOf_i, mCallR_eq, ap_callK, kCk_s, perm1, nodup1, ap_exc, kX1_s, List.getElem?_cons_zero, List.getElem?_cons_succ, List.set_cons_zero, List.set_cons_succ, ini, prs, dist, putB, List.all_cons, List.all_nil, Bool.and_true, Bool.true_and, if_true, if_pos, e1, ez, r2, e, eq_str]
theorem box_ok (x : Int) : ∃ d, f_law_box [.sh (.int x)] = .ret (.fr d) [.un] ∧ Box 0 d := by
  have st : f_law_box [.sh (.int x)] = finS (b_law_box ⟨[.sh (.int x)], [.un]⟩) := rfl
  obtain ⟨y, ey⟩ : ∃ y, dAbs (.int x) = some (.sh (.int y)) := ⟨_, rfl⟩
  have p18 : dPow (.int 10) (.int 18) = some (.sh (.int (10 ^ 18))) := rfl
  have md := mod_int (i := y) (j := 2147483629) (by decide)
  refine ⟨boxD y (decide (10 ^ 18 ≤ y)) (y % 2147483629) 0, ?_, y, decide (10 ^ 18 ≤ y), y % 2147483629, 0, rfl, by omega, by omega, by omega, by omega⟩
  rw [st]
  unfold b_law_box
  simp only [bind_ok,bind_ex,bind_no,thn_ok,thn_ex,thn_no,lbind_ok,lthn_ok,seq_nx,seq_rt,seq_bk,seq_ct,seq_ex,seq_no,kB_t,kB_f,kS_t,kS_f,asB_bl,kR_s,kD_s,kD2_s,rd_sh,rd_fr,rd_bs,rd_bp,kCs_o,kCp_o,kCp_s,kV_s,kV_o,kV_a,kVp_o,kVp_s,ap_var,ap_c,ap_un,ap_bin,ap_and,ap_or,ap_ifE,kN_s,ap_not,kBl_ap,ap_nx,ap_seq,ap_expr,ap_ret,ap_retN,ap_if,ap_set,stor_sh,stor_fr,ap_args0,ap_args,kA1_ok,kA2_ok,ap_call,kC1_s,kC2_sh,kC2_fr,kC3_s,argC_sh,argC_fr,argC_bs,argC_bp,kAc_o,kAc_s,argCs_nil,argCs_cons,kAcs_s,kAc2_s,kEs_s,ap_tup,ap_lst,escs_nil,escs_cons,kE1_s,kE2_s,esc_sh,esc_fr,esc_bs,kEo_o,kDs_s,ap_bl,rds_nil,rds_cons,kRd1_s,kRd2_s,op1_s,op2_s,ap_asg,kT_s,kT2_s,tNm_ap,tTp_t,tTp_l,tAll_nil,tAll_cons,kTa_s,finS_nx,finS_sh,finS_fr,finS_bs,kF_o,ap_lc,kL1_s,kL2_s,itemsOf_l,itemsOf_t,itemsOf_r,ap_lcR,kLr1_s,own_bs,own_bp,put_bs,put_bp,ap_setIx,kI1_s,kI2_s,kI3_s,kI4_s,ap_mut,isL_l,kM1_t,kM2_s,kM3_s,kM4_s,ap_forR,kFr_s,kFr2_s,ap_for,kFo_s,kFo2_s,ap_par,kP1_s,kP2_s,fixL_nil,fixL_sh,fixL_fr,kX_s,putL_nil,putL_sh,putL_fr,part_n,part_s,kPi_s,ap_sl,partI_i,partI_n,ap_dic0,ap_dic1,kDi_s,kDi2_s,kDi3_s,keyOf_i,mCallR_eq,ap_callK,kCk_s,perm1,nodup1,ap_exc,kX1_s,List.getElem?_cons_zero,List.getElem?_cons_succ,List.set_cons_zero,List.set_cons_succ,ini,prs,dist,putB,List.all_cons,List.all_nil,Bool.and_true,Bool.true_and,if_true,if_pos, ey, p18, ge_int, int_int, md]
  rfl
theorem ints_map : ∀ ns : List Int, intsOf (ns.map D.int) = some ns
  | [] => rfl
  | n :: ns => by rw [List.map_cons, intsOf, ints_map ns]
theorem cell_ok {ns : List Int} {k : Nat} (hk : k < 100) (hl : ns.length ≤ 1000) : ∃ x, f_law_cell [.sh (.rol (ns.map D.int)), .sh (.int k)] = .ret (.sh (.int x)) [.un, .un] := by
  have st : f_law_cell [.sh (.rol (ns.map D.int)), .sh (.int k)] = finS (b_law_cell ⟨[.sh (.rol (ns.map D.int)), .sh (.int k)], [.un, .un]⟩) := rfl
  have ln : dLen (.rol (ns.map D.int)) = some (.sh (.int ns.length)) := by
    show some (Rv.sh (D.int ((ns.map D.int).length : Int))) = _
    rw [List.length_map]
  cases h : decide ((k : Int) < ns.length) with
  | true =>
    have hk2 : k < ns.length := by have := of_decide_eq_true h; omega
    have hk' : k < (ns.map D.int).length := by rw [List.length_map]; exact hk2
    have ix : dIx (.rol (ns.map D.int)) (.int (k : Int)) = some (.sh (.int ns[k])) := (ix_t (ts := ns.map D.int) (i := k) (t := .int ns[k]) (by rw [List.getElem?_eq_getElem hk', List.getElem_map]))
    refine ⟨ns[k], ?_⟩
    rw [st]
    unfold b_law_cell
    simp only [bind_ok, bind_ex, bind_no, thn_ok, thn_ex, thn_no, lbind_ok, lthn_ok, seq_nx, seq_rt, seq_bk, seq_ct, seq_ex, seq_no, kB_t, kB_f, kS_t, kS_f, asB_bl, kR_s, kD_s, kD2_s, rd_sh, rd_fr, rd_bs, rd_bp, kCs_o, kCp_o, kCp_s, kV_s, kV_o, kV_a, kVp_o, kVp_s, ap_var, ap_c, ap_un, ap_bin, ap_and, ap_or, ap_ifE, kN_s, ap_not, kBl_ap, ap_nx, ap_seq, ap_expr, ap_ret, ap_retN, ap_if, ap_set, stor_sh, stor_fr, ap_args0, ap_args, kA1_ok, kA2_ok, ap_call, kC1_s, kC2_sh, kC2_fr, kC3_s, argC_sh, argC_fr, argC_bs, argC_bp, kAc_o, kAc_s, argCs_nil, argCs_cons, kAcs_s, kAc2_s, kEs_s, ap_tup, ap_lst, escs_nil, escs_cons, kE1_s, kE2_s, esc_sh, esc_fr, esc_bs, kEo_o, kDs_s, ap_bl, rds_nil, rds_cons, kRd1_s, kRd2_s, op1_s, op2_s, ap_asg, kT_s, kT2_s, tNm_ap, tTp_t, tTp_l, tAll_nil, tAll_cons, kTa_s, finS_nx, finS_sh, finS_fr, finS_bs, kF_o, int2_ap, ap_lc, kL1_s, kL2_s, itemsOf_l, itemsOf_t, itemsOf_r, ap_lcR, kLr1_s, own_bs, own_bp, put_bs, put_bp, ap_setIx, kI1_s, kI2_s, kI3_s, kI4_s, ap_mut, isL_l, kM1_t, kM2_s, kM3_s, kM4_s, ap_forR, kFr_s, kFr2_s, ap_for, kFo_s, kFo2_s, ap_par, kP1_s, kP2_s, fixL_nil, fixL_sh, fixL_fr, kX_s, putL_nil, putL_sh, putL_fr, part_n, part_s, kPi_s, ap_sl, partI_i, partI_n, ap_dic0, ap_dic1, kDi_s, kDi2_s, kDi3_s, keyOf_i, mCallR_eq, ap_callK, kCk_s, perm1, nodup1, ap_exc, kX1_s, List.getElem?_cons_zero, List.getElem?_cons_succ, List.set_cons_zero, List.set_cons_succ, ini, prs, dist, putB, List.all_cons, List.all_nil, Bool.and_true, Bool.true_and, if_true, if_pos, ln, lt_intA, h, ix]
  | false =>
    have cu : cutL (ns.map D.int) none (some 1) = (cutL ns none (some 1)).map D.int := by
      unfold cutL
      rw [List.length_map, List.map_take, List.map_drop]
    have sl : dSl (.rol (ns.map D.int)) none (some 1) = some (.fr (.lst ((cutL ns none (some 1)).map D.int))) := by
      rw [← cu]; rfl
    obtain ⟨m, em⟩ : ∃ m, dSum (.lst ((cutL ns none (some 1)).map D.int)) = some (.sh (.int m)) := by
      simp only [dSum, lItems, ints_map]
      exact ⟨_, rfl⟩
    have mu := mul_intS (i := 7919) (j := (k : Int)) (by decide) (by omega)
    have md := mod_int (i := m) (j := 1000003) (by decide)
    refine ⟨7919 * (k : Int) + m % 1000003, ?_⟩
    rw [st]
    unfold b_law_cell
    simp only [bind_ok,bind_ex,bind_no,thn_ok,thn_ex,thn_no,lbind_ok,lthn_ok,seq_nx,seq_rt,seq_bk,seq_ct,seq_ex,seq_no,kB_t,kB_f,kS_t,kS_f,asB_bl,kR_s,kD_s,kD2_s,rd_sh,rd_fr,rd_bs,rd_bp,kCs_o,kCp_o,kCp_s,kV_s,kV_o,kV_a,kVp_o,kVp_s,ap_var,ap_c,ap_un,ap_bin,ap_and,ap_or,ap_ifE,kN_s,ap_not,kBl_ap,ap_nx,ap_seq,ap_expr,ap_ret,ap_retN,ap_if,ap_set,stor_sh,stor_fr,ap_args0,ap_args,kA1_ok,kA2_ok,ap_call,kC1_s,kC2_sh,kC2_fr,kC3_s,argC_sh,argC_fr,argC_bs,argC_bp,kAc_o,kAc_s,argCs_nil,argCs_cons,kAcs_s,kAc2_s,kEs_s,ap_tup,ap_lst,escs_nil,escs_cons,kE1_s,kE2_s,esc_sh,esc_fr,esc_bs,kEo_o,kDs_s,ap_bl,rds_nil,rds_cons,kRd1_s,kRd2_s,op1_s,op2_s,ap_asg,kT_s,kT2_s,tNm_ap,tTp_t,tTp_l,tAll_nil,tAll_cons,kTa_s,finS_nx,finS_sh,finS_fr,finS_bs,kF_o,ap_lc,kL1_s,kL2_s,itemsOf_l,itemsOf_t,itemsOf_r,ap_lcR,kLr1_s,own_bs,own_bp,put_bs,put_bp,ap_setIx,kI1_s,kI2_s,kI3_s,kI4_s,ap_mut,isL_l,kM1_t,kM2_s,kM3_s,kM4_s,ap_forR,kFr_s,kFr2_s,ap_for,kFo_s,kFo2_s,ap_par,kP1_s,kP2_s,fixL_nil,fixL_sh,fixL_fr,kX_s,putL_nil,putL_sh,putL_fr,part_n,part_s,kPi_s,ap_sl,partI_i,partI_n,ap_dic0,ap_dic1,kDi_s,kDi2_s,kDi3_s,keyOf_i,mCallR_eq,ap_callK,kCk_s,perm1,nodup1,ap_exc,kX1_s,List.getElem?_cons_zero,List.getElem?_cons_succ,List.set_cons_zero,List.set_cons_succ,ini,prs,dist,putB,List.all_cons,List.all_nil,Bool.and_true,Bool.true_and,if_true,if_pos, ln, lt_intA, h, sl, em, mu, int_int, md, add_int]
end K01

set_option Elab.async false
set_option linter.all false
set_option maxRecDepth 100000
set_option maxHeartbeats 1000000
namespace K01
open PySem PySem.Spec PyProof.Rows L2 Mx
theorem netV_sho {net : D} (h : NetV net) : Sho net := by
  obtain ⟨many, ts, rfl, m1, m2, hl, ht⟩ := h
  exact sho_put (x := .non) m1 m2 (by omega) (fun u hu => .inl ((ht u hu).pu m2)) ⟨trivial, by decide, by decide, .inl rfl⟩
theorem cell_right_ok {d : D} (hb : Box 0 d) : ∃ d', f_law_cell_right [.ow d] = .ret (.sh (.bl true)) [.ow d'] := by
  have st : f_law_cell_right [.ow d] = finS (b_law_cell_right ⟨[.al 0, .un, .un, .un, .un, .un], [.ow d]⟩) := rfl
  obtain ⟨r1, d1, e1, b1, _, _⟩ := take_ok (many := 2) hb (by omega) (by decide) (by decide)
  obtain ⟨r2, d2, e2, b2, _, _⟩ := take_ok (many := 2) b1 (by omega) (by decide) (by decide)
  obtain ⟨net, d3, e3, v3, b3⟩ := law_net_ok b2 (by omega)
  obtain ⟨bs, d4, e4, g4, b4⟩ := all_ok v3 b3 (by omega)
  obtain ⟨net2, d5, e5, v5, b5⟩ := law_net_ok b4 (by omega)
  have hbl := g4.2
  have a1 : dAdd (.lst [net]) (.lst bs) = some (.fr (.lst ([net] ++ bs))) := add_lst (by simp only [List.length_cons, List.length_nil]; omega)
  have a2 : dAdd (.lst ([net] ++ bs)) (.lst [net2, net]) = some (.fr (.lst ([net] ++ bs ++ [net2, net]))) := add_lst (by simp only [List.length_append, List.length_cons, List.length_nil]; omega)
  have all : ∀ v ∈ [net] ++ bs ++ [net2, net], Sho v := by
    intro v hv
    rcases List.mem_append.mp hv with h | h
    · rcases List.mem_append.mp h with h | h
      · rw [List.mem_singleton.mp h]; exact netV_sho v3
      · exact g4.1 v h
    · rcases List.mem_cons.mp h with h | h
      · rw [h]; exact netV_sho v5
      · rw [List.mem_singleton.mp h]; exact netV_sho v3
  generalize [net] ++ bs ++ [net2, net] = vs at a2 all
  have rv : dRev (.lst vs) = some (.fr (.lst vs.reverse)) := rfl
  have lcs : ∀ ws : List D, (∀ v ∈ ws, Sho v) → lcR [5] (tNm 5) (mNot (mCall f_law_asked_right [mVar 5, mVar 1])) (mVar 5) ws ⟨[.al 0, .sh (.bl (r1 == 1)), .sh (.int r2), .sh net, .sh (.lst ws), .un], [.ow d5]⟩ = .ok (.fr (.lst [])) ⟨[.al 0, .sh (.bl (r1 == 1)), .sh (.int r2), .sh net, .sh (.lst ws), .un], [.ow d5]⟩ := by
    intro ws hw
    have lc := lc_pure (v := 5) (tt := mNot (mCall f_law_asked_right [mVar 5, mVar 1])) (elt := mVar 5) (p := fun _ => false) (gg := id) (s := ⟨[.al 0, .sh (.bl (r1 == 1)), .sh (.int r2), .sh net, .sh (.lst ws), .un], [.ow d5]⟩) (cl := .un) rfl (fun d z => by cases z) ws (fun x hx => by
      have q := asked_ok (b := (r1 == 1)) (hw x hx)
      refine ⟨?_, fun h => by cases h⟩
      simp only [bind_ok, bind_ex, bind_no, thn_ok, thn_ex, thn_no, lbind_ok, lthn_ok, seq_nx, seq_rt, seq_bk, seq_ct, seq_ex, seq_no, kB_t, kB_f, kS_t, kS_f, asB_bl, kR_s, kD_s, kD2_s, rd_sh, rd_fr, rd_bs, rd_bp, kCs_o, kCp_o, kCp_s, kV_s, kV_o, kV_a, kVp_o, kVp_s, ap_var, ap_c, ap_un, ap_bin, ap_and, ap_or, ap_ifE, kN_s, ap_not, kBl_ap, ap_nx, ap_seq, ap_expr, ap_ret, ap_retN, ap_if, ap_set, stor_sh, stor_fr, ap_args0, ap_args, kA1_ok, kA2_ok, ap_call, kC1_s, kC2_sh, kC2_fr, kC3_s, argC_sh, argC_fr, argC_bs, argC_bp, kAc_o, kAc_s, argCs_nil, argCs_cons, kAcs_s, kAc2_s, kEs_s, ap_tup, ap_lst, escs_nil, escs_cons, kE1_s, kE2_s, esc_sh, esc_fr, esc_bs, kEo_o, kDs_s, ap_bl, rds_nil, rds_cons, kRd1_s, kRd2_s, op1_s, op2_s, ap_asg, kT_s, kT2_s, tNm_ap, tTp_t, tTp_l, tAll_nil, tAll_cons, kTa_s, finS_nx, finS_sh, finS_fr, finS_bs, kF_o, int2_ap, ap_lc, kL1_s, kL2_s, itemsOf_l, itemsOf_t, itemsOf_r, ap_lcR, kLr1_s, own_bs, own_bp, put_bs, put_bp, ap_setIx, kI1_s, kI2_s, kI3_s, kI4_s, ap_mut, isL_l, kM1_t, kM2_s, kM3_s, kM4_s, ap_forR, kFr_s, kFr2_s, ap_for, kFo_s, kFo2_s, ap_par, kP1_s, kP2_s, fixL_nil, fixL_sh, fixL_fr, kX_s, putL_nil, putL_sh, putL_fr, part_n, part_s, kPi_s, ap_sl, partI_i, partI_n, ap_dic0, ap_dic1, kDi_s, kDi2_s, kDi3_s, keyOf_i, mCallR_eq, ap_callK, kCk_s, perm1, nodup1, ap_exc, kX1_s, List.getElem?_cons_zero, List.getElem?_cons_succ, List.set_cons_zero, List.set_cons_succ, ini, prs, dist, putB, List.all_cons, List.all_nil, Bool.and_true, Bool.true_and, if_true, if_pos, q, Bool.not_true])
    rw [List.filter_eq_nil_iff.mpr (fun _ _ => by decide)] at lc
    exact lc
  have nn := ne_nil []
  have x1 := is_net_eq (.exc "InvalidNet" [("given", net)])
  rw [show netB (.exc "InvalidNet" [("given", net)]) = false from rfl] at x1
  obtain ⟨many, ix⟩ : ∃ many : Int, dIx net (.int 0) = some (.sh (.int many)) := by
    obtain ⟨many, ts, rfl, _⟩ := v3
    exact ⟨many, rfl⟩
  have x2 := is_net_eq (.tup [.int many, .tup [.exc "InvalidNet" [("given", net)]]])
  have x3 : netB (.tup [.int many, .tup [.exc "InvalidNet" [("given", net)]]]) = false := by
    simp only [netB, List.all_cons, show tieB many (.exc "InvalidNet" [("given", net)]) = false from rfl, Bool.false_and, Bool.and_false]
  rw [x3] at x2
  have sm := same_bl false false
  rw [beq_self_eq_true] at sm
  cases h2 : (r2 == 1) with
  | true =>
    have lc := lcs vs.reverse fun v hv => all v (List.mem_reverse.mp hv)
    refine ⟨d5, ?_⟩
    rw [st]
    unfold b_law_cell_right
    simp only [bind_ok, bind_ex, bind_no, thn_ok, thn_ex, thn_no, lbind_ok, lthn_ok, seq_nx, seq_rt, seq_bk, seq_ct, seq_ex, seq_no, kB_t, kB_f, kS_t, kS_f, asB_bl, kR_s, kD_s, kD2_s, rd_sh, rd_fr, rd_bs, rd_bp, kCs_o, kCp_o, kCp_s, kV_s, kV_o, kV_a, kVp_o, kVp_s, ap_var, ap_c, ap_un, ap_bin, ap_and, ap_or, ap_ifE, kN_s, ap_not, kBl_ap, ap_nx, ap_seq, ap_expr, ap_ret, ap_retN, ap_if, ap_set, stor_sh, stor_fr, ap_args0, ap_args, kA1_ok, kA2_ok, ap_call, kC1_s, kC2_sh, kC2_fr, kC3_s, argC_sh, argC_fr, argC_bs, argC_bp, kAc_o, kAc_s, argCs_nil, argCs_cons, kAcs_s, kAc2_s, kEs_s, ap_tup, ap_lst, escs_nil, escs_cons, kE1_s, kE2_s, esc_sh, esc_fr, esc_bs, kEo_o, kDs_s, ap_bl, rds_nil, rds_cons, kRd1_s, kRd2_s, op1_s, op2_s, ap_asg, kT_s, kT2_s, tNm_ap, tTp_t, tTp_l, tAll_nil, tAll_cons, kTa_s, finS_nx, finS_sh, finS_fr, finS_bs, kF_o, int2_ap, ap_lc, kL1_s, kL2_s, itemsOf_l, itemsOf_t, itemsOf_r, ap_lcR, kLr1_s, own_bs, own_bp, put_bs, put_bp, ap_setIx, kI1_s, kI2_s, kI3_s, kI4_s, ap_mut, isL_l, kM1_t, kM2_s, kM3_s, kM4_s, ap_forR, kFr_s, kFr2_s, ap_for, kFo_s, kFo2_s, ap_par, kP1_s, kP2_s, fixL_nil, fixL_sh, fixL_fr, kX_s, putL_nil, putL_sh, putL_fr, part_n, part_s, kPi_s, ap_sl, partI_i, partI_n, ap_dic0, ap_dic1, kDi_s, kDi2_s, kDi3_s, keyOf_i, mCallR_eq, ap_callK, kCk_s, perm1, nodup1, ap_exc, kX1_s, List.getElem?_cons_zero, List.getElem?_cons_succ, List.set_cons_zero, List.set_cons_succ, ini, prs, dist, putB, List.all_cons, List.all_nil, Bool.and_true, Bool.true_and, if_true, if_pos, e1, e2, e3, eq_int, e4, e5, a1, a2, h2, rv, lc, nn, List.isEmpty_nil, Bool.not_true, x1, x2, sm, ix]
  | false =>
    have lc := lcs vs all
    refine ⟨d5, ?_⟩
    rw [st]
    unfold b_law_cell_right
    simp only [bind_ok, bind_ex, bind_no, thn_ok, thn_ex, thn_no, lbind_ok, lthn_ok, seq_nx, seq_rt, seq_bk, seq_ct, seq_ex, seq_no, kB_t, kB_f, kS_t, kS_f, asB_bl, kR_s, kD_s, kD2_s, rd_sh, rd_fr, rd_bs, rd_bp, kCs_o, kCp_o, kCp_s, kV_s, kV_o, kV_a, kVp_o, kVp_s, ap_var, ap_c, ap_un, ap_bin, ap_and, ap_or, ap_ifE, kN_s, ap_not, kBl_ap, ap_nx, ap_seq, ap_expr, ap_ret, ap_retN, ap_if, ap_set, stor_sh, stor_fr, ap_args0, ap_args, kA1_ok, kA2_ok, ap_call, kC1_s, kC2_sh, kC2_fr, kC3_s, argC_sh, argC_fr, argC_bs, argC_bp, kAc_o, kAc_s, argCs_nil, argCs_cons, kAcs_s, kAc2_s, kEs_s, ap_tup, ap_lst, escs_nil, escs_cons, kE1_s, kE2_s, esc_sh, esc_fr, esc_bs, kEo_o, kDs_s, ap_bl, rds_nil, rds_cons, kRd1_s, kRd2_s, op1_s, op2_s, ap_asg, kT_s, kT2_s, tNm_ap, tTp_t, tTp_l, tAll_nil, tAll_cons, kTa_s, finS_nx, finS_sh, finS_fr, finS_bs, kF_o, int2_ap, ap_lc, kL1_s, kL2_s, itemsOf_l, itemsOf_t, itemsOf_r, ap_lcR, kLr1_s, own_bs, own_bp, put_bs, put_bp, ap_setIx, kI1_s, kI2_s, kI3_s, kI4_s, ap_mut, isL_l, kM1_t, kM2_s, kM3_s, kM4_s, ap_forR, kFr_s, kFr2_s, ap_for, kFo_s, kFo2_s, ap_par, kP1_s, kP2_s, fixL_nil, fixL_sh, fixL_fr, kX_s, putL_nil, putL_sh, putL_fr, part_n, part_s, kPi_s, ap_sl, partI_i, partI_n, ap_dic0, ap_dic1, kDi_s, kDi2_s, kDi3_s, keyOf_i, mCallR_eq, ap_callK, kCk_s, perm1, nodup1, ap_exc, kX1_s, List.getElem?_cons_zero, List.getElem?_cons_succ, List.set_cons_zero, List.set_cons_succ, ini, prs, dist, putB, List.all_cons, List.all_nil, Bool.and_true, Bool.true_and, if_true, if_pos, e1, e2, e3, eq_int, e4, e5, a1, a2, h2, lc, nn, List.isEmpty_nil, Bool.not_true, x1, x2, sm, ix]
theorem law_true {ns : List Int} (hl : ns.length ≤ 63) : f_law [.sh (.rol (ns.map D.int))] = .ret (.sh (.bl true)) [.un] := by
  have st : f_law [.sh (.rol (ns.map D.int))] = finS (b_law ⟨[.sh (.rol (ns.map D.int)), .un], [.un]⟩) := rfl
  have ln : dLen (.rol (ns.map D.int)) = some (.sh (.int ns.length)) := by
    show some (Rv.sh (D.int ((ns.map D.int).length : Int))) = _
    rw [List.length_map]
  obtain ⟨q, q0, q1, e1⟩ : ∃ q : Int, 0 ≤ q ∧ q ≤ 4 ∧ dMin2 (.int 4) (.int ns.length) = some (.sh (.int q)) := ⟨if (ns.length : Int) < 4 then (ns.length : Int) else 4, by split <;> omega, by split <;> omega, rfl⟩
  obtain ⟨r, r0, r1, e2⟩ : ∃ r : Int, 2 ≤ r ∧ r ≤ 4 ∧ dMax2 (.int 2) (.int q) = some (.sh (.int r)) := ⟨if q > 2 then q else 2, by split <;> omega, by split <;> omega, rfl⟩
  have er := rng1_eq (k := r) (by omega) (by omega)
  obtain ⟨s', e, x1, rfl⟩ := for_inv (tm := tNm 1) (body := mIf (mNot (mCall f_law_cell_right [mCall f_law_box [mCall f_law_cell [mVar 0, mVar 1]]])) (mRet (mC (.bl false))) (mNx)) (ds := upFrom 0 r.toNat) (I := fun k s => ∃ x1, s = ⟨[.sh (.rol (ns.map D.int)), x1], [.un]⟩) 0 (s := ⟨[.sh (.rol (ns.map D.int)), .un], [.un]⟩) ⟨_, rfl⟩ (by
    intro k y s hy hs
    obtain ⟨hk, rfl⟩ := up_at hy
    obtain ⟨x1, rfl⟩ := hs
    obtain ⟨x, e3⟩ := cell_ok (ns := ns) (k := k) (by omega) (by omega)
    obtain ⟨d, e4, b4⟩ := box_ok x
    obtain ⟨d', e5⟩ := cell_right_ok b4
    refine ⟨⟨[.sh (.rol (ns.map D.int)), .sh (.int k)], [.un]⟩, ⟨[.sh (.rol (ns.map D.int)), .sh (.int k)], [.un]⟩, rfl, ?_, _, rfl⟩
    simp only [bind_ok, bind_ex, bind_no, thn_ok, thn_ex, thn_no, lbind_ok, lthn_ok, seq_nx, seq_rt, seq_bk, seq_ct, seq_ex, seq_no, kB_t, kB_f, kS_t, kS_f, asB_bl, kR_s, kD_s, kD2_s, rd_sh, rd_fr, rd_bs, rd_bp, kCs_o, kCp_o, kCp_s, kV_s, kV_o, kV_a, kVp_o, kVp_s, ap_var, ap_c, ap_un, ap_bin, ap_and, ap_or, ap_ifE, kN_s, ap_not, kBl_ap, ap_nx, ap_seq, ap_expr, ap_ret, ap_retN, ap_if, ap_set, stor_sh, stor_fr, ap_args0, ap_args, kA1_ok, kA2_ok, ap_call, kC1_s, kC2_sh, kC2_fr, kC3_s, argC_sh, argC_fr, argC_bs, argC_bp, kAc_o, kAc_s, argCs_nil, argCs_cons, kAcs_s, kAc2_s, kEs_s, ap_tup, ap_lst, escs_nil, escs_cons, kE1_s, kE2_s, esc_sh, esc_fr, esc_bs, kEo_o, kDs_s, ap_bl, rds_nil, rds_cons, kRd1_s, kRd2_s, op1_s, op2_s, ap_asg, kT_s, kT2_s, tNm_ap, tTp_t, tTp_l, tAll_nil, tAll_cons, kTa_s, finS_nx, finS_sh, finS_fr, finS_bs, kF_o, int2_ap, ap_lc, kL1_s, kL2_s, itemsOf_l, itemsOf_t, itemsOf_r, ap_lcR, kLr1_s, own_bs, own_bp, put_bs, put_bp, ap_setIx, kI1_s, kI2_s, kI3_s, kI4_s, ap_mut, isL_l, kM1_t, kM2_s, kM3_s, kM4_s, ap_forR, kFr_s, kFr2_s, ap_for, kFo_s, kFo2_s, ap_par, kP1_s, kP2_s, fixL_nil, fixL_sh, fixL_fr, kX_s, putL_nil, putL_sh, putL_fr, part_n, part_s, kPi_s, ap_sl, partI_i, partI_n, ap_dic0, ap_dic1, kDi_s, kDi2_s, kDi3_s, keyOf_i, mCallR_eq, ap_callK, kCk_s, perm1, nodup1, ap_exc, kX1_s, List.getElem?_cons_zero, List.getElem?_cons_succ, List.set_cons_zero, List.set_cons_succ, ini, prs, dist, putB, List.all_cons, List.all_nil, Bool.and_true, Bool.true_and, if_true, if_pos, e3, e4, e5, Bool.not_true])
  rw [st]
  unfold b_law
  simp only [bind_ok,bind_ex,bind_no,thn_ok,thn_ex,thn_no,lbind_ok,lthn_ok,seq_nx,seq_rt,seq_bk,seq_ct,seq_ex,seq_no,kB_t,kB_f,kS_t,kS_f,asB_bl,kR_s,kD_s,kD2_s,rd_sh,rd_fr,rd_bs,rd_bp,kCs_o,kCp_o,kCp_s,kV_s,kV_o,kV_a,kVp_o,kVp_s,ap_var,ap_c,ap_un,ap_bin,ap_and,ap_or,ap_ifE,kN_s,ap_not,kBl_ap,ap_nx,ap_seq,ap_expr,ap_ret,ap_retN,ap_if,ap_set,stor_sh,stor_fr,ap_args0,ap_args,kA1_ok,kA2_ok,ap_call,kC1_s,kC2_sh,kC2_fr,kC3_s,argC_sh,argC_fr,argC_bs,argC_bp,kAc_o,kAc_s,argCs_nil,argCs_cons,kAcs_s,kAc2_s,kEs_s,ap_tup,ap_lst,escs_nil,escs_cons,kE1_s,kE2_s,esc_sh,esc_fr,esc_bs,kEo_o,kDs_s,ap_bl,rds_nil,rds_cons,kRd1_s,kRd2_s,op1_s,op2_s,ap_asg,kT_s,kT2_s,tNm_ap,tTp_t,tTp_l,tAll_nil,tAll_cons,kTa_s,finS_nx,finS_sh,finS_fr,finS_bs,kF_o,ap_lc,kL1_s,kL2_s,itemsOf_l,itemsOf_t,itemsOf_r,ap_lcR,kLr1_s,own_bs,own_bp,put_bs,put_bp,ap_setIx,kI1_s,kI2_s,kI3_s,kI4_s,ap_mut,isL_l,kM1_t,kM2_s,kM3_s,kM4_s,ap_forR,kFr_s,kFr2_s,ap_for,kFo_s,kFo2_s,ap_par,kP1_s,kP2_s,fixL_nil,fixL_sh,fixL_fr,kX_s,putL_nil,putL_sh,putL_fr,part_n,part_s,kPi_s,ap_sl,partI_i,partI_n,ap_dic0,ap_dic1,kDi_s,kDi2_s,kDi3_s,keyOf_i,mCallR_eq,ap_callK,kCk_s,perm1,nodup1,ap_exc,kX1_s,List.getElem?_cons_zero,List.getElem?_cons_succ,List.set_cons_zero,List.set_cons_succ,ini,prs,dist,putB,List.all_cons,List.all_nil,Bool.and_true,Bool.true_and,if_true,if_pos, ln, e1, e2, er, e]
end K01

set_option Elab.async false
set_option linter.all false
set_option maxRecDepth 100000
set_option maxHeartbeats 4000000
namespace K01
open PySem PySem.Spec PyProof.Rows L2 Mx

def top (i : Nat) : Stmt := PySem.Challenge.pw_cutpatch_k01_nets_judged.main.body.getD i (.Pass ⟨0, 0, 0, 0⟩)
abbrev s_is_integer : Stmt := top 4
abbrev s_is_count : Stmt := top 5
abbrev s_is_within : Stmt := top 6
abbrev s_is_index : Stmt := top 7
abbrev s_is_tuple : Stmt := top 8
abbrev s_in_order : Stmt := top 9
abbrev s_is_tie : Stmt := top 13
abbrev s_is_net : Stmt := top 14
abbrev s_law_cell : Stmt := top 16
abbrev s_law_box : Stmt := top 17
abbrev s_law_take : Stmt := top 18
abbrev s_law_same : Stmt := top 19
abbrev s_law_is_int : Stmt := top 20
abbrev s_law_is_tie : Stmt := top 21
abbrev s_law_is_net : Stmt := top 22
abbrev s_law_bad_numbers : Stmt := top 23
abbrev s_law_bad_ends : Stmt := top 24
abbrev s_law_bad_ties : Stmt := top 25
abbrev s_law_bad_wholes : Stmt := top 26
abbrev s_law_put : Stmt := top 27
abbrev s_law_number : Stmt := top 28
abbrev s_law_net : Stmt := top 29
abbrev s_law_all_spoilt : Stmt := top 30
abbrev s_law_asked_right : Stmt := top 31
abbrev s_law_cell_right : Stmt := top 32
abbrev s_law : Stmt := top 33
/-- what the top has written -/
structure Tp (P : Program) (w : World) (K : PySem.W.Frag) (mg : Mg) (base : Heap) : Prop where
  b_abs : mg "abs" = none
  b_all : mg "all" = none
  b_bool : mg "bool" = none
  b_int : mg "int" = none
  b_isinstance : mg "isinstance" = none
  b_len : mg "len" = none
  b_list : mg "list" = none
  b_max : mg "max" = none
  b_min : mg "min" = none
  b_range : mg "range" = none
  b_repr : mg "repr" = none
  b_sorted : mg "sorted" = none
  b_str : mg "str" = none
  b_sum : mg "sum" = none
  b_tuple : mg "tuple" = none
  c_MOST_PLACES : ∃ t, mg "MOST_PLACES" = some (.int 20 t)
  c_MOST_TIES : ∃ t, mg "MOST_TIES" = some (.int 120 t)
  x_InvalidNet : KnX P w K mg base "InvalidNet" 1
  d_is_integer : ∃ f fd, mg "is_integer" = some (.ref f) ∧ FunD K "is_integer" "is_integer" (defArgs s_is_integer) (defBody s_is_integer) (defScope s_is_integer) [] [] f fd
  d_is_count : ∃ f fd, mg "is_count" = some (.ref f) ∧ FunD K "is_count" "is_count" (defArgs s_is_count) (defBody s_is_count) (defScope s_is_count) [] [] f fd
  d_is_within : ∃ f fd, mg "is_within" = some (.ref f) ∧ FunD K "is_within" "is_within" (defArgs s_is_within) (defBody s_is_within) (defScope s_is_within) [] [] f fd
  d_is_index : ∃ f fd, mg "is_index" = some (.ref f) ∧ FunD K "is_index" "is_index" (defArgs s_is_index) (defBody s_is_index) (defScope s_is_index) [] [] f fd
  d_is_tuple : ∃ f fd, mg "is_tuple" = some (.ref f) ∧ FunD K "is_tuple" "is_tuple" (defArgs s_is_tuple) (defBody s_is_tuple) (defScope s_is_tuple) [] [] f fd
  d_in_order : ∃ f fd, mg "in_order" = some (.ref f) ∧ FunD K "in_order" "in_order" (defArgs s_in_order) (defBody s_in_order) (defScope s_in_order) [] [] f fd
  d_is_tie : ∃ f fd, mg "is_tie" = some (.ref f) ∧ FunD K "is_tie" "is_tie" (defArgs s_is_tie) (defBody s_is_tie) (defScope s_is_tie) [] [] f fd
  d_is_net : ∃ f fd, mg "is_net" = some (.ref f) ∧ FunD K "is_net" "is_net" (defArgs s_is_net) (defBody s_is_net) (defScope s_is_net) [] [] f fd
  d_law_cell : ∃ f fd, mg "_law_cell" = some (.ref f) ∧ FunD K "_law_cell" "_law_cell" (defArgs s_law_cell) (defBody s_law_cell) (defScope s_law_cell) [] [] f fd
  d_law_box : ∃ f fd, mg "_law_box" = some (.ref f) ∧ FunD K "_law_box" "_law_box" (defArgs s_law_box) (defBody s_law_box) (defScope s_law_box) [] [] f fd
  d_law_take : ∃ f fd, mg "_law_take" = some (.ref f) ∧ FunD K "_law_take" "_law_take" (defArgs s_law_take) (defBody s_law_take) (defScope s_law_take) [] [] f fd
  d_law_same : ∃ f fd, mg "_law_same" = some (.ref f) ∧ FunD K "_law_same" "_law_same" (defArgs s_law_same) (defBody s_law_same) (defScope s_law_same) [] [] f fd
  d_law_is_int : ∃ f fd, mg "_law_is_int" = some (.ref f) ∧ FunD K "_law_is_int" "_law_is_int" (defArgs s_law_is_int) (defBody s_law_is_int) (defScope s_law_is_int) [] [] f fd
  d_law_is_tie : ∃ f fd, mg "_law_is_tie" = some (.ref f) ∧ FunD K "_law_is_tie" "_law_is_tie" (defArgs s_law_is_tie) (defBody s_law_is_tie) (defScope s_law_is_tie) [] [] f fd
  d_law_is_net : ∃ f fd, mg "_law_is_net" = some (.ref f) ∧ FunD K "_law_is_net" "_law_is_net" (defArgs s_law_is_net) (defBody s_law_is_net) (defScope s_law_is_net) [] [] f fd
  d_law_bad_numbers : ∃ f fd, mg "_law_bad_numbers" = some (.ref f) ∧ FunD K "_law_bad_numbers" "_law_bad_numbers" (defArgs s_law_bad_numbers) (defBody s_law_bad_numbers) (defScope s_law_bad_numbers) [] [] f fd
  d_law_bad_ends : ∃ f fd, mg "_law_bad_ends" = some (.ref f) ∧ FunD K "_law_bad_ends" "_law_bad_ends" (defArgs s_law_bad_ends) (defBody s_law_bad_ends) (defScope s_law_bad_ends) [] [] f fd
  d_law_bad_ties : ∃ f fd, mg "_law_bad_ties" = some (.ref f) ∧ FunD K "_law_bad_ties" "_law_bad_ties" (defArgs s_law_bad_ties) (defBody s_law_bad_ties) (defScope s_law_bad_ties) [] [] f fd
  d_law_bad_wholes : ∃ f fd, mg "_law_bad_wholes" = some (.ref f) ∧ FunD K "_law_bad_wholes" "_law_bad_wholes" (defArgs s_law_bad_wholes) (defBody s_law_bad_wholes) (defScope s_law_bad_wholes) [] [] f fd
  d_law_put : ∃ f fd, mg "_law_put" = some (.ref f) ∧ FunD K "_law_put" "_law_put" (defArgs s_law_put) (defBody s_law_put) (defScope s_law_put) [] [] f fd
  d_law_number : ∃ f fd, mg "_law_number" = some (.ref f) ∧ FunD K "_law_number" "_law_number" (defArgs s_law_number) (defBody s_law_number) (defScope s_law_number) [] [] f fd
  d_law_net : ∃ f fd, mg "_law_net" = some (.ref f) ∧ FunD K "_law_net" "_law_net" (defArgs s_law_net) (defBody s_law_net) (defScope s_law_net) [] [] f fd
  d_law_all_spoilt : ∃ f fd, mg "_law_all_spoilt" = some (.ref f) ∧ FunD K "_law_all_spoilt" "_law_all_spoilt" (defArgs s_law_all_spoilt) (defBody s_law_all_spoilt) (defScope s_law_all_spoilt) [] [] f fd
  d_law_asked_right : ∃ f fd, mg "_law_asked_right" = some (.ref f) ∧ FunD K "_law_asked_right" "_law_asked_right" (defArgs s_law_asked_right) (defBody s_law_asked_right) (defScope s_law_asked_right) [] [] f fd
  d_law_cell_right : ∃ f fd, mg "_law_cell_right" = some (.ref f) ∧ FunD K "_law_cell_right" "_law_cell_right" (defArgs s_law_cell_right) (defBody s_law_cell_right) (defScope s_law_cell_right) [] [] f fd
  d_law : ∃ f fd, mg "law" = some (.ref f) ∧ FunD K "law" "law" (defArgs s_law) (defBody s_law) (defScope s_law) [] [] f fd
variable {P : Program} {w : World} {K : PySem.W.Frag} {mg : Mg} {base : Heap}
theorem sc_is_integer : FnScope ["value"] ["value"] (defScope s_is_integer) := ⟨rfl, rfl, rfl, by decide +kernel, rfl, by decide +kernel, by decide +kernel⟩
theorem hb_is_integer (T : Tp P w K mg base) (f : Addr) : ∀ (cdv : Value) (A : Around) (outer : List Env) (s : Shared) (H : Hp) (E : XK), A.guards = some [] → Room 1 (A.deeper (envOfC "is_integer" (defScope s_is_integer) s.heap.objs.size f cdv)) → MSs (cxOf (L2.CX P w) P w K mg base ["value"] "is_integer" (defScope s_is_integer) f cdv A outer s H E) E (defBody s_is_integer) b_is_integer :=
  fun cdv A outer s H E hg hr => by
    have nd := sc_is_integer.nd; have gd : (A.deeper (envOfC "is_integer" (defScope s_is_integer) s.heap.objs.size f cdv)).guards = some [] := hg; have hr1 := hr.mono (show 1 ≤ 1 from by omega)
    exact (mss_one (ms_ret (me_and (me_isi (T := "int") (by decide) T.b_isinstance T.b_int PyProof.Rows.Boot.«int» (me_var (i := 0))) (me_one (me_not (me_isi (T := "bool") (by decide) T.b_isinstance T.b_bool PyProof.Rows.Boot.«bool» (me_var (i := 0))))))))
theorem ok_is_integer (T : Tp P w K mg base) : Kn P w K mg base "is_integer" ["value"] 2 f_is_integer := by
  obtain ⟨f, fd, hf, F⟩ := T.d_is_integer
  exact kn_mk (N := ["value"]) (ps := ["value"]) (k := 1) (body := b_is_integer) hf F sc_is_integer (fun _ _ _ _ _ _ us hl => match us, hl with | [_], _ => rfl) (hb_is_integer T f)
theorem sc_is_count : FnScope ["value"] ["value"] (defScope s_is_count) := ⟨rfl, rfl, rfl, by decide +kernel, rfl, by decide +kernel, by decide +kernel⟩
theorem hb_is_count (T : Tp P w K mg base) (f : Addr) : ∀ (cdv : Value) (A : Around) (outer : List Env) (s : Shared) (H : Hp) (E : XK), A.guards = some [] → Room 2 (A.deeper (envOfC "is_count" (defScope s_is_count) s.heap.objs.size f cdv)) → MSs (cxOf (L2.CX P w) P w K mg base ["value"] "is_count" (defScope s_is_count) f cdv A outer s H E) E (defBody s_is_count) b_is_count :=
  fun cdv A outer s H E hg hr => by
    have nd := sc_is_count.nd; have gd : (A.deeper (envOfC "is_count" (defScope s_is_count) s.heap.objs.size f cdv)).guards = some [] := hg; have hr1 := hr.mono (show 1 ≤ 2 from by omega)
    exact (mss_one (ms_ret (me_and (me_call ((ok_is_integer T).mono (by omega)) gd hr (passes_call (takes_of rfl rfl rfl rfl) (fun _ _ _ _ h => h)) (ma_cons (me_var (i := 0)) ma_nil)) (me_one (me_ge  (me_var (i := 0)) me_int)))))
theorem ok_is_count (T : Tp P w K mg base) : Kn P w K mg base "is_count" ["value"] 3 f_is_count := by
  obtain ⟨f, fd, hf, F⟩ := T.d_is_count
  exact kn_mk (N := ["value"]) (ps := ["value"]) (k := 2) (body := b_is_count) hf F sc_is_count (fun _ _ _ _ _ _ us hl => match us, hl with | [_], _ => rfl) (hb_is_count T f)
theorem sc_is_within : FnScope ["value", "low", "high"] ["value", "low", "high"] (defScope s_is_within) := ⟨rfl, rfl, rfl, by decide +kernel, rfl, by decide +kernel, by decide +kernel⟩
theorem hb_is_within (T : Tp P w K mg base) (f : Addr) : ∀ (cdv : Value) (A : Around) (outer : List Env) (s : Shared) (H : Hp) (E : XK), A.guards = some [] → Room 2 (A.deeper (envOfC "is_within" (defScope s_is_within) s.heap.objs.size f cdv)) → MSs (cxOf (L2.CX P w) P w K mg base ["value", "low", "high"] "is_within" (defScope s_is_within) f cdv A outer s H E) E (defBody s_is_within) b_is_within :=
  fun cdv A outer s H E hg hr => by
    have nd := sc_is_within.nd; have gd : (A.deeper (envOfC "is_within" (defScope s_is_within) s.heap.objs.size f cdv)).guards = some [] := hg; have hr1 := hr.mono (show 1 ≤ 2 from by omega)
    exact (mss_one (ms_ret (me_and (me_call ((ok_is_integer T).mono (by omega)) gd hr (passes_call (takes_of rfl rfl rfl rfl) (fun _ _ _ _ h => h)) (ma_cons (me_var (i := 0)) ma_nil)) (me_one (me_ch ic_le ic_le (me_var (i := 1)) (me_var (i := 0)) (me_var (i := 2)))))))
theorem ok_is_within (T : Tp P w K mg base) : Kn P w K mg base "is_within" ["value", "low", "high"] 3 f_is_within := by
  obtain ⟨f, fd, hf, F⟩ := T.d_is_within
  exact kn_mk (N := ["value", "low", "high"]) (ps := ["value", "low", "high"]) (k := 2) (body := b_is_within) hf F sc_is_within (fun _ _ _ _ _ _ us hl => match us, hl with | [_, _, _], _ => rfl) (hb_is_within T f)
theorem sc_is_index : FnScope ["value", "many"] ["value", "many"] (defScope s_is_index) := ⟨rfl, rfl, rfl, by decide +kernel, rfl, by decide +kernel, by decide +kernel⟩
theorem hb_is_index (T : Tp P w K mg base) (f : Addr) : ∀ (cdv : Value) (A : Around) (outer : List Env) (s : Shared) (H : Hp) (E : XK), A.guards = some [] → Room 2 (A.deeper (envOfC "is_index" (defScope s_is_index) s.heap.objs.size f cdv)) → MSs (cxOf (L2.CX P w) P w K mg base ["value", "many"] "is_index" (defScope s_is_index) f cdv A outer s H E) E (defBody s_is_index) b_is_index :=
  fun cdv A outer s H E hg hr => by
    have nd := sc_is_index.nd; have gd : (A.deeper (envOfC "is_index" (defScope s_is_index) s.heap.objs.size f cdv)).guards = some [] := hg; have hr1 := hr.mono (show 1 ≤ 2 from by omega)
    exact (mss_one (ms_ret (me_and (me_call ((ok_is_integer T).mono (by omega)) gd hr (passes_call (takes_of rfl rfl rfl rfl) (fun _ _ _ _ h => h)) (ma_cons (me_var (i := 0)) ma_nil)) (me_one (me_ch ic_le ic_lt me_int (me_var (i := 0)) (me_var (i := 1)))))))
theorem ok_is_index (T : Tp P w K mg base) : Kn P w K mg base "is_index" ["value", "many"] 3 f_is_index := by
  obtain ⟨f, fd, hf, F⟩ := T.d_is_index
  exact kn_mk (N := ["value", "many"]) (ps := ["value", "many"]) (k := 2) (body := b_is_index) hf F sc_is_index (fun _ _ _ _ _ _ us hl => match us, hl with | [_, _], _ => rfl) (hb_is_index T f)
theorem sc_is_tuple : FnScope ["value", "many"] ["value", "many"] (defScope s_is_tuple) := ⟨rfl, rfl, rfl, by decide +kernel, rfl, by decide +kernel, by decide +kernel⟩
theorem hb_is_tuple (T : Tp P w K mg base) (f : Addr) : ∀ (cdv : Value) (A : Around) (outer : List Env) (s : Shared) (H : Hp) (E : XK), A.guards = some [] → Room 1 (A.deeper (envOfC "is_tuple" (defScope s_is_tuple) s.heap.objs.size f cdv)) → MSs (cxOf (L2.CX P w) P w K mg base ["value", "many"] "is_tuple" (defScope s_is_tuple) f cdv A outer s H E) E (defBody s_is_tuple) b_is_tuple :=
  fun cdv A outer s H E hg hr => by
    have nd := sc_is_tuple.nd; have gd : (A.deeper (envOfC "is_tuple" (defScope s_is_tuple) s.heap.objs.size f cdv)).guards = some [] := hg; have hr1 := hr.mono (show 1 ≤ 1 from by omega)
    exact (mss_one (ms_ret (me_and (me_isi (T := "tuple") (by decide) T.b_isinstance T.b_tuple PyProof.Rows.Boot.«tuple» (me_var (i := 0))) (me_one (me_eq hr (me_len  T.b_len (me_var (i := 0))) (me_var (i := 1)))))))
theorem ok_is_tuple (T : Tp P w K mg base) : Kn P w K mg base "is_tuple" ["value", "many"] 2 f_is_tuple := by
  obtain ⟨f, fd, hf, F⟩ := T.d_is_tuple
  exact kn_mk (N := ["value", "many"]) (ps := ["value", "many"]) (k := 1) (body := b_is_tuple) hf F sc_is_tuple (fun _ _ _ _ _ _ us hl => match us, hl with | [_, _], _ => rfl) (hb_is_tuple T f)
theorem sc_in_order : FnScope ["items", "at"] ["items"] (defScope s_in_order) := ⟨rfl, rfl, rfl, by decide +kernel, rfl, by decide +kernel, by decide +kernel⟩
theorem hb_in_order (T : Tp P w K mg base) (f : Addr) : ∀ (cdv : Value) (A : Around) (outer : List Env) (s : Shared) (H : Hp) (E : XK), A.guards = some [] → Room 1 (A.deeper (envOfC "in_order" (defScope s_in_order) s.heap.objs.size f cdv)) → MSs (cxOf (L2.CX P w) P w K mg base ["items", "at"] "in_order" (defScope s_in_order) f cdv A outer s H E) E (defBody s_in_order) b_in_order :=
  fun cdv A outer s H E hg hr => by
    have nd := sc_in_order.nd; have gd : (A.deeper (envOfC "in_order" (defScope s_in_order) s.heap.objs.size f cdv)).guards = some [] := hg; have hr1 := hr.mono (show 1 ≤ 1 from by omega)
    exact (mss_one (ms_ret (me_all rfl T.b_all (me_lcR1 (own := [("at", 1)]) rfl nd T.b_range (me_sub (me_len  T.b_len (me_var (i := 0))) me_int) (by exact blkOk_by (N := ["items", "at"]) (sc := defScope s_in_order) (by decide +kernel)) (by decide) (fun _ _ _ _ _ => (mg_name (i := 1) nd)) (fun _ _ _ _ _ => mts_nil) (fun _ _ _ _ _ => (me_leA (k := 0) hr1 (me_ix (me_var (i := 0)) (me_var (i := 1))) (me_ix (me_var (i := 0)) (me_add (me_var (i := 1)) me_int))))))))
theorem ok_in_order (T : Tp P w K mg base) : Kn P w K mg base "in_order" ["items"] 2 f_in_order := by
  obtain ⟨f, fd, hf, F⟩ := T.d_in_order
  exact kn_mk (N := ["items", "at"]) (ps := ["items"]) (k := 1) (body := b_in_order) hf F sc_in_order (fun _ _ _ _ _ _ us hl => match us, hl with | [_], _ => rfl) (hb_in_order T f)
theorem sc_is_tie : FnScope ["many", "value", "a", "b", "room", "price"] ["many", "value"] (defScope s_is_tie) := ⟨rfl, rfl, rfl, by decide +kernel, rfl, by decide +kernel, by decide +kernel⟩
theorem hb_is_tie (T : Tp P w K mg base) (f : Addr) : ∀ (cdv : Value) (A : Around) (outer : List Env) (s : Shared) (H : Hp) (E : XK), A.guards = some [] → Room 3 (A.deeper (envOfC "is_tie" (defScope s_is_tie) s.heap.objs.size f cdv)) → MSs (cxOf (L2.CX P w) P w K mg base ["many", "value", "a", "b", "room", "price"] "is_tie" (defScope s_is_tie) f cdv A outer s H E) E (defBody s_is_tie) b_is_tie :=
  fun cdv A outer s H E hg hr => by
    have nd := sc_is_tie.nd; have gd : (A.deeper (envOfC "is_tie" (defScope s_is_tie) s.heap.objs.size f cdv)).guards = some [] := hg; have hr1 := hr.mono (show 1 ≤ 3 from by omega)
    exact (mss_cons (ms_if (PW.pt (mw_or (mt_not (mt_val (me_call ((ok_is_tuple T).mono (by omega)) gd hr (passes_call (takes_of rfl rfl rfl rfl) (fun _ _ _ _ h => h)) (ma_cons (me_var (i := 1)) (ma_cons me_int ma_nil))))) (mw_or (mt_not (mt_val (me_call ((ok_is_index T).mono (by omega)) gd hr (passes_call (takes_of rfl rfl rfl rfl) (fun _ _ _ _ h => h)) (ma_cons (me_ix (me_var (i := 1)) me_int) (ma_cons (me_var (i := 0)) ma_nil))))) (mw_or1 (mt_not (mt_val (me_call ((ok_is_index T).mono (by omega)) gd hr (passes_call (takes_of rfl rfl rfl rfl) (fun _ _ _ _ h => h)) (ma_cons (me_ix (me_var (i := 1)) me_int) (ma_cons (me_var (i := 0)) ma_nil))))))))) (mss_one (ms_ret me_bl)) mss_nil) (mss_cons (ms_asg (me_var (i := 1)) (mg_tup rfl (mgs_cons (mg_name (i := 2) nd) (mgs_cons (mg_name (i := 3) nd) (mgs_cons (mg_name (i := 4) nd) (mgs_cons (mg_name (i := 5) nd) mgs_nil)))))) (mss_one (ms_ret (me_and (me_ne hr (me_var (i := 2)) (me_var (i := 3))) (me_and (me_call ((ok_is_count T).mono (by omega)) gd hr (passes_call (takes_of rfl rfl rfl rfl) (fun _ _ _ _ h => h)) (ma_cons (me_var (i := 4)) ma_nil)) (me_and (me_gt  (me_var (i := 4)) me_int) (me_one (me_call ((ok_is_count T).mono (by omega)) gd hr (passes_call (takes_of rfl rfl rfl rfl) (fun _ _ _ _ h => h)) (ma_cons (me_var (i := 5)) ma_nil))))))))))
theorem ok_is_tie (T : Tp P w K mg base) : Kn P w K mg base "is_tie" ["many", "value"] 4 f_is_tie := by
  obtain ⟨f, fd, hf, F⟩ := T.d_is_tie
  exact kn_mk (N := ["many", "value", "a", "b", "room", "price"]) (ps := ["many", "value"]) (k := 3) (body := b_is_tie) hf F sc_is_tie (fun _ _ _ _ _ _ us hl => match us, hl with | [_, _], _ => rfl) (hb_is_tie T f)
theorem sc_is_net : FnScope ["value", "many", "ties", "tie"] ["value"] (defScope s_is_net) := ⟨rfl, rfl, rfl, by decide +kernel, rfl, by decide +kernel, by decide +kernel⟩
theorem hb_is_net (T : Tp P w K mg base) (f : Addr) : ∀ (cdv : Value) (A : Around) (outer : List Env) (s : Shared) (H : Hp) (E : XK), A.guards = some [] → Room 4 (A.deeper (envOfC "is_net" (defScope s_is_net) s.heap.objs.size f cdv)) → MSs (cxOf (L2.CX P w) P w K mg base ["value", "many", "ties", "tie"] "is_net" (defScope s_is_net) f cdv A outer s H E) E (defBody s_is_net) b_is_net :=
  fun cdv A outer s H E hg hr => by
    have nd := sc_is_net.nd; have gd : (A.deeper (envOfC "is_net" (defScope s_is_net) s.heap.objs.size f cdv)).guards = some [] := hg; have hr1 := hr.mono (show 1 ≤ 4 from by omega)
    exact (mss_cons (ms_if (PW.pt (mw_or (mt_not (mt_val (me_call ((ok_is_tuple T).mono (by omega)) gd hr (passes_call (takes_of rfl rfl rfl rfl) (fun _ _ _ _ h => h)) (ma_cons (me_var (i := 0)) (ma_cons me_int ma_nil))))) (mw_or1 (mt_not (mt_val (me_call ((ok_is_within T).mono (by omega)) gd hr (passes_call (takes_of rfl rfl rfl rfl) (fun _ _ _ _ h => h)) (ma_cons (me_ix (me_var (i := 0)) me_int) (ma_cons me_int (ma_cons (me_glob (v := .int 20) rfl (T.c_MOST_PLACES.choose_spec) ⟨_, rfl⟩ (fun G => by simp only [Rep])) ma_nil))))))))) (mss_one (ms_ret me_bl)) mss_nil) (mss_cons (ms_asg (me_var (i := 0)) (mg_tup rfl (mgs_cons (mg_name (i := 1) nd) (mgs_cons (mg_name (i := 2) nd) mgs_nil)))) (mss_cons (ms_if (PW.pt (mw_or (mt_not (mt_val (me_isi (T := "tuple") (by decide) T.b_isinstance T.b_tuple PyProof.Rows.Boot.«tuple» (me_var (i := 2))))) (mw_or1 (mt_gt  (me_len  T.b_len (me_var (i := 2))) (me_glob (v := .int 120) rfl (T.c_MOST_TIES.choose_spec) ⟨_, rfl⟩ (fun G => by simp only [Rep])))))) (mss_one (ms_ret me_bl)) mss_nil) (mss_one (ms_ret (me_and (me_all rfl T.b_all (me_lc (own := [("tie", 3)]) rfl nd (me_var (i := 2)) (by exact blkOk_by (N := ["value", "many", "ties", "tie"]) (sc := defScope s_is_net) (by decide +kernel)) (by decide) (fun _ _ _ _ _ => (mg_name (i := 3) nd)) (fun _ _ _ _ _ => mts_nil) (fun _ _ _ _ _ => (me_call ((ok_is_tie T).mono (by omega)) gd hr (passL) (ma_cons (me_var (i := 1)) (ma_cons (me_var (i := 3)) ma_nil)))))) (me_one (me_call ((ok_in_order T).mono (by omega)) gd hr (passes_call (takes_of rfl rfl rfl rfl) (fun _ _ _ _ h => h)) (ma_cons (me_var (i := 2)) ma_nil)))))))))
theorem ok_is_net (T : Tp P w K mg base) : Kn P w K mg base "is_net" ["value"] 5 f_is_net := by
  obtain ⟨f, fd, hf, F⟩ := T.d_is_net
  exact kn_mk (N := ["value", "many", "ties", "tie"]) (ps := ["value"]) (k := 4) (body := b_is_net) hf F sc_is_net (fun _ _ _ _ _ _ us hl => match us, hl with | [_], _ => rfl) (hb_is_net T f)
theorem okK_is_net_value (T : Tp P w K mg base) : KnK P w K mg base "is_net" ["value"] ["value"] [0] 5 f_is_net := by
  obtain ⟨f, fd, hf, F⟩ := T.d_is_net
  refine knK_mk (N := ["value", "many", "ties", "tie"]) (ps := ["value"]) (k := 4) (body := b_is_net) hf F sc_is_net (fun _ _ _ _ _ _ us ws hl hp => ?_) (hb_is_net T f)
  match ws, hl, hp with
  | [_], _, hp => cases hp; rfl
theorem sc_law_cell : FnScope ["script", "k"] ["script", "k"] (defScope s_law_cell) := ⟨rfl, rfl, rfl, by decide +kernel, rfl, by decide +kernel, by decide +kernel⟩
theorem hb_law_cell (T : Tp P w K mg base) (f : Addr) : ∀ (cdv : Value) (A : Around) (outer : List Env) (s : Shared) (H : Hp) (E : XK), A.guards = some [] → Room 1 (A.deeper (envOfC "_law_cell" (defScope s_law_cell) s.heap.objs.size f cdv)) → MSs (cxOf (L2.CX P w) P w K mg base ["script", "k"] "_law_cell" (defScope s_law_cell) f cdv A outer s H E) E (defBody s_law_cell) b_law_cell :=
  fun cdv A outer s H E hg hr => by
    have nd := sc_law_cell.nd; have gd : (A.deeper (envOfC "_law_cell" (defScope s_law_cell) s.heap.objs.size f cdv)).guards = some [] := hg; have hr1 := hr.mono (show 1 ≤ 1 from by omega)
    exact (mss_one (ms_ret (me_ifE (mt_ltA (k := 0) hr1 (me_var (i := 1)) (me_len  T.b_len (me_var (i := 0)))) (me_ix (me_var (i := 0)) (me_var (i := 1))) (me_add (me_mul me_int (me_var (i := 1))) (me_mod (me_intC  T.b_int (me_sum rfl T.b_sum (me_sl (me_var (i := 0)) trivial me_int))) me_int)))))
theorem ok_law_cell (T : Tp P w K mg base) : Kn P w K mg base "_law_cell" ["script", "k"] 2 f_law_cell := by
  obtain ⟨f, fd, hf, F⟩ := T.d_law_cell
  exact kn_mk (N := ["script", "k"]) (ps := ["script", "k"]) (k := 1) (body := b_law_cell) hf F sc_law_cell (fun _ _ _ _ _ _ us hl => match us, hl with | [_, _], _ => rfl) (hb_law_cell T f)
theorem sc_law_box : FnScope ["great"] ["great"] (defScope s_law_box) := ⟨rfl, rfl, rfl, by decide +kernel, rfl, by decide +kernel, by decide +kernel⟩
theorem hb_law_box (T : Tp P w K mg base) (f : Addr) : ∀ (cdv : Value) (A : Around) (outer : List Env) (s : Shared) (H : Hp) (E : XK), A.guards = some [] → Room 1 (A.deeper (envOfC "_law_box" (defScope s_law_box) s.heap.objs.size f cdv)) → MSs (cxOf (L2.CX P w) P w K mg base ["great"] "_law_box" (defScope s_law_box) f cdv A outer s H E) E (defBody s_law_box) b_law_box :=
  fun cdv A outer s H E hg hr => by
    have nd := sc_law_box.nd; have gd : (A.deeper (envOfC "_law_box" (defScope s_law_box) s.heap.objs.size f cdv)).guards = some [] := hg; have hr1 := hr.mono (show 1 ≤ 1 from by omega)
    exact (mss_one (ms_ret (me_lst (ma_cons (me_abs  T.b_abs (me_var (i := 0))) (ma_cons (me_ge  (me_abs  T.b_abs (me_var (i := 0))) (me_pow me_int me_int)) (ma_cons (me_mod (me_intC  T.b_int (me_abs  T.b_abs (me_var (i := 0)))) me_int) (ma_cons me_int ma_nil)))))))
theorem ok_law_box (T : Tp P w K mg base) : Kn P w K mg base "_law_box" ["great"] 2 f_law_box := by
  obtain ⟨f, fd, hf, F⟩ := T.d_law_box
  exact kn_mk (N := ["great"]) (ps := ["great"]) (k := 1) (body := b_law_box) hf F sc_law_box (fun _ _ _ _ _ _ us hl => match us, hl with | [_], _ => rfl) (hb_law_box T f)
theorem sc_law_take : FnScope ["box", "many", "digit", "mixed"] ["box", "many"] (defScope s_law_take) := ⟨rfl, rfl, rfl, by decide +kernel, rfl, by decide +kernel, by decide +kernel⟩
theorem hb_law_take (T : Tp P w K mg base) (f : Addr) : ∀ (cdv : Value) (A : Around) (outer : List Env) (s : Shared) (H : Hp) (E : XK), A.guards = some [] → Room 1 (A.deeper (envOfC "_law_take" (defScope s_law_take) s.heap.objs.size f cdv)) → MSs (cxOf (L2.CX P w) P w K mg base ["box", "many", "digit", "mixed"] "_law_take" (defScope s_law_take) f cdv A outer s H E) E (defBody s_law_take) b_law_take :=
  fun cdv A outer s H E hg hr => by
    have nd := sc_law_take.nd; have gd : (A.deeper (envOfC "_law_take" (defScope s_law_take) s.heap.objs.size f cdv)).guards = some [] := hg; have hr1 := hr.mono (show 1 ≤ 1 from by omega)
    exact (mss_cons (ms_if (PW.pt (mw_and (mt_val (me_ix (me_var (i := 0)) me_int)) (mw_and1 (mt_gt  (me_ix (me_var (i := 0)) me_int) me_int)))) (mss_cons (ms_set (i := 2) nd (me_mod (me_intC  T.b_int (me_ix (me_var (i := 0)) me_int)) (me_var (i := 1)))) (mss_cons (ms_setIx (me_fdiv (me_ix (me_var (i := 0)) me_int) (me_var (i := 1))) (me_var (i := 0)) me_int) (mss_one (ms_ret (me_var (i := 2)))))) mss_nil) (mss_cons (ms_setIx (me_add (me_ix (me_var (i := 0)) me_int) me_int) (me_var (i := 0)) me_int) (mss_cons (ms_set (i := 3) nd (me_mod (me_intC  T.b_int (me_pow (me_add (me_add (me_ix (me_var (i := 0)) me_int) (me_mul me_int (me_ix (me_var (i := 0)) me_int))) me_int) me_int)) me_int)) (mss_one (ms_ret (me_mod (me_intC  T.b_int (me_fdiv (me_mod (me_intC  T.b_int (me_pow (me_add (me_mul (me_var (i := 3)) me_int) (me_mul me_int (me_ix (me_var (i := 0)) me_int))) me_int)) me_int) me_int)) (me_var (i := 1))))))))
theorem ok_law_take (T : Tp P w K mg base) : Kn P w K mg base "_law_take" ["box", "many"] 2 f_law_take := by
  obtain ⟨f, fd, hf, F⟩ := T.d_law_take
  exact kn_mk (N := ["box", "many", "digit", "mixed"]) (ps := ["box", "many"]) (k := 1) (body := b_law_take) hf F sc_law_take (fun _ _ _ _ _ _ us hl => match us, hl with | [_, _], _ => rfl) (hb_law_take T f)
theorem sc_law_same : FnScope ["given", "due", "k"] ["given", "due"] (defScope s_law_same) := ⟨rfl, rfl, rfl, by decide +kernel, rfl, by decide +kernel, by decide +kernel⟩
theorem hb_law_same (T : Tp P w K mg base) (f : Addr) (k : Nat) (hk : 1 ≤ k) (R : Fn) (hR : Kn P w K mg base "_law_same" ["given", "due"] k R) : ∀ (cdv : Value) (A : Around) (outer : List Env) (s : Shared) (H : Hp) (E : XK), A.guards = some [] → Room k (A.deeper (envOfC "_law_same" (defScope s_law_same) s.heap.objs.size f cdv)) → MSs (cxOf (L2.CX P w) P w K mg base ["given", "due", "k"] "_law_same" (defScope s_law_same) f cdv A outer s H E) E (defBody s_law_same) (b_law_same R) :=
  fun cdv A outer s H E hg hr => by
    have nd := sc_law_same.nd; have gd : (A.deeper (envOfC "_law_same" (defScope s_law_same) s.heap.objs.size f cdv)).guards = some [] := hg; have hr1 := hr.mono (show 1 ≤ k from by omega)
    exact (mss_cons (ms_if (PW.pt (mw_or (mt_is  (me_var (i := 1)) me_non) (mw_or1 (mt_val (me_isi (T := "bool") (by decide) T.b_isinstance T.b_bool PyProof.Rows.Boot.«bool» (me_var (i := 1))))))) (mss_one (ms_ret (me_ifE (mt_is  (me_var (i := 1)) me_non) (me_is  (me_var (i := 0)) me_non) (me_and (me_isi (T := "bool") (by decide) T.b_isinstance T.b_bool PyProof.Rows.Boot.«bool» (me_var (i := 0))) (me_one (me_eq hr (me_is  (me_var (i := 0)) me_bl) (me_is  (me_var (i := 1)) me_bl))))))) mss_nil) (mss_cons (ms_if (mt_val (me_isi (T := "int") (by decide) T.b_isinstance T.b_int PyProof.Rows.Boot.«int» (me_var (i := 1)))) (mss_one (ms_ret (me_and (me_isi (T := "int") (by decide) T.b_isinstance T.b_int PyProof.Rows.Boot.«int» (me_var (i := 0))) (me_and (me_not (me_isi (T := "bool") (by decide) T.b_isinstance T.b_bool PyProof.Rows.Boot.«bool» (me_var (i := 0)))) (me_one (me_eq hr (me_sub (me_intC  T.b_int (me_var (i := 0))) (me_var (i := 1))) me_int)))))) mss_nil) (mss_cons (ms_if (mt_val (me_isi (T := "str") (by decide) T.b_isinstance T.b_str PyProof.Rows.Boot.«str» (me_var (i := 1)))) (mss_one (ms_ret (me_and (me_isi (T := "str") (by decide) T.b_isinstance T.b_str PyProof.Rows.Boot.«str» (me_var (i := 0))) (me_and (me_eq hr (me_len  T.b_len (me_var (i := 0))) (me_len  T.b_len (me_var (i := 1)))) (me_one (me_eq hr (me_lcR1 (own := [("k", 2)]) rfl nd T.b_range (me_len  T.b_len (me_var (i := 1))) (by exact blkOk_by (N := ["given", "due", "k"]) (sc := defScope s_law_same) (by decide +kernel)) (by decide) (fun _ _ _ _ _ => (mg_name (i := 2) nd)) (fun _ _ _ _ _ => (mts_one (mt_ne hr (me_sl (me_var (i := 0)) (me_var (i := 2)) (me_add (me_var (i := 2)) me_int)) (me_ix (me_var (i := 1)) (me_var (i := 2)))))) (fun _ _ _ _ _ => (me_var (i := 2)))) (me_lst ma_nil))))))) mss_nil) (mss_cons (ms_if (PW.pt (mw_or (mt_ne hr (me_isi (T := "list") (by decide) T.b_isinstance T.b_list PyProof.Rows.Boot.«list» (me_var (i := 0))) (me_isi (T := "list") (by decide) T.b_isinstance T.b_list PyProof.Rows.Boot.«list» (me_var (i := 1)))) (mw_or1 (mt_ne hr (me_isi (T := "tuple") (by decide) T.b_isinstance T.b_tuple PyProof.Rows.Boot.«tuple» (me_var (i := 0))) (me_isi (T := "tuple") (by decide) T.b_isinstance T.b_tuple PyProof.Rows.Boot.«tuple» (me_var (i := 1))))))) (mss_one (ms_ret me_bl)) mss_nil) (mss_one (ms_ret (me_and (me_eq hr (me_len  T.b_len (me_var (i := 0))) (me_len  T.b_len (me_var (i := 1)))) (me_one (me_eq hr (me_lcR1 (own := [("k", 2)]) rfl nd T.b_range (me_len  T.b_len (me_var (i := 1))) (by exact blkOk_by (N := ["given", "due", "k"]) (sc := defScope s_law_same) (by decide +kernel)) (by decide) (fun _ _ _ _ _ => (mg_name (i := 2) nd)) (fun _ _ _ _ _ => (mts_one (mt_not (mt_val (me_call hR gd hr (passL) (ma_cons (me_ix (me_var (i := 0)) (me_var (i := 2))) (ma_cons (me_ix (me_var (i := 1)) (me_var (i := 2))) ma_nil))))))) (fun _ _ _ _ _ => (me_var (i := 2)))) (me_lst ma_nil))))))))))
theorem on_law_same (T : Tp P w K mg base) : ∀ n, Kn P w K mg base "_law_same" ["given", "due"] (1 + n) (n_law_same n)
  | 0 => by
    obtain ⟨f, fd, hf, F⟩ := T.d_law_same
    exact kn_no hf F (fun _ _ _ _ _ _ us hl => match us, hl with | [_, _], _ => rfl)
  | n + 1 => by
    have ih := on_law_same T n
    obtain ⟨f, fd, hf, F⟩ := T.d_law_same
    exact kn_mk (N := ["given", "due", "k"]) (ps := ["given", "due"]) (k := 1 + n) (body := b_law_same (n_law_same n)) hf F sc_law_same (fun _ _ _ _ _ _ us hl => match us, hl with | [_, _], _ => rfl) (hb_law_same T f _ (by omega) _ ih)
theorem ok_law_same (T : Tp P w K mg base) : Kn P w K mg base "_law_same" ["given", "due"] 2 f_law_same := on_law_same T 1
theorem sc_law_is_int : FnScope ["value"] ["value"] (defScope s_law_is_int) := ⟨rfl, rfl, rfl, by decide +kernel, rfl, by decide +kernel, by decide +kernel⟩
theorem hb_law_is_int (T : Tp P w K mg base) (f : Addr) : ∀ (cdv : Value) (A : Around) (outer : List Env) (s : Shared) (H : Hp) (E : XK), A.guards = some [] → Room 1 (A.deeper (envOfC "_law_is_int" (defScope s_law_is_int) s.heap.objs.size f cdv)) → MSs (cxOf (L2.CX P w) P w K mg base ["value"] "_law_is_int" (defScope s_law_is_int) f cdv A outer s H E) E (defBody s_law_is_int) b_law_is_int :=
  fun cdv A outer s H E hg hr => by
    have nd := sc_law_is_int.nd; have gd : (A.deeper (envOfC "_law_is_int" (defScope s_law_is_int) s.heap.objs.size f cdv)).guards = some [] := hg; have hr1 := hr.mono (show 1 ≤ 1 from by omega)
    exact (mss_one (ms_ret (me_and (me_isi (T := "int") (by decide) T.b_isinstance T.b_int PyProof.Rows.Boot.«int» (me_var (i := 0))) (me_one (me_not (me_isi (T := "bool") (by decide) T.b_isinstance T.b_bool PyProof.Rows.Boot.«bool» (me_var (i := 0))))))))
theorem ok_law_is_int (T : Tp P w K mg base) : Kn P w K mg base "_law_is_int" ["value"] 2 f_law_is_int := by
  obtain ⟨f, fd, hf, F⟩ := T.d_law_is_int
  exact kn_mk (N := ["value"]) (ps := ["value"]) (k := 1) (body := b_law_is_int) hf F sc_law_is_int (fun _ _ _ _ _ _ us hl => match us, hl with | [_], _ => rfl) (hb_law_is_int T f)
theorem sc_law_is_tie : FnScope ["value", "many", "item", "a", "b", "room", "price"] ["value", "many"] (defScope s_law_is_tie) := ⟨rfl, rfl, rfl, by decide +kernel, rfl, by decide +kernel, by decide +kernel⟩
theorem hb_law_is_tie (T : Tp P w K mg base) (f : Addr) : ∀ (cdv : Value) (A : Around) (outer : List Env) (s : Shared) (H : Hp) (E : XK), A.guards = some [] → Room 2 (A.deeper (envOfC "_law_is_tie" (defScope s_law_is_tie) s.heap.objs.size f cdv)) → MSs (cxOf (L2.CX P w) P w K mg base ["value", "many", "item", "a", "b", "room", "price"] "_law_is_tie" (defScope s_law_is_tie) f cdv A outer s H E) E (defBody s_law_is_tie) b_law_is_tie :=
  fun cdv A outer s H E hg hr => by
    have nd := sc_law_is_tie.nd; have gd : (A.deeper (envOfC "_law_is_tie" (defScope s_law_is_tie) s.heap.objs.size f cdv)).guards = some [] := hg; have hr1 := hr.mono (show 1 ≤ 2 from by omega)
    exact (mss_cons (ms_if (PW.pt (mw_or (mt_not (mt_val (me_isi (T := "tuple") (by decide) T.b_isinstance T.b_tuple PyProof.Rows.Boot.«tuple» (me_var (i := 0))))) (mw_or (mt_ne hr (me_len  T.b_len (me_var (i := 0))) me_int) (mw_or1 (mt_ne hr (me_lc (own := [("item", 2)]) rfl nd (me_var (i := 0)) (by exact blkOk_by (N := ["value", "many", "item", "a", "b", "room", "price"]) (sc := defScope s_law_is_tie) (by decide +kernel)) (by decide) (fun _ _ _ _ _ => (mg_name (i := 2) nd)) (fun _ _ _ _ _ => (mts_one (mt_not (mt_val (me_call ((ok_law_is_int T).mono (by omega)) gd hr (passL) (ma_cons (me_var (i := 2)) ma_nil)))))) (fun _ _ _ _ _ => (me_var (i := 2)))) (me_lst ma_nil)))))) (mss_one (ms_ret me_bl)) mss_nil) (mss_cons (ms_asg (me_var (i := 0)) (mg_tup rfl (mgs_cons (mg_name (i := 3) nd) (mgs_cons (mg_name (i := 4) nd) (mgs_cons (mg_name (i := 5) nd) (mgs_cons (mg_name (i := 6) nd) mgs_nil)))))) (mss_one (ms_ret (me_and (me_ch ic_le ic_lt me_int (me_var (i := 3)) (me_var (i := 1))) (me_and (me_ch ic_le ic_lt me_int (me_var (i := 4)) (me_var (i := 1))) (me_and (me_ne hr (me_var (i := 3)) (me_var (i := 4))) (me_and (me_gt  (me_var (i := 5)) me_int) (me_one (me_ge  (me_var (i := 6)) me_int))))))))))
theorem ok_law_is_tie (T : Tp P w K mg base) : Kn P w K mg base "_law_is_tie" ["value", "many"] 3 f_law_is_tie := by
  obtain ⟨f, fd, hf, F⟩ := T.d_law_is_tie
  exact kn_mk (N := ["value", "many", "item", "a", "b", "room", "price"]) (ps := ["value", "many"]) (k := 2) (body := b_law_is_tie) hf F sc_law_is_tie (fun _ _ _ _ _ _ us hl => match us, hl with | [_, _], _ => rfl) (hb_law_is_tie T f)
theorem sc_law_is_net : FnScope ["value", "many", "ties", "tie", "k"] ["value"] (defScope s_law_is_net) := ⟨rfl, rfl, rfl, by decide +kernel, rfl, by decide +kernel, by decide +kernel⟩
theorem hb_law_is_net (T : Tp P w K mg base) (f : Addr) : ∀ (cdv : Value) (A : Around) (outer : List Env) (s : Shared) (H : Hp) (E : XK), A.guards = some [] → Room 3 (A.deeper (envOfC "_law_is_net" (defScope s_law_is_net) s.heap.objs.size f cdv)) → MSs (cxOf (L2.CX P w) P w K mg base ["value", "many", "ties", "tie", "k"] "_law_is_net" (defScope s_law_is_net) f cdv A outer s H E) E (defBody s_law_is_net) b_law_is_net :=
  fun cdv A outer s H E hg hr => by
    have nd := sc_law_is_net.nd; have gd : (A.deeper (envOfC "_law_is_net" (defScope s_law_is_net) s.heap.objs.size f cdv)).guards = some [] := hg; have hr1 := hr.mono (show 1 ≤ 3 from by omega)
    exact (mss_cons (ms_if (PW.pt (mw_or (mt_not (mt_val (me_isi (T := "tuple") (by decide) T.b_isinstance T.b_tuple PyProof.Rows.Boot.«tuple» (me_var (i := 0))))) (mw_or (mt_ne hr (me_len  T.b_len (me_var (i := 0))) me_int) (mw_or (mt_not (mt_val (me_call ((ok_law_is_int T).mono (by omega)) gd hr (passes_call (takes_of rfl rfl rfl rfl) (fun _ _ _ _ h => h)) (ma_cons (me_ix (me_var (i := 0)) me_int) ma_nil)))) (mw_or1 (mt_not (mt_ch ic_le ic_le me_int (me_ix (me_var (i := 0)) me_int) me_int))))))) (mss_one (ms_ret me_bl)) mss_nil) (mss_cons (ms_asg (me_var (i := 0)) (mg_tup rfl (mgs_cons (mg_name (i := 1) nd) (mgs_cons (mg_name (i := 2) nd) mgs_nil)))) (mss_cons (ms_if (PW.pt (mw_or (mt_not (mt_val (me_isi (T := "tuple") (by decide) T.b_isinstance T.b_tuple PyProof.Rows.Boot.«tuple» (me_var (i := 2))))) (mw_or (mt_gt  (me_len  T.b_len (me_var (i := 2))) me_int) (mw_or1 (mt_ne hr (me_lc (own := [("tie", 3)]) rfl nd (me_var (i := 2)) (by exact blkOk_by (N := ["value", "many", "ties", "tie", "k"]) (sc := defScope s_law_is_net) (by decide +kernel)) (by decide) (fun _ _ _ _ _ => (mg_name (i := 3) nd)) (fun _ _ _ _ _ => (mts_one (mt_not (mt_val (me_call ((ok_law_is_tie T).mono (by omega)) gd hr (passL) (ma_cons (me_var (i := 3)) (ma_cons (me_var (i := 1)) ma_nil))))))) (fun _ _ _ _ _ => (me_var (i := 3)))) (me_lst ma_nil)))))) (mss_one (ms_ret me_bl)) mss_nil) (mss_one (ms_ret (me_eq hr (me_lcR1 (own := [("k", 4)]) rfl nd T.b_range (me_sub (me_len  T.b_len (me_var (i := 2))) me_int) (by exact blkOk_by (N := ["value", "many", "ties", "tie", "k"]) (sc := defScope s_law_is_net) (by decide +kernel)) (by decide) (fun _ _ _ _ _ => (mg_name (i := 4) nd)) (fun _ _ _ _ _ => (mts_one (mt_ltA (k := 0) hr1 (me_ix (me_var (i := 2)) (me_add (me_var (i := 4)) me_int)) (me_ix (me_var (i := 2)) (me_var (i := 4)))))) (fun _ _ _ _ _ => (me_var (i := 4)))) (me_lst ma_nil)))))))
theorem ok_law_is_net (T : Tp P w K mg base) : Kn P w K mg base "_law_is_net" ["value"] 4 f_law_is_net := by
  obtain ⟨f, fd, hf, F⟩ := T.d_law_is_net
  exact kn_mk (N := ["value", "many", "ties", "tie", "k"]) (ps := ["value"]) (k := 3) (body := b_law_is_net) hf F sc_law_is_net (fun _ _ _ _ _ _ us hl => match us, hl with | [_], _ => rfl) (hb_law_is_net T f)
theorem sc_law_bad_numbers : FnScope ["number", "found"] ["number"] (defScope s_law_bad_numbers) := ⟨rfl, rfl, rfl, by decide +kernel, rfl, by decide +kernel, by decide +kernel⟩
theorem hb_law_bad_numbers (T : Tp P w K mg base) (f : Addr) : ∀ (cdv : Value) (A : Around) (outer : List Env) (s : Shared) (H : Hp) (E : XK), A.guards = some [] → Room 1 (A.deeper (envOfC "_law_bad_numbers" (defScope s_law_bad_numbers) s.heap.objs.size f cdv)) → MSs (cxOf (L2.CX P w) P w K mg base ["number", "found"] "_law_bad_numbers" (defScope s_law_bad_numbers) f cdv A outer s H E) E (defBody s_law_bad_numbers) b_law_bad_numbers :=
  fun cdv A outer s H E hg hr => by
    have nd := sc_law_bad_numbers.nd; have gd : (A.deeper (envOfC "_law_bad_numbers" (defScope s_law_bad_numbers) s.heap.objs.size f cdv)).guards = some [] := hg; have hr1 := hr.mono (show 1 ≤ 1 from by omega)
    exact (mss_cons (ms_set (i := 1) nd (me_lst (ma_cons me_int (ma_cons (me_neg me_int) (ma_cons (me_neg (me_var (i := 0))) (ma_cons me_bl (ma_cons me_bl (ma_cons (me_add (me_var (i := 0)) me_int) (ma_cons me_non (ma_cons (me_strC  T.b_str (me_var (i := 0))) (ma_cons (me_tup (ma_cons (me_var (i := 0)) ma_nil)) (ma_cons (me_lst (ma_cons (me_var (i := 0)) ma_nil)) (ma_cons (me_dic1 (me_var (i := 0)) me_int) (ma_cons me_str (ma_cons (me_tup ma_nil) (ma_cons (me_lst ma_nil) ma_nil)))))))))))))))) (mss_one (ms_ret (me_add (me_var (i := 1)) (me_lst (ma_cons me_str (ma_cons (me_tup (ma_cons me_bl ma_nil)) (ma_cons (me_lst (ma_cons me_non ma_nil)) (ma_cons me_dic0 ma_nil)))))))))
theorem ok_law_bad_numbers (T : Tp P w K mg base) : Kn P w K mg base "_law_bad_numbers" ["number"] 2 f_law_bad_numbers := by
  obtain ⟨f, fd, hf, F⟩ := T.d_law_bad_numbers
  exact kn_mk (N := ["number", "found"]) (ps := ["number"]) (k := 1) (body := b_law_bad_numbers) hf F sc_law_bad_numbers (fun _ _ _ _ _ _ us hl => match us, hl with | [_], _ => rfl) (hb_law_bad_numbers T f)
theorem sc_law_bad_ends : FnScope ["a", "b", "many", "found"] ["a", "b", "many"] (defScope s_law_bad_ends) := ⟨rfl, rfl, rfl, by decide +kernel, rfl, by decide +kernel, by decide +kernel⟩
theorem hb_law_bad_ends (T : Tp P w K mg base) (f : Addr) : ∀ (cdv : Value) (A : Around) (outer : List Env) (s : Shared) (H : Hp) (E : XK), A.guards = some [] → Room 1 (A.deeper (envOfC "_law_bad_ends" (defScope s_law_bad_ends) s.heap.objs.size f cdv)) → MSs (cxOf (L2.CX P w) P w K mg base ["a", "b", "many", "found"] "_law_bad_ends" (defScope s_law_bad_ends) f cdv A outer s H E) E (defBody s_law_bad_ends) b_law_bad_ends :=
  fun cdv A outer s H E hg hr => by
    have nd := sc_law_bad_ends.nd; have gd : (A.deeper (envOfC "_law_bad_ends" (defScope s_law_bad_ends) s.heap.objs.size f cdv)).guards = some [] := hg; have hr1 := hr.mono (show 1 ≤ 1 from by omega)
    exact (mss_cons (ms_set (i := 3) nd (me_lst (ma_cons (me_tup (ma_cons (me_var (i := 1)) (ma_cons (me_var (i := 0)) ma_nil))) (ma_cons (me_tup (ma_cons (me_var (i := 0)) (ma_cons (me_var (i := 0)) ma_nil))) (ma_cons (me_tup (ma_cons (me_var (i := 1)) (ma_cons (me_var (i := 1)) ma_nil))) (ma_cons (me_tup (ma_cons (me_neg me_int) (ma_cons (me_var (i := 1)) ma_nil))) (ma_cons (me_tup (ma_cons (me_var (i := 0)) (ma_cons (me_neg me_int) ma_nil))) (ma_cons (me_tup (ma_cons (me_var (i := 0)) (ma_cons (me_var (i := 2)) ma_nil))) (ma_cons (me_tup (ma_cons (me_var (i := 2)) (ma_cons (me_var (i := 1)) ma_nil))) (ma_cons (me_tup (ma_cons (me_sub (me_var (i := 0)) (me_var (i := 2))) (ma_cons (me_var (i := 1)) ma_nil))) (ma_cons (me_tup (ma_cons (me_var (i := 0)) (ma_cons (me_sub (me_var (i := 1)) (me_var (i := 2))) ma_nil))) (ma_cons (me_tup (ma_cons (me_add (me_var (i := 2)) me_int) (ma_cons (me_var (i := 1)) ma_nil))) ma_nil)))))))))))) (mss_one (ms_ret (me_add (me_var (i := 3)) (me_lst (ma_cons (me_tup (ma_cons me_bl (ma_cons (me_var (i := 1)) ma_nil))) (ma_cons (me_tup (ma_cons (me_var (i := 0)) (ma_cons me_bl ma_nil))) (ma_cons (me_tup (ma_cons me_bl (ma_cons (me_var (i := 1)) ma_nil))) (ma_cons (me_tup (ma_cons (me_var (i := 0)) (ma_cons me_bl ma_nil))) (ma_cons (me_tup (ma_cons (me_var (i := 0)) (ma_cons (me_pow me_int me_int) ma_nil))) (ma_cons (me_tup (ma_cons (me_neg (me_pow me_int me_int)) (ma_cons (me_var (i := 1)) ma_nil))) ma_nil)))))))))))
theorem ok_law_bad_ends (T : Tp P w K mg base) : Kn P w K mg base "_law_bad_ends" ["a", "b", "many"] 2 f_law_bad_ends := by
  obtain ⟨f, fd, hf, F⟩ := T.d_law_bad_ends
  exact kn_mk (N := ["a", "b", "many", "found"]) (ps := ["a", "b", "many"]) (k := 1) (body := b_law_bad_ends) hf F sc_law_bad_ends (fun _ _ _ _ _ _ us hl => match us, hl with | [_, _, _], _ => rfl) (hb_law_bad_ends T f)
theorem sc_law_bad_ties : FnScope ["tie", "a", "b", "room", "price", "found"] ["tie"] (defScope s_law_bad_ties) := ⟨rfl, rfl, rfl, by decide +kernel, rfl, by decide +kernel, by decide +kernel⟩
theorem hb_law_bad_ties (T : Tp P w K mg base) (f : Addr) : ∀ (cdv : Value) (A : Around) (outer : List Env) (s : Shared) (H : Hp) (E : XK), A.guards = some [] → Room 1 (A.deeper (envOfC "_law_bad_ties" (defScope s_law_bad_ties) s.heap.objs.size f cdv)) → MSs (cxOf (L2.CX P w) P w K mg base ["tie", "a", "b", "room", "price", "found"] "_law_bad_ties" (defScope s_law_bad_ties) f cdv A outer s H E) E (defBody s_law_bad_ties) b_law_bad_ties :=
  fun cdv A outer s H E hg hr => by
    have nd := sc_law_bad_ties.nd; have gd : (A.deeper (envOfC "_law_bad_ties" (defScope s_law_bad_ties) s.heap.objs.size f cdv)).guards = some [] := hg; have hr1 := hr.mono (show 1 ≤ 1 from by omega)
    exact (mss_cons (ms_asg (me_var (i := 0)) (mg_tup rfl (mgs_cons (mg_name (i := 1) nd) (mgs_cons (mg_name (i := 2) nd) (mgs_cons (mg_name (i := 3) nd) (mgs_cons (mg_name (i := 4) nd) mgs_nil)))))) (mss_cons (ms_set (i := 5) nd (me_lst (ma_cons (me_list  T.b_list (me_var (i := 0))) (ma_cons (me_tup (ma_cons (me_var (i := 1)) (ma_cons (me_var (i := 2)) (ma_cons (me_var (i := 3)) ma_nil)))) (ma_cons (me_tup (ma_cons (me_var (i := 1)) (ma_cons (me_var (i := 2)) (ma_cons (me_var (i := 3)) (ma_cons (me_var (i := 4)) (ma_cons (me_var (i := 4)) ma_nil)))))) (ma_cons (me_tup (ma_cons (me_var (i := 1)) (ma_cons (me_var (i := 2)) ma_nil))) (ma_cons (me_tup (ma_cons (me_tup (ma_cons (me_var (i := 1)) (ma_cons (me_var (i := 2)) ma_nil))) (ma_cons (me_var (i := 3)) (ma_cons (me_var (i := 4)) ma_nil)))) (ma_cons (me_tup (ma_cons (me_var (i := 1)) (ma_cons (me_var (i := 2)) (ma_cons (me_tup (ma_cons (me_var (i := 3)) (ma_cons (me_var (i := 4)) ma_nil))) ma_nil)))) (ma_cons me_non ma_nil))))))))) (mss_cons (ms_set (i := 5) nd (me_add (me_var (i := 5)) (me_lst (ma_cons (me_dic1 (me_var (i := 1)) (me_var (i := 2))) (ma_cons me_str (ma_cons (me_tup ma_nil) (ma_cons (me_tup (ma_cons me_non (ma_cons (me_var (i := 2)) (ma_cons (me_var (i := 3)) (ma_cons (me_var (i := 4)) ma_nil))))) (ma_cons (me_tup (ma_cons (me_var (i := 1)) (ma_cons (me_strC  T.b_str (me_var (i := 2))) (ma_cons (me_var (i := 3)) (ma_cons (me_var (i := 4)) ma_nil))))) (ma_cons (me_tup (ma_cons (me_tup (ma_cons (me_var (i := 1)) ma_nil)) (ma_cons (me_var (i := 2)) (ma_cons (me_var (i := 3)) (ma_cons (me_var (i := 4)) ma_nil))))) ma_nil))))))))) (mss_one (ms_ret (me_add (me_var (i := 5)) (me_lst (ma_cons (me_tup (ma_cons (me_var (i := 1)) (ma_cons (me_lst (ma_cons (me_var (i := 2)) ma_nil)) (ma_cons (me_var (i := 3)) (ma_cons (me_var (i := 4)) ma_nil))))) (ma_cons (me_tup (ma_cons (me_var (i := 0)) ma_nil)) (ma_cons (me_var (i := 1)) (ma_cons me_bl (ma_cons (me_lst (ma_cons (me_var (i := 0)) ma_nil)) (ma_cons (me_tup (ma_cons (me_var (i := 1)) (ma_cons (me_var (i := 2)) (ma_cons (me_var (i := 3)) (ma_cons me_non ma_nil))))) (ma_cons (me_tup (ma_cons me_str (ma_cons (me_var (i := 2)) (ma_cons (me_var (i := 3)) (ma_cons (me_var (i := 4)) ma_nil))))) (ma_cons me_dic0 ma_nil)))))))))))))))
theorem ok_law_bad_ties (T : Tp P w K mg base) : Kn P w K mg base "_law_bad_ties" ["tie"] 2 f_law_bad_ties := by
  obtain ⟨f, fd, hf, F⟩ := T.d_law_bad_ties
  exact kn_mk (N := ["tie", "a", "b", "room", "price", "found"]) (ps := ["tie"]) (k := 1) (body := b_law_bad_ties) hf F sc_law_bad_ties (fun _ _ _ _ _ _ us hl => match us, hl with | [_], _ => rfl) (hb_law_bad_ties T f)
theorem sc_law_bad_wholes : FnScope ["net", "many", "ties", "most", "tie", "found"] ["net"] (defScope s_law_bad_wholes) := ⟨rfl, rfl, rfl, by decide +kernel, rfl, by decide +kernel, by decide +kernel⟩
theorem hb_law_bad_wholes (T : Tp P w K mg base) (f : Addr) : ∀ (cdv : Value) (A : Around) (outer : List Env) (s : Shared) (H : Hp) (E : XK), A.guards = some [] → Room 1 (A.deeper (envOfC "_law_bad_wholes" (defScope s_law_bad_wholes) s.heap.objs.size f cdv)) → MSs (cxOf (L2.CX P w) P w K mg base ["net", "many", "ties", "most", "tie", "found"] "_law_bad_wholes" (defScope s_law_bad_wholes) f cdv A outer s H E) E (defBody s_law_bad_wholes) b_law_bad_wholes :=
  fun cdv A outer s H E hg hr => by
    have nd := sc_law_bad_wholes.nd; have gd : (A.deeper (envOfC "_law_bad_wholes" (defScope s_law_bad_wholes) s.heap.objs.size f cdv)).guards = some [] := hg; have hr1 := hr.mono (show 1 ≤ 1 from by omega)
    exact (mss_cons (ms_asg (me_var (i := 0)) (mg_tup rfl (mgs_cons (mg_name (i := 1) nd) (mgs_cons (mg_name (i := 2) nd) mgs_nil)))) (mss_cons (ms_set (i := 3) nd (me_maxL rfl T.b_max (me_add (me_lst (ma_cons me_int ma_nil)) (me_lc (own := [("tie", 4)]) rfl nd (me_var (i := 2)) (by exact blkOk_by (N := ["net", "many", "ties", "most", "tie", "found"]) (sc := defScope s_law_bad_wholes) (by decide +kernel)) (by decide) (fun _ _ _ _ _ => (mg_name (i := 4) nd)) (fun _ _ _ _ _ => mts_nil) (fun _ _ _ _ _ => (me_max2 rfl T.b_max (me_ix (me_var (i := 4)) me_int) (me_ix (me_var (i := 4)) me_int))))))) (mss_cons (ms_set (i := 5) nd (me_lst (ma_cons (me_tup (ma_cons me_int (ma_cons (me_var (i := 2)) ma_nil))) (ma_cons (me_tup (ma_cons me_int (ma_cons (me_var (i := 2)) ma_nil))) (ma_cons (me_tup (ma_cons (me_neg me_int) (ma_cons (me_var (i := 2)) ma_nil))) (ma_cons (me_tup (ma_cons me_bl (ma_cons (me_var (i := 2)) ma_nil))) (ma_cons (me_tup (ma_cons (me_strC  T.b_str (me_var (i := 1))) (ma_cons (me_var (i := 2)) ma_nil))) (ma_cons (me_tup (ma_cons me_non (ma_cons (me_var (i := 2)) ma_nil))) (ma_cons (me_tup (ma_cons (me_tup (ma_cons (me_var (i := 1)) ma_nil)) (ma_cons (me_var (i := 2)) ma_nil))) (ma_cons (me_tup (ma_cons (me_var (i := 3)) (ma_cons (me_var (i := 2)) ma_nil))) ma_nil)))))))))) (mss_cons (ms_set (i := 5) nd (me_add (me_var (i := 5)) (me_lst (ma_cons (me_tup (ma_cons me_int (ma_cons (me_var (i := 2)) ma_nil))) (ma_cons (me_tup (ma_cons (me_pow me_int me_int) (ma_cons (me_var (i := 2)) ma_nil))) (ma_cons (me_tup (ma_cons me_bl (ma_cons (me_tup ma_nil) ma_nil))) (ma_cons (me_tup (ma_cons me_int (ma_cons (me_tup ma_nil) ma_nil))) (ma_cons (me_tup (ma_cons me_int (ma_cons (me_tup ma_nil) ma_nil))) (ma_cons (me_tup (ma_cons me_int (ma_cons (me_tup ma_nil) ma_nil))) (ma_cons (me_tup (ma_cons (me_var (i := 1)) (ma_cons (me_list  T.b_list (me_var (i := 2))) ma_nil))) (ma_cons (me_lst (ma_cons (me_var (i := 1)) (ma_cons (me_var (i := 2)) ma_nil))) ma_nil))))))))))) (mss_cons (ms_set (i := 5) nd (me_add (me_var (i := 5)) (me_lst (ma_cons (me_tup (ma_cons (me_var (i := 1)) ma_nil)) (ma_cons (me_tup (ma_cons (me_var (i := 1)) (ma_cons (me_var (i := 2)) (ma_cons (me_var (i := 2)) ma_nil)))) (ma_cons (me_tup (ma_cons (me_var (i := 2)) (ma_cons (me_var (i := 1)) ma_nil))) (ma_cons (me_tup (ma_cons (me_var (i := 0)) ma_nil)) (ma_cons me_non (ma_cons me_dic0 (ma_cons me_str (ma_cons (me_var (i := 1)) (ma_cons (me_var (i := 2)) (ma_cons (me_tup ma_nil) (ma_cons (me_lst ma_nil) (ma_cons (me_dic1 (me_var (i := 1)) (me_var (i := 2))) ma_nil))))))))))))))) (mss_one (ms_ret (me_add (me_var (i := 5)) (me_lst (ma_cons (me_tup (ma_cons (me_var (i := 1)) (ma_cons (me_tup (ma_cons (me_var (i := 2)) ma_nil)) ma_nil))) (ma_cons (me_tup (ma_cons (me_var (i := 1)) (ma_cons me_non ma_nil))) (ma_cons (me_tup (ma_cons (me_var (i := 1)) (ma_cons me_str ma_nil))) (ma_cons (me_tup (ma_cons (me_var (i := 1)) (ma_cons me_dic0 ma_nil))) (ma_cons me_bl (ma_cons (me_lst (ma_cons (me_var (i := 0)) ma_nil)) (ma_cons me_str (ma_cons (me_tup (ma_cons (me_var (i := 1)) (ma_cons (me_tup (ma_cons (me_tup ma_nil) (ma_cons (me_tup ma_nil) ma_nil))) ma_nil))) (ma_cons (me_tup (ma_cons me_bl (ma_cons (me_tup ma_nil) ma_nil))) ma_nil))))))))))))))))))
theorem ok_law_bad_wholes (T : Tp P w K mg base) : Kn P w K mg base "_law_bad_wholes" ["net"] 2 f_law_bad_wholes := by
  obtain ⟨f, fd, hf, F⟩ := T.d_law_bad_wholes
  exact kn_mk (N := ["net", "many", "ties", "most", "tie", "found"]) (ps := ["net"]) (k := 1) (body := b_law_bad_wholes) hf F sc_law_bad_wholes (fun _ _ _ _ _ _ us hl => match us, hl with | [_], _ => rfl) (hb_law_bad_wholes T f)
theorem sc_law_put : FnScope ["ties", "at", "item"] ["ties", "at", "item"] (defScope s_law_put) := ⟨rfl, rfl, rfl, by decide +kernel, rfl, by decide +kernel, by decide +kernel⟩
theorem hb_law_put (T : Tp P w K mg base) (f : Addr) : ∀ (cdv : Value) (A : Around) (outer : List Env) (s : Shared) (H : Hp) (E : XK), A.guards = some [] → Room 1 (A.deeper (envOfC "_law_put" (defScope s_law_put) s.heap.objs.size f cdv)) → MSs (cxOf (L2.CX P w) P w K mg base ["ties", "at", "item"] "_law_put" (defScope s_law_put) f cdv A outer s H E) E (defBody s_law_put) b_law_put :=
  fun cdv A outer s H E hg hr => by
    have nd := sc_law_put.nd; have gd : (A.deeper (envOfC "_law_put" (defScope s_law_put) s.heap.objs.size f cdv)).guards = some [] := hg; have hr1 := hr.mono (show 1 ≤ 1 from by omega)
    exact (mss_one (ms_ret (me_add (me_add (me_sl (me_var (i := 0)) trivial (me_var (i := 1))) (me_tup (ma_cons (me_var (i := 2)) ma_nil))) (me_sl (me_var (i := 0)) (me_add (me_var (i := 1)) me_int) trivial))))
theorem ok_law_put (T : Tp P w K mg base) : Kn P w K mg base "_law_put" ["ties", "at", "item"] 2 f_law_put := by
  obtain ⟨f, fd, hf, F⟩ := T.d_law_put
  exact kn_mk (N := ["ties", "at", "item"]) (ps := ["ties", "at", "item"]) (k := 1) (body := b_law_put) hf F sc_law_put (fun _ _ _ _ _ _ us hl => match us, hl with | [_, _, _], _ => rfl) (hb_law_put T f)
theorem sc_law_number : FnScope ["box", "low"] ["box", "low"] (defScope s_law_number) := ⟨rfl, rfl, rfl, by decide +kernel, rfl, by decide +kernel, by decide +kernel⟩
theorem hb_law_number (T : Tp P w K mg base) (f : Addr) : ∀ (cdv : Value) (A : Around) (outer : List Env) (s : Shared) (H : Hp) (E : XK), A.guards = some [] → Room 2 (A.deeper (envOfC "_law_number" (defScope s_law_number) s.heap.objs.size f cdv)) → MSs (cxOf (L2.CX P w) P w K mg base ["box", "low"] "_law_number" (defScope s_law_number) f cdv A outer s H E) E (defBody s_law_number) b_law_number :=
  fun cdv A outer s H E hg hr => by
    have nd := sc_law_number.nd; have gd : (A.deeper (envOfC "_law_number" (defScope s_law_number) s.heap.objs.size f cdv)).guards = some [] := hg; have hr1 := hr.mono (show 1 ≤ 2 from by omega)
    exact (mss_cons (ms_if (mt_eq hr (me_call ((ok_law_take T).mono (by omega)) gd hr (passes_call (takes_of rfl rfl rfl rfl) (fun _ _ _ _ h => h)) (ma_cons (me_var (i := 0)) (ma_cons me_int ma_nil))) me_int) (mss_one (ms_ret (me_sub (me_sub (me_pow me_int me_int) me_int) (me_call ((ok_law_take T).mono (by omega)) gd hr (passes_call (takes_of rfl rfl rfl rfl) (fun _ _ _ _ h => h)) (ma_cons (me_var (i := 0)) (ma_cons me_int ma_nil)))))) mss_nil) (mss_one (ms_ret (me_add (me_var (i := 1)) (me_call ((ok_law_take T).mono (by omega)) gd hr (passes_call (takes_of rfl rfl rfl rfl) (fun _ _ _ _ h => h)) (ma_cons (me_var (i := 0)) (ma_cons me_int ma_nil)))))))
theorem ok_law_number (T : Tp P w K mg base) : Kn P w K mg base "_law_number" ["box", "low"] 3 f_law_number := by
  obtain ⟨f, fd, hf, F⟩ := T.d_law_number
  exact kn_mk (N := ["box", "low"]) (ps := ["box", "low"]) (k := 2) (body := b_law_number) hf F sc_law_number (fun _ _ _ _ _ _ us hl => match us, hl with | [_, _], _ => rfl) (hb_law_number T f)
theorem sc_law_net : FnScope ["box", "many", "count", "double", "ties", "k", "a", "b", "room", "price"] ["box"] (defScope s_law_net) := ⟨rfl, rfl, rfl, by decide +kernel, rfl, by decide +kernel, by decide +kernel⟩
theorem hb_law_net (T : Tp P w K mg base) (f : Addr) : ∀ (cdv : Value) (A : Around) (outer : List Env) (s : Shared) (H : Hp) (E : XK), A.guards = some [] → Room 3 (A.deeper (envOfC "_law_net" (defScope s_law_net) s.heap.objs.size f cdv)) → MSs (cxOf (L2.CX P w) P w K mg base ["box", "many", "count", "double", "ties", "k", "a", "b", "room", "price"] "_law_net" (defScope s_law_net) f cdv A outer s H E) E (defBody s_law_net) b_law_net :=
  fun cdv A outer s H E hg hr => by
    have nd := sc_law_net.nd; have gd : (A.deeper (envOfC "_law_net" (defScope s_law_net) s.heap.objs.size f cdv)).guards = some [] := hg; have hr1 := hr.mono (show 1 ≤ 3 from by omega)
    exact (mss_cons (ms_set (i := 1) nd (me_ix (me_lst (ma_cons me_int (ma_cons me_int (ma_cons me_int (ma_cons me_int (ma_cons me_int (ma_cons me_int (ma_cons me_int (ma_cons me_int ma_nil))))))))) (me_call ((ok_law_take T).mono (by omega)) gd hr (passes_call (takes_of rfl rfl rfl rfl) (fun _ _ _ _ h => h)) (ma_cons (me_var (i := 0)) (ma_cons me_int ma_nil))))) (mss_cons (ms_par2 rfl nd (me_ix (me_lst (ma_cons me_int (ma_cons me_int (ma_cons me_int (ma_cons me_int (ma_cons me_int (ma_cons me_int (ma_cons me_int (ma_cons me_int ma_nil))))))))) (me_call ((ok_law_take T).mono (by omega)) gd hr (passes_call (takes_of rfl rfl rfl rfl) (fun _ _ _ _ h => h)) (ma_cons (me_var (i := 0)) (ma_cons me_int ma_nil)))) (me_call ((ok_law_take T).mono (by omega)) gd hr (passes_call (takes_of rfl rfl rfl rfl) (fun _ _ _ _ h => h)) (ma_cons (me_var (i := 0)) (ma_cons me_int ma_nil))) rfl rfl rfl) (mss_cons (ms_set (i := 4) nd (me_lst ma_nil)) (mss_cons (ms_forR1 (passes_of rfl) rfl T.b_range (me_ifE (mt_gt  (me_var (i := 1)) me_int) (me_var (i := 2)) me_int) (mg_name (i := 5) nd) (mss_cons (ms_par2 rfl nd (me_call ((ok_law_take T).mono (by omega)) gd hr (passes_call (takes_of rfl rfl rfl rfl) (fun _ _ _ _ h => h)) (ma_cons (me_var (i := 0)) (ma_cons (me_var (i := 1)) ma_nil))) (me_call ((ok_law_take T).mono (by omega)) gd hr (passes_call (takes_of rfl rfl rfl rfl) (fun _ _ _ _ h => h)) (ma_cons (me_var (i := 0)) (ma_cons (me_sub (me_var (i := 1)) me_int) ma_nil))) rfl rfl rfl) (mss_one (ms_expr (me_append (me_var (i := 4)) (me_tup (ma_cons (me_var (i := 6)) (ma_cons (me_ifE (mt_ge  (me_var (i := 7)) (me_var (i := 6))) (me_add (me_var (i := 7)) me_int) (me_var (i := 7))) (ma_cons (me_call ((ok_law_number T).mono (by omega)) gd hr (passes_call (takes_of rfl rfl rfl rfl) (fun _ _ _ _ h => h)) (ma_cons (me_var (i := 0)) (ma_cons me_int ma_nil))) (ma_cons (me_call ((ok_law_number T).mono (by omega)) gd hr (passes_call (takes_of rfl rfl rfl rfl) (fun _ _ _ _ h => h)) (ma_cons (me_var (i := 0)) (ma_cons me_int ma_nil))) ma_nil)))))))))) (mss_cons (ms_if (PW.pt (mw_and (mt_gt  (me_len  T.b_len (me_var (i := 4))) me_int) (mw_and1 (mt_ltA (k := 0) hr1 (me_var (i := 3)) me_int)))) (mss_cons (ms_asg (me_ix (me_var (i := 4)) me_int) (mg_tup rfl (mgs_cons (mg_name (i := 6) nd) (mgs_cons (mg_name (i := 7) nd) (mgs_cons (mg_name (i := 8) nd) (mgs_cons (mg_name (i := 9) nd) mgs_nil)))))) (mss_one (ms_setIx (me_tup (ma_cons (me_var (i := 6)) (ma_cons (me_var (i := 7)) (ma_cons (me_add (me_var (i := 8)) (me_intC  T.b_int (me_eq hr (me_var (i := 3)) me_int))) (ma_cons (me_add (me_var (i := 9)) (me_intC  T.b_int (me_eq hr (me_var (i := 3)) me_int))) ma_nil))))) (me_var (i := 4)) me_int))) mss_nil) (mss_one (ms_ret (me_tup (ma_cons (me_var (i := 1)) (ma_cons (me_tuple  T.b_tuple (me_sorted  T.b_sorted (me_var (i := 4)))) ma_nil))))))))))
theorem ok_law_net (T : Tp P w K mg base) : Kn P w K mg base "_law_net" ["box"] 4 f_law_net := by
  obtain ⟨f, fd, hf, F⟩ := T.d_law_net
  exact kn_mk (N := ["box", "many", "count", "double", "ties", "k", "a", "b", "room", "price"]) (ps := ["box"]) (k := 3) (body := b_law_net) hf F sc_law_net (fun _ _ _ _ _ _ us hl => match us, hl with | [_], _ => rfl) (hb_law_net T f)
theorem sc_law_all_spoilt : FnScope ["box", "net", "many", "ties", "step", "found", "fewer", "at", "a", "b", "room", "price", "side", "bad", "k", "put", "one", "other", "item", "most"] ["box", "net"] (defScope s_law_all_spoilt) := ⟨rfl, rfl, rfl, by decide +kernel, rfl, by decide +kernel, by decide +kernel⟩
theorem hb_law_all_spoilt (T : Tp P w K mg base) (f : Addr) : ∀ (cdv : Value) (A : Around) (outer : List Env) (s : Shared) (H : Hp) (E : XK), A.guards = some [] → Room 2 (A.deeper (envOfC "_law_all_spoilt" (defScope s_law_all_spoilt) s.heap.objs.size f cdv)) → MSs (cxOf (L2.CX P w) P w K mg base ["box", "net", "many", "ties", "step", "found", "fewer", "at", "a", "b", "room", "price", "side", "bad", "k", "put", "one", "other", "item", "most"] "_law_all_spoilt" (defScope s_law_all_spoilt) f cdv A outer s H E) E (defBody s_law_all_spoilt) b_law_all_spoilt :=
  fun cdv A outer s H E hg hr => by
    have nd := sc_law_all_spoilt.nd; have gd : (A.deeper (envOfC "_law_all_spoilt" (defScope s_law_all_spoilt) s.heap.objs.size f cdv)).guards = some [] := hg; have hr1 := hr.mono (show 1 ≤ 2 from by omega)
    exact (mss_cons (ms_asg (me_var (i := 1)) (mg_tup rfl (mgs_cons (mg_name (i := 2) nd) (mgs_cons (mg_name (i := 3) nd) mgs_nil)))) (mss_cons (ms_set (i := 4) nd (me_ifE (mt_gt  (me_len  T.b_len (me_var (i := 3))) me_int) me_int (me_ifE (mt_gt  (me_len  T.b_len (me_var (i := 3))) me_int) me_int me_int))) (mss_cons (ms_parT rfl (ma_cons (me_call ((ok_law_bad_wholes T).mono (by omega)) gd hr (passes_call (takes_of rfl rfl rfl rfl) (fun _ _ _ _ h => h)) (ma_cons (me_var (i := 1)) ma_nil)) (ma_cons (me_call ((ok_law_take T).mono (by omega)) gd hr (passes_call (takes_of rfl rfl rfl rfl) (fun _ _ _ _ h => h)) (ma_cons (me_var (i := 0)) (ma_cons (me_var (i := 4)) ma_nil))) ma_nil)) (mns_cons (i := 5) nd (mns_cons (i := 6) nd mns_nil))) (mss_cons (ms_if (mt_ne hr (me_var (i := 3)) (me_tup ma_nil)) (mss_cons (ms_set (i := 7) nd (me_call ((ok_law_take T).mono (by omega)) gd hr (passes_call (takes_of rfl rfl rfl rfl) (fun _ _ _ _ h => h)) (ma_cons (me_var (i := 0)) (ma_cons (me_len  T.b_len (me_var (i := 3))) ma_nil)))) (mss_cons (ms_asg (me_ix (me_var (i := 3)) (me_var (i := 7))) (mg_tup rfl (mgs_cons (mg_name (i := 8) nd) (mgs_cons (mg_name (i := 9) nd) (mgs_cons (mg_name (i := 10) nd) (mgs_cons (mg_name (i := 11) nd) mgs_nil)))))) (mss_cons (ms_forR1 (passes_of rfl) rfl T.b_range me_int (mg_name (i := 12) nd) (mss_cons (ms_set (i := 13) nd (me_call ((ok_law_bad_numbers T).mono (by omega)) gd hr (passes_call (takes_of rfl rfl rfl rfl) (fun _ _ _ _ h => h)) (ma_cons (me_ix (me_lst (ma_cons (me_var (i := 10)) (ma_cons (me_var (i := 11)) ma_nil))) (me_var (i := 12))) ma_nil))) (mss_one (ms_forR1 (passes_of rfl) rfl T.b_range (me_len  T.b_len (me_var (i := 13))) (mg_name (i := 14) nd) (mss_cons (ms_set (i := 15) nd (me_call ((ok_law_put T).mono (by omega)) gd hr (passes_call (takes_of rfl rfl rfl rfl) (fun _ _ _ _ h => h)) (ma_cons (me_var (i := 3)) (ma_cons (me_var (i := 7)) (ma_cons (me_ifE (mt_eq hr (me_var (i := 12)) me_int) (me_tup (ma_cons (me_var (i := 8)) (ma_cons (me_var (i := 9)) (ma_cons (me_ix (me_var (i := 13)) (me_var (i := 14))) (ma_cons (me_var (i := 11)) ma_nil))))) (me_tup (ma_cons (me_var (i := 8)) (ma_cons (me_var (i := 9)) (ma_cons (me_var (i := 10)) (ma_cons (me_ix (me_var (i := 13)) (me_var (i := 14))) ma_nil)))))) ma_nil))))) (mss_one (ms_expr (me_append (me_var (i := 5)) (me_tup (ma_cons (me_var (i := 2)) (ma_cons (me_ifE (mt_ltA (k := 0) hr1 (me_var (i := 14)) me_int) (me_tuple  T.b_tuple (me_sorted  T.b_sorted (me_var (i := 15)))) (me_var (i := 15))) ma_nil))))))))))) (mss_cons (ms_for (passes_of rfl) rfl (me_call ((ok_law_bad_ends T).mono (by omega)) gd hr (passes_call (takes_of rfl rfl rfl rfl) (fun _ _ _ _ h => h)) (ma_cons (me_var (i := 8)) (ma_cons (me_var (i := 9)) (ma_cons (me_var (i := 2)) ma_nil)))) (mg_tup rfl (mgs_cons (mg_name (i := 16) nd) (mgs_cons (mg_name (i := 17) nd) mgs_nil))) (mss_one (ms_expr (me_append (me_var (i := 5)) (me_tup (ma_cons (me_var (i := 2)) (ma_cons (me_tuple  T.b_tuple (me_sorted  T.b_sorted (me_call ((ok_law_put T).mono (by omega)) gd hr (passes_call (takes_of rfl rfl rfl rfl) (fun _ _ _ _ h => h)) (ma_cons (me_var (i := 3)) (ma_cons (me_var (i := 7)) (ma_cons (me_tup (ma_cons (me_var (i := 16)) (ma_cons (me_var (i := 17)) (ma_cons (me_var (i := 10)) (ma_cons (me_var (i := 11)) ma_nil))))) ma_nil)))))) ma_nil))))))) (mss_one (ms_set (i := 5) nd (me_add (me_add (me_var (i := 5)) (me_lc (own := [("item", 18)]) rfl nd (me_call ((ok_law_bad_ties T).mono (by omega)) gd hr (passes_call (takes_of rfl rfl rfl rfl) (fun _ _ _ _ h => h)) (ma_cons (me_ix (me_var (i := 3)) (me_var (i := 7))) ma_nil)) (by exact blkOk_by (N := ["box", "net", "many", "ties", "step", "found", "fewer", "at", "a", "b", "room", "price", "side", "bad", "k", "put", "one", "other", "item", "most"]) (sc := defScope s_law_all_spoilt) (by decide +kernel)) (by decide) (fun _ _ _ _ _ => (mg_name (i := 18) nd)) (fun _ _ _ _ _ => mts_nil) (fun _ _ _ _ _ => (me_tup (ma_cons (me_var (i := 2)) (ma_cons (me_call ((ok_law_put T).mono (by omega)) gd hr (passL) (ma_cons (me_var (i := 3)) (ma_cons (me_var (i := 7)) (ma_cons (me_var (i := 18)) ma_nil)))) ma_nil)))))) (me_lst (ma_cons (me_tup (ma_cons (me_var (i := 2)) (ma_cons (me_rev (me_var (i := 3))) ma_nil))) ma_nil))))))))) mss_nil) (mss_cons (ms_if (mt_gt  (me_len  T.b_len (me_var (i := 3))) me_int) (mss_cons (ms_set (i := 7) nd (me_call ((ok_law_take T).mono (by omega)) gd hr (passes_call (takes_of rfl rfl rfl rfl) (fun _ _ _ _ h => h)) (ma_cons (me_var (i := 0)) (ma_cons (me_sub (me_len  T.b_len (me_var (i := 3))) me_int) ma_nil)))) (mss_one (ms_set (i := 5) nd (me_add (me_var (i := 5)) (me_lst (ma_cons (me_tup (ma_cons (me_var (i := 2)) (ma_cons (me_add (me_add (me_sl (me_var (i := 3)) trivial (me_var (i := 7))) (me_tup (ma_cons (me_ix (me_var (i := 3)) (me_add (me_var (i := 7)) me_int)) (ma_cons (me_ix (me_var (i := 3)) (me_var (i := 7))) ma_nil)))) (me_sl (me_var (i := 3)) (me_add (me_var (i := 7)) me_int) trivial)) ma_nil))) (ma_cons (me_tup (ma_cons (me_var (i := 2)) (ma_cons (me_add (me_sl (me_var (i := 3)) (me_add (me_var (i := 7)) me_int) trivial) (me_sl (me_var (i := 3)) trivial (me_add (me_var (i := 7)) me_int))) ma_nil))) ma_nil))))))) mss_nil) (mss_cons (ms_set (i := 5) nd (me_lcR3 (own := [("k", 14)]) rfl nd T.b_range (me_var (i := 6)) (me_len  T.b_len (me_var (i := 5))) (me_var (i := 4)) (by exact blkOk_by (N := ["box", "net", "many", "ties", "step", "found", "fewer", "at", "a", "b", "room", "price", "side", "bad", "k", "put", "one", "other", "item", "most"]) (sc := defScope s_law_all_spoilt) (by decide +kernel)) (by decide) (fun _ _ _ _ _ => (mg_name (i := 14) nd)) (fun _ _ _ _ _ => mts_nil) (fun _ _ _ _ _ => (me_ix (me_var (i := 5)) (me_var (i := 14)))))) (mss_cons (ms_for (passes_of rfl) rfl (me_lst (ma_cons me_int (ma_cons me_int ma_nil))) (mg_name (i := 19) nd) (mss_one (ms_expr (me_append (me_var (i := 5)) (me_tup (ma_cons (me_var (i := 2)) (ma_cons (me_tuple  T.b_tuple (me_sorted  T.b_sorted (me_add (me_var (i := 3)) (me_mul (me_tup (ma_cons (me_tup (ma_cons me_int (ma_cons me_int (ma_cons me_int (ma_cons me_int ma_nil))))) ma_nil)) (me_sub (me_var (i := 19)) (me_len  T.b_len (me_var (i := 3)))))))) ma_nil))))))) (mss_one (ms_ret (me_var (i := 5)))))))))))
theorem ok_law_all_spoilt (T : Tp P w K mg base) : Kn P w K mg base "_law_all_spoilt" ["box", "net"] 3 f_law_all_spoilt := by
  obtain ⟨f, fd, hf, F⟩ := T.d_law_all_spoilt
  exact kn_mk (N := ["box", "net", "many", "ties", "step", "found", "fewer", "at", "a", "b", "room", "price", "side", "bad", "k", "put", "one", "other", "item", "most"]) (ps := ["box", "net"]) (k := 2) (body := b_law_all_spoilt) hf F sc_law_all_spoilt (fun _ _ _ _ _ _ us hl => match us, hl with | [_, _], _ => rfl) (hb_law_all_spoilt T f)
theorem sc_law_asked_right : FnScope ["value", "by_name", "due", "before", "turn", "given"] ["value", "by_name"] (defScope s_law_asked_right) := ⟨rfl, rfl, rfl, by decide +kernel, rfl, by decide +kernel, by decide +kernel⟩
theorem hb_law_asked_right (T : Tp P w K mg base) (f : Addr) : ∀ (cdv : Value) (A : Around) (outer : List Env) (s : Shared) (H : Hp) (E : XK), A.guards = some [] → Room 5 (A.deeper (envOfC "_law_asked_right" (defScope s_law_asked_right) s.heap.objs.size f cdv)) → MSs (cxOf (L2.CX P w) P w K mg base ["value", "by_name", "due", "before", "turn", "given"] "_law_asked_right" (defScope s_law_asked_right) f cdv A outer s H E) E (defBody s_law_asked_right) b_law_asked_right :=
  fun cdv A outer s H E hg hr => by
    have nd := sc_law_asked_right.nd; have gd : (A.deeper (envOfC "_law_asked_right" (defScope s_law_asked_right) s.heap.objs.size f cdv)).guards = some [] := hg; have hr1 := hr.mono (show 1 ≤ 5 from by omega)
    exact (mss_cons (ms_par2 rfl nd (me_call ((ok_law_is_net T).mono (by omega)) gd hr (passes_call (takes_of rfl rfl rfl rfl) (fun _ _ _ _ h => h)) (ma_cons (me_var (i := 0)) ma_nil)) (me_repr hr gd T.b_repr (me_var (i := 0))) rfl rfl rfl) (mss_cons (ms_forR1 (passes_of rfl) rfl T.b_range me_int (mg_name (i := 4) nd) (mss_cons (ms_set (i := 5) nd (me_ifE (mt_val (me_var (i := 1))) (me_callK ((okK_is_net_value T).mono (by omega)) gd hr (passes_call (takes_of rfl rfl rfl rfl) (fun _ _ _ _ h => h)) (mk_cons (me_var (i := 0)) mk_nil)) (me_call ((ok_is_net T).mono (by omega)) gd hr (passes_call (takes_of rfl rfl rfl rfl) (fun _ _ _ _ h => h)) (ma_cons (me_var (i := 0)) ma_nil)))) (mss_one (ms_if (mt_not (mt_val (me_call ((ok_law_same T).mono (by omega)) gd hr (passes_call (takes_of rfl rfl rfl rfl) (fun _ _ _ _ h => h)) (ma_cons (me_var (i := 5)) (ma_cons (me_var (i := 2)) ma_nil))))) (mss_one (ms_ret me_bl)) mss_nil)))) (mss_one (ms_ret (me_eq hr (me_repr hr gd T.b_repr (me_var (i := 0))) (me_var (i := 3)))))))
theorem ok_law_asked_right (T : Tp P w K mg base) : Kn P w K mg base "_law_asked_right" ["value", "by_name"] 6 f_law_asked_right := by
  obtain ⟨f, fd, hf, F⟩ := T.d_law_asked_right
  exact kn_mk (N := ["value", "by_name", "due", "before", "turn", "given"]) (ps := ["value", "by_name"]) (k := 5) (body := b_law_asked_right) hf F sc_law_asked_right (fun _ _ _ _ _ _ us hl => match us, hl with | [_, _], _ => rfl) (hb_law_asked_right T f)
theorem sc_law_cell_right : FnScope ["box", "by_name", "order", "net", "values", "value"] ["box"] (defScope s_law_cell_right) := ⟨rfl, rfl, rfl, by decide +kernel, rfl, by decide +kernel, by decide +kernel⟩
theorem hb_law_cell_right (T : Tp P w K mg base) (f : Addr) : ∀ (cdv : Value) (A : Around) (outer : List Env) (s : Shared) (H : Hp) (E : XK), A.guards = some [] → Room 6 (A.deeper (envOfC "_law_cell_right" (defScope s_law_cell_right) s.heap.objs.size f cdv)) → MSs (cxOf (L2.CX P w) P w K mg base ["box", "by_name", "order", "net", "values", "value"] "_law_cell_right" (defScope s_law_cell_right) f cdv A outer s H E) E (defBody s_law_cell_right) b_law_cell_right :=
  fun cdv A outer s H E hg hr => by
    have nd := sc_law_cell_right.nd; have gd : (A.deeper (envOfC "_law_cell_right" (defScope s_law_cell_right) s.heap.objs.size f cdv)).guards = some [] := hg; have hr1 := hr.mono (show 1 ≤ 6 from by omega); have hrx := hr.mono (show 2 ≤ 6 from by omega)
    exact (mss_cons (ms_parT rfl (ma_cons (me_eq hr (me_call ((ok_law_take T).mono (by omega)) gd hr (passes_call (takes_of rfl rfl rfl rfl) (fun _ _ _ _ h => h)) (ma_cons (me_var (i := 0)) (ma_cons me_int ma_nil))) me_int) (ma_cons (me_call ((ok_law_take T).mono (by omega)) gd hr (passes_call (takes_of rfl rfl rfl rfl) (fun _ _ _ _ h => h)) (ma_cons (me_var (i := 0)) (ma_cons me_int ma_nil))) (ma_cons (me_call ((ok_law_net T).mono (by omega)) gd hr (passes_call (takes_of rfl rfl rfl rfl) (fun _ _ _ _ h => h)) (ma_cons (me_var (i := 0)) ma_nil)) ma_nil))) (mns_cons (i := 1) nd (mns_cons (i := 2) nd (mns_cons (i := 3) nd mns_nil)))) (mss_cons (ms_set (i := 4) nd (me_add (me_add (me_lst (ma_cons (me_var (i := 3)) ma_nil)) (me_call ((ok_law_all_spoilt T).mono (by omega)) gd hr (passes_call (takes_of rfl rfl rfl rfl) (fun _ _ _ _ h => h)) (ma_cons (me_var (i := 0)) (ma_cons (me_var (i := 3)) ma_nil)))) (me_lst (ma_cons (me_call ((ok_law_net T).mono (by omega)) gd hr (passes_call (takes_of rfl rfl rfl rfl) (fun _ _ _ _ h => h)) (ma_cons (me_var (i := 0)) ma_nil)) (ma_cons (me_var (i := 3)) ma_nil))))) (mss_cons (ms_if (mt_eq hr (me_var (i := 2)) me_int) (mss_one (ms_set (i := 4) nd (me_rev (me_var (i := 4))))) mss_nil) (mss_cons (ms_if (mt_ne hr (me_lc (own := [("value", 5)]) rfl nd (me_var (i := 4)) (by exact blkOk_by (N := ["box", "by_name", "order", "net", "values", "value"]) (sc := defScope s_law_cell_right) (by decide +kernel)) (by decide) (fun _ _ _ _ _ => (mg_name (i := 5) nd)) (fun _ _ _ _ _ => (mts_one (mt_not (mt_val (me_call ((ok_law_asked_right T).mono (by omega)) gd hr (passL) (ma_cons (me_var (i := 5)) (ma_cons (me_var (i := 1)) ma_nil))))))) (fun _ _ _ _ _ => (me_var (i := 5)))) (me_lst ma_nil)) (mss_one (ms_ret me_bl)) mss_nil) (mss_one (ms_ret (me_and (me_call ((ok_law_same T).mono (by omega)) gd hr (passes_call (takes_of rfl rfl rfl rfl) (fun _ _ _ _ h => h)) (ma_cons (me_call ((ok_is_net T).mono (by omega)) gd hr (passes_call (takes_of rfl rfl rfl rfl) (fun _ _ _ _ h => h)) (ma_cons (me_exc T.x_InvalidNet hrx passL (me_var (i := 3))) ma_nil)) (ma_cons me_bl ma_nil))) (me_one (me_call ((ok_law_same T).mono (by omega)) gd hr (passes_call (takes_of rfl rfl rfl rfl) (fun _ _ _ _ h => h)) (ma_cons (me_call ((ok_is_net T).mono (by omega)) gd hr (passes_call (takes_of rfl rfl rfl rfl) (fun _ _ _ _ h => h)) (ma_cons (me_tup (ma_cons (me_ix (me_var (i := 3)) me_int) (ma_cons (me_tup (ma_cons (me_exc T.x_InvalidNet hrx passL (me_var (i := 3))) ma_nil)) ma_nil))) ma_nil)) (ma_cons me_bl ma_nil)))))))))))
theorem ok_law_cell_right (T : Tp P w K mg base) : Kn P w K mg base "_law_cell_right" ["box"] 7 f_law_cell_right := by
  obtain ⟨f, fd, hf, F⟩ := T.d_law_cell_right
  exact kn_mk (N := ["box", "by_name", "order", "net", "values", "value"]) (ps := ["box"]) (k := 6) (body := b_law_cell_right) hf F sc_law_cell_right (fun _ _ _ _ _ _ us hl => match us, hl with | [_], _ => rfl) (hb_law_cell_right T f)
theorem sc_law : FnScope ["script", "k"] ["script"] (defScope s_law) := ⟨rfl, rfl, rfl, by decide +kernel, rfl, by decide +kernel, by decide +kernel⟩
theorem hb_law (T : Tp P w K mg base) (f : Addr) : ∀ (cdv : Value) (A : Around) (outer : List Env) (s : Shared) (H : Hp) (E : XK), A.guards = some [] → Room 7 (A.deeper (envOfC "law" (defScope s_law) s.heap.objs.size f cdv)) → MSs (cxOf (L2.CX P w) P w K mg base ["script", "k"] "law" (defScope s_law) f cdv A outer s H E) E (defBody s_law) b_law :=
  fun cdv A outer s H E hg hr => by
    have nd := sc_law.nd; have gd : (A.deeper (envOfC "law" (defScope s_law) s.heap.objs.size f cdv)).guards = some [] := hg; have hr1 := hr.mono (show 1 ≤ 7 from by omega)
    exact (mss_cons (ms_forR1 (passes_of rfl) rfl T.b_range (me_max2 rfl T.b_max me_int (me_min2 rfl T.b_min me_int (me_len  T.b_len (me_var (i := 0))))) (mg_name (i := 1) nd) (mss_one (ms_if (mt_not (mt_val (me_call ((ok_law_cell_right T).mono (by omega)) gd hr (passes_call (takes_of rfl rfl rfl rfl) (fun _ _ _ _ h => h)) (ma_cons (me_call ((ok_law_box T).mono (by omega)) gd hr (passes_call (takes_of rfl rfl rfl rfl) (fun _ _ _ _ h => h)) (ma_cons (me_call ((ok_law_cell T).mono (by omega)) gd hr (passes_call (takes_of rfl rfl rfl rfl) (fun _ _ _ _ h => h)) (ma_cons (me_var (i := 0)) (ma_cons (me_var (i := 1)) ma_nil))) ma_nil)) ma_nil)))) (mss_one (ms_ret me_bl)) mss_nil))) (mss_one (ms_ret me_bl)))
theorem ok_law (T : Tp P w K mg base) : Kn P w K mg base "law" ["script"] 8 f_law := by
  obtain ⟨f, fd, hf, F⟩ := T.d_law
  exact kn_mk (N := ["script", "k"]) (ps := ["script"]) (k := 7) (body := b_law) hf F sc_law (fun _ _ _ _ _ _ us hl => match us, hl with | [_], _ => rfl) (hb_law T f)
end K01

set_option Elab.async false
set_option linter.all false
set_option maxRecDepth 100000
set_option maxHeartbeats 4000000
namespace K01
open PySem PySem.Spec PyProof.Rows L2 Mx
def inOf : Stmt → Stmt
  | .ClassDef (body := b) .. => b.getD 0 (.Pass ⟨0, 0, 0, 0⟩)
  | s => s
abbrev i_InvalidNet : Stmt := inOf (top 2)
def fn : List He.DefD := [dOf "is_integer" s_is_integer, dOf "is_count" s_is_count, dOf "is_within" s_is_within, dOf "is_index" s_is_index, dOf "is_tuple" s_is_tuple, dOf "in_order" s_in_order, dOf "is_tie" s_is_tie, dOf "is_net" s_is_net, dOf "_law_cell" s_law_cell, dOf "_law_box" s_law_box, dOf "_law_take" s_law_take, dOf "_law_same" s_law_same, dOf "_law_is_int" s_law_is_int, dOf "_law_is_tie" s_law_is_tie, dOf "_law_is_net" s_law_is_net, dOf "_law_bad_numbers" s_law_bad_numbers, dOf "_law_bad_ends" s_law_bad_ends, dOf "_law_bad_ties" s_law_bad_ties, dOf "_law_bad_wholes" s_law_bad_wholes, dOf "_law_put" s_law_put, dOf "_law_number" s_law_number, dOf "_law_net" s_law_net, dOf "_law_all_spoilt" s_law_all_spoilt, dOf "_law_asked_right" s_law_asked_right, dOf "_law_cell_right" s_law_cell_right, dOf "law" s_law, dIn "InvalidNet" "InvalidNet.__init__" i_InvalidNet]
def fa : List He.Fa := [.glo "is_integer", .glo "is_count", .glo "is_within", .glo "is_index", .glo "is_tuple", .glo "in_order", .glo "is_tie", .glo "is_net", .glo "_law_cell", .glo "_law_box", .glo "_law_take", .glo "_law_same", .glo "_law_is_int", .glo "_law_is_tie", .glo "_law_is_net", .glo "_law_bad_numbers", .glo "_law_bad_ends", .glo "_law_bad_ties", .glo "_law_bad_wholes", .glo "_law_put", .glo "_law_number", .glo "_law_net", .glo "_law_all_spoilt", .glo "_law_asked_right", .glo "_law_cell_right", .glo "law", .free "abs", .free "all", .free "bool", .free "int", .free "isinstance", .free "len", .free "list", .free "max", .free "min", .free "range", .free "repr", .free "sorted", .free "str", .free "sum", .free "tuple", .int "MOST_PLACES" 20, .int "MOST_TIES" 120, .glo "InvalidNet"]
def xb (K : PySem.W.Frag) : Bool := excB "InvalidNet" "given" K && (baB "RoadError" K)
def loose : List PySem.Str := (["RoadError", "InvalidNet", "is_integer", "is_count", "is_within", "is_index", "is_tuple", "in_order", "MOST_PLACES", "MOST_TIES", "is_tie", "is_net", "_law_cell", "_law_box", "_law_take", "_law_same", "_law_is_int", "_law_is_tie", "_law_is_net", "_law_bad_numbers", "_law_bad_ends", "_law_bad_ties", "_law_bad_wholes", "_law_put", "_law_number", "_law_net", "_law_all_spoilt", "_law_asked_right", "_law_cell_right"] : List PySem.Str)
abbrev R : PySem.W.OpenRow := PySem.W.OpenLaw.row PySem.Challenge.rw_cutpatch_k01_nets_judged
abbrev hk : PySem.W.Hook := hookX 4 fa fn xb
def ob (s : PySem.W.SharedT) : AlX := obsXG 4 fa fn xb (HandSHeadRun.getT s)
theorem ob_eq (s : PySem.W.SharedT) : ob s = hk.obs s.abs := obsX_at (HandSHeadRun.getT_eq s)
theorem run (w : World) : HandSHeadRun.RunEq R (PySem.W.view R.prog [33]) hk ob 4000 loose w := by
  intro os
  kernel_rfl

theorem tp_of {P : Program} {w : World} {K : PySem.W.Frag} {g : Heap} {mg : Mg} (X : K.In g) (G : g.Ns mainGlobals mg) (c : SaysX fa fn xb K) (base : Heap) : Tp P w K mg base := by
  have more := c.more
  unfold xb at more
  obtain ⟨e_InvalidNet, more⟩ := He.ba more
  have hB := baB_ok X G more
  obtain ⟨fd0, F0⟩ := c.base.def_ 0 rfl
  obtain ⟨fd1, F1⟩ := c.base.def_ 1 rfl
  obtain ⟨fd2, F2⟩ := c.base.def_ 2 rfl
  obtain ⟨fd3, F3⟩ := c.base.def_ 3 rfl
  obtain ⟨fd4, F4⟩ := c.base.def_ 4 rfl
  obtain ⟨fd5, F5⟩ := c.base.def_ 5 rfl
  obtain ⟨fd6, F6⟩ := c.base.def_ 6 rfl
  obtain ⟨fd7, F7⟩ := c.base.def_ 7 rfl
  obtain ⟨fd8, F8⟩ := c.base.def_ 8 rfl
  obtain ⟨fd9, F9⟩ := c.base.def_ 9 rfl
  obtain ⟨fd10, F10⟩ := c.base.def_ 10 rfl
  obtain ⟨fd11, F11⟩ := c.base.def_ 11 rfl
  obtain ⟨fd12, F12⟩ := c.base.def_ 12 rfl
  obtain ⟨fd13, F13⟩ := c.base.def_ 13 rfl
  obtain ⟨fd14, F14⟩ := c.base.def_ 14 rfl
  obtain ⟨fd15, F15⟩ := c.base.def_ 15 rfl
  obtain ⟨fd16, F16⟩ := c.base.def_ 16 rfl
  obtain ⟨fd17, F17⟩ := c.base.def_ 17 rfl
  obtain ⟨fd18, F18⟩ := c.base.def_ 18 rfl
  obtain ⟨fd19, F19⟩ := c.base.def_ 19 rfl
  obtain ⟨fd20, F20⟩ := c.base.def_ 20 rfl
  obtain ⟨fd21, F21⟩ := c.base.def_ 21 rfl
  obtain ⟨fd22, F22⟩ := c.base.def_ 22 rfl
  obtain ⟨fd23, F23⟩ := c.base.def_ 23 rfl
  obtain ⟨fd24, F24⟩ := c.base.def_ 24 rfl
  obtain ⟨fd25, F25⟩ := c.base.def_ 25 rfl
  obtain ⟨fi0, I0⟩ := c.base.def_ 26 rfl
  obtain ⟨T0, X0, n0, i0, t0⟩ := excB_ok e_InvalidNet
  have J0 : FnOk P w K mg base (L2.CX P w) 1 _ fi0 ["self", "given"] (spIn (He.ga K "InvalidNet")) := init_ok (qual := "InvalidNet.__init__") (st := i_InvalidNet) (k := 0) (fun_of (st := i_InvalidNet) I0) rfl rfl T0 hB n0 (fun _ _ => ⟨_, rfl⟩)
  exact ⟨He.free_ok X G (c.base.fact 26 rfl),
    He.free_ok X G (c.base.fact 27 rfl),
    He.free_ok X G (c.base.fact 28 rfl),
    He.free_ok X G (c.base.fact 29 rfl),
    He.free_ok X G (c.base.fact 30 rfl),
    He.free_ok X G (c.base.fact 31 rfl),
    He.free_ok X G (c.base.fact 32 rfl),
    He.free_ok X G (c.base.fact 33 rfl),
    He.free_ok X G (c.base.fact 34 rfl),
    He.free_ok X G (c.base.fact 35 rfl),
    He.free_ok X G (c.base.fact 36 rfl),
    He.free_ok X G (c.base.fact 37 rfl),
    He.free_ok X G (c.base.fact 38 rfl),
    He.free_ok X G (c.base.fact 39 rfl),
    He.free_ok X G (c.base.fact 40 rfl),
    He.int_ok X G (c.base.fact 41 rfl),
    He.int_ok X G (c.base.fact 42 rfl),
    ⟨_, _, fi0, ⟨He.glo_ok X G (c.base.fact 43 rfl), T0, X0, i0, t0, I0.bindsN (fun _ _ _ _ _ _ us hl => match us, hl with | [_, _], _ => rfl), J0⟩⟩,
    ⟨_, fd0, He.glo_ok X G (c.base.fact 0 rfl), F0⟩,
    ⟨_, fd1, He.glo_ok X G (c.base.fact 1 rfl), F1⟩,
    ⟨_, fd2, He.glo_ok X G (c.base.fact 2 rfl), F2⟩,
    ⟨_, fd3, He.glo_ok X G (c.base.fact 3 rfl), F3⟩,
    ⟨_, fd4, He.glo_ok X G (c.base.fact 4 rfl), F4⟩,
    ⟨_, fd5, He.glo_ok X G (c.base.fact 5 rfl), F5⟩,
    ⟨_, fd6, He.glo_ok X G (c.base.fact 6 rfl), F6⟩,
    ⟨_, fd7, He.glo_ok X G (c.base.fact 7 rfl), F7⟩,
    ⟨_, fd8, He.glo_ok X G (c.base.fact 8 rfl), F8⟩,
    ⟨_, fd9, He.glo_ok X G (c.base.fact 9 rfl), F9⟩,
    ⟨_, fd10, He.glo_ok X G (c.base.fact 10 rfl), F10⟩,
    ⟨_, fd11, He.glo_ok X G (c.base.fact 11 rfl), F11⟩,
    ⟨_, fd12, He.glo_ok X G (c.base.fact 12 rfl), F12⟩,
    ⟨_, fd13, He.glo_ok X G (c.base.fact 13 rfl), F13⟩,
    ⟨_, fd14, He.glo_ok X G (c.base.fact 14 rfl), F14⟩,
    ⟨_, fd15, He.glo_ok X G (c.base.fact 15 rfl), F15⟩,
    ⟨_, fd16, He.glo_ok X G (c.base.fact 16 rfl), F16⟩,
    ⟨_, fd17, He.glo_ok X G (c.base.fact 17 rfl), F17⟩,
    ⟨_, fd18, He.glo_ok X G (c.base.fact 18 rfl), F18⟩,
    ⟨_, fd19, He.glo_ok X G (c.base.fact 19 rfl), F19⟩,
    ⟨_, fd20, He.glo_ok X G (c.base.fact 20 rfl), F20⟩,
    ⟨_, fd21, He.glo_ok X G (c.base.fact 21 rfl), F21⟩,
    ⟨_, fd22, He.glo_ok X G (c.base.fact 22 rfl), F22⟩,
    ⟨_, fd23, He.glo_ok X G (c.base.fact 23 rfl), F23⟩,
    ⟨_, fd24, He.glo_ok X G (c.base.fact 24 rfl), F24⟩,
    ⟨_, fd25, He.glo_ok X G (c.base.fact 25 rfl), F25⟩⟩
end K01

set_option Elab.async false
set_option linter.all false
set_option maxRecDepth 100000
set_option maxHeartbeats 4000000
namespace K01
open PySem PySem.Spec PyProof.Rows L2 Mx
theorem facts {P : Program} {w : World} {K : PySem.W.Frag} {h : Heap} {mg : Mg} {f : Addr} (X : K.In h) (G : h.Ns mainGlobals mg) (hfa : mg ("law" : Str) = some (.ref f)) (c : SaysX fa fn xb K) :
    ∃ fd : FuncData, (∀ (s : Shared) (v : Value), BindsTo s fd ⟨[v], []⟩ [("script", v)]) ∧ ∀ base : Heap, K.In base → base.Ns mainGlobals mg → FnG P w K mg base (L2.CX P w) 8 f fd ["script"] (spF K mg f_law) := by
  obtain ⟨fd, F⟩ := c.base.def_ 25 rfl
  have e := hfa.symm.trans (He.glo_ok X G (c.base.fact 25 (f := .glo "law") rfl))
  cases e
  have b := FunD.bindsA (ps := ["script"]) F fun _ _ _ _ _ _ us hl => match us, hl with | [_], _ => rfl
  exact ⟨fd, fun s v => b s [v] rfl, fun base _ _ => fn_ok (fun_of F) sc_law (hb_law (tp_of X G c base) _)⟩
theorem noX (P : Program) (w : World) (H : Hp) (t : Shared) (e : Value) (t' : Shared) : L2.CX P w [] H t (fun _ _ _ => False) e t' → False := fun h => by
  obtain ⟨_, _, _, _, _, _, _, _, _, _, _, _, z⟩ := h
  exact z
end K01
open PySem PySem.W PySem.Calls PyProof.Rows
theorem PySem.Challenge.cw_cutpatch_k01_nets_judged_holds : PySem.Challenge.rw_cutpatch_k01_nets_judged.Holds := by
  w_on; o_law
  refine HandSHeadRun.head_any (r := OpenLaw.row PySem.Challenge.rw_cutpatch_k01_nets_judged) (q := view (OpenLaw.row PySem.Challenge.rw_cutpatch_k01_nets_judged).prog [33]) (H := K01.hk) (ob := K01.ob) (M := 4000) (loose := K01.loose) (d := HandSHeadRun.topDef (OpenLaw.row PySem.Challenge.rw_cutpatch_k01_nets_judged).prog 33) (kwd := []) K01.ob_eq
    (by kernel_rfl) (fun s => by kernel_rfl) K01.run (by kernel_rfl) (by kernel_rfl) (by kernel_rfl) (by rfl) (by first | assumption | decide +kernel) (by decide +kernel) ⟨rfl, rfl, rfl, rfl, rfl, by decide +kernel⟩ ?hw ?hc
  case hw => w_witness2
  case hc =>
    refine Mx.walk_ofG (l := PySem.Challenge.rw_cutpatch_k01_nets_judged) (n := 63) (k := 8) (x := "script") rfl (by decide) (by kernel_rfl) ⟨rfl, by decide, by decide⟩ ?F K01.noX
    intro w mg fa h Y G hmg0
    obtain ⟨K, KX, c⟩ := Y
    have hmg : mg ("law" : PySem.Str) = some (.ref fa) := by
      have e : (HandSHeadRun.topDef (OpenLaw.row PySem.Challenge.rw_cutpatch_k01_nets_judged).prog 33).name = ("law" : PySem.Str) := by kernel_rfl
      rw [← e]
      exact hmg0
    obtain ⟨fd, hb, hF⟩ := K01.facts (P := (PySem.Challenge.rw_cutpatch_k01_nets_judged).prog) (w := w) KX G hmg c
    exact ⟨K, fd, Mx.spF K mg K01.f_law, KX, hb, fun H a ns hl _ hS => Mx.prom_of hS (K01.law_true hl), hF⟩

