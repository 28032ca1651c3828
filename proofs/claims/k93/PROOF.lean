import PyProof.Rows.All
import Wide.All
import OpenK.AllK
import Wide.FinOn
import KE.KStateDown
import KE.KLam
import Lean
import HandS.ForMost
import HandS.ForExc
import HandS.ExcInit
import HandS.Defaults
import HandS.OwnEq
import HandS.IsInst
import HandS.FStr
import HandS.Style
import HandS.DictComp
import HandS.ClsMeth
import HandS.Star
import HandS.More
import HandS.Lambda
import HandS.Evl
import KE.KSuper
import HandS.HeadHook4
import HandS.Head0
import HandS.Head1
import HandS.Head2
import HandS.HeadEnd
import HandS.HeadWalk
import HandS.HeadNt
import HandS.NestedK
import HandS.Codes
import HandS.WordsDict
import KE.KFmtOwn
import KE.KCallOwn
import HandS.Zip
import KE.KExcIs
import HandS.ExcField
import HandS.ExcValue
import HandS.Nested
import HandS.FStrTup
import PyProof.ReprRoads
import PyProof.StrLawsTight
import PyProof.Rows.StrItems
import HandS.EndTab
import PySem.Challenge.RW_manypads_k93_machines_and_trees_written
set_option Elab.async false
set_option linter.all false
set_option maxRecDepth 100000
set_option maxHeartbeats 8000000
/-! Kx1: short rules over the hand layer: defs, methods, classes by name; readings by cases; the two heaps. -/
namespace Mp
open PySem PySem.Spec PyProof.Rows L2
open StX (tMakeR run_makeR pe_makeR)

/-! ### readings by cases -/
section
variable {X : Cx} {e : Expr} {t u : TE}
theorem pe_orc (h : PE X e t) (h' : PE X e u) : PE X e (fun s H Q => t s H Q ∨ u s H Q) :=
  ⟨fun pins s σ H Q I q => q.elim (h.run pins s σ H Q I) (h'.run pins s σ H Q I)⟩
theorem pi_orc {tg l : Expr} {a b : TI} (h : PI X tg l a) (h' : PI X tg l b) : PI X tg l (fun s H R => a s H R ∨ b s H R) :=
  ⟨fun pins s σ H R I q => q.elim (h.run pins s σ H R I) (h'.run pins s σ H R I)⟩
end

/-! ### what may be called -/
section
variable (P : Program) (w : World) (K : PySem.W.Frag) (mg : Str → Option Value) (base : Heap)
/-- the module's def x keeps sp -/
structure Cal (x : Str) (k : Nat) (sp : Sp) : Prop where
  ex : ∃ f : Addr, FnR P w K mg base (L2.CX P w) k f sp ∧ mg x = some (.ref f) ∧ PySem.W.keepIn K (.ref f) = true
/-- instances of the class at C have the method m that keeps sp -/
structure Cmt (C : Addr) (m : Str) (k : Nat) (sp : Sp) : Prop where
  cl : Cls K C
  ex : ∃ f : Addr, FnR P w K mg base (L2.CX P w) k f sp ∧ Meth K C m f
/-- the module's class x is at C; its __init__ keeps sp -/
structure Cmk (x : Str) (C : Addr) (k : Nat) (sp : Sp) : Prop where
  ex : ∃ f : Addr, FnR P w K mg base (L2.CX P w) k f sp ∧ mg x = some (.ref C) ∧ Mk K C f
end
/-- f(..) -/
def tFn (sp : Sp) (E : XK) (t : TA) : TE := fun σ H Q => t σ H fun vs H1 => sp vs H1 Q E
/-- o.m(..) of an instance of the class at C -/
def tMt (C : Addr) (m : Str) (sp : Sp) (E : XK) (ta : TE) (t : TA) : TE := fun σ H Q => ta σ H fun x H1 => ∃ a dx fs, x = .ref a ∧ H1 a = some (.ins C dx fs) ∧ fs.lookup m = none ∧
  t σ H1 fun vs H2 => sp (x :: vs) H2 Q E
section
variable {X : Cx} {x m : Str} {k k0 : Nat} {sp : Sp} {E : XK} {p pos apos : Pos} {e o : Expr} {es : List Expr} {ta : TE} {t : TA} {C : Addr}
theorem pe_fn (F : Cal X.prog X.w X.K X.mg X.base x k sp) (hr : Room k0 X.A) (hx : Passes (L2.CX X.prog X.w) X E) (ha : PA X (e :: es) t) (hk : k ≤ k0 := by decide) (hg : Gl X x := by rfl)
    (hdb : (x == ("__debug__" : Str)) = false := by decide) (he : starEach (e :: es) X.env = (false, eval e X.env) :: starEach es X.env := by rfl) (hpl : (backTo pos (starEach es X.env)).any (·.1) = false := by rfl) :
    PE X (.Call (.Name x p) (e :: es) [] pos) (tFn sp E t) := by
  obtain ⟨f, G, hm, kp⟩ := F.ex
  refine ⟨fun pins s σ H Q I h => ?_⟩
  refine wpAny_Call_Name_kw (ld_glob I hg hm ?_ hdb)
  refine PySem.W.callWith_K (h₀ := X.base) I.ok.mod.kin kp (thn (ha.run pos pins s σ H _ I h) fun us s1 ⟨vs, H1, I1, r, q⟩ => ⟨I1.kIn, ?_⟩) he hpl
  exact wpAny_call (run_fnR G (hr.mono hk) hx I1 r q)
theorem pe_fn0 (F : Cal X.prog X.w X.K X.mg X.base x k sp) (hr : Room k0 X.A) (hx : Passes (L2.CX X.prog X.w) X E) (hk : k ≤ k0 := by decide) (hg : Gl X x := by rfl)
    (hdb : (x == ("__debug__" : Str)) = false := by decide) : PE X (.Call (.Name x p) [] [] pos) (tFn sp E tNil) := by
  obtain ⟨f, G, hm, kp⟩ := F.ex
  refine ⟨fun pins s σ H Q I h => ?_⟩
  refine wpAny_Call_Name_kw (ld_glob I hg hm ?_ hdb)
  exact PySem.W.callWith_K0 I.kIn kp (wpAny_call (run_fnR (us := []) G (hr.mono hk) hx I .nil h))
theorem pe_mt {pl : Sem Bool} (he : PE X o ta) (F : Cmt X.prog X.w X.K X.mg X.base C m k sp) (hr : Room k0 X.A) (hx : Passes (L2.CX X.prog X.w) X E) (ha : PA X (e :: es) t) (hk : k ≤ k0 := by decide)
    (hst : starEach (e :: es) X.env = (false, eval e X.env) :: starEach es X.env := by rfl) (hpl : (backTo pos (starEach es X.env)).any (·.1) = false := by rfl)
    (ht : eval (.Call (.Attribute o m apos) (e :: es) [] pos) X.env = (do
      let ov ← eval o X.env
      standAt apos.atName
      let (f, first) ← holding [ov] (getMethod ov m pl)
      callWith pos f first (backTo pos (starEach (e :: es) X.env)) (backToKw pos (keywordEach [] X.env))) := by rfl) :
    PE X (.Call (.Attribute o m apos) (e :: es) [] pos) (tMt C m sp E ta t) := by
  obtain ⟨f, G, hm⟩ := F.ex
  refine ⟨fun pins s σ H Q I h => ?_⟩
  refine PySem.W.methodCall_KW (pl := pl) (thn (he.run pins s σ H _ I h) fun u s1 ⟨x, H1, I1, rx, a, dx, fs, ex, hi, hl, q⟩ => ?_) ht
  subst ex
  obtain rfl : u = Value.ref a := rx
  refine getmeth_ok I1 hi F.cl hm hl ?_
  refine PySem.W.callWith_K (first := [.ref a]) (h₀ := X.base) I.ok.mod.kin hm.kp (thn (ha.run pos pins s1 σ H1 _ I1 q) fun us s2 ⟨ws, H2, I2, r, q2⟩ => ⟨I2.kIn, ?_⟩) hst hpl
  exact wpAny_call (run_fnR (us := .ref a :: us) (vs := .ref a :: ws) G (hr.mono hk) hx I2 (.cons rfl r) q2)
theorem pe_mt0 {pl : Sem Bool} (he : PE X o ta) (F : Cmt X.prog X.w X.K X.mg X.base C m k sp) (hr : Room k0 X.A) (hx : Passes (L2.CX X.prog X.w) X E) (hk : k ≤ k0 := by decide)
    (ht : eval (.Call (.Attribute o m apos) [] [] pos) X.env = (do
      let ov ← eval o X.env
      standAt apos.atName
      let (f, first) ← holding [ov] (getMethod ov m pl)
      callWith pos f first (backTo pos (starEach [] X.env)) (backToKw pos (keywordEach [] X.env))) := by rfl) :
    PE X (.Call (.Attribute o m apos) [] [] pos) (tMt C m sp E ta tNil) := by
  obtain ⟨f, G, hm⟩ := F.ex
  refine ⟨fun pins s σ H Q I h => ?_⟩
  refine PySem.W.methodCall_KW (pl := pl) (thn (he.run pins s σ H _ I h) fun u s1 ⟨x, H1, I1, rx, a, dx, fs, ex, hi, hl, q⟩ => ?_) ht
  subst ex
  obtain rfl : u = Value.ref a := rx
  refine getmeth_ok I1 hi F.cl hm hl ?_
  exact PySem.W.callWith_K0 (first := [.ref a]) I1.kIn hm.kp (wpAny_call (run_fnR (us := [.ref a]) (vs := [.ref a]) G (hr.mono hk) hx I1 (.cons rfl .nil) q))
theorem pe_mk (F : Cmk X.prog X.w X.K X.mg X.base x C k sp) (hr : Room k0 X.A) (hx : Passes (L2.CX X.prog X.w) X E) (ha : PA X (e :: es) t) (hk : k + 1 ≤ k0 := by decide) (hg : Gl X x := by rfl)
    (hdb : (x == ("__debug__" : Str)) = false := by decide) (he : starEach (e :: es) X.env = (false, eval e X.env) :: starEach es X.env := by rfl) (hpl : (backTo pos (starEach es X.env)).any (·.1) = false := by rfl) :
    PE X (.Call (.Name x p) (e :: es) [] pos) (tMakeR C sp E t) := by
  obtain ⟨f, G, hm, M⟩ := F.ex
  exact pe_makeR M G (hr.mono hk) hg hm hx ha hdb he hpl
theorem pe_mk0 (F : Cmk X.prog X.w X.K X.mg X.base x C k sp) (hr : Room k0 X.A) (hx : Passes (L2.CX X.prog X.w) X E) (hk : k + 1 ≤ k0 := by decide) (hg : Gl X x := by rfl)
    (hdb : (x == ("__debug__" : Str)) = false := by decide) : PE X (.Call (.Name x p) [] [] pos) (tMakeR C sp E tNil) := by
  obtain ⟨f, G, hm, M⟩ := F.ex
  refine ⟨fun pins s σ H Q I h => ?_⟩
  refine wpAny_Call_Name_kw (ld_glob I hg hm ?_ hdb)
  exact PySem.W.callWith_K0 I.kIn M.kp (run_makeR (us := []) M G (hr.mono hk) hx I .nil h)
end
section
variable {P : Program} {w : World} {K : PySem.W.Frag} {mg : Str → Option Value} {base : Heap} {x m : Str} {C : Addr} {k j : Nat} {sp sp' : Sp}
theorem Cal.imp (F : Cal P w K mg base x k sp) (h : ∀ vs H Q E, sp' vs H Q E → sp vs H Q E) : Cal P w K mg base x k sp' := by
  obtain ⟨f, G, r⟩ := F.ex
  exact ⟨f, G.imp h, r⟩
theorem Cal.mono (F : Cal P w K mg base x k sp) (h : k ≤ j) : Cal P w K mg base x j sp := by
  obtain ⟨f, G, r⟩ := F.ex
  exact ⟨f, G.mono h, r⟩
theorem Cmt.imp (F : Cmt P w K mg base C m k sp) (h : ∀ vs H Q E, sp' vs H Q E → sp vs H Q E) : Cmt P w K mg base C m k sp' := by
  obtain ⟨f, G, r⟩ := F.ex
  exact ⟨F.cl, f, G.imp h, r⟩
theorem Cmt.mono (F : Cmt P w K mg base C m k sp) (h : k ≤ j) : Cmt P w K mg base C m j sp := by
  obtain ⟨f, G, r⟩ := F.ex
  exact ⟨F.cl, f, G.mono h, r⟩
end

/-! ### exceptions of a callee go on -/
/-- in a def's body, with its own wish E -/
theorem passD {X : Cx} {E : XK} (hs : X.stack = X.env :: X.outer := by rfl) (hf : X.env.frame = some X.env.locals := by rfl) (hex : X.ex = [] := by rfl)
    (hx : X.xe = fun e s' => wpAny (model X.prog X.w) X.A (leaving X.env e) (fun _ s'' => L2.CX X.prog X.w X.outer X.H_0 X.s_0 E e s'') (fun e s'' => L2.CX X.prog X.w X.outer X.H_0 X.s_0 E e s'') s' := by rfl) : Passes (L2.CX X.prog X.w) X E :=
  passes_call (takes_of hs hf hex hx) fun _ _ _ _ z => z

/-! ### the heaps: G what stands for good, H all -/
abbrev Ex (H H' : Hp) : Prop := ∀ a o, H a = some o → H' a = some o
theorem Ex.rfl' {H : Hp} : Ex H H := fun _ _ h => h
theorem Ex.trans {H H1 H2 : Hp} (a : Ex H H1) (b : Ex H1 H2) : Ex H H2 := fun x o h => b x o (a x o h)
theorem Ex.new {H : Hp} {p : Addr} {o : HO} (h : H p = none) : Ex H (upd H p o) := fun a u e => by
  rw [upd_ne (ne_of_none e h)]
  exact e
theorem Ex.mut {H H' : Hp} {p : Addr} {o : HO} (e : Ex H H') (h : H p = none) : Ex H (upd H' p o) := fun a u ha => by
  rw [upd_ne (ne_of_none ha h)]
  exact e a u ha
theorem Ex.both {H H' : Hp} {p : Addr} {o : HO} (e : Ex H H') : Ex (upd H p o) (upd H' p o) := fun a u ha => by
  by_cases h : a = p
  · rw [h, upd_same] at ha ⊢
    exact ha
  · rw [upd_ne h] at ha ⊢
    exact e a u ha
theorem Ex.free {H H' : Hp} (e : Ex H H') {l : Addr} (h : H' l = none) : H l = none := by
  cases q : H l with
  | none => rfl
  | some o =>
    rw [e l o q] at h
    cases h
theorem Ex.pub {H H' : Hp} {p : Addr} {o : HO} (e : Ex H H') (h : H' p = some o) : Ex (upd H p o) H' := fun a u ha => by
  by_cases q : a = p
  · rw [q, upd_same] at ha
    rw [q, h]
    exact ha
  · rw [upd_ne q] at ha
    exact e a u ha
theorem Ex.rd {H H' : Hp} {a : Addr} {u : HO} (e : Ex H H') (h : Rd H a u) : Rd H' a u := by
  rcases h with h | ⟨o, h⟩
  · exact Or.inl (e a _ h)
  · exact Or.inr ⟨o, e a _ h⟩
theorem Ex.l {K : PySem.W.Frag} {H H' : Hp} {a : Addr} {xs : List V} (e : Ex H H') (h : SqL K H a xs) : SqL K H' a xs := h.elim (fun h => Or.inl (Ex.rd e h)) Or.inr
theorem Ex.t {K : PySem.W.Frag} {H H' : Hp} {a : Addr} {xs : List V} (e : Ex H H') (h : SqT K H a xs) : SqT K H' a xs := h.elim (fun h => Or.inl (Ex.rd e h)) Or.inr

/-- from (G, H) to (G', H'): what stood for good stands; of the rest, what M allows may have changed; what is new for good was not there before -/
structure Nx (M : Addr → Prop) (G H G' H' : Hp) : Prop where
  g : Ex G G'
  h : Ex G' H'
  fr : ∀ a, G a = none → H a ≠ none → G' a = none
  kp : ∀ a o, G a = none → H a = some o → ¬ M a → H' a = some o
  al : ∀ a, H a ≠ none → H' a ≠ none
abbrev M0 : Addr → Prop := fun _ => False
section
variable {M N : Addr → Prop} {G H G' H' G2 H2 : Hp} {p : Addr} {o : HO}
theorem Nx.refl (e : Ex G H) : Nx M G H G H := ⟨Ex.rfl', e, fun _ h _ => h, fun _ _ _ h _ => h, fun _ h => h⟩
theorem Nx.mono (n : Nx M G H G' H') (h : ∀ a, M a → N a) : Nx N G H G' H' := ⟨n.g, n.h, n.fr, fun a o g q z => n.kp a o g q fun m => z (h a m), n.al⟩
theorem Nx.trans (a : Nx M G H G' H') (b : Nx M G' H' G2 H2) : Nx M G H G2 H2 where
  g := Ex.trans a.g b.g
  h := b.h
  fr := fun x g h => b.fr x (a.fr x g h) (a.al x h)
  kp := fun x o g h m => b.kp x o (a.fr x g (by rw [h]; simp)) (a.kp x o g h m) m
  al := fun x h => b.al x (a.al x h)
theorem Nx.free (n : Nx M G H G' H') (h : H' p = none) : H p = none := by
  cases q : H p with
  | none => rfl
  | some o => exact absurd h (n.al p (by rw [q]; simp))
/-- a new thing that stays -/
theorem Nx.new (n : Nx M G H G' H') (hp : H' p = none) : Nx M G H (upd G' p o) (upd H' p o) where
  g := fun a u e => by
    rw [upd_ne (ne_of_none (n.g a u e) (Ex.free n.h hp))]
    exact n.g a u e
  h := Ex.both n.h
  fr := fun a g h => by
    have ne : a ≠ p := fun z => by rw [z] at h; exact h (n.free hp)
    rw [upd_ne ne]
    exact n.fr a g h
  kp := fun a u g h m => by
    have ne : a ≠ p := fun z => by rw [z, n.free hp] at h; cases h
    rw [upd_ne ne]
    exact n.kp a u g h m
  al := fun a h => by
    by_cases ne : a = p
    · rw [ne, upd_same]; simp
    · rw [upd_ne ne]; exact n.al a h
/-- a new thing of one's own -/
theorem Nx.own (n : Nx M G H G' H') (hp : H' p = none) : Nx M G H G' (upd H' p o) where
  g := n.g
  h := Ex.mut n.h (Ex.free n.h hp)
  fr := n.fr
  kp := fun a u g h m => by
    have ne : a ≠ p := fun z => by rw [z, n.free hp] at h; cases h
    rw [upd_ne ne]
    exact n.kp a u g h m
  al := fun a h => by
    by_cases ne : a = p
    · rw [ne, upd_same]; simp
    · rw [upd_ne ne]; exact n.al a h
/-- one's own thing is written -/
theorem Nx.set (n : Nx M G H G' H') (hg : G' p = none) (hp : H p = none ∨ M p) : Nx M G H G' (upd H' p o) where
  g := n.g
  h := Ex.mut n.h hg
  fr := n.fr
  kp := fun a u g h m => by
    have ne : a ≠ p := fun z => by
      rcases hp with hp | hp
      · rw [z, hp] at h; cases h
      · rw [z] at m; exact m hp
    rw [upd_ne ne]
    exact n.kp a u g h m
  al := fun a h => by
    by_cases ne : a = p
    · rw [ne, upd_same]; simp
    · rw [upd_ne ne]; exact n.al a h
/-- one's own thing stays from now on -/
theorem Nx.pub (n : Nx M G H G' H') (hg : G' p = none) (hp : H p = none) (h : H' p = some o) : Nx M G H (upd G' p o) H' where
  g := fun a u e => by
    rw [upd_ne (ne_of_none (n.g a u e) hg)]
    exact n.g a u e
  h := Ex.pub n.h h
  fr := fun a g h => by
    have ne : a ≠ p := fun z => by rw [z] at h; exact h hp
    rw [upd_ne ne]
    exact n.fr a g h
  kp := n.kp
  al := n.al
/-- one's own thing behind a callee -/
theorem Nx.keep (n : Nx M G H G' H') (hg : G p = none) (h : H p = some o) (m : ¬ M p) : G' p = none ∧ H' p = some o := ⟨n.fr p hg (by rw [h]; simp), n.kp p o hg h m⟩
end
end Mp

set_option maxHeartbeats 8000000
/-! Kx2: methods that capture __class__: super().__init__(..) -/
namespace Mp
open PySem PySem.Spec PyProof.Rows L2
open StX (tMakeR run_makeR pe_makeR)

/-- the names of a method that captures __class__ alone -/
structure ScS (N P : List Str) (sc : Scope) : Prop where
  kind : sc.kind = .function
  co : sc.isCoroutine = false
  gen : sc.isGenerator = false
  nd : N.Nodup
  pre : N.take P.length = P
  par : ∀ x ∈ P, sc.names.lookup x = some .local
  nocell : ∀ y ∈ sc.names, y.2 ≠ .cell
  free : ∀ y ∈ sc.names, y.2 = .free → y.1 = "__class__"
abbrev envS (qual : Str) (scope : Scope) (L f : Addr) (cd : Value) (cc : Addr) : Env := PySem.W.envX qual scope L f cd [("__class__", cc)]
/-- the context of its body -/
def cxS (P : Program) (w : World) (K : PySem.W.Frag) (mg : Str → Option Value) (base : Heap) (N : List Str) (qual : Str) (scope : Scope) (f : Addr) (cd : Value) (cc : Addr) (A : Around) (outer : List Env) (s : Shared) (H : Hp) (E : XK) : Cx where
  prog := P
  w := w
  K := K
  mg := mg
  base := base
  A := A.deeper (envS qual scope s.heap.objs.size f cd cc)
  N := N
  s_0 := s
  H_0 := H
  env := envS qual scope s.heap.objs.size f cd cc
  outer := outer
  stack := envS qual scope s.heap.objs.size f cd cc :: outer
  ex := []
  calm := true
  fn := fun x => !(x == ("__class__" : Str))
  pn := []
  xe := fun e s' => wpAny (model P w) (A.deeper (envS qual scope s.heap.objs.size f cd cc)) (leaving (envS qual scope s.heap.objs.size f cd cc) e) (fun _ s'' => L2.CX P w outer H s E e s'') (fun e' s'' => L2.CX P w outer H s E e' s'') s'

theorem rev_lookup {ps : List Str} {us : List Value} (nd : ps.Nodup) : ∀ {i : Nat} {x : Str} {u : Value}, ps[i]? = some x → us[i]? = some u → (ps.zip us).reverse.lookup x = some u := by
  intro i x u h1 h2
  have hm : (x, u) ∈ (ps.zip us).reverse := by
    rw [List.mem_reverse]
    refine List.mem_of_getElem? (i := i) ?_
    rw [List.getElem?_zip_eq_some]
    exact ⟨h1, h2⟩
  obtain ⟨u', e⟩ := mem_lookup hm
  have hm' : (x, u') ∈ (ps.zip us).reverse := PySem.mem_of_lookup e
  rw [List.mem_reverse] at hm'
  obtain ⟨j, hj⟩ := List.mem_iff_getElem?.mp hm'
  rw [List.getElem?_zip_eq_some] at hj
  have := nd_ix nd h1 hj.1
  subst this
  have hj2 := hj.2
  rw [h2] at hj2
  rw [e, ← (Option.some.inj hj2 : u = u')]

/-- a block of a method whose running code is known -/
structure PSA (X : Cx) (c : Code) (st : List Stmt) (t : TS) : Prop where
  run : ∀ (pins : List (Addr × Obj)) (s : Shared) (σ : L2.St) (H : Hp) (D : Ends), Inv X pins σ H s → t D σ H → _root_.PySem.wpAt (model X.prog X.w) X.A c (execs st X.env) (SP X pins D) X.xe s
section
variable {X : Cx} {c : Code} {st : Stmt} {rest : List Stmt} {t u : TS}
theorem psa_of (h : PSs X rest t) : PSA X c rest t := ⟨fun pins s σ H D I q => wpAt_of_wpAny (h.run pins s σ H D I q)⟩
theorem psa_cons (h1 : PS X st t) (h2 : PSA X c rest u) : PSA X c (st :: rest) (tSeq t u) := by
  refine ⟨fun pins s σ H D I h => ?_⟩
  refine PySem.ks_wpAt_execs_cons (wpAt_of_wpAny (thn (h1.run pins s σ H { D with nx := u D } I h) fun f s1 q => ?_))
  cases f with
  | next =>
    obtain ⟨σ', H', I', q⟩ := q
    exact h2.run pins s1 σ' H' D I' q
  | ret v => exact q
  | brk => exact q
  | cont => exact q
end
/-- what super().m(..) asks of the written part: the def at f, its first parameter, its code and its cell (the class at D), the class at C of the instance, the method at g -/
structure SupC (prog : Program) (K : PySem.W.Frag) (D f cc : Addr) (cd : Value) : Prop where
  fn : ∃ (oc : Value) (od : Option Addr) (fd : FuncData) (osl : Array (Option Value)) (ar : Arg), K.lookup f = some ⟨oc, od, .func fd, osl⟩ ∧ (fd.params.posonlyargs ++ fd.params.args).head? = some ar ∧ ar.arg = "self"
  code : ∃ (cda : Addr) (ccl : Value) (cdd : Option Addr) (vs : Array Value) (ccs : Array (Option Value)) (tf : Tok), cd = .ref cda ∧ K.lookup cda = some ⟨ccl, cdd, .fields vs, ccs⟩ ∧ vs[2]? = some (.str prog.main.file tf)
  cell : ∃ (cl : Value) (cld : Option Addr) (csl : Array (Option Value)), K.lookup cc = some ⟨cl, cld, .cell (some (.ref D)), csl⟩
  cls : ∃ cdD, PySem.W.clsIn K D = some cdD
  nosup : PySem.W.nsIn K mainGlobals "super" = some none
  top : (prog.main.scope.names.lookup ("super" : Str)).isSome = false
  opq : PySem.W.nsIn K PySem.cStatics "thirdparty.any" = some none
/-- the method m that super() finds from the class at D for an instance of the class at C: the def at g -/
structure SupM (K : PySem.W.Frag) (C D : Addr) (m : Str) (g : Addr) : Prop where
  sub : PySem.W.mroIn K C (.ref D) = some true
  at_ : PySem.W.ks_superIn K C D m = some (some (.ref g))
  fn : PySem.W.typeIn K (.ref g) = some (.type "function")
  fi : PySem.W.fnIn K g = true
/-- super().m(e, ..) as a statement; self at slot 0 -/
def tSup (K : PySem.W.Frag) (D : Addr) (m : Str) (G : Addr → Sp → Prop) (E : XK) (ta : TA) (u : TS) : TS := fun Dn σ H => ∃ (a C dx g : Addr) (fs : List (Str × V)) (sp : Sp), σ[0]? = some (some (.ref a)) ∧ H a = some (.ins C dx fs) ∧ SupM K C D m g ∧ G g sp ∧
  ta σ H fun vs H1 => sp (.ref a :: vs) H1 (fun _ H2 => u Dn σ H2) E
section
variable {P : Program} {w : World} {K : PySem.W.Frag} {mg : Str → Option Value} {base : Heap} {N ps : List Str} {qual : Str} {scope : Scope} {f : Addr} {cd : Value} {cc : Addr} {A : Around} {outer : List Env} {s : Shared} {H : Hp} {E : XK} {us : List Value} {vs : List V}
theorem inv_startS {h₁ : Heap} {tk : Nat} (S : ScS N ps scope) (hd : A.handled = none) (e0 : Env0 P w K mg base A outer s H) (hl : vs.length = ps.length) (r : Vals vs us)
    (hcc : ∃ (cl : Value) (cld : Option Addr) (v : Option Value) (csl : Array (Option Value)), K.lookup cc = some ⟨cl, cld, .cell v, csl⟩)
    (hns : h₁.Ns s.heap.objs.size fun x => (ps.zip us).reverse.lookup x) (hk : ∀ b o, s.heap.get? b = some o → h₁.get? b = some o) :
    Inv (cxS P w K mg base N qual scope f cd cc A outer s H E) [] (L2.start N vs) H { s with heap := h₁, toks := tk } := by
  have hpl : ps.length ≤ N.length := by have := congrArg List.length S.pre; rw [List.length_take] at this; omega
  have noA : ∀ b : Addr, b ∉ (cxS P w K mg base N qual scope f cd cc A outer s H E).ex := fun b z => absurd (show b ∈ ([] : List Addr) from z) (by simp)
  have cl1 : ∀ {x c}, (cxS P w K mg base N qual scope f cd cc A outer s H E).env.cells.lookup x = some c → x = "__class__" ∧ c = cc := fun {x c} h => by
    have h : (match x == ("__class__" : Str) with | true => some cc | false => ([] : List (Str × Addr)).lookup x) = some c := h
    cases q : x == ("__class__" : Str) with
    | true =>
      rw [q] at h
      exact ⟨beq_iff_eq.mp q, (Option.some.inj h).symm⟩
    | false =>
      rw [q] at h
      cases h
  obtain ⟨cl, cld, cv, csl, hcc⟩ := hcc
  have hcb : base.get? cc = some _ := e0.mod.kin _ _ hcc
  have hcs := e0.bs _ _ hcb
  refine ⟨⟨e0.mod, S.kind, rfl, rfl, Nat.le_refl _, fun y z c h1 h2 => (cl1 h1).1.trans (cl1 h2).1.symm, fun y hy => ?_, fun y c h0 h => ?_, fun _ => hd, Around.frames_deeper e0.frames, .inr ⟨rfl, rfl⟩, fun b z => absurd z (noA b), e0.bs, e0.bsz, fun b _ _ => noA b, fun b z => absurd z (noA b), e0.funs, e0.frf⟩,
    rfl, e0.bare, Un.kept hk, ⟨_, hns, fun i y v h1 h2 h3 => ?_⟩, fun y c h => ?_, e0.hok.fresh (Nat.le_refl _), fun y c h => ?_, fun p hp => absurd (show p ∈ ([] : List (Addr × Obj)) from hp) (by simp), e0.hok.kept hk, ?_⟩
  · have hy : scope.names.lookup y = some .cell ∨ scope.names.lookup y = some .free := hy
    rcases hy with hy | hy
    · exact absurd rfl (S.nocell _ (PySem.mem_of_lookup hy))
    · have e := S.free _ (PySem.mem_of_lookup hy) rfl
      have e : y = "__class__" := e
      subst e
      exact ⟨cc, rfl⟩
  · rw [(cl1 h).1] at h0
    have h0 : (!(("__class__" : Str) == ("__class__" : Str))) = true := h0
    simp at h0
  · have hi : i < vs.length := by
      unfold L2.start at h2
      by_cases hi : i < vs.length
      · exact hi
      · rw [List.getElem?_append_right (by simpa using hi)] at h2
        rw [List.getElem?_replicate] at h2
        split at h2 <;> cases h2
    have ha : vs[i]? = some v := by
      unfold L2.start at h2
      rw [List.getElem?_append_left (by simpa using hi), List.getElem?_map] at h2
      cases e : vs[i]? with
      | none => rw [e] at h2; cases h2
      | some a => rw [e] at h2; cases h2; rfl
    obtain ⟨u, hu, rv⟩ := r.get ha
    have hp : ps[i]? = some y := by
      rw [← S.pre, List.getElem?_take_of_lt (by omega)]; exact h1
    have ndP : ps.Nodup := by rw [← S.pre]; exact S.nd.sublist (List.take_sublist _ _)
    exact ⟨u, rv, .inl ⟨S.par y (List.mem_of_getElem? hp), rev_lookup ndP hp hu⟩⟩
  · rw [(cl1 h).2]
    exact ⟨cv, _, hk _ _ hcs.1, rfl⟩
  · rw [(cl1 h).2]
    exact hcs.2
  · unfold L2.start
    show _ = N.length
    rw [List.length_append, List.length_map, List.length_replicate]
    omega
/-- THE RULE for such a method -/
theorem fn_ofS {k : Nat} {name : Str} {params : Arguments} {body : List Stmt} {dV kV doc pm ct oc : Value} {an od : Option Addr} {osl : Array (Option Value)} {sp : Sp}
    (lk : K.lookup f = some ⟨oc, od, .func (PySem.W.fnX name qual params body scope [("__class__", cc)] dV kV doc pm an cd ct), osl⟩) (hcd : PySem.W.codeIn K cd qual = true) (S : ScS N ps scope)
    (hcc : ∃ (cl : Value) (cld : Option Addr) (v : Option Value) (csl : Array (Option Value)), K.lookup cc = some ⟨cl, cld, .cell v, csl⟩)
    (len : ∀ vs H Q E, sp vs H Q E → vs.length = ps.length)
    (hbody : ∀ (A : Around) (outer : List Env) (s : Shared) (H : Hp) (vs : List V) (Q : VK) (E : XK), Room k (A.deeper (envS qual scope s.heap.objs.size f cd cc)) → sp vs H Q E →
      ∃ t, PSA (cxS P w K mg base N qual scope f cd cc A outer s H E) (.func body (envS qual scope s.heap.objs.size f cd cc)) body t ∧ t { nx := fun _ H' => Q .non H', rt := Q } (L2.start N vs) H) :
    FnOk P w K mg base (L2.CX P w) (k + 1) f (PySem.W.fnX name qual params body scope [("__class__", cc)] dV kV doc pm an cd ct) ps sp := by
  refine ⟨len, fun A outer s H args us vs Q E hr e0 hb r hsp => ?_⟩
  have hl := len _ _ _ _ hsp
  have KX : K.In s.heap := e0.mod.kin.keeps fun b o e => (e0.bs b o e).1
  have lim : s.heap.NoLimit := e0.mod.nolimit.keeps fun b o e => (e0.bs b o e).1
  refine PySem.ks_codeAny_call_defAt (fd := PySem.W.fnX name qual params body scope [("__class__", cc)] dV kV doc pm an cd ct) (body := body) (binds := ps.zip us) hr.depth (KX _ _ lk) rfl lim (PySem.W.codeRec_of KX hcd) rfl hb S.nocell
    (fun y hy => S.par _ (List.of_mem_zip hy).1) (fun h₁ hns hk₁ => ?_) S.co S.gen S.kind
  obtain ⟨t, ht, hq⟩ := hbody A outer s H vs Q E (hr.deeper _) hsp
  have I : Inv (cxS P w K mg base N qual scope f cd cc A outer s H E) [] (L2.start N vs) H { s with heap := h₁, toks := s.toks + (ps.zip us).length } := inv_startS S hr.hd e0 hl r hcc hns hk₁
  refine PySem.ks_wpAt_mono (ht.run [] _ (L2.start N vs) H _ I hq) (fun fl s' hs => ?_) fun e s' hs => hs
  have fin : ∀ {σ' : L2.St} {H' : Hp} {v : V} {u : Value}, Inv (cxS P w K mg base N qual scope f cd cc A outer s H E) [] σ' H' s' → RelV v u → Q v H' → CE outer P w H s Q u s' :=
    fun {σ' H' v u} J rv q => ⟨v, H', J.os, J.bare, J.base, J.hok, rv, q⟩
  cases fl with
  | ret u =>
    obtain ⟨v, σ', H', J, rv, q⟩ := hs
    exact fin J rv q
  | next =>
    obtain ⟨σ', H', J, q⟩ := hs
    exact fin (v := V.non) (u := Value.none) J rfl q
  | brk =>
    obtain ⟨_, _, _, q⟩ := hs
    exact False.elim q
  | cont =>
    obtain ⟨_, _, _, q⟩ := hs
    exact False.elim q
end
/-- super().m(e, ..), then the rest -/
theorem psa_sup {P : Program} {w : World} {K : PySem.W.Frag} {mg : Str → Option Value} {base : Heap} {N : List Str} {qual : Str} {scope : Scope} {f : Addr} {cd : Value} {cc D : Addr} {A : Around} {outer : List Env} {s0 : Shared} {H0 : Hp} {E E' : XK} {body rest : List Stmt}
    {m : Str} {e : Expr} {es : List Expr} {p0 p1 p2 p3 pos : Pos} {ta : TA} {u : TS} {k k0 : Nat}
    (T : SupC P K D f cc cd) (hN : N[0]? = some ("self" : Str)) (hks : scope.names.lookup ("super" : Str) = some .globalImplicit) (hkc : scope.names.lookup ("__class__" : Str) = some .free) (hka : scope.names.lookup ("self" : Str) = some .local) (hk : scope.kind = .function)
    (hr : Room k0 (cxS P w K mg base N qual scope f cd cc A outer s0 H0 E).A) (hx : Passes (L2.CX P w) (cxS P w K mg base N qual scope f cd cc A outer s0 H0 E) E')
    (ha : PA (cxS P w K mg base N qual scope f cd cc A outer s0 H0 E) (e :: es) ta) (hrest : PSA (cxS P w K mg base N qual scope f cd cc A outer s0 H0 E) (.func body (envS qual scope s0.heap.objs.size f cd cc)) rest u) (hkk : k ≤ k0 := by decide)
    (hat : (m == ("__class__" : Str)) = false := by decide)
    (hst : starEach (e :: es) (envS qual scope s0.heap.objs.size f cd cc) = (false, eval e (envS qual scope s0.heap.objs.size f cd cc)) :: starEach es (envS qual scope s0.heap.objs.size f cd cc) := by rfl) (hpl : (backTo p3 (starEach es (envS qual scope s0.heap.objs.size f cd cc))).any (·.1) = false := by rfl)
    (hs : swapsWith (.Call (.Attribute (.Call (.Name "super" p0) [] [] p1) m p2) (e :: es) [] p3) none pos.line (envS qual scope s0.heap.objs.size f cd cc) = pure false := by rfl)
    (he : eval (.Call (.Attribute (.Call (.Name "super" p0) [] [] p1) m p2) (e :: es) [] p3) (envS qual scope s0.heap.objs.size f cd cc) = (do
      let ov ← attributeBase (.Call (.Name "super" p0) [] [] p1) m (envS qual scope s0.heap.objs.size f cd cc) (eval (.Call (.Name "super" p0) [] [] p1) (envS qual scope s0.heap.objs.size f cd cc))
      standAt p2.atName
      let (f', first) ← holding [ov] (getMethod ov m (pure false))
      callWith p3 f' first (backTo p3 (starEach (e :: es) (envS qual scope s0.heap.objs.size f cd cc))) []) := by rfl) :
    PSA (cxS P w K mg base N qual scope f cd cc A outer s0 H0 E) (.func body (envS qual scope s0.heap.objs.size f cd cc)) (.Expr (.Call (.Attribute (.Call (.Name "super" p0) [] [] p1) m p2) (e :: es) [] p3) pos :: rest)
      (tSup K D m (fun g sp => FnR P w K mg base (L2.CX P w) k g sp) E' ta u) := by
  refine ⟨fun pins s σ H Dn I h => ?_⟩
  obtain ⟨a, C, dx, g, fs, sp, hσ, hH, M, G, h⟩ := h
  obtain ⟨cda, ccl, cdd, vs2, ccs, tf, rfl, hcode, hvs⟩ := T.code
  obtain ⟨oc, od, fd, osl, ar, hf, hpar, har⟩ := T.fn
  obtain ⟨cl, cld, csl, hcell⟩ := T.cell
  obtain ⟨cdD, hD⟩ := T.cls
  obtain ⟨m0, hn, hl⟩ := I.loc
  obtain ⟨u0, r0, l0⟩ := hl 0 "self" _ hN hσ (.inl hka)
  obtain rfl : u0 = Value.ref a := r0
  have hself : m0 "self" = some (.ref a) := by
    rcases l0 with ⟨_, z⟩ | ⟨z, _⟩
    · exact z
    · have hka' : (envS qual scope s0.heap.objs.size f (.ref cda) cc).kindOf "self" = some .local := hka
      have z : (envS qual scope s0.heap.objs.size f (.ref cda) cc).kindOf "self" = some .cell ∨ (envS qual scope s0.heap.objs.size f (.ref cda) cc).kindOf "self" = some .free := z
      rw [hka'] at z
      rcases z with z | z <;> cases z
  obtain ⟨mA, O, _⟩ := ins_get I.hok hH
  obtain ⟨odA, J, _⟩ := O.look
  have X : K.In s.heap := I.kIn
  obtain ⟨mb, hb1, hb2⟩ := I.mod.blt
  refine PySem.ks_wpAt_execs_cons (PySem.ks_wpAt_Expr_any (PySem.ks_wpAt_MethodCall (pl := pure false) ?_ he) I.quiet hs)
  refine PySem.ks_wpAt_super_base (env := envS qual scope s0.heap.objs.size f (.ref cda) cc) hks hkc hat rfl (X _ _ hf) rfl hpar rfl (X _ _ hcode) rfl hvs (beq_self_eq_true _) T.top ?_
  rw [har]
  refine PySem.W.ks_loadName_global hk hks (Calls.loadGlobal_builtin (I.mod.glob.keeps I.bk) (PySem.W.mg_none_of I.mod.kin I.mod.glob T.nosup) (hb1.keeps I.bk) ((hb2 "super" (by decide)).trans (by rfl)) ⟨rfl, ?_⟩)
  refine wpAny_loadName_free hk hkc rfl ⟨_, X _ _ hcell, rfl⟩ ?_
  refine wpAny_loadName_local hk hka hn hself ?_
  obtain ⟨hh, gg, dd, tt, oo⟩ := s
  obtain ⟨oD, hD1, hD2⟩ : ∃ oD, hh.get? D = some oD ∧ oD.data = .cls cdD := by
    unfold PySem.W.clsIn at hD
    split at hD
    · rename_i c d cd' sl ho
      cases hD
      exact ⟨_, X _ _ ho, rfl⟩
    · cases hD
  refine PySem.ks_wpAny_isType_cls hD1 hD2 ⟨rfl, ?_⟩
  refine PySem.ks_wpAny_call_super hD1 hD2 J.at_ J.cls (fun c e => ?_) (PySem.W.looks_mroIn X M.sub) (fun h' e k => ?_)
  · have := J.no
    unfold PySem.W.notCls at this
    rw [e] at this
    exact Bool.noConfusion this
  have X' : K.In h' := X.keeps k
  obtain ⟨of, hof, hofc⟩ : ∃ of, h'.get? g = some of ∧ of.cls = .type "function" := by
    have ht' : (K.lookup g).map (·.cls) = some (.type "function") := M.fn
    cases z : K.lookup g with
    | none => rw [z] at ht'; cases ht'
    | some of => rw [z] at ht'; exact ⟨of, X' _ _ z, Option.some.inj ht'⟩
  cases hc : PySem.W.clsIn K C with
  | none => have hm := M.at_; unfold PySem.W.ks_superIn at hm; rw [hc] at hm; cases hm
  | some cd =>
    have hm := M.at_
    unfold PySem.W.ks_superIn at hm
    rw [hc] at hm
    refine PySem.ks_wpAny_getMethod_super e (PySem.W.looks_opaque X' T.opq) (l₀ := cd.mro) ?_ rfl X' hm hof hofc (PySem.W.ks_ne X J hc) hat ?_
    · exact fun A Q E s k q => wpAny_bind ((PySem.W.looks_clsIn X' hc) A _ E s k (wpAny_pure q))
    have hsz : hh.objs.size ≤ h'.objs.size := Nat.le_of_lt (Heap.lt_size e)
    have I1 : Inv (cxS P w K mg base N qual scope f (.ref cda) cc A outer s0 H0 E) ((h'.objs.size, PySem.W.methodObj (.ref g) (.ref a)) :: pins) σ H ⟨h'.push (PySem.W.methodObj (.ref g) (.ref a)), gg, dd, tt + 1, oo⟩ :=
      ClX.pin_new I (fun b o z => Heap.get?_push_of_some _ (k b o z)) hsz (Heap.get?_push_at rfl rfl) (fun v z => nomatch z)
    refine ClX.callwith_cm (X := cxS P w K mg base N qual scope f (.ref cda) cc A outer s0 H0 E) I1 (ClX.base_none I hsz) M.fi ?_ hst hpl
    refine thn (ha.run p3 _ _ σ H _ I1 h) fun us s1 ⟨ws, H1, I2, r, q⟩ => ⟨?_, ?_⟩
    · exact ⟨ClX.pin_at I2, I2.kIn⟩
    · refine thn (ClX.run_cm G (hr.mono hkk) hx I2 r q) fun v s2 ⟨x, H2, I3, r3, q3⟩ => ?_
      exact hrest.run pins s2 σ H2 Dn I3 q3
end Mp

set_option maxHeartbeats 8000000
/-! Kx3: promises by arity; a def, a method, an __init__ from their bodies; x == [] -/
namespace Mp
open PySem PySem.Spec PyProof.Rows L2
open StX (tMakeR run_makeR pe_makeR)

/-! ### promises by arity -/
def sp0 (R : Hp → VK → XK → Prop) : Sp := fun vs H Q E => match vs with
  | [] => R H Q E
  | _ => False
def sp1 (R : V → Hp → VK → XK → Prop) : Sp := fun vs H Q E => match vs with
  | [a] => R a H Q E
  | _ => False
def sp2 (R : V → V → Hp → VK → XK → Prop) : Sp := fun vs H Q E => match vs with
  | [a, b] => R a b H Q E
  | _ => False
def sp3 (R : V → V → V → Hp → VK → XK → Prop) : Sp := fun vs H Q E => match vs with
  | [a, b, c] => R a b c H Q E
  | _ => False
def sp4 (R : V → V → V → V → Hp → VK → XK → Prop) : Sp := fun vs H Q E => match vs with
  | [a, b, c, d] => R a b c d H Q E
  | _ => False
def sp5 (R : V → V → V → V → V → Hp → VK → XK → Prop) : Sp := fun vs H Q E => match vs with
  | [a, b, c, d, e] => R a b c d e H Q E
  | _ => False

section
variable {P : Program} {w : World} {K : PySem.W.Frag} {mg : Str → Option Value} {base : Heap} {n x qual : Str} {params : Arguments} {body : List Stmt} {scope : Scope} {kws : List (Str × V)} {f : Addr} {fd : FuncData} {N ps : List Str} {k : Nat} {sp : Sp}
/-- what a body is to show -/
abbrev Bod (P : Program) (w : World) (K : PySem.W.Frag) (mg : Str → Option Value) (base : Heap) (qual : Str) (scope : Scope) (body : List Stmt) (f : Addr) (N : List Str) (k : Nat) (sp : Sp) : Prop :=
  ∀ (cdv : Value) (A : Around) (outer : List Env) (s : Shared) (H : Hp) (vs : List V) (Q : VK) (E : XK), Room k (A.deeper (envOfC qual scope s.heap.objs.size f cdv)) → sp vs H Q E →
      ∃ t, PSs (cxOf (L2.CX P w) P w K mg base N qual scope f cdv A outer s H E) body t ∧ t { nx := fun _ H' => Q .non H', rt := Q } (L2.start N vs) H
abbrev BindN (qual : Str) (n : Str) (params : Arguments) (body : List Stmt) (scope : Scope) (ps : List Str) : Prop :=
  ∀ (kV doc pm : Value) (an : Option Addr) (cdv ct : Value) (us : List Value), us.length = ps.length → bindArgs (PySem.W.fnOf n qual params body scope .none kV doc pm an cdv ct) ⟨us, []⟩ = pure (ps.zip us)
theorem fnr_of (F : FunD K n qual params body scope [] kws f fd) (S : FnScope N ps scope) (hb : BindN qual n params body scope ps) (len : ∀ vs H Q E, sp vs H Q E → vs.length = ps.length)
    (hbody : Bod P w K mg base qual scope body f N k sp) : FnR P w K mg base (L2.CX P w) (k + 1) f sp := by
  have G := F.ok (P := P) (w := w) (mg := mg) (base := base) (CX := L2.CX P w) S len hbody
  have b : Binds K fd ps [] := F.bindsN hb
  refine (G.raw b .nil).imp fun vs H Q E h => ?_
  show sp (vs ++ []) H Q E
  rw [List.append_nil]
  exact h
theorem cal_of (F : FunD K n qual params body scope [] kws f fd) (hm : mg x = some (.ref f)) (S : FnScope N ps scope) (hb : BindN qual n params body scope ps) (len : ∀ vs H Q E, sp vs H Q E → vs.length = ps.length)
    (hbody : Bod P w K mg base qual scope body f N k sp) : Cal P w K mg base x (k + 1) sp := ⟨f, fnr_of F S hb len hbody, hm, F.kp⟩
theorem cmt_of {C : Addr} (F : FunD K n qual params body scope [] kws f fd) (cl : Cls K C) (hm : Meth K C x f) (S : FnScope N ps scope) (hb : BindN qual n params body scope ps) (len : ∀ vs H Q E, sp vs H Q E → vs.length = ps.length)
    (hbody : Bod P w K mg base qual scope body f N k sp) : Cmt P w K mg base C x (k + 1) sp := ⟨cl, f, fnr_of F S hb len hbody, hm⟩
theorem cmk_of {C : Addr} (F : FunD K n qual params body scope [] kws f fd) (hg : mg x = some (.ref C)) (hm : Mk K C f) (S : FnScope N ps scope) (hb : BindN qual n params body scope ps) (len : ∀ vs H Q E, sp vs H Q E → vs.length = ps.length)
    (hbody : Bod P w K mg base qual scope body f N k sp) : Cmk P w K mg base x C (k + 1) sp := ⟨f, fnr_of F S hb len hbody, hg, hm⟩
end

/-! ### expressions -/
section
variable {X : Cx} {o e : Expr} {to te : TE} {apos cpos : Pos}
theorem pe_append (ho : PE X o to) (he : PE X e te) (hbase : attributeBase o "append" X.env (eval o X.env) = eval o X.env := by rfl)
    (hfew : ((backTo cpos (starEach [e] X.env)).all (fun x => !x.1) && (backToKw cpos (keywordEach [] X.env)).all (fun x => x.1.isSome)
      && decide ([e].length + ([] : List Keyword).length + (if ([] : List Keyword).isEmpty then 0 else 1) < 30)) = true := by rfl)
    (hline : (apos.endLine == cpos.line) = true := by rfl) (hs : starEach [e] X.env = [(false, eval e X.env)] := by rfl) (hplain : (backTo cpos (starEach [] X.env)).any (·.1) = false := by rfl) :
    PE X (.Call (.Attribute o "append" apos) [e] [] cpos) (tBM X.K "list" rAppend to (tCons te tNil)) :=
  pe_bm PySem.F.plainAttrs_list PySem.F.slot_list_append PySem.F.type_list_append mt_append ho (pa_cons he pa_nil hs) hbase hfew hline hs hplain
/-- xs == [], whatever xs holds -/
def rEqNil (K : PySem.W.Frag) : R2 := fun x y H Q => ∃ a b xs, x = .ref a ∧ y = .ref b ∧ SqL K H a xs ∧ SqL K H b [] ∧ Q (.bl xs.isEmpty) H
theorem op_eqNil {X : Cx} (hu : X.A.units < cLine) : OpR X (compareOp .Eq) (rEqNil X.K) := by
  intro pins s σ H x y v u Q I rx ry h
  obtain ⟨a, b, xs, rfl, rfl, h1, h2, q⟩ := h
  obtain ⟨its, rv, l1, z1⟩ := I.list h1
  obtain ⟨its2, rv2, l2, z2⟩ := I.list h2
  cases rx
  cases ry
  have e2 := rv2.length
  have e1 := rv.length
  by_cases hz : xs = []
  · subst hz
    refine PySem.SeqAt.eq_listAt (e := fun _ => true) l1.isList l2.isList (by simp; simp at e1 e2; omega) hu (fun j h1 _ => ?_) ⟨.bl _, H, I, ?_, q⟩
    · simp at h1 e1; omega
    · show Value.bool _ = Value.bool _
      simp at e1
      simp [← e1]
  · refine PySem.SeqAt.eq_list_lengthsAt l1.isList l2.isList ?_ hu ⟨.bl _, H, I, ?_, q⟩
    · have : xs.length ≠ 0 := fun z => hz (List.eq_nil_of_length_eq_zero z)
      simp at e1 e2 ⊢
      omega
    · show Value.bool _ = Value.bool _
      cases xs with
      | nil => exact absurd rfl hz
      | cons _ _ => rfl
end

/-! ### texts by lists -/
def S (l : List Nat) : Str := ⟨l.toArray⟩
theorem S_len (l : List Nat) : (S l).length = l.length := by simp [S, Str.length]
theorem S_app (a b : List Nat) : S a ++ S b = S (a ++ b) := by
  show Str.append (S a) (S b) = _
  simp [S, Str.append]
theorem S_cps (l : List Nat) : (S l).cps.toList = l := by simp [S]
theorem S_inj {a b : List Nat} : S a = S b ↔ a = b := by
  constructor
  · intro h
    have := congrArg (fun z : Str => z.cps.toList) h
    simpa [S] using this
  · intro h; rw [h]
theorem S_of (z : Str) : z = S z.cps.toList := by simp [S]
theorem S_beq (a b : List Nat) : (S a == S b) = (a == b) := by
  rw [Bool.eq_iff_iff]
  simp [S_inj]
end Mp

set_option maxHeartbeats 8000000
/-! Kr: rules of the hand layer with the written part by name -/
namespace Mp
open PySem PySem.Spec PyProof.Rows L2
section
variable {X : Cx} {K : PySem.W.Frag}
theorem k_len (h : X.K = K) : CallR X (.builtin "len") (fun xs H Q => ∃ x n, xs = [x] ∧ LenV K x H n ∧ Q (.int n) H) := h ▸ call_len
theorem k_list_of (h : X.K = K) : CallR X (.type "list") (fun xs H Q => ∃ p ys, xs = [.ref p] ∧ (SqL K H p ys ∨ SqT K H p ys) ∧ ∀ l, H l = none → Q (.ref l) (upd H l (.lst ys))) := h ▸ call_list_of
theorem k_tuple_of (h : X.K = K) : CallR X (.type "tuple") (fun xs H Q => ∃ p ys, xs = [.ref p] ∧ ((SqL K H p ys ∧ ∀ l, H l = none → Q (.ref l) (upd H l (.tup ys))) ∨ (SqT K H p ys ∧ Q (.ref p) H))) := h ▸ call_tuple_of
theorem k_all (h : X.K = K) (hc : X.calm = true) : CallR X (.builtin "all") (rAll K) := h ▸ cr_all hc
theorem k_any (h : X.K = K) (hc : X.calm = true) : CallR X (.builtin "any") (rAny K) := h ▸ cr_any hc
theorem k_isi (h : X.K = K) : CallR X (.builtin "isinstance") (rIsi K) := h ▸ call_isi
theorem k_isiT (h : X.K = K) : CallR X (.builtin "isinstance") (rIsiT K) := h ▸ call_isiT
theorem k_in_seq (h : X.K = K) : OpR X (compareOp .In) (rIn K false) := h ▸ op_in_seq
theorem k_notIn_seq (h : X.K = K) : OpR X (compareOp .NotIn) (rIn K true) := h ▸ op_notIn_seq
theorem k_eqD (h : X.K = K) (hu : X.A.units + 64 < cLine) : OpR X (compareOp .Eq) (rEqD K) := h ▸ op_eqD hu
theorem k_neD (h : X.K = K) (hu : X.A.units + 64 < cLine) : OpR X (compareOp .NotEq) (rNeD K) := h ▸ op_neD hu
theorem k_eqNil (h : X.K = K) (hu : X.A.units < cLine) : OpR X (compareOp .Eq) (rEqNil K) := h ▸ op_eqNil hu
theorem k_catT (h : X.K = K) : OpR X (binaryOp .Add) (rCatT K) := h ▸ op_catT
theorem k_ix_list (h : X.K = K) : IxR X (rIxL K) := h ▸ ix_list
theorem k_ix_tup (h : X.K = K) : IxR X (rIxT K) := h ▸ ix_tup
theorem k_sl_list (h : X.K = K) : SlR X (rSlL K) := h ▸ sl_list
theorem k_sl_tup (h : X.K = K) : SlR X (rSlT K) := h ▸ sl_tup
section
variable {e o value : Expr} {f : Str} {ta tv : TE} {pos pos' tpos : Pos}
theorem k_fld (h : X.K = K) (he : PE X e ta) (hb : attributeBase e f X.env (eval e X.env) = eval e X.env := by rfl) : PE X (.Attribute e f pos) (tFld K ta f) := h ▸ pe_fld he hb
theorem k_cval (h : X.K = K) (he : PE X e ta) (hb : attributeBase e f X.env (eval e X.env) = eval e X.env := by rfl) : PE X (.Attribute e f pos) (ClX.tCVal K ta f) := h ▸ ClX.pe_cval he hb
theorem ks_fld (h : X.K = K) (ha : PE X o ta) (hv : PE X value tv) (hs : swapsWith value (some (.Attribute o f pos')) pos.line X.env = pure false := by rfl) : PS X (.Assign [.Attribute o f pos'] value pos) (sFld K ta tv f) := h ▸ ps_fld ha hv hs
theorem ks_fldaug (h : X.K = K) {op : Operator} {rd : V → V → Hp → VK → Prop} (ha : PE X o ta) (hv : PE X value tv) (hop : InOp X op rd) : PS X (.AugAssign (.Attribute o f tpos) op value pos) (sFldAug K ta tv rd f) := h ▸ ps_fldaug ha hv hop
def tTru (K : PySem.W.Frag) (ta : TE) : TT := fun σ H Q => ta σ H fun x H' => ∃ k, TruV K x H' k ∧ Q k H'
theorem k_truth (h : X.K = K) (ha : PE X e ta) (he : ∀ whole, isTrue e X.env whole = (do let v ← whole; standAt e.pos; holding [v] (truthy v)) := by intro _; rfl) : PT X e (tTru K ta) := by
  subst h
  exact pt_truth ha he
theorem k_revL (h : X.K = K) {k : Nat} {p1 p2 p3 : Pos} (he : PE X e ta) : PE X (.Subscript e (.Slice none none (some (.UnaryOp .USub (.Constant (.int 1) k p1) p2)) p3) pos) (tRevL K ta) := h ▸ pe_revL he
end
section
variable {o e : Expr} {to te : TE} {apos cpos : Pos}
theorem k_append (h : X.K = K) (ho : PE X o to) (he : PE X e te) (hbase : attributeBase o "append" X.env (eval o X.env) = eval o X.env := by rfl)
    (hfew : ((backTo cpos (starEach [e] X.env)).all (fun x => !x.1) && (backToKw cpos (keywordEach [] X.env)).all (fun x => x.1.isSome)
      && decide ([e].length + ([] : List Keyword).length + (if ([] : List Keyword).isEmpty then 0 else 1) < 30)) = true := by rfl)
    (hline : (apos.endLine == cpos.line) = true := by rfl) (hs : starEach [e] X.env = [(false, eval e X.env)] := by rfl) (hplain : (backTo cpos (starEach [] X.env)).any (·.1) = false := by rfl) :
    PE X (.Call (.Attribute o "append" apos) [e] [] cpos) (tBM K "list" rAppend to (tCons te tNil)) := h ▸ pe_append ho he hbase hfew hline hs hplain
def rJoin (K : PySem.W.Frag) : V → List V → Hp → VK → Prop := fun x xs H Q => ∃ a p, ∃ ys : List Str, x = .str a ∧ xs = [.ref p] ∧ (SqL K H p (ys.map V.str) ∨ SqT K H p (ys.map V.str)) ∧
      (ys.map (·.length)).sum + ys.length * a.length ≤ 16777216 ∧ Q (.str (Txt.join a ys)) H
theorem k_join (h : X.K = K) {apos pos : Pos} (ho : PE X o to) (he : PE X e te) (hs : starEach [e] X.env = [(false, eval e X.env)] := by rfl) (hbase : attributeBase o "join" X.env (eval o X.env) = eval o X.env := by rfl) (hline : (apos.endLine == pos.line) = true := by rfl) :
    PE X (.Call (.Attribute o "join" apos) [e] [] pos) (tM1 (rJoin K) to te) := by
  subst h
  exact pe_join ho he hs hbase hline
end
section
variable {tg l e : Expr} {tl : TE} {ta : TA} {p pos tpos : Pos} {elts es : List Expr} {kk n : Nat} {t : TGs}
theorem k_pi_list (h : X.K = K) (hl : PE X l tl) : PI X tg l (iList K tl) := h ▸ pi_list hl
theorem k_pi_tup (h : X.K = K) (hl : PE X l tl) : PI X tg l (iTup K tl) := h ▸ pi_tup hl
theorem k_pi_enum (h : X.K = K) (hg : Gl X "enumerate") (hm : X.mg "enumerate" = none) (ha : PA X [e] ta) (hs : starEach [e] X.env = [(false, eval e X.env)] := by rfl) : PI X (.Tuple elts kk tpos) (.Call (.Name "enumerate" p) [e] [] pos) (iEnum K ta) := h ▸ pi_enum hg hm ha hs
theorem k_pg_tup (h : X.K = K) (hc : X.calm = true) (hp : PGs X es t) (hn : (assignEach es X.env).length = n := by rfl) (hst : (assignEach es X.env).findIdx? (·.1) = none := by rfl) : PG X (.Tuple es kk pos) (gTup K n t) := h ▸ pg_tup hc hp hn hst
end
end
end Mp

set_option maxHeartbeats 8000000
/-! Kd: the text's defs, what the head says -/
namespace Mp
open PySem PySem.Spec PyProof.Rows L2
open StX (tMakeR run_makeR pe_makeR)
open He (ga ma fAd)
/-- an instance's type, for isinstance -/
structure TyF (K : PySem.W.Frag) (C : Addr) : Prop where
  ha : PySem.W.findIn K (.ref C) "__class__" = some (some (.builtin "object.__class__"))
  hn : PySem.W.specialIn K (.builtin "object.__class__") "__get__" = some (some (.builtin "getset_descriptor.__get__"))
  htk : PySem.W.takesIn K (.builtin "object.__class__") = some true
  hm : PySem.W.mroIn K C (.type "object") = some true
theorem TyF.ty {K : PySem.W.Frag} {C dx a : Addr} {fs : List (Str × V)} {H : Hp} (t : TyF K C) (cl : Cls K C) (e : H a = some (.ins C dx fs)) : TyX K H (.ref a) (.ref C) := .base (.ins e cl t.ha t.hn t.htk t.hm)
section
variable {X : Cx} {x : Str} {pos : Pos}
theorem pe_gstr {z : Str} (h : ∃ t, X.mg x = some (.str z t)) (hg : Gl X x := by rfl) (hd : (x == ("__debug__" : Str)) = false := by decide) : PE X (.Name x pos) (tC (.str z)) := by
  obtain ⟨t, h⟩ := h
  exact pe_glob hg h ⟨t, rfl⟩ hd
theorem pe_gref {a : Addr} (h : X.mg x = some (.ref a)) (hg : Gl X x := by rfl) (hd : (x == ("__debug__" : Str)) = false := by decide) : PE X (.Name x pos) (tC (.ref a)) := pe_glob hg h rfl hd
theorem pe_gint {i : Int} (h : ∃ t, X.mg x = some (.int i t)) (hg : Gl X x := by rfl) (hd : (x == ("__debug__" : Str)) = false := by decide) : PE X (.Name x pos) (tC (.int i)) := by
  obtain ⟨t, h⟩ := h
  exact pe_glob hg h ⟨t, rfl⟩ hd
end
def top (i : Nat) : Stmt := PySem.Challenge.pw_manypads_k93_machines_and_trees_written.main.body.getD i (.Pass ⟨0, 0, 0, 0⟩)
abbrev s_is_whole : Stmt := top 18
abbrev s_is_between : Stmt := top 19
abbrev s_is_name : Stmt := top 20
abbrev s_Part___init__ : Stmt := inClass (top 29) 1
abbrev s_Kind___init__ : Stmt := inClass (top 30) 0
abbrev s_is_letter : Stmt := top 41
abbrev s_is_figure : Stmt := top 42
abbrev s_begins_one : Stmt := top 43
abbrev s_Cursor___init__ : Stmt := inClass (top 44) 0
abbrev s_Cursor_upcoming : Stmt := inClass (top 44) 1
abbrev s_Cursor_refuse : Stmt := inClass (top 44) 2
abbrev s_Cursor_finish : Stmt := inClass (top 44) 3
abbrev s_Cursor_skips : Stmt := inClass (top 44) 4
abbrev s_Cursor_expect : Stmt := inClass (top 44) 5
abbrev s_Cursor_word_of : Stmt := inClass (top 44) 6
abbrev s_Cursor_name_unlike : Stmt := inClass (top 44) 7
abbrev s_Cursor_number_to : Stmt := inClass (top 44) 9
abbrev s_Cursor_integer_to : Stmt := inClass (top 44) 10
abbrev s_read_exponents : Stmt := top 47
abbrev s_exponents_in : Stmt := top 48
abbrev s_need_kinds : Stmt := top 51
abbrev s_need_exponents : Stmt := top 52
abbrev s_scales_of : Stmt := top 53
abbrev s_Machine___init__ : Stmt := inClass (top 55) 1
abbrev s_Machine___eq__ : Stmt := inClass (top 55) 9
abbrev s_Machine___str__ : Stmt := inClass (top 55) 18
abbrev s_read_machine : Stmt := top 59
abbrev s_read_inner_tree : Stmt := top 60
abbrev s_read_tree : Stmt := top 61
abbrev s_tree_text : Stmt := top 62
abbrev s__law_pen : Stmt := top 64
abbrev s__law_draw : Stmt := top 65
abbrev s__law_pick : Stmt := top 66
abbrev s__law_names : Stmt := top 67
abbrev s__law_heard : Stmt := top 68
abbrev s__law_powers : Stmt := top 69
abbrev s__law_face : Stmt := top 70
abbrev s__law_scales : Stmt := top 71
abbrev s__law_tree : Stmt := top 72
abbrev s__law_shown : Stmt := top 73
abbrev s__law_bent_right : Stmt := top 74
abbrev s__law_wrong_machines : Stmt := top 75
abbrev s__law_common : Stmt := top 76
abbrev s__law_wrong_trees : Stmt := top 77
abbrev s__law_deep : Stmt := top 78
abbrev s__law_kinds : Stmt := top 79
abbrev s__law_deep_no : Stmt := top 80
abbrev s__law_full : Stmt := top 81
abbrev s__law_odd_right : Stmt := top 82
abbrev s__law_great_right : Stmt := top 83
abbrev s_law : Stmt := top 84
abbrev s_BadText___init__ : Stmt := inClass (top 12) 0
/-- what the head says -/
structure Zk (K : PySem.W.Frag) (mg : Str → Option Value) (base : Heap) : Prop where
  kin : K.In base
  glob : base.Ns mainGlobals mg
  b_len : mg "len" = none
  b_isinstance : mg "isinstance" = none
  b_int : mg "int" = none
  b_bool : mg "bool" = none
  b_all : mg "all" = none
  b_any : mg "any" = none
  b_range : mg "range" = none
  b_str : mg "str" = none
  b_list : mg "list" = none
  b_tuple : mg "tuple" = none
  b_dict : mg "dict" = none
  b_abs : mg "abs" = none
  b_enumerate : mg "enumerate" = none
  b_super : mg "super" = none
  b_zip : mg "zip" = none
  b_max : mg "max" = none
  b_repr : mg "repr" = none
  g_is_whole : mg "is_whole" = some (.ref (ga K "is_whole"))
  g_is_between : mg "is_between" = some (.ref (ga K "is_between"))
  g_is_name : mg "is_name" = some (.ref (ga K "is_name"))
  g_is_letter : mg "is_letter" = some (.ref (ga K "is_letter"))
  g_is_figure : mg "is_figure" = some (.ref (ga K "is_figure"))
  g_begins_one : mg "begins_one" = some (.ref (ga K "begins_one"))
  g_read_exponents : mg "read_exponents" = some (.ref (ga K "read_exponents"))
  g_exponents_in : mg "exponents_in" = some (.ref (ga K "exponents_in"))
  g_need_kinds : mg "need_kinds" = some (.ref (ga K "need_kinds"))
  g_need_exponents : mg "need_exponents" = some (.ref (ga K "need_exponents"))
  g_scales_of : mg "scales_of" = some (.ref (ga K "scales_of"))
  g_read_machine : mg "read_machine" = some (.ref (ga K "read_machine"))
  g_read_inner_tree : mg "read_inner_tree" = some (.ref (ga K "read_inner_tree"))
  g_read_tree : mg "read_tree" = some (.ref (ga K "read_tree"))
  g_tree_text : mg "tree_text" = some (.ref (ga K "tree_text"))
  g__law_pen : mg "_law_pen" = some (.ref (ga K "_law_pen"))
  g__law_draw : mg "_law_draw" = some (.ref (ga K "_law_draw"))
  g__law_pick : mg "_law_pick" = some (.ref (ga K "_law_pick"))
  g__law_names : mg "_law_names" = some (.ref (ga K "_law_names"))
  g__law_heard : mg "_law_heard" = some (.ref (ga K "_law_heard"))
  g__law_powers : mg "_law_powers" = some (.ref (ga K "_law_powers"))
  g__law_face : mg "_law_face" = some (.ref (ga K "_law_face"))
  g__law_scales : mg "_law_scales" = some (.ref (ga K "_law_scales"))
  g__law_tree : mg "_law_tree" = some (.ref (ga K "_law_tree"))
  g__law_shown : mg "_law_shown" = some (.ref (ga K "_law_shown"))
  g__law_bent_right : mg "_law_bent_right" = some (.ref (ga K "_law_bent_right"))
  g__law_wrong_machines : mg "_law_wrong_machines" = some (.ref (ga K "_law_wrong_machines"))
  g__law_common : mg "_law_common" = some (.ref (ga K "_law_common"))
  g__law_wrong_trees : mg "_law_wrong_trees" = some (.ref (ga K "_law_wrong_trees"))
  g__law_deep : mg "_law_deep" = some (.ref (ga K "_law_deep"))
  g__law_kinds : mg "_law_kinds" = some (.ref (ga K "_law_kinds"))
  g__law_deep_no : mg "_law_deep_no" = some (.ref (ga K "_law_deep_no"))
  g__law_full : mg "_law_full" = some (.ref (ga K "_law_full"))
  g__law_odd_right : mg "_law_odd_right" = some (.ref (ga K "_law_odd_right"))
  g__law_great_right : mg "_law_great_right" = some (.ref (ga K "_law_great_right"))
  g_law : mg "law" = some (.ref (ga K "law"))
  g_Part : mg "Part" = some (.ref (ga K "Part"))
  g_Cursor : mg "Cursor" = some (.ref (ga K "Cursor"))
  g_BadText : mg "BadText" = some (.ref (ga K "BadText"))
  g_PadError : mg "PadError" = some (.ref (ga K "PadError"))
  g_BARRED : mg "BARRED" = some (.ref (ga K "BARRED"))
  g_Machine : mg "Machine" = some (.ref (ga K "Machine"))
  g_Kind : mg "Kind" = some (.ref (ga K "Kind"))
  v_LETTERS_names : ∃ t, mg "LETTERS_names" = some (.str "abcdefghijklmnopqrstuvwxyz" t)
  v_LETTERS_cursors : ∃ t, mg "LETTERS_cursors" = some (.str "abcdefghijklmnopqrstuvwxyz" t)
  v_FIGURES_cursors : ∃ t, mg "FIGURES_cursors" = some (.str "0123456789" t)
  v_LONGEST : ∃ t, mg "LONGEST" = some (.int 8 t)
  v_LONGEST_NAME : ∃ t, mg "LONGEST_NAME" = some (.int 8 t)
  v_MOST_TIMES : ∃ t, mg "MOST_TIMES" = some (.int 8 t)
  v_MOST_EXPONENT : ∃ t, mg "MOST_EXPONENT" = some (.int 1000 t)
  v_MOST_KINDS : ∃ t, mg "MOST_KINDS" = some (.int 3 t)
  v_MOST_TREE : ∃ t, mg "MOST_TREE" = some (.int 100 t)
  v_MOST_BOUND : ∃ t, mg "MOST_BOUND" = some (.int 2000 t)
  t_BARRED : ∀ H, SqT K H (ga K "BARRED") [.str "byte", .str "size", .str "align", .str "place", .str "end", .str "packed", .str "and", .str "or", .str "not", .str "yes", .str "no", .str "for", .str "nogap", .str "notail", .str "leaf"]
  k_Part_DEPTH : ∃ mc u, ClX.CRead K (ga K "Part") mc ∧ ClX.CVal K (ga K "Part") mc "DEPTH" (.int 4) u
  k_Machine_MOST : ∃ mc u, ClX.CRead K (ga K "Machine") mc ∧ ClX.CVal K (ga K "Machine") mc "MOST" (.int 1000) u
  cls_Kind : Cls K (ga K "Kind")
  ty_Kind : TyF K (ga K "Kind")
  cls_Cursor : Cls K (ga K "Cursor")
  ty_Cursor : TyF K (ga K "Cursor")
  cls_Machine : Cls K (ga K "Machine")
  ty_Machine : TyF K (ga K "Machine")
  na_Cursor_script : NoAttr K (ga K "Cursor") "script"
  na_Cursor_at : NoAttr K (ga K "Cursor") "at"
  na_Kind_name : NoAttr K (ga K "Kind") "name"
  na_Kind_times : NoAttr K (ga K "Kind") "times"
  na_Kind_depth : NoAttr K (ga K "Kind") "depth"
  na_Machine_kinds : NoAttr K (ga K "Machine") "kinds"
  na_Machine_scales : NoAttr K (ga K "Machine") "scales"
  na_Machine_powers : NoAttr K (ga K "Machine") "powers"
  mt_Cursor_upcoming : Meth K (ga K "Cursor") "upcoming" (fAd K ("Cursor", some "upcoming"))
  mt_Cursor_refuse : Meth K (ga K "Cursor") "refuse" (fAd K ("Cursor", some "refuse"))
  mt_Cursor_finish : Meth K (ga K "Cursor") "finish" (fAd K ("Cursor", some "finish"))
  mt_Cursor_skips : Meth K (ga K "Cursor") "skips" (fAd K ("Cursor", some "skips"))
  mt_Cursor_expect : Meth K (ga K "Cursor") "expect" (fAd K ("Cursor", some "expect"))
  mt_Cursor_word_of : Meth K (ga K "Cursor") "word_of" (fAd K ("Cursor", some "word_of"))
  mt_Cursor_name_unlike : Meth K (ga K "Cursor") "name_unlike" (fAd K ("Cursor", some "name_unlike"))
  mt_Cursor_number_to : Meth K (ga K "Cursor") "number_to" (fAd K ("Cursor", some "number_to"))
  mt_Cursor_integer_to : Meth K (ga K "Cursor") "integer_to" (fAd K ("Cursor", some "integer_to"))
  mk_Kind : Mk K (ga K "Kind") (fAd K ("Kind", some "__init__"))
  mk_Cursor : Mk K (ga K "Cursor") (fAd K ("Cursor", some "__init__"))
  mk_Machine : Mk K (ga K "Machine") (fAd K ("Machine", some "__init__"))
  kit_Kind_Kind : PySem.W.kitOne K (.ref (ga K "Kind")) (.ref (ga K "Kind")) = some true
  kit_Machine_Machine : PySem.W.kitOne K (.ref (ga K "Machine")) (.ref (ga K "Machine")) = some true
  d_is_whole : ∃ fd, FunD K "is_whole" "is_whole" (defArgs s_is_whole) (defBody s_is_whole) (defScope s_is_whole) [] [] (fAd K ("is_whole", none)) fd
  d_is_between : ∃ fd, FunD K "is_between" "is_between" (defArgs s_is_between) (defBody s_is_between) (defScope s_is_between) [] [] (fAd K ("is_between", none)) fd
  d_is_name : ∃ fd, FunD K "is_name" "is_name" (defArgs s_is_name) (defBody s_is_name) (defScope s_is_name) [] [] (fAd K ("is_name", none)) fd
  d_Part___init__ : ∃ fd, FunD K "__init__" "Part.__init__" (defArgs s_Part___init__) (defBody s_Part___init__) (defScope s_Part___init__) [] [] (fAd K ("Part", some "__init__")) fd
  d_is_letter : ∃ fd, FunD K "is_letter" "is_letter" (defArgs s_is_letter) (defBody s_is_letter) (defScope s_is_letter) [] [] (fAd K ("is_letter", none)) fd
  d_is_figure : ∃ fd, FunD K "is_figure" "is_figure" (defArgs s_is_figure) (defBody s_is_figure) (defScope s_is_figure) [] [] (fAd K ("is_figure", none)) fd
  d_begins_one : ∃ fd, FunD K "begins_one" "begins_one" (defArgs s_begins_one) (defBody s_begins_one) (defScope s_begins_one) [] [] (fAd K ("begins_one", none)) fd
  d_Cursor___init__ : ∃ fd, FunD K "__init__" "Cursor.__init__" (defArgs s_Cursor___init__) (defBody s_Cursor___init__) (defScope s_Cursor___init__) [] [] (fAd K ("Cursor", some "__init__")) fd
  d_Cursor_upcoming : ∃ fd, FunD K "upcoming" "Cursor.upcoming" (defArgs s_Cursor_upcoming) (defBody s_Cursor_upcoming) (defScope s_Cursor_upcoming) [] [] (fAd K ("Cursor", some "upcoming")) fd
  d_Cursor_refuse : ∃ fd, FunD K "refuse" "Cursor.refuse" (defArgs s_Cursor_refuse) (defBody s_Cursor_refuse) (defScope s_Cursor_refuse) [] [] (fAd K ("Cursor", some "refuse")) fd
  d_Cursor_finish : ∃ fd, FunD K "finish" "Cursor.finish" (defArgs s_Cursor_finish) (defBody s_Cursor_finish) (defScope s_Cursor_finish) [] [] (fAd K ("Cursor", some "finish")) fd
  d_Cursor_skips : ∃ fd, FunD K "skips" "Cursor.skips" (defArgs s_Cursor_skips) (defBody s_Cursor_skips) (defScope s_Cursor_skips) [] [] (fAd K ("Cursor", some "skips")) fd
  d_Cursor_expect : ∃ fd, FunD K "expect" "Cursor.expect" (defArgs s_Cursor_expect) (defBody s_Cursor_expect) (defScope s_Cursor_expect) [] [] (fAd K ("Cursor", some "expect")) fd
  d_Cursor_word_of : ∃ fd, FunD K "word_of" "Cursor.word_of" (defArgs s_Cursor_word_of) (defBody s_Cursor_word_of) (defScope s_Cursor_word_of) [] [] (fAd K ("Cursor", some "word_of")) fd
  d_Cursor_name_unlike : ∃ fd, FunD K "name_unlike" "Cursor.name_unlike" (defArgs s_Cursor_name_unlike) (defBody s_Cursor_name_unlike) (defScope s_Cursor_name_unlike) [] [] (fAd K ("Cursor", some "name_unlike")) fd
  d_Cursor_number_to : ∃ fd, FunD K "number_to" "Cursor.number_to" (defArgs s_Cursor_number_to) (defBody s_Cursor_number_to) (defScope s_Cursor_number_to) [] [] (fAd K ("Cursor", some "number_to")) fd
  d_Cursor_integer_to : ∃ fd, FunD K "integer_to" "Cursor.integer_to" (defArgs s_Cursor_integer_to) (defBody s_Cursor_integer_to) (defScope s_Cursor_integer_to) [] [] (fAd K ("Cursor", some "integer_to")) fd
  d_read_exponents : ∃ fd, FunD K "read_exponents" "read_exponents" (defArgs s_read_exponents) (defBody s_read_exponents) (defScope s_read_exponents) [] [] (fAd K ("read_exponents", none)) fd
  d_exponents_in : ∃ fd, FunD K "exponents_in" "exponents_in" (defArgs s_exponents_in) (defBody s_exponents_in) (defScope s_exponents_in) [] [] (fAd K ("exponents_in", none)) fd
  d_need_kinds : ∃ fd, FunD K "need_kinds" "need_kinds" (defArgs s_need_kinds) (defBody s_need_kinds) (defScope s_need_kinds) [] [] (fAd K ("need_kinds", none)) fd
  d_need_exponents : ∃ fd, FunD K "need_exponents" "need_exponents" (defArgs s_need_exponents) (defBody s_need_exponents) (defScope s_need_exponents) [] [] (fAd K ("need_exponents", none)) fd
  d_scales_of : ∃ fd, FunD K "scales_of" "scales_of" (defArgs s_scales_of) (defBody s_scales_of) (defScope s_scales_of) [] [] (fAd K ("scales_of", none)) fd
  d_Machine___init__ : ∃ fd, FunD K "__init__" "Machine.__init__" (defArgs s_Machine___init__) (defBody s_Machine___init__) (defScope s_Machine___init__) [] [] (fAd K ("Machine", some "__init__")) fd
  d_Machine___eq__ : ∃ fd, FunD K "__eq__" "Machine.__eq__" (defArgs s_Machine___eq__) (defBody s_Machine___eq__) (defScope s_Machine___eq__) [] [] (fAd K ("Machine", some "__eq__")) fd
  d_Machine___str__ : ∃ fd, FunD K "__str__" "Machine.__str__" (defArgs s_Machine___str__) (defBody s_Machine___str__) (defScope s_Machine___str__) [] [] (fAd K ("Machine", some "__str__")) fd
  d_read_machine : ∃ fd, FunD K "read_machine" "read_machine" (defArgs s_read_machine) (defBody s_read_machine) (defScope s_read_machine) [] [] (fAd K ("read_machine", none)) fd
  d_read_inner_tree : ∃ fd, FunD K "read_inner_tree" "read_inner_tree" (defArgs s_read_inner_tree) (defBody s_read_inner_tree) (defScope s_read_inner_tree) [] [] (fAd K ("read_inner_tree", none)) fd
  d_read_tree : ∃ fd, FunD K "read_tree" "read_tree" (defArgs s_read_tree) (defBody s_read_tree) (defScope s_read_tree) [] [] (fAd K ("read_tree", none)) fd
  d_tree_text : ∃ fd, FunD K "tree_text" "tree_text" (defArgs s_tree_text) (defBody s_tree_text) (defScope s_tree_text) [] [] (fAd K ("tree_text", none)) fd
  d__law_pen : ∃ fd, FunD K "_law_pen" "_law_pen" (defArgs s__law_pen) (defBody s__law_pen) (defScope s__law_pen) [] [] (fAd K ("_law_pen", none)) fd
  d__law_draw : ∃ fd, FunD K "_law_draw" "_law_draw" (defArgs s__law_draw) (defBody s__law_draw) (defScope s__law_draw) [] [] (fAd K ("_law_draw", none)) fd
  d__law_pick : ∃ fd, FunD K "_law_pick" "_law_pick" (defArgs s__law_pick) (defBody s__law_pick) (defScope s__law_pick) [] [] (fAd K ("_law_pick", none)) fd
  d__law_names : ∃ fd, FunD K "_law_names" "_law_names" (defArgs s__law_names) (defBody s__law_names) (defScope s__law_names) [] [] (fAd K ("_law_names", none)) fd
  d__law_heard : ∃ fd, FunD K "_law_heard" "_law_heard" (defArgs s__law_heard) (defBody s__law_heard) (defScope s__law_heard) [] [] (fAd K ("_law_heard", none)) fd
  d__law_powers : ∃ fd, FunD K "_law_powers" "_law_powers" (defArgs s__law_powers) (defBody s__law_powers) (defScope s__law_powers) [] [] (fAd K ("_law_powers", none)) fd
  d__law_face : ∃ fd, FunD K "_law_face" "_law_face" (defArgs s__law_face) (defBody s__law_face) (defScope s__law_face) [] [] (fAd K ("_law_face", none)) fd
  d__law_scales : ∃ fd, FunD K "_law_scales" "_law_scales" (defArgs s__law_scales) (defBody s__law_scales) (defScope s__law_scales) [] [] (fAd K ("_law_scales", none)) fd
  d__law_tree : ∃ fd, FunD K "_law_tree" "_law_tree" (defArgs s__law_tree) (defBody s__law_tree) (defScope s__law_tree) [] [] (fAd K ("_law_tree", none)) fd
  d__law_shown : ∃ fd, FunD K "_law_shown" "_law_shown" (defArgs s__law_shown) (defBody s__law_shown) (defScope s__law_shown) [] [] (fAd K ("_law_shown", none)) fd
  d__law_bent_right : ∃ fd, FunD K "_law_bent_right" "_law_bent_right" (defArgs s__law_bent_right) (defBody s__law_bent_right) (defScope s__law_bent_right) [] [] (fAd K ("_law_bent_right", none)) fd
  d__law_wrong_machines : ∃ fd, FunD K "_law_wrong_machines" "_law_wrong_machines" (defArgs s__law_wrong_machines) (defBody s__law_wrong_machines) (defScope s__law_wrong_machines) [] [] (fAd K ("_law_wrong_machines", none)) fd
  d__law_common : ∃ fd, FunD K "_law_common" "_law_common" (defArgs s__law_common) (defBody s__law_common) (defScope s__law_common) [] [] (fAd K ("_law_common", none)) fd
  d__law_wrong_trees : ∃ fd, FunD K "_law_wrong_trees" "_law_wrong_trees" (defArgs s__law_wrong_trees) (defBody s__law_wrong_trees) (defScope s__law_wrong_trees) [] [] (fAd K ("_law_wrong_trees", none)) fd
  d__law_deep : ∃ fd, FunD K "_law_deep" "_law_deep" (defArgs s__law_deep) (defBody s__law_deep) (defScope s__law_deep) [] [] (fAd K ("_law_deep", none)) fd
  d__law_kinds : ∃ fd, FunD K "_law_kinds" "_law_kinds" (defArgs s__law_kinds) (defBody s__law_kinds) (defScope s__law_kinds) [] [] (fAd K ("_law_kinds", none)) fd
  d__law_deep_no : ∃ fd, FunD K "_law_deep_no" "_law_deep_no" (defArgs s__law_deep_no) (defBody s__law_deep_no) (defScope s__law_deep_no) [] [] (fAd K ("_law_deep_no", none)) fd
  d__law_full : ∃ fd, FunD K "_law_full" "_law_full" (defArgs s__law_full) (defBody s__law_full) (defScope s__law_full) [] [] (fAd K ("_law_full", none)) fd
  d__law_odd_right : ∃ fd, FunD K "_law_odd_right" "_law_odd_right" (defArgs s__law_odd_right) (defBody s__law_odd_right) (defScope s__law_odd_right) [] [] (fAd K ("_law_odd_right", none)) fd
  d__law_great_right : ∃ fd, FunD K "_law_great_right" "_law_great_right" (defArgs s__law_great_right) (defBody s__law_great_right) (defScope s__law_great_right) [] [] (fAd K ("_law_great_right", none)) fd
  d_law : ∃ fd, FunD K "law" "law" (defArgs s_law) (defBody s_law) (defScope s_law) [] [] (fAd K ("law", none)) fd
  d_BadText___init__ : ∃ fd, FunD K "__init__" "BadText.__init__" (defArgs s_BadText___init__) (defBody s_BadText___init__) (defScope s_BadText___init__) [] [] (fAd K ("BadText", some "__init__")) fd
  x_BadText : OexC K (ga K "BadText")
  xi_BadText : PySem.W.findIn K (.ref (ga K "BadText")) "__init__" = some (some (.ref (fAd K ("BadText", some "__init__"))))
  xt_BadText : PySem.W.typeIn K (.ref (fAd K ("BadText", some "__init__"))) = some (.type "function")
  xn_BadText : PySem.W.findIn K (.ref (ga K "BadText")) "at" = some none
abbrev s_Machine_read : Stmt := inClass (top 55) 3
end Mp

set_option maxHeartbeats 8000000
namespace Mp
open PySem PySem.Spec PyProof.Rows L2
open He (ga ma fAd)
def optB (a b : Option (Option Value)) : Bool := decide (a = b)
def boolB (a : Option Bool) (b : Bool) : Bool := decide (a = some b)
def tyfB (K : PySem.W.Frag) (C : Addr) : Bool := optB (PySem.W.findIn K (.ref C) "__class__") (some (some (.builtin "object.__class__"))) && (optB (PySem.W.specialIn K (.builtin "object.__class__") "__get__") (some (some (.builtin "getset_descriptor.__get__"))) && (boolB (PySem.W.takesIn K (.builtin "object.__class__")) true && boolB (PySem.W.mroIn K C (.type "object")) true))
theorem two {a b : Bool} (h : (a && b) = true) : a = true ∧ b = true := Bool.and_eq_true_iff.mp h
def kitB2 (K : PySem.W.Frag) (a b : Value) (r : Bool) : Bool := boolB (PySem.W.kitOne K a b) r
def constB (K : PySem.W.Frag) (C : Addr) (f : Str) (v : V) : Bool := PySem.W.readsIn K C (.type "type") && (optB (PySem.W.specialIn K (.ref C) "__getattribute__") (some (some (.builtin "type.__getattribute__"))) && (match PySem.W.findCls K (.ref C) (.type "type") f with
  | some (.val u) => He.relB v u
  | _ => false))
def oexB (K : PySem.W.Frag) (C : Addr) : Bool := (match K.lookup C with
  | some ⟨.type t, _, .cls cd, sl⟩ => decide (t = "type") && (match cd.mro, sl.toList with
    | .ref C2 :: up, [_, _, _, _, some (.builtin b), _] => decide (C2 = C) && (decide (b = "ValueError.__new__") && (!cd.hasDel && (cd.hasDict && PySem.HandSPX.refsVE up)))
    | _, _ => false)
  | _ => false) && (optB (PySem.W.findIn K (.ref C) "__setattr__") (some (some (.builtin "object.__setattr__"))) && (boolB (PySem.W.subIn K (.ref C) (.type "BaseException")) true && (decide (PySem.W.typeIn K (.ref C) = some (.type "type")) && PySem.W.keepIn K (.ref C))))
def ekB (K : PySem.W.Frag) (D : Addr) : Bool := (PySem.W.clsIn K D).isSome && (optB (PySem.W.findIn K (.ref D) "__getattribute__") (some (some (.builtin "BaseException.__getattribute__"))) && (optB (PySem.W.findIn K (.ref D) "__getattr__") (some none) && (boolB (PySem.W.subIn K (.ref D) (.type "BaseException")) true && (PySem.W.hasDictIn K D && tyfB K D))))
def tupB2 (K : PySem.W.Frag) (x : Str) (vs : List He.Dv) : Bool := He.tupB K x vs
abbrev FnS : Type := Option (Str × Str × Arguments × FuncBody × Scope × Addr × List Str × Addr)
def fnS (K : PySem.W.Frag) (p : He.Defn) : FnS := match K.lookup (fAd K p) with
  | some ⟨_, _, .func fd, _⟩ => some (fd.name, fd.qualname, fd.params, fd.body, fd.scope, fd.globals, fd.closure.map (·.1), fd.builtins)
  | _ => none
structure SupX where
  at_ : He.Defn
  cls : Str
  name : Str
  qual : Str
  params : Arguments
  body : List Stmt
  scope : Scope
  dfl : List V
def SupX.val (d : SupX) : FnS := some (d.name, d.qual, d.params, FuncBody.stmts d.body, d.scope, mainGlobals, ["__class__"], builtinsNs)
def SupX.ok (file : Str) (K : PySem.W.Frag) (d : SupX) : Bool := match K.lookup (fAd K d.at_) with
  | some ⟨_, _, .func fd, _⟩ => PySem.W.codeIn K fd.code d.qual && (He.dflB K fd.defaults d.dfl && ((match fd.code with
    | .ref c => (match K.lookup c with
      | some ⟨_, _, .fields vs, _⟩ => (match (vs[2]? : Option Value) with
        | some (.str z _) => decide (z = file)
        | _ => false)
      | _ => false)
    | _ => false) && (match fd.closure with
    | [(_, cc)] => (match K.lookup cc with
      | some ⟨_, _, .cell (some (.ref d2)), _⟩ => decide (d2 = ga K d.cls)
      | _ => false)
    | _ => false)))
  | _ => false
def smB (K : PySem.W.Frag) (C D g : Addr) : Bool := boolB (PySem.W.mroIn K C (.ref D)) true && (optB (PySem.W.ks_superIn K C D "__init__") (some (some (.ref g))) && (decide (PySem.W.typeIn K (.ref g) = some (.type "function")) && PySem.W.fnIn K g))
def roots (g : Addr → Option Obj) (n : Nat) : List Addr := List.range n
abbrev AlY : Type := He.AlD × (List FnS × (List He5.FnW × Bool))
section
variable (n : Nat) (fa : List He.Fa) (fn : List He.DefD) (sp : List SupX) (dm : List He5.DefA) (tf : List He.Defn) (ex : PySem.W.Frag → Bool)
def obsY (g : Addr → Option Obj) : AlY := (He.obsD fa fn (He.frT g (roots g n)), sp.map (fun d => fnS (He.frT g (roots g n)) d.at_), dm.map (fun d => He5.fnA (He.frT g (roots g n)) (d.at_ (He.frT g (roots g n)))), ex (He.frT g (roots g n)) && He.tabsB g tf (He.frT g (roots g n)))
def valY : AlY := (He.valD fn, sp.map SupX.val, dm.map He5.DefA.val, true)
structure SaysY (h : Heap) (K : PySem.W.Frag) : Prop where
  d : He.SaysD fa fn K
  s : sp.map (fun d => fnS K d.at_) = sp.map SupX.val
  m : dm.map (fun d => He5.fnA K (d.at_ K)) = dm.map He5.DefA.val
  more : ex K = true
  hd : ∀ p ∈ tf, PySem.W.codeHdIn K (He.cT K p).1 (He.cT K p).2 = true
  out : ∀ p ∈ tf, K.lookup (He.cT K p).2 = none
  empty : ∀ p ∈ tf, h.get? (He.cT K p).2 = some { cls := .none, data := .fields #[] }
theorem saysY {h : Heap} (e : obsY n fa fn sp dm tf ex h.get? = valY fn sp dm) : SaysY fa fn sp dm tf ex h (He.frT h.get? (roots h.get? n)) := by
  have e1 := congrArg (fun z : AlY => z.1) e
  have e2 := congrArg (fun z : AlY => z.2.1) e
  have e4 := congrArg (fun z : AlY => z.2.2.1) e
  have e3 : (ex (He.frT h.get? (roots h.get? n)) && He.tabsB h.get? tf (He.frT h.get? (roots h.get? n))) = true := congrArg (fun z : AlY => z.2.2.2) e
  obtain ⟨m1, m2⟩ := two e3
  have tab : ∀ p ∈ tf, PySem.W.codeHdIn (He.frT h.get? (roots h.get? n)) (He.cT (He.frT h.get? (roots h.get? n)) p).1 (He.cT (He.frT h.get? (roots h.get? n)) p).2 = true ∧ ∃ u, h.get? (He.cT (He.frT h.get? (roots h.get? n)) p).2 = some u ∧ He.emptyTab u = true := fun p hp => by
    obtain ⟨m3, m4⟩ := two (List.all_eq_true.mp m2 p hp)
    cases q : h.get? (He.cT (He.frT h.get? (roots h.get? n)) p).2 with
    | none => rw [q] at m4; cases m4
    | some u => rw [q] at m4; exact ⟨m3, u, rfl, m4⟩
  refine ⟨e1, e2, e4, m1, fun p hp => (tab p hp).1, fun p hp => ?_, fun p hp => ?_⟩
  · obtain ⟨_, u, q, z⟩ := tab p hp
    exact He.frT_none q z
  · obtain ⟨_, u, q, z⟩ := tab p hp
    rw [q, He.emptyTab_eq z]
def hookY : PySem.W.Hook where
  α := AlY
  obs := fun s => obsY n fa fn sp dm tf ex s.heap.get?
  val := fun _ => valY fn sp dm
  says := fun _ h => ∃ K : PySem.W.Frag, K.In h ∧ SaysY fa fn sp dm tf ex h K
  of := fun _ _ e => ⟨_, He.frT_in, saysY n fa fn sp dm tf ex e⟩
  keeps := fun _ _ _ ⟨K, hK, c⟩ k => ⟨K, PySem.W.Frag.In.keeps hK k, ⟨c.d, c.s, c.m, c.more, c.hd, c.out, fun p hp => k _ _ (c.empty p hp)⟩⟩
end
def tellK {β : Type} (g : Addr → Option Obj) : Nat → PySem.W.Frag → (PySem.W.Frag → β) → β
  | 0, acc, k => k acc
  | n + 1, acc, k => match g n with
    | some ⟨c, d, t, sl⟩ => (match He.emptyTab ⟨c, d, t, sl⟩ with
      | true => tellK g n acc k
      | false => tellK g n ((n, ⟨c, d, t, sl⟩) :: acc) k)
    | none => tellK g n acc k
theorem frT_app (g : Addr → Option Obj) (a b : List Addr) : He.frT g (a ++ b) = He.frT g a ++ He.frT g b := by
  unfold He.frT He.frG
  rw [List.filterMap_append, List.filter_append]
theorem tellK_eq {β : Type} (g : Addr → Option Obj) : ∀ (n : Nat) (acc : PySem.W.Frag) (k : PySem.W.Frag → β), tellK g n acc k = k (He.frT g (List.range n) ++ acc)
  | 0, acc, k => rfl
  | n + 1, acc, k => by
    rw [List.range_succ, frT_app, List.append_assoc]
    unfold tellK
    cases q : g n with
    | none =>
      have e : He.frT g [n] = [] := by
        unfold He.frT He.frG
        simp [q]
      rw [e]
      exact tellK_eq g n acc k
    | some o =>
      obtain ⟨c, d, t, sl⟩ := o
      dsimp only
      cases z : He.emptyTab ⟨c, d, t, sl⟩ with
      | true =>
        have e : He.frT g [n] = [] := by
          unfold He.frT He.frG
          simp [q, z]
        rw [e]
        exact tellK_eq g n acc k
      | false =>
        have e : He.frT g [n] = [(n, ⟨c, d, t, sl⟩)] := by
          unfold He.frT He.frG
          simp [q, z]
        rw [e]
        exact tellK_eq g n _ k
def obsZ (n : Nat) (fa : List He.Fa) (fn : List He.DefD) (sp : List SupX) (dm : List He5.DefA) (tf : List He.Defn) (ex : PySem.W.Frag → Bool) (g : Addr → Option Obj) : AlY := tellK g n [] fun K => (He.obsD fa fn K, sp.map (fun d => fnS K d.at_), dm.map (fun d => He5.fnA K (d.at_ K)), ex K && He.tabsB g tf K)
theorem obsZ_eq {n : Nat} {fa : List He.Fa} {fn : List He.DefD} {sp : List SupX} {dm : List He5.DefA} {tf : List He.Defn} {ex : PySem.W.Frag → Bool} {g : Addr → Option Obj} : obsZ n fa fn sp dm tf ex g = obsY n fa fn sp dm tf ex g := by
  unfold obsZ
  rw [tellK_eq, List.append_nil]
  rfl
theorem obsY_eq {n : Nat} {fa : List He.Fa} {fn : List He.DefD} {sp : List SupX} {dm : List He5.DefA} {tf : List He.Defn} {ex : PySem.W.Frag → Bool} {g : Addr → Option Obj} {s : Shared} (h : ∀ a, g a = s.heap.get? a) : obsY n fa fn sp dm tf ex g = (hookY n fa fn sp dm tf ex).obs s := by
  have e : g = s.heap.get? := funext h
  rw [e]
  rfl
theorem SaysY.rd {fa : List He.Fa} {fn : List He.DefD} {sp : List SupX} {dm : List He5.DefA} {tf : List He.Defn} {ex : PySem.W.Frag → Bool} {h : Heap} {K : PySem.W.Frag} (c : SaysY fa fn sp dm tf ex h K) (i : Nat) {d : He5.DefA} (hi : dm[i]? = some d) (ho : d.ok K = true) : ∃ fd, FunD K d.name d.qual d.params d.body d.scope (d.dvs K) (d.kws K) (d.at_ K) fd := by
  refine He5.DefA.funD ?_ ho
  have e : (dm.map (fun d => He5.fnA K (d.at_ K)))[i]? = (dm.map He5.DefA.val)[i]? := by rw [c.m]
  rw [List.getElem?_map, List.getElem?_map, hi] at e
  exact Option.some.inj e
def dd_is_whole : He.DefD := ⟨("is_whole", none), "is_whole", "is_whole", defArgs s_is_whole, defBody s_is_whole, defScope s_is_whole, [], []⟩
def dd_is_between : He.DefD := ⟨("is_between", none), "is_between", "is_between", defArgs s_is_between, defBody s_is_between, defScope s_is_between, [], []⟩
def dd_is_name : He.DefD := ⟨("is_name", none), "is_name", "is_name", defArgs s_is_name, defBody s_is_name, defScope s_is_name, [], []⟩
def dd_Part___init__ : He.DefD := ⟨("Part", some "__init__"), "__init__", "Part.__init__", defArgs s_Part___init__, defBody s_Part___init__, defScope s_Part___init__, [], []⟩
def dd_is_letter : He.DefD := ⟨("is_letter", none), "is_letter", "is_letter", defArgs s_is_letter, defBody s_is_letter, defScope s_is_letter, [], []⟩
def dd_is_figure : He.DefD := ⟨("is_figure", none), "is_figure", "is_figure", defArgs s_is_figure, defBody s_is_figure, defScope s_is_figure, [], []⟩
def dd_begins_one : He.DefD := ⟨("begins_one", none), "begins_one", "begins_one", defArgs s_begins_one, defBody s_begins_one, defScope s_begins_one, [], []⟩
def dd_Cursor___init__ : He.DefD := ⟨("Cursor", some "__init__"), "__init__", "Cursor.__init__", defArgs s_Cursor___init__, defBody s_Cursor___init__, defScope s_Cursor___init__, [], []⟩
def dd_Cursor_upcoming : He.DefD := ⟨("Cursor", some "upcoming"), "upcoming", "Cursor.upcoming", defArgs s_Cursor_upcoming, defBody s_Cursor_upcoming, defScope s_Cursor_upcoming, [], []⟩
def dd_Cursor_refuse : He.DefD := ⟨("Cursor", some "refuse"), "refuse", "Cursor.refuse", defArgs s_Cursor_refuse, defBody s_Cursor_refuse, defScope s_Cursor_refuse, [], []⟩
def dd_Cursor_finish : He.DefD := ⟨("Cursor", some "finish"), "finish", "Cursor.finish", defArgs s_Cursor_finish, defBody s_Cursor_finish, defScope s_Cursor_finish, [], []⟩
def dd_Cursor_skips : He.DefD := ⟨("Cursor", some "skips"), "skips", "Cursor.skips", defArgs s_Cursor_skips, defBody s_Cursor_skips, defScope s_Cursor_skips, [], []⟩
def dd_Cursor_expect : He.DefD := ⟨("Cursor", some "expect"), "expect", "Cursor.expect", defArgs s_Cursor_expect, defBody s_Cursor_expect, defScope s_Cursor_expect, [], []⟩
def dd_Cursor_word_of : He.DefD := ⟨("Cursor", some "word_of"), "word_of", "Cursor.word_of", defArgs s_Cursor_word_of, defBody s_Cursor_word_of, defScope s_Cursor_word_of, [], []⟩
def dd_Cursor_name_unlike : He.DefD := ⟨("Cursor", some "name_unlike"), "name_unlike", "Cursor.name_unlike", defArgs s_Cursor_name_unlike, defBody s_Cursor_name_unlike, defScope s_Cursor_name_unlike, [], []⟩
def dd_Cursor_number_to : He.DefD := ⟨("Cursor", some "number_to"), "number_to", "Cursor.number_to", defArgs s_Cursor_number_to, defBody s_Cursor_number_to, defScope s_Cursor_number_to, [], []⟩
def dd_Cursor_integer_to : He.DefD := ⟨("Cursor", some "integer_to"), "integer_to", "Cursor.integer_to", defArgs s_Cursor_integer_to, defBody s_Cursor_integer_to, defScope s_Cursor_integer_to, [], []⟩
def dd_read_exponents : He.DefD := ⟨("read_exponents", none), "read_exponents", "read_exponents", defArgs s_read_exponents, defBody s_read_exponents, defScope s_read_exponents, [], []⟩
def dd_exponents_in : He.DefD := ⟨("exponents_in", none), "exponents_in", "exponents_in", defArgs s_exponents_in, defBody s_exponents_in, defScope s_exponents_in, [], []⟩
def dd_need_kinds : He.DefD := ⟨("need_kinds", none), "need_kinds", "need_kinds", defArgs s_need_kinds, defBody s_need_kinds, defScope s_need_kinds, [], []⟩
def dd_need_exponents : He.DefD := ⟨("need_exponents", none), "need_exponents", "need_exponents", defArgs s_need_exponents, defBody s_need_exponents, defScope s_need_exponents, [], []⟩
def dd_scales_of : He.DefD := ⟨("scales_of", none), "scales_of", "scales_of", defArgs s_scales_of, defBody s_scales_of, defScope s_scales_of, [], []⟩
def dd_Machine___init__ : He.DefD := ⟨("Machine", some "__init__"), "__init__", "Machine.__init__", defArgs s_Machine___init__, defBody s_Machine___init__, defScope s_Machine___init__, [], []⟩
def dd_Machine___eq__ : He.DefD := ⟨("Machine", some "__eq__"), "__eq__", "Machine.__eq__", defArgs s_Machine___eq__, defBody s_Machine___eq__, defScope s_Machine___eq__, [], []⟩
def dd_Machine___str__ : He.DefD := ⟨("Machine", some "__str__"), "__str__", "Machine.__str__", defArgs s_Machine___str__, defBody s_Machine___str__, defScope s_Machine___str__, [], []⟩
def dd_read_machine : He.DefD := ⟨("read_machine", none), "read_machine", "read_machine", defArgs s_read_machine, defBody s_read_machine, defScope s_read_machine, [], []⟩
def dd_read_inner_tree : He.DefD := ⟨("read_inner_tree", none), "read_inner_tree", "read_inner_tree", defArgs s_read_inner_tree, defBody s_read_inner_tree, defScope s_read_inner_tree, [], []⟩
def dd_read_tree : He.DefD := ⟨("read_tree", none), "read_tree", "read_tree", defArgs s_read_tree, defBody s_read_tree, defScope s_read_tree, [], []⟩
def dd_tree_text : He.DefD := ⟨("tree_text", none), "tree_text", "tree_text", defArgs s_tree_text, defBody s_tree_text, defScope s_tree_text, [], []⟩
def dd__law_pen : He.DefD := ⟨("_law_pen", none), "_law_pen", "_law_pen", defArgs s__law_pen, defBody s__law_pen, defScope s__law_pen, [], []⟩
def dd__law_draw : He.DefD := ⟨("_law_draw", none), "_law_draw", "_law_draw", defArgs s__law_draw, defBody s__law_draw, defScope s__law_draw, [], []⟩
def dd__law_pick : He.DefD := ⟨("_law_pick", none), "_law_pick", "_law_pick", defArgs s__law_pick, defBody s__law_pick, defScope s__law_pick, [], []⟩
def dd__law_names : He.DefD := ⟨("_law_names", none), "_law_names", "_law_names", defArgs s__law_names, defBody s__law_names, defScope s__law_names, [], []⟩
def dd__law_heard : He.DefD := ⟨("_law_heard", none), "_law_heard", "_law_heard", defArgs s__law_heard, defBody s__law_heard, defScope s__law_heard, [], []⟩
def dd__law_powers : He.DefD := ⟨("_law_powers", none), "_law_powers", "_law_powers", defArgs s__law_powers, defBody s__law_powers, defScope s__law_powers, [], []⟩
def dd__law_face : He.DefD := ⟨("_law_face", none), "_law_face", "_law_face", defArgs s__law_face, defBody s__law_face, defScope s__law_face, [], []⟩
def dd__law_scales : He.DefD := ⟨("_law_scales", none), "_law_scales", "_law_scales", defArgs s__law_scales, defBody s__law_scales, defScope s__law_scales, [], []⟩
def dd__law_tree : He.DefD := ⟨("_law_tree", none), "_law_tree", "_law_tree", defArgs s__law_tree, defBody s__law_tree, defScope s__law_tree, [], []⟩
def dd__law_shown : He.DefD := ⟨("_law_shown", none), "_law_shown", "_law_shown", defArgs s__law_shown, defBody s__law_shown, defScope s__law_shown, [], []⟩
def dd__law_bent_right : He.DefD := ⟨("_law_bent_right", none), "_law_bent_right", "_law_bent_right", defArgs s__law_bent_right, defBody s__law_bent_right, defScope s__law_bent_right, [], []⟩
def dd__law_wrong_machines : He.DefD := ⟨("_law_wrong_machines", none), "_law_wrong_machines", "_law_wrong_machines", defArgs s__law_wrong_machines, defBody s__law_wrong_machines, defScope s__law_wrong_machines, [], []⟩
def dd__law_common : He.DefD := ⟨("_law_common", none), "_law_common", "_law_common", defArgs s__law_common, defBody s__law_common, defScope s__law_common, [], []⟩
def dd__law_wrong_trees : He.DefD := ⟨("_law_wrong_trees", none), "_law_wrong_trees", "_law_wrong_trees", defArgs s__law_wrong_trees, defBody s__law_wrong_trees, defScope s__law_wrong_trees, [], []⟩
def dd__law_deep : He.DefD := ⟨("_law_deep", none), "_law_deep", "_law_deep", defArgs s__law_deep, defBody s__law_deep, defScope s__law_deep, [], []⟩
def dd__law_kinds : He.DefD := ⟨("_law_kinds", none), "_law_kinds", "_law_kinds", defArgs s__law_kinds, defBody s__law_kinds, defScope s__law_kinds, [], []⟩
def dd__law_deep_no : He.DefD := ⟨("_law_deep_no", none), "_law_deep_no", "_law_deep_no", defArgs s__law_deep_no, defBody s__law_deep_no, defScope s__law_deep_no, [], []⟩
def dd__law_full : He.DefD := ⟨("_law_full", none), "_law_full", "_law_full", defArgs s__law_full, defBody s__law_full, defScope s__law_full, [], []⟩
def dd__law_odd_right : He.DefD := ⟨("_law_odd_right", none), "_law_odd_right", "_law_odd_right", defArgs s__law_odd_right, defBody s__law_odd_right, defScope s__law_odd_right, [], []⟩
def dd__law_great_right : He.DefD := ⟨("_law_great_right", none), "_law_great_right", "_law_great_right", defArgs s__law_great_right, defBody s__law_great_right, defScope s__law_great_right, [], []⟩
def dd_law : He.DefD := ⟨("law", none), "law", "law", defArgs s_law, defBody s_law, defScope s_law, [], []⟩
def dd_BadText___init__ : He.DefD := ⟨("BadText", some "__init__"), "__init__", "BadText.__init__", defArgs s_BadText___init__, defBody s_BadText___init__, defScope s_BadText___init__, [], []⟩
def dd_Kind___init__ : SupX := ⟨("Kind", some "__init__"), "Kind", "__init__", "Kind.__init__", defArgs s_Kind___init__, defBody s_Kind___init__, defScope s_Kind___init__, [.int 1]⟩
def fnL : List He.DefD := [dd_is_whole, dd_is_between, dd_is_name, dd_Part___init__, dd_is_letter, dd_is_figure, dd_begins_one, dd_Cursor___init__, dd_Cursor_upcoming, dd_Cursor_refuse, dd_Cursor_finish, dd_Cursor_skips, dd_Cursor_expect, dd_Cursor_word_of, dd_Cursor_name_unlike, dd_Cursor_number_to, dd_Cursor_integer_to, dd_read_exponents, dd_exponents_in, dd_need_kinds, dd_need_exponents, dd_scales_of, dd_Machine___init__, dd_Machine___eq__, dd_Machine___str__, dd_read_machine, dd_read_inner_tree, dd_read_tree, dd_tree_text, dd__law_pen, dd__law_draw, dd__law_pick, dd__law_names, dd__law_heard, dd__law_powers, dd__law_face, dd__law_scales, dd__law_tree, dd__law_shown, dd__law_bent_right, dd__law_wrong_machines, dd__law_common, dd__law_wrong_trees, dd__law_deep, dd__law_kinds, dd__law_deep_no, dd__law_full, dd__law_odd_right, dd__law_great_right, dd_law, dd_BadText___init__]
def spL : List SupX := [dd_Kind___init__]
def dm_read : He5.DefA := { at_ := fun K => He5.wf K (ga K "Machine") "classmethod" "read", name := "read", qual := "Machine.read", params := defArgs s_Machine_read, body := defBody s_Machine_read, scope := defScope s_Machine_read }
def dmL : List He5.DefA := [dm_read]
def fa0 : List He.Fa := [.free "len", .free "isinstance", .free "int", .free "bool", .free "all", .free "any", .free "range", .free "str", .free "list", .free "tuple", .free "dict", .free "abs", .free "enumerate", .free "super", .free "zip", .free "max", .free "repr", .glo "is_whole", .glo "is_between", .glo "is_name", .glo "is_letter", .glo "is_figure", .glo "begins_one", .glo "read_exponents", .glo "exponents_in", .glo "need_kinds", .glo "need_exponents", .glo "scales_of", .glo "read_machine", .glo "read_inner_tree", .glo "read_tree", .glo "tree_text", .glo "_law_pen", .glo "_law_draw", .glo "_law_pick", .glo "_law_names", .glo "_law_heard", .glo "_law_powers", .glo "_law_face", .glo "_law_scales"]
def fa1 : List He.Fa := [.glo "_law_tree", .glo "_law_shown", .glo "_law_bent_right", .glo "_law_wrong_machines", .glo "_law_common", .glo "_law_wrong_trees", .glo "_law_deep", .glo "_law_kinds", .glo "_law_deep_no", .glo "_law_full", .glo "_law_odd_right", .glo "_law_great_right", .glo "law", .glo "Part", .glo "Cursor", .glo "BadText", .glo "PadError", .glo "BARRED", .glo "Machine", .glo "Kind", .str "LETTERS_names" "abcdefghijklmnopqrstuvwxyz", .str "LETTERS_cursors" "abcdefghijklmnopqrstuvwxyz", .str "FIGURES_cursors" "0123456789", .int "LONGEST" 8, .int "LONGEST_NAME" 8, .int "MOST_TIMES" 8, .int "MOST_EXPONENT" 1000, .int "MOST_KINDS" 3, .int "MOST_TREE" 100, .int "MOST_BOUND" 2000, .cls "Kind", .cls "Cursor", .cls "Machine", .noat "Cursor" "script", .noat "Cursor" "at", .noat "Kind" "name", .noat "Kind" "times", .noat "Kind" "depth", .noat "Machine" "kinds", .noat "Machine" "scales"]
def fa2 : List He.Fa := [.noat "Machine" "powers", .meth "Cursor" "upcoming", .meth "Cursor" "refuse", .meth "Cursor" "finish", .meth "Cursor" "skips", .meth "Cursor" "expect", .meth "Cursor" "word_of", .meth "Cursor" "name_unlike", .meth "Cursor" "number_to", .meth "Cursor" "integer_to", .mkr "Kind", .mkr "Cursor", .mkr "Machine"]
def faL : List He.Fa := fa0 ++ fa1 ++ fa2
def tfL : List He.Defn := [("law", none), ("_law_bent_right", none), ("_law_odd_right", none), ("_law_great_right", none)]
abbrev fileP : Str := PySem.Challenge.pw_manypads_k93_machines_and_trees_written.main.file
def ex0 (K : PySem.W.Frag) : Bool := (tupB2 K "BARRED" [.str "byte", .str "size", .str "align", .str "place", .str "end", .str "packed", .str "and", .str "or", .str "not", .str "yes", .str "no", .str "for", .str "nogap", .str "notail", .str "leaf"]) && ((constB K (ga K "Part") "DEPTH" (.int 4)) && ((constB K (ga K "Machine") "MOST" (.int 1000)) && ((tyfB K (ga K "Kind")) && ((tyfB K (ga K "Cursor")) && ((tyfB K (ga K "Machine")) && ((kitB2 K (.ref (ga K "Kind")) (.ref (ga K "Kind")) true) && ((kitB2 K (.ref (ga K "Machine")) (.ref (ga K "Machine")) true) && ((SupX.ok fileP K dd_Kind___init__) && (((PySem.W.clsIn K (ga K "Kind")).isSome) && ((smB K (ga K "Kind") (ga K "Kind") (fAd K ("Part", some "__init__"))) && ((optB (PySem.W.nsIn K mainGlobals "super") (some none)))))))))))))
def ex1 (K : PySem.W.Frag) : Bool := (optB (PySem.W.nsIn K PySem.cStatics "thirdparty.any") (some none)) && ((oexB K (ga K "BadText")) && ((optB (PySem.W.findIn K (.ref (ga K "BadText")) "__init__") (some (some (.ref (fAd K ("BadText", some "__init__")))))) && ((decide (PySem.W.typeIn K (.ref (fAd K ("BadText", some "__init__"))) = some (.type "function"))) && ((optB (PySem.W.findIn K (.ref (ga K "BadText")) "at") (some none)) && ((ekB K (ga K "BadText")) && ((boolB (PySem.W.exmOne K (.ref (ga K "BadText")) (.ref (ga K "PadError"))) true) && ((kitB2 K (.ref (ga K "BadText")) (.ref (ga K "BadText")) true) && ((decide (ga K "Kind" ≠ ga K "Cursor") && decide (ga K "Machine" ≠ ga K "Cursor")) && ((optB (PySem.W.findIn K (.ref (ga K "Machine")) "__str__") (some (some (.ref (fAd K ("Machine", some "__str__")))))) && ((decide (PySem.W.typeIn K (.ref (fAd K ("Machine", some "__str__"))) = some (.type "function"))) && ((optB (PySem.W.findIn K (.ref (ga K "Machine")) "__eq__") (some (some (.ref (fAd K ("Machine", some "__eq__")))))))))))))))))
def ex2 (K : PySem.W.Frag) : Bool := (PySem.W.isFn K (.ref (fAd K ("Machine", some "__eq__")))) && ((PySem.W.readsIn K (ga K "Machine") (.type "type")) && ((optB (PySem.W.specialIn K (.ref (ga K "Machine")) "__getattribute__") (some (some (.builtin "type.__getattribute__")))) && ((He5.wrapB K (ga K "Machine") "classmethod" "classmethod.__get__" "read") && ((PySem.W.fnIn K (He5.wf K (ga K "Machine") "classmethod" "read")) && ((He5.DefA.ok K dm_read) && ((decide ((He.cT K ("law", none)).2 ≠ (He.cT K ("_law_bent_right", none)).2)) && ((decide ((He.cT K ("law", none)).2 ≠ (He.cT K ("_law_odd_right", none)).2)) && ((decide ((He.cT K ("law", none)).2 ≠ (He.cT K ("_law_great_right", none)).2)) && ((decide ((He.cT K ("_law_bent_right", none)).2 ≠ (He.cT K ("_law_odd_right", none)).2)) && ((decide ((He.cT K ("_law_bent_right", none)).2 ≠ (He.cT K ("_law_great_right", none)).2)) && ((decide ((He.cT K ("_law_odd_right", none)).2 ≠ (He.cT K ("_law_great_right", none)).2)))))))))))))
def exL (K : PySem.W.Frag) : Bool := ex0 K && (ex1 K && (ex2 K))
def names0 : List Str := [("_wall" : Str), ("PadError" : Str), ("BadName" : Str), ("BadTimes" : Str), ("BadParts" : Str), ("NoPath" : Str), ("Taken" : Str), ("Unresolved" : Str), ("NoMachine" : Str), ("TooLarge" : Str), ("NoScale" : Str), ("BadText" : Str), ("LETTERS_names" : Str), ("FIGURES_names" : Str), ("LONGEST" : Str), ("BARRED" : Str)]
def names1 : List Str := [("is_whole" : Str), ("is_between" : Str), ("is_name" : Str), ("number_in" : Str), ("steps_in" : Str), ("MOST_TIMES" : Str), ("led_by" : Str), ("need_pairs" : Str), ("depth_over" : Str), ("pair_texts" : Str), ("Part" : Str), ("Kind" : Str), ("Byte" : Str), ("Group" : Str), ("Spread" : Str), ("Row" : Str)]
def names2 : List Str := [("Record" : Str), ("Overlay" : Str), ("LETTERS_cursors" : Str), ("FIGURES_cursors" : Str), ("LONGEST_NAME" : Str), ("is_letter" : Str), ("is_figure" : Str), ("begins_one" : Str), ("Cursor" : Str), ("MOST_EXPONENT" : Str), ("read_exponents" : Str), ("exponents_in" : Str), ("MOST_KINDS" : Str), ("need_kinds" : Str), ("need_exponents" : Str), ("scales_of" : Str)]
def names3 : List Str := [("rounded_up" : Str), ("Machine" : Str), ("MOST_TREE" : Str), ("MOST_BOUND" : Str), ("read_machine" : Str), ("read_inner_tree" : Str), ("read_tree" : Str), ("tree_text" : Str), ("_law_pen" : Str), ("_law_draw" : Str), ("_law_pick" : Str), ("_law_names" : Str), ("_law_heard" : Str), ("_law_powers" : Str), ("_law_face" : Str), ("_law_scales" : Str)]
def names4 : List Str := [("_law_tree" : Str), ("_law_shown" : Str), ("_law_bent_right" : Str), ("_law_wrong_machines" : Str), ("_law_common" : Str), ("_law_wrong_trees" : Str), ("_law_deep" : Str), ("_law_kinds" : Str), ("_law_deep_no" : Str), ("_law_full" : Str), ("_law_odd_right" : Str), ("_law_great_right" : Str)]
def namesL : List Str := names0 ++ names1 ++ names2 ++ names3 ++ names4
abbrev hkL : PySem.W.Hook := hookY 1600 faL fnL spL dmL tfL exL
def obL (s : PySem.W.SharedT) : AlY := obsZ 1600 faL fnL spL dmL tfL exL (HandSHeadRun.getT s)
theorem obL_eq (s : PySem.W.SharedT) : obL s = hkL.obs s.abs := obsZ_eq.trans (obsY_eq (HandSHeadRun.getT_eq s))
end Mp

set_option maxHeartbeats 0
/-! Kh2: the top is run -/
namespace Mp
open PySem PySem.W PySem.Calls PyProof.Rows
abbrev rowL : OpenRow := OpenLaw.row PySem.Challenge.rw_manypads_k93_machines_and_trees_written
abbrev qvL : Program := view rowL.prog [84]
theorem runL (w : World) : HandSHeadRun.RunEq rowL qvL hkL obL 20000 namesL w := by
  intro os
  kernel_rfl
end Mp

set_option maxHeartbeats 8000000
/-! Km: the plain side: parts, the reader on lists of signs; and what stands in the heap -/
namespace Mp
open PySem PySem.Spec PyProof.Rows L2
open He (ga ma fAd)
abbrev T (s : String) : List Nat := s.toList.map Char.toNat
theorem ofS (s : String) : Str.ofString s = S (T s) := Str.ofString_eq_toList s
def isLet (c : Nat) : Bool := decide (97 ≤ c) && decide (c ≤ 122)
def isFig (c : Nat) : Bool := decide (48 ≤ c) && decide (c ≤ 57)
def barred : List (List Nat) := [T "byte", T "size", T "align", T "place", T "end", T "packed", T "and", T "or", T "not", T "yes", T "no", T "for", T "nogap", T "notail", T "leaf"]
/-! ### parts -/
mutual
inductive Pt where
  | kind (n : List Nat) (t : Nat) | byte | use (n : List Nat) | row (n : Nat) (p : Pt) | rec_ (fs : Fs) | ovl (fs : Fs)
inductive Fs where
  | nil | cons (n : List Nat) (p : Pt) (r : Fs)
end
def Fs.names : Fs → List (List Nat)
  | .nil => []
  | .cons n _ r => n :: r.names
def Fs.len : Fs → Nat
  | .nil => 0
  | .cons _ _ r => r.len + 1
def Fs.snoc : Fs → List Nat → Pt → Fs
  | .nil, n, p => .cons n p .nil
  | .cons m q r, n, p => .cons m q (r.snoc n p)
theorem Fs.names_snoc : ∀ (fs : Fs) (n : List Nat) (p : Pt), (fs.snoc n p).names = fs.names ++ [n]
  | .nil, _, _ => rfl
  | .cons m q r, n, p => by
    show m :: (r.snoc n p).names = m :: r.names ++ [n]
    rw [Fs.names_snoc r n p]
    rfl
theorem Fs.len_snoc : ∀ (fs : Fs) (n : List Nat) (p : Pt), (fs.snoc n p).len = fs.len + 1
  | .nil, _, _ => rfl
  | .cons m q r, n, p => by
    show (r.snoc n p).len + 1 = _
    rw [Fs.len_snoc r n p]
    rfl
mutual
def Pt.depth : Pt → Nat
  | .kind _ _ => 0 | .byte => 0 | .use _ => 0
  | .row _ p => p.depth + 1
  | .rec_ fs => fs.depth
  | .ovl fs => fs.depth
def Fs.depth : Fs → Nat
  | .nil => 0
  | .cons _ p r => max (p.depth + 1) r.depth
end
/-! ### the reader -/
inductive Res (α : Type) where
  | ok (v : α) (r : List Nat)
  | bad (r : List Nat)
def Res.bind {α β : Type} : Res α → (α → List Nat → Res β) → Res β
  | .ok v r, f => f v r
  | .bad r, _ => .bad r
def expect (s : Nat) : List Nat → Res Unit
  | x :: r => if x = s then .ok () r else .bad (x :: r)
  | [] => .bad []
def begins (words : List (List Nat)) (f : List Nat) : Bool := words.any fun w => w.take f.length == f
def wordGo (words : List (List Nat)) : List Nat → List Nat → Res (List Nat)
  | f, x :: r => if begins words (f ++ [x]) then wordGo words (f ++ [x]) r else if f ∈ words then .ok f (x :: r) else .bad (x :: r)
  | f, [] => if f ∈ words then .ok f [] else .bad []
def nameEnd (taken : List (List Nat)) (f r : List Nat) : Res (List Nat) := if f = [] ∨ f ∈ taken ∨ f ∈ barred then .bad r else .ok f r
def nameGo (taken : List (List Nat)) : List Nat → List Nat → Res (List Nat)
  | f, x :: r => if isLet x = true ∧ f.length < 8 then (if f.length + 1 = 8 ∧ (f ++ [x] ∈ taken ∨ f ++ [x] ∈ barred) then .bad (x :: r) else nameGo taken (f ++ [x]) r) else nameEnd taken f (x :: r)
  | f, [] => nameEnd taken f []
def numEnd (v : Nat) (st : Bool) (r : List Nat) : Res Nat := if st = true then .ok v r else .bad r
def numGo (least most : Nat) : Nat → Bool → List Nat → Res Nat
  | v, st, x :: r => if isFig x = true ∧ ¬ (10 * v + (x - 48) > most ∨ 10 * v + (x - 48) < least ∨ (v = 0 ∧ st = true)) then numGo least most (10 * v + (x - 48)) true r else numEnd v st (x :: r)
  | v, st, [] => numEnd v st []
abbrev Knd : Type := List Nat × Nat
def leaf (ks : List Knd) (r : List Nat) : Res Pt := match r with
  | 64 :: r => (nameGo [] [] r).bind fun n r => .ok (.use n) r
  | r => (wordGo (T "byte" :: ks.map (·.1)) [] r).bind fun w r => .ok (if w = T "byte" then .byte else .kind w ((ks.lookup w).getD 0)) r
def close (cl : Nat) (fs : Fs) (r : List Nat) : Res Fs := (expect cl r).bind fun _ r => .ok fs r
def entry (rd : List Nat → Res Pt) (found : Fs) (r : List Nat) : Res Fs := (nameGo found.names [] r).bind fun n r => (expect 58 r).bind fun _ r => (rd r).bind fun p r => .ok (found.snoc n p) r
def named (rd : List Nat → Res Pt) (sep cl : Nat) : Nat → Fs → List Nat → Res Fs
  | 0, found, r => (entry rd found r).bind fun fs r => close cl fs r
  | fuel + 1, found, r => (entry rd found r).bind fun fs r => match r with
    | x :: r' => if x = sep then named rd sep cl fuel fs r' else close cl fs (x :: r')
    | [] => close cl fs []
def readInner (ks : List Knd) : Nat → List Nat → Res Pt
  | 0, r => leaf ks r
  | m + 1, r => match r with
    | x :: r' => if isFig x = true then (numGo 1 64 0 false r).bind fun n r => (expect 42 r).bind fun _ r => (readInner ks m r).bind fun p r => .ok (.row n p) r
      else if x = 123 then (named (readInner ks m) 32 125 7 .nil r').bind fun fs r => .ok (.rec_ fs) r
      else if x = 40 then (named (readInner ks m) 124 41 3 .nil r').bind fun fs r => .ok (.ovl fs) r
      else leaf ks r
    | [] => leaf ks r
def readPart (ks : List Knd) (l : List Nat) : Res Pt := (readInner ks 4 l).bind fun p r => match r with
  | [] => .ok p []
  | _ => .bad r
/-! ### what stands in the heap -/
section
variable (K : PySem.W.Frag) (H : Hp)
mutual
def PartAt : Pt → Addr → Prop
  | .kind n t, a => ∃ dx, H a = some (.ins (ga K "Kind") dx [("depth", .int 0), ("name", .str (S n)), ("times", .int t)])
  | .byte, a => ∃ dx, H a = some (.ins (ga K "Byte") dx [("depth", .int 0)])
  | .use n, a => ∃ dx, H a = some (.ins (ga K "Use") dx [("depth", .int 0), ("name", .str (S n))])
  | .row n p, a => ∃ dx h b, H a = some (.ins (ga K "Row") dx [("depth", .int ((p.depth + 1 : Nat))), ("held", .ref h), ("part", .ref b), ("n", .int n)]) ∧ PartAt p b ∧ n ≤ 64
  | .rec_ fs, a => ∃ dx h t xs, H a = some (.ins (ga K "Record") dx [("depth", .int (fs.depth : Nat)), ("held", .ref h), ("fields", .ref t)]) ∧ H t = some (.tup xs) ∧ FsAt fs xs ∧ fs.len ≤ 8
  | .ovl fs, a => ∃ dx h t xs, H a = some (.ins (ga K "Overlay") dx [("depth", .int (fs.depth : Nat)), ("held", .ref h), ("members", .ref t)]) ∧ H t = some (.tup xs) ∧ FsAt fs xs ∧ fs.len ≤ 8
def FsAt : Fs → List V → Prop
  | .nil, xs => xs = []
  | .cons n p r, xs => ∃ q b ys, xs = .ref q :: ys ∧ H q = some (.tup [.str (S n), .ref b]) ∧ PartAt p b ∧ FsAt r ys
end
/-- the reader: the text l, what is left of it -/
def CurR (c : Addr) (l r : List Nat) : Prop := r <:+ l ∧ l.length ≤ 10000 ∧ ∃ dx, H c = some (.ins (ga K "Cursor") dx [("script", .str (S l)), ("at", .int ((l.length - r.length : Nat)))])
end
/-- what stands still when a reader or a pen is moved -/
def stb (K : PySem.W.Frag) : HO → Prop
  | .tup _ => True
  | .ins C _ fs => C ≠ ga K "Cursor" ∧ fs ≠ []
  | _ => False
def Stb (K : PySem.W.Frag) (H H' : Hp) : Prop := ∀ a o, H a = some o → stb K o → H' a = some o
def K1 (c : Addr) (H H' : Hp) : Prop := ∀ a o, a ≠ c → H a = some o → H' a = some o
section
variable {K : PySem.W.Frag} {H H' H2 : Hp} {c : Addr} {l r : List Nat}
theorem K1.rfl' : K1 c H H := fun _ _ _ h => h
theorem K1.of (e : Ex H H') : K1 c H H' := fun a o _ h => e a o h
theorem K1.trans (a : K1 c H H') (b : K1 c H' H2) : K1 c H H2 := fun x o n h => b x o n (a x o n h)
theorem K1.upd {o : HO} : K1 c H (upd H c o) := fun a u n h => by rw [upd_ne n]; exact h
theorem Ex.of_k1 (k : K1 c H H') (h : H c = none) : Ex H H' := fun a o e => k a o (fun z => by rw [z, h] at e; cases e) e
theorem Stb.of (e : Ex H H') : Stb K H H' := fun a o h _ => e a o h
theorem Stb.k1 (k : K1 c H H') (h : CurR K H c l r) : Stb K H H' := fun a o e s => k a o (fun z => by
  obtain ⟨_, _, dx, h⟩ := h
  rw [z, h] at e
  cases e
  exact s.1 rfl) e
theorem Stb.made {C dx : Addr} (k : K1 c H H') (h : H c = some (.ins C dx [])) : Stb K H H' := fun a o e s => k a o (fun z => by
  rw [z, h] at e
  cases e
  exact s.2 rfl) e
theorem Stb.lst {xs : List V} (k : K1 c H H') (h : H c = some (.lst xs)) : Stb K H H' := fun a o e s => k a o (fun z => by
  rw [z, h] at e
  cases e
  exact s) e
theorem CurR.ex (h : CurR K H c l r) (e : Ex H H') : CurR K H' c l r := let ⟨a, b, dx, h⟩ := h; ⟨a, b, dx, e _ _ h⟩
theorem rd_k1 {a : Addr} {u : HO} (k : K1 c H H') (h : CurR K H c l r) (e : Rd H a u) (hu : ∀ C dx fs, u ≠ .ins C dx fs) : Rd H' a u := by
  obtain ⟨_, _, dx, h⟩ := h
  rcases e with e | ⟨o, e⟩
  · refine Or.inl (k a _ (fun z => ?_) e)
    rw [z, h] at e
    exact hu _ _ _ (Option.some.inj e).symm
  · refine Or.inr ⟨o, k a _ (fun z => ?_) e⟩
    rw [z, h] at e
    cases e
theorem SqL.k1 {a : Addr} {xs : List V} (k : K1 c H H') (h : CurR K H c l r) (e : SqL K H a xs) : SqL K H' a xs := e.elim (fun e => Or.inl (rd_k1 k h e fun _ _ _ z => nomatch z)) Or.inr
theorem SqT.k1 {a : Addr} {xs : List V} (k : K1 c H H') (h : CurR K H c l r) (e : SqT K H a xs) : SqT K H' a xs := e.elim (fun e => Or.inl (rd_k1 k h e fun _ _ _ z => nomatch z)) Or.inr
end
end Mp

set_option maxHeartbeats 8000000
/-! Kl: comprehensions whose items only lay new things -/
namespace Mp
open PySem PySem.Spec PyProof.Rows L2
section
variable {K : PySem.W.Frag} {a : Addr} {xs ys : List V} {g : TG} {tt : TT} {te : TE} {vs : List Nat} {σ : L2.St} {H : Hp} {Q : VK}
/-- one turn, its item y -/
def LcTurn (g : TG) (tt : TT) (te : TE) (vs : List Nat) (σ : L2.St) (x : V) (H' : Hp) (R : V → Hp → Prop) : Prop :=
  g x (wipe σ vs) H' fun σ2 H2 => wipe σ2 vs = wipe σ vs ∧ tt σ2 H2 fun b H3 => if b = true then te σ2 H3 R else False
theorem take_snoc {xs : List V} {i : Nat} {y : V} (h : xs[i]? = some y) : xs.take i ++ [y] = xs.take (i + 1) := by
  obtain ⟨hi, h⟩ := List.getElem?_eq_some_iff.mp h
  rw [← h]
  exact (List.take_succ_eq_append_getElem hi).symm
theorem if_imp {b : Bool} {A B : Prop} (h : if b = true then A else False) : if b = true then A else B := by
  cases b
  · exact False.elim (by simpa using h)
  · simpa using h
/-- readings are monotone in what is wanted -/
def MonG (g : TG) : Prop := ∀ x σ H (Q Q' : L2.St → Hp → Prop), (∀ σ H, Q σ H → Q' σ H) → g x σ H Q → g x σ H Q'
def MonT (t : TT) : Prop := ∀ σ H (Q Q' : Bool → Hp → Prop), (∀ b H, Q b H → Q' b H) → t σ H Q → t σ H Q'
theorem monT_yes : MonT tYes := fun _ _ _ _ h q => h _ _ q
theorem monG_name {i : Nat} : MonG (gName i) := fun _ _ _ _ _ h q => h _ _ q
theorem monG_tup2 {K : PySem.W.Frag} {n i j : Nat} : MonG (gTup K n (gCons (gName i) (gCons (gName j) gNil))) := by
  intro x σ H Q Q' h ⟨a, xs, e, hs, hl, v, r, e1, v2, r2, e2, e3, q⟩
  exact ⟨a, xs, e, hs, hl, v, r, e1, v2, r2, e2, e3, h _ _ q⟩
theorem LcTurn.weak {x : V} {H' : Hp} {R : V → Hp → Prop} {R0 : Hp → Prop} (mg : MonG g) (mt : MonT tt) (h : LcTurn g tt te vs σ x H' R) :
    g x (wipe σ vs) H' fun σ2 H2 => wipe σ2 vs = wipe σ vs ∧ tt σ2 H2 fun b H3 => if b = true then te σ2 H3 R else R0 H3 :=
  mg _ _ _ _ _ (fun σ2 H2 ⟨e, q⟩ => ⟨e, mt _ _ _ _ (fun _ _ => if_imp) q⟩) h
/-- .. over a list, the items known -/
theorem lc_mapL {tl : TE} (ht : ∀ R : V → Hp → Prop, R (.ref a) H → tl σ H R) (mg : MonG g) (mt : MonT tt) (hz : ys.length ≤ 16777215) (hlen : xs.length = ys.length) (hl : SqL K H a xs)
    (hs : ∀ (i : Nat) (x y : V) (H' : Hp) (R : V → Hp → Prop), xs[i]? = some x → ys[i]? = some y → Ex H H' → (∀ H4, Ex H' H4 → R y H4) → LcTurn g tt te vs σ x H' R)
    (hq : ∀ D H', Ex H H' → H D = none → H' D = some (.lst ys) → Q (.ref D) H') :
    tLc (iList K tl) g tt te vs σ H Q := by
  refine ht _ ⟨a, rfl, ⟨xs, hl⟩, fun D hD => ?_⟩
  refine lc_list (xs := xs) (Qd := fun H => Q (.ref D) H) (fun i H' => Ex H H' ∧ H' D = some (.lst (ys.take i))) ⟨Ex.new hD, by rw [upd_same, List.take_zero]⟩ (fun i H' _ p => Ex.l p.1 hl) (fun i x H' hx p => ?_) (fun H' p => ?_)
  · have hi : i < ys.length := by
      rw [← hlen]
      exact (List.getElem?_eq_some_iff.mp hx).1
    have hy : ys[i]? = some ys[i] := List.getElem?_eq_getElem hi
    refine LcTurn.weak mg mt (hs i x ys[i] H' _ hx hy p.1 fun H4 e => ⟨_, e _ _ p.2, ?_, ?_, ?_⟩)
    · rw [List.length_take, sizeLine_eq]
      omega
    · exact Ex.mut (Ex.trans p.1 e) hD
    · rw [upd_same, take_snoc hy]
  · refine hq D H' p.1 hD ?_
    have h2 := p.2
    rwa [hlen, List.take_length] at h2
/-- .. over a tuple -/
theorem lc_mapT {tl : TE} (ht : ∀ R : V → Hp → Prop, R (.ref a) H → tl σ H R) (mg : MonG g) (mt : MonT tt) (hz : ys.length ≤ 16777215) (hlen : xs.length = ys.length) (hl : SqT K H a xs)
    (hs : ∀ (i : Nat) (x y : V) (H' : Hp) (R : V → Hp → Prop), xs[i]? = some x → ys[i]? = some y → Ex H H' → (∀ H4, Ex H' H4 → R y H4) → LcTurn g tt te vs σ x H' R)
    (hq : ∀ D H', Ex H H' → H D = none → H' D = some (.lst ys) → Q (.ref D) H') :
    tLc (iTup K tl) g tt te vs σ H Q := by
  refine ht _ ⟨a, rfl, ⟨xs, hl⟩, fun D hD => ?_⟩
  refine lc_tup (xs := xs) (Qd := fun H => Q (.ref D) H) (fun i H' => Ex H H' ∧ H' D = some (.lst (ys.take i))) ⟨Ex.new hD, by rw [upd_same, List.take_zero]⟩ (fun i H' _ p => Ex.t p.1 hl) (fun i x H' hx p => ?_) (fun H' p => ?_)
  · have hi : i < ys.length := by
      rw [← hlen]
      exact (List.getElem?_eq_some_iff.mp hx).1
    have hy : ys[i]? = some ys[i] := List.getElem?_eq_getElem hi
    refine LcTurn.weak mg mt (hs i x ys[i] H' _ hx hy p.1 fun H4 e => ⟨_, e _ _ p.2, ?_, ?_, ?_⟩)
    · rw [List.length_take, sizeLine_eq]
      omega
    · exact Ex.mut (Ex.trans p.1 e) hD
    · rw [upd_same, take_snoc hy]
  · refine hq D H' p.1 hD ?_
    have h2 := p.2
    rwa [hlen, List.take_length] at h2
/-- .. over a text -/
theorem lc_mapS {l : List Nat} {tl : TE} (ht : ∀ R : V → Hp → Prop, R (.str (S l)) H → tl σ H R) (mg : MonG g) (mt : MonT tt) (hz : ys.length ≤ 16777215) (hlen : l.length = ys.length)
    (hs : ∀ (i : Nat) (x : Nat) (y : V) (H' : Hp) (R : V → Hp → Prop), l[i]? = some x → ys[i]? = some y → Ex H H' → (∀ H4, Ex H' H4 → R y H4) → LcTurn g tt te vs σ (.str (S [x])) H' R)
    (hq : ∀ D H', Ex H H' → H D = none → H' D = some (.lst ys) → Q (.ref D) H') :
    tLc (iStr tl) g tt te vs σ H Q := by
  refine ht _ ⟨_, rfl, fun D hD => ?_⟩
  refine ⟨fun i m H' => i ≤ l.length ∧ m = l.length - i ∧ Ex H H' ∧ H' D = some (.lst (ys.take i)), ⟨_, Nat.zero_le _, rfl, Ex.new hD, by rw [upd_same, List.take_zero]⟩, fun i m H' ⟨h1, h2, e, hd⟩ => ?_⟩
  by_cases hi : i = l.length
  · subst hi
    refine Or.inl ⟨?_, hq D H' e hD ?_⟩
    · show (S l).cps.size ≤ l.length
      simp [S]
    · rw [hd, hlen, List.take_length]
  · have hlt : i < l.length := by omega
    have hi : i < ys.length := by omega
    have hy : ys[i]? = some ys[i] := List.getElem?_eq_getElem hi
    refine Or.inr ⟨?_, fun H' => i + 1 ≤ l.length ∧ Ex H H' ∧ H' D = some (.lst (ys.take (i + 1))), fun H' h => ⟨l.length - (i + 1), by omega, h.1, rfl, h.2⟩, ?_⟩
    · show i < (S l).cps.size
      simpa [S] using hlt
    · intro x H2 hx
      obtain ⟨rfl, c, hc, rfl⟩ := hx
      have hc2 : l[i]? = some c := by simpa [S] using hc
      refine LcTurn.weak mg mt (hs i c ys[i] _ _ hc2 hy e fun H4 e4 => ⟨_, e4 _ _ hd, ?_, by omega, ?_, ?_⟩)
      · rw [List.length_take, sizeLine_eq]
        omega
      · exact Ex.mut (Ex.trans e e4) hD
      · rw [upd_same, take_snoc hy]
end
/-! ### loops -/
section
variable {K : PySem.W.Frag} {a : Addr} {xs : List V} {g : TG} {tb : TS} {D : Ends} {σ : L2.St} {H : Hp} {te : TE}
theorem tfor_str {l : List Nat} (ht : ∀ R : V → Hp → Prop, R (.str (S l)) H → te σ H R) (Pv : Nat → L2.St → Hp → Prop) (h0 : Pv 0 σ H)
    (hs : ∀ (i : Nat) (c : Nat) (σ : L2.St) (H : Hp), l[i]? = some c → Pv i σ H → g (.str (S [c])) σ H fun σ2 H2 => tb { D with nx := Pv (i + 1), ct := Pv (i + 1), bk := D.nx } σ2 H2)
    (hd : ∀ σ H, Pv l.length σ H → D.nx σ H) : tFor (iStr te) g tb D σ H := by
  refine ht _ ⟨_, rfl, fun i m σ H => i ≤ l.length ∧ m = l.length - i ∧ Pv i σ H, ⟨_, Nat.zero_le _, rfl, h0⟩, fun i m σ H ⟨h1, h2, h3⟩ => ?_⟩
  by_cases hi : i = l.length
  · subst hi
    refine Or.inl ⟨?_, hd _ _ h3⟩
    show (S l).cps.size ≤ l.length
    simp [S]
  · have hlt : i < l.length := by omega
    refine Or.inr ⟨?_, Pv (i + 1), fun σ' H' h => ⟨l.length - (i + 1), by omega, by omega, rfl, h⟩, ?_⟩
    · show i < (S l).cps.size
      simpa [S] using hlt
    · intro x H' hx
      obtain ⟨rfl, c, hc, rfl⟩ := hx
      refine hs i c σ _ ?_ h3
      simpa [S] using hc
theorem tfor_list (ht : ∀ R : V → Hp → Prop, R (.ref a) H → te σ H R) (Pv : Nat → L2.St → Hp → Prop) (h0 : Pv 0 σ H) (hl : ∀ i σ H, i ≤ xs.length → Pv i σ H → SqL K H a xs)
    (hs : ∀ (i : Nat) (x : V) (σ : L2.St) (H : Hp), xs[i]? = some x → Pv i σ H → g x σ H fun σ2 H2 => tb { D with nx := Pv (i + 1), ct := Pv (i + 1), bk := D.nx } σ2 H2)
    (hd : ∀ σ H, Pv xs.length σ H → D.nx σ H) : tFor (iList K te) g tb D σ H :=
  ht _ ⟨_, rfl, ⟨xs, hl 0 _ _ (Nat.zero_le _) h0⟩, for_list Pv h0 hl hs hd⟩
theorem tfor_tup (ht : ∀ R : V → Hp → Prop, R (.ref a) H → te σ H R) (Pv : Nat → L2.St → Hp → Prop) (h0 : Pv 0 σ H) (hl : ∀ i σ H, i ≤ xs.length → Pv i σ H → SqT K H a xs)
    (hs : ∀ (i : Nat) (x : V) (σ : L2.St) (H : Hp), xs[i]? = some x → Pv i σ H → g x σ H fun σ2 H2 => tb { D with nx := Pv (i + 1), ct := Pv (i + 1), bk := D.nx } σ2 H2)
    (hd : ∀ σ H, Pv xs.length σ H → D.nx σ H) : tFor (iTup K te) g tb D σ H :=
  ht _ ⟨_, rfl, ⟨xs, hl 0 _ _ (Nat.zero_le _) h0⟩, for_tup Pv h0 hl hs hd⟩
theorem twhile {c : TT} (W : Nat → L2.St → Hp → Prop) (m : Nat) (h0 : W m σ H)
    (hs : ∀ m σ H, W m σ H → c σ H fun b H1 => if b = true then tb { D with nx := fun σ' H' => ∃ m', m' < m ∧ W m' σ' H', ct := fun σ' H' => ∃ m', m' < m ∧ W m' σ' H', bk := D.nx } σ H1 else D.nx σ H1)
    (mono : MonT c) : tWhile c tb D σ H :=
  ⟨W, ⟨m, h0⟩, fun m σ H h => mono _ _ _ _ (fun b H1 q => by
    cases b with
    | true => exact ⟨_, fun _ _ h => h, q⟩
    | false => exact q) (hs m σ H h)⟩
theorem twhile' {c : TT} (W : Nat → L2.St → Hp → Prop) (m : Nat) (h0 : W m σ H)
    (hs : ∀ m σ H, W m σ H → c σ H fun b H1 => if b = true then ∃ N : L2.St → Hp → Prop, (∀ σ' H', N σ' H' → ∃ m', m' < m ∧ W m' σ' H') ∧ tb { D with nx := N, ct := N, bk := D.nx } σ H1 else D.nx σ H1) : tWhile c tb D σ H :=
  ⟨W, ⟨m, h0⟩, hs⟩
end
end Mp

set_option maxHeartbeats 8000000
/-! Kc: the reader's methods -/
namespace Mp
open PySem PySem.Spec PyProof.Rows L2
open StX (tMakeR run_makeR pe_makeR)
open He (ga ma fAd)
section
variable {P : Program} {w : World} {K : PySem.W.Frag} {mg : Str → Option Value} {base : Heap}
theorem lk_script {a b : V} : List.lookup (Str.ofString "script") [("script", a), ("at", b)] = some a := rfl
theorem lk_at {a b : V} : List.lookup (Str.ofString "at") [("script", a), ("at", b)] = some b := rfl
theorem lk_upcoming {a b : V} : List.lookup (Str.ofString "upcoming") [("script", a), ("at", b)] = none := rfl
theorem lk_refuse {a b : V} : List.lookup (Str.ofString "refuse") [("script", a), ("at", b)] = none := rfl
theorem lk_skips {a b : V} : List.lookup (Str.ofString "skips") [("script", a), ("at", b)] = none := rfl
theorem lk_expect {a b : V} : List.lookup (Str.ofString "expect") [("script", a), ("at", b)] = none := rfl
theorem lk_word_of {a b : V} : List.lookup (Str.ofString "word_of") [("script", a), ("at", b)] = none := rfl
theorem lk_name_unlike {a b : V} : List.lookup (Str.ofString "name_unlike") [("script", a), ("at", b)] = none := rfl
theorem lk_number_to {a b : V} : List.lookup (Str.ofString "number_to") [("script", a), ("at", b)] = none := rfl
theorem lk_finish {a b : V} : List.lookup (Str.ofString "finish") [("script", a), ("at", b)] = none := rfl
theorem put_at {a b v : V} : putF (Str.ofString "at") v [(Str.ofString "script", a), (Str.ofString "at", b)] = [(Str.ofString "script", a), (Str.ofString "at", v)] := rfl
theorem LenV_str {H : Hp} {y : Str} {n : Nat} : LenV K (.str y) H n ↔ y.length ≤ sizeLine ∧ n = y.length := Iff.rfl
theorem scal_ss {a b : Str} : scal (.str a) (.str b) = true := rfl
theorem scal_ii {a b : Int} : scal (.int a) (.int b) = true := rfl
theorem found_S (x : Str) (c : Nat) : (!(Builtin.Str.occurrences x (S [c]) 0 x.length 1).isEmpty) = decide (c ∈ x.cps.toList) := StrLaws.found_one x c
theorem let_mem (c : Nat) : decide (c ∈ (Str.ofString "abcdefghijklmnopqrstuvwxyz").cps.toList) = isLet c := by
  rw [ofS, S_cps, Bool.eq_iff_iff]
  simp [isLet]
  omega
theorem fig_mem (c : Nat) : decide (c ∈ (Str.ofString "0123456789").cps.toList) = isFig c := by
  rw [ofS, S_cps, Bool.eq_iff_iff]
  simp [isFig]
  omega
theorem S_nil : Str.ofString "" = S [] := rfl
/-- one sign or none -/
def sp_is_letter (K : PySem.W.Frag) : Sp := sp1 fun a H Q _ => ∃ l : List Nat, a = .str (S l) ∧ l.length ≤ 1 ∧ Q (.bl (l.any isLet)) H
theorem sc_is_letter : FnScope ["sign"] ["sign"] (defScope s_is_letter) := ⟨rfl, rfl, rfl, by decide +kernel, rfl, by decide +kernel, by decide +kernel⟩
theorem ok_is_letter (z : Zk K mg base)   : Cal P w K mg base "is_letter" 1 (sp_is_letter K) := by
  obtain ⟨fd, F⟩ := z.d_is_letter
  refine cal_of F z.g_is_letter sc_is_letter (fun _ _ _ _ _ _ us hl => match us, hl with | [_], _ => rfl) (fun vs H Q E h => by match vs, h with | [_], _ => rfl) (fun cdv A outer s H vs Q E hr h => ?_)
  have nd := sc_is_letter.nd
  have hu : (cxOf (L2.CX P w) P w K mg base ["sign"] "is_letter" (defScope s_is_letter) (fAd K ("is_letter", none)) cdv A outer s H E).A.units + 64 < cLine := hr.units
  have hu0 := hr.units0
  have hu1 := hu_of hr
  match vs, h with
  | [a0], h =>
  refine ⟨_, (pss_one (ps_ret (pe_and (pe_cmpR op_ne (pv 0) pe_str (nomark _)) (pe_one (pe_cmpR op_in_str (pv 0) (pe_gstr z.v_LETTERS_cursors) (by with_unfolding_all rfl)))))), ?_⟩
  obtain ⟨l, rfl, hl, hq⟩ := h
  simp [tRet, tRetN, tSeq, tIfS, tDrop, tNext, tNever, tBreak, tCont, tAsg, gName, gCons, gNil, gTup, tAndV, tOrV, tNotV, tAnd, tOr, tNot, tOp, tUn, tVar, tC, tB, tTest, tIf, tCons, tNil, tCB, tTup, tLst, tFld, sFld, sFldAug, rAdd, rSub, tSl, tPart, tNoPart, rI0, rI, rU, rEq, rNe, rSlS, rSlL, rIxL, rIxT, rIxS, tChain, tFn, tMt, tM1, tM0, tBM, rAppend, rIn, tIsN, tNotN, scal_ss, scal_ii, LenV_str, L2.start, cxOf, and_assoc, tJs, tFmt, put_at, lk_at, lk_script, lk_upcoming, lk_refuse, lk_skips, lk_expect, lk_word_of, lk_name_unlike, lk_number_to, lk_finish, sp0, sp1, sp2, sp3, sp4, sp5, -List.lookup_eq_none_iff]
  match l, hl, hq with
  | [], _, hq => exact Or.inl ⟨S_nil.symm, hq⟩
  | [c], _, hq =>
    refine Or.inr ⟨fun e => by simp [S_nil, S_inj] at e, ?_⟩
    rw [found_S, let_mem]
    simpa using hq
def sp_is_figure (K : PySem.W.Frag) : Sp := sp1 fun a H Q _ => ∃ l : List Nat, a = .str (S l) ∧ l.length ≤ 1 ∧ Q (.bl (l.any isFig)) H
theorem sc_is_figure : FnScope ["sign"] ["sign"] (defScope s_is_figure) := ⟨rfl, rfl, rfl, by decide +kernel, rfl, by decide +kernel, by decide +kernel⟩
theorem ok_is_figure (z : Zk K mg base)   : Cal P w K mg base "is_figure" 1 (sp_is_figure K) := by
  obtain ⟨fd, F⟩ := z.d_is_figure
  refine cal_of F z.g_is_figure sc_is_figure (fun _ _ _ _ _ _ us hl => match us, hl with | [_], _ => rfl) (fun vs H Q E h => by match vs, h with | [_], _ => rfl) (fun cdv A outer s H vs Q E hr h => ?_)
  have nd := sc_is_figure.nd
  have hu : (cxOf (L2.CX P w) P w K mg base ["sign"] "is_figure" (defScope s_is_figure) (fAd K ("is_figure", none)) cdv A outer s H E).A.units + 64 < cLine := hr.units
  have hu0 := hr.units0
  have hu1 := hu_of hr
  match vs, h with
  | [a0], h =>
  refine ⟨_, (pss_one (ps_ret (pe_and (pe_cmpR op_ne (pv 0) pe_str (nomark _)) (pe_one (pe_cmpR op_in_str (pv 0) (pe_gstr z.v_FIGURES_cursors) (by with_unfolding_all rfl)))))), ?_⟩
  obtain ⟨l, rfl, hl, hq⟩ := h
  simp [tRet, tRetN, tSeq, tIfS, tDrop, tNext, tNever, tBreak, tCont, tAsg, gName, gCons, gNil, gTup, tAndV, tOrV, tNotV, tAnd, tOr, tNot, tOp, tUn, tVar, tC, tB, tTest, tIf, tCons, tNil, tCB, tTup, tLst, tFld, sFld, sFldAug, rAdd, rSub, tSl, tPart, tNoPart, rI0, rI, rU, rEq, rNe, rSlS, rSlL, rIxL, rIxT, rIxS, tChain, tFn, tMt, tM1, tM0, tBM, rAppend, rIn, tIsN, tNotN, scal_ss, scal_ii, LenV_str, L2.start, cxOf, and_assoc, tJs, tFmt, put_at, lk_at, lk_script, lk_upcoming, lk_refuse, lk_skips, lk_expect, lk_word_of, lk_name_unlike, lk_number_to, lk_finish, sp0, sp1, sp2, sp3, sp4, sp5, -List.lookup_eq_none_iff]
  match l, hl, hq with
  | [], _, hq => exact Or.inl ⟨S_nil.symm, hq⟩
  | [c], _, hq =>
    refine Or.inr ⟨fun e => by simp [S_nil, S_inj] at e, ?_⟩
    rw [found_S, fig_mem]
    simpa using hq
theorem take_min {l : List Nat} {n : Nat} : l.take (min n l.length) = l.take n := by
  by_cases h : n ≤ l.length
  · rw [Nat.min_eq_left h]
  · rw [Nat.min_eq_right (by omega), List.take_length, List.take_of_length_le (by omega)]
theorem cut_to (l f : List Nat) : cutS (S l) none (some (((S f).length : Nat) : Int)) = S (l.take f.length) := by
  unfold cutS
  rw [S_cps, S_len, S_len, HT.sIx_nat, HT.sIx_none, List.drop_zero, Nat.sub_zero, take_min]
  rfl
theorem S_inj_dec {a b : List Nat} : decide (S a = S b) = (a == b) := by
  rw [Bool.eq_iff_iff]
  simp [S_inj]
def sp_begins_one (K : PySem.W.Frag) : Sp := sp2 fun a b H Q _ => ∃ (f : List Nat) (ws : Addr) (words : List (List Nat)), a = .str (S f) ∧ b = .ref ws ∧ SqL K H ws (words.map fun x => .str (S x)) ∧ f.length ≤ 2000 ∧ (∀ x ∈ words, x.length ≤ 1000) ∧ words.length ≤ 1000 ∧
  ∀ H', Ex H H' → Q (.bl (begins words f)) H'
theorem sc_begins_one : FnScope ["signs", "words", "word"] ["signs", "words"] (defScope s_begins_one) := ⟨rfl, rfl, rfl, by decide +kernel, rfl, by decide +kernel, by decide +kernel⟩
theorem ok_begins_one (z : Zk K mg base)   : Cal P w K mg base "begins_one" 1 (sp_begins_one K) := by
  obtain ⟨fd, F⟩ := z.d_begins_one
  refine cal_of F z.g_begins_one sc_begins_one (fun _ _ _ _ _ _ us hl => match us, hl with | [_, _], _ => rfl) (fun vs H Q E h => by match vs, h with | [_, _], _ => rfl) (fun cdv A outer s H vs Q E hr h => ?_)
  have nd := sc_begins_one.nd
  have hu : (cxOf (L2.CX P w) P w K mg base ["signs", "words", "word"] "begins_one" (defScope s_begins_one) (fAd K ("begins_one", none)) cdv A outer s H E).A.units + 64 < cLine := hr.units
  have hu0 := hr.units0
  have hu1 := hu_of hr
  match vs, h with
  | [a0, a1], h =>
  refine ⟨_, (pss_one (ps_ret (pe_callB (k_any (K := K) rfl rfl) rfl z.b_any boot_any (pa_cons (pe_lc rfl nd (k_pi_list (K := K) rfl (pv 1)) (blkOk_by (N := ["signs", "words", "word"]) (sc := defScope s_begins_one) (own := [("word", 2)]) (by decide +kernel)) (fun _ _ _ _ _ => (pg_name nd (i := 2) rfl (Or.inl rfl))) (fun _ _ _ _ _ => pts_nil) (fun _ _ _ _ _ => (pe_cmpR op_eq (pe_slice sl_str (pv 2) po_none (po_some (pe_callB (k_len (K := K) rfl) rfl z.b_len boot_len (pa_cons (pv 0) pa_nil)))) (pv 0) (nomark _)))) pa_nil)))), ?_⟩
  obtain ⟨f, ws, words, rfl, rfl, hw, hf, hx, hz, hq⟩ := h
  simp [tRet, tRetN, tSeq, tIfS, tDrop, tNext, tNever, tBreak, tCont, tAsg, gName, gCons, gNil, gTup, tAndV, tOrV, tNotV, tAnd, tOr, tNot, tOp, tUn, tVar, tC, tB, tTest, tIf, tCons, tNil, tCB, tTup, tLst, tFld, sFld, sFldAug, rAdd, rSub, tSl, tPart, tNoPart, rI0, rI, rU, rEq, rNe, rSlS, rSlL, rIxL, rIxT, rIxS, tChain, tFn, tMt, tM1, tM0, tBM, rAppend, rIn, tIsN, tNotN, scal_ss, scal_ii, LenV_str, L2.start, cxOf, and_assoc, tJs, tFmt, put_at, lk_at, lk_script, lk_upcoming, lk_refuse, lk_skips, lk_expect, lk_word_of, lk_name_unlike, lk_number_to, lk_finish, sp0, sp1, sp2, sp3, sp4, sp5, -List.lookup_eq_none_iff]
  refine lc_mapL (a := ws) (fun R h => ⟨_, rfl, h⟩) (ys := words.map fun x => .bl (x.take f.length == f)) monG_name monT_yes (by simp; omega) (by simp) hw (fun i x y H' R hi hy e hR => ?_) fun D H' e hD hl => ?_
  · rw [List.getElem?_map] at hi hy
    cases hc : words[i]? with
    | none => rw [hc] at hi; cases hi
    | some q =>
      rw [hc] at hi hy
      cases hi
      cases hy
      have hq2 := hx q (List.mem_of_getElem? hc)
      refine ⟨rfl, ?_⟩
      simp [tRet, tRetN, tSeq, tIfS, tDrop, tNext, tNever, tBreak, tCont, tAsg, gName, gCons, gNil, gTup, tAndV, tOrV, tNotV, tAnd, tOr, tNot, tOp, tUn, tVar, tC, tB, tTest, tIf, tCons, tNil, tCB, tTup, tLst, tFld, sFld, sFldAug, rAdd, rSub, tSl, tPart, tNoPart, rI0, rI, rU, rEq, rNe, rSlS, rSlL, rIxL, rIxT, rIxS, tChain, tFn, tMt, tM1, tM0, tBM, rAppend, rIn, tIsN, tNotN, scal_ss, scal_ii, LenV_str, L2.start, cxOf, and_assoc, tJs, tFmt, put_at, lk_at, lk_script, lk_upcoming, lk_refuse, lk_skips, lk_expect, lk_word_of, lk_name_unlike, lk_number_to, lk_finish, sp0, sp1, sp2, sp3, sp4, sp5, -List.lookup_eq_none_iff, tYes, wipe, LenV]
      refine ⟨by rw [S_len, sizeLine_eq]; omega, by rw [S_len, sizeLine_eq]; omega, ?_⟩
      rw [cut_to, S_inj_dec]
      exact hR _ Ex.rfl'
  · refine ⟨_, words.map fun x => (x.take f.length == f), rfl, ?_, ?_⟩
    · rw [List.map_map]
      exact Or.inl (Or.inl hl)
    · have h2 := hq H' e
      unfold begins at h2
      rw [List.any_map]
      exact h2
def sp_Cursor_upcoming (K : PySem.W.Frag) : Sp := sp1 fun a H Q _ => ∃ c l r, a = .ref c ∧ CurR K H c l r ∧ Q (.str (S (r.take 1))) H
theorem cut_next {l r : List Nat} (h : r <:+ l) : cutS (S l) (some ((l.length - r.length : Nat) : Int)) (some (((l.length - r.length : Nat) : Int) + 1)) = S (r.take 1) := by
  obtain ⟨t, rfl⟩ := h
  have e : (t ++ r).length - r.length = t.length := by simp
  rw [e]
  have h2 : ((t.length : Nat) : Int) + 1 = ((t.length + 1 : Nat) : Int) := by omega
  unfold cutS
  rw [S_cps, S_len, h2, HT.sIx_nat, HT.sIx_nat]
  simp only [S]
  congr 1
  have h3 : min t.length (t ++ r).length = t.length := by simp
  rw [h3, List.drop_left]
  cases r with
  | nil => simp
  | cons x r =>
    have h4 : min (t.length + 1) (t ++ x :: r).length - t.length = 1 := by simp
    rw [h4]
theorem sc_Cursor_upcoming : FnScope ["self"] ["self"] (defScope s_Cursor_upcoming) := ⟨rfl, rfl, rfl, by decide +kernel, rfl, by decide +kernel, by decide +kernel⟩
theorem ok_Cursor_upcoming (z : Zk K mg base)   : Cmt P w K mg base (ga K "Cursor") "upcoming" 1 (sp_Cursor_upcoming K) := by
  obtain ⟨fd, F⟩ := z.d_Cursor_upcoming
  refine cmt_of F z.cls_Cursor z.mt_Cursor_upcoming sc_Cursor_upcoming (fun _ _ _ _ _ _ us hl => match us, hl with | [_], _ => rfl) (fun vs H Q E h => by match vs, h with | [_], _ => rfl) (fun cdv A outer s H vs Q E hr h => ?_)
  have nd := sc_Cursor_upcoming.nd
  have hu : (cxOf (L2.CX P w) P w K mg base ["self"] "Cursor.upcoming" (defScope s_Cursor_upcoming) (fAd K ("Cursor", some "upcoming")) cdv A outer s H E).A.units + 64 < cLine := hr.units
  have hu0 := hr.units0
  have hu1 := hu_of hr
  match vs, h with
  | [a0], h =>
  refine ⟨_, (pss_one (ps_ret (pe_slice sl_str (k_fld (K := K) rfl (pv 0)) (po_some (k_fld (K := K) rfl (pv 0))) (po_some (pe_op op_add (k_fld (K := K) rfl (pv 0)) pe_int))))), ?_⟩
  obtain ⟨c, l, r, rfl, ⟨hs, hl, dx, hc⟩, hq⟩ := h
  simp [tRet, tRetN, tSeq, tIfS, tDrop, tNext, tNever, tBreak, tCont, tAsg, gName, gCons, gNil, gTup, tAndV, tOrV, tNotV, tAnd, tOr, tNot, tOp, tUn, tVar, tC, tB, tTest, tIf, tCons, tNil, tCB, tTup, tLst, tFld, sFld, sFldAug, rAdd, rSub, tSl, tPart, tNoPart, rI0, rI, rU, rEq, rNe, rSlS, rSlL, rIxL, rIxT, rIxS, tChain, tFn, tMt, tM1, tM0, tBM, rAppend, rIn, tIsN, tNotN, scal_ss, scal_ii, LenV_str, L2.start, cxOf, and_assoc, tJs, tFmt, put_at, lk_at, lk_script, lk_upcoming, lk_refuse, lk_skips, lk_expect, lk_word_of, lk_name_unlike, lk_number_to, lk_finish, sp0, sp1, sp2, sp3, sp4, sp5, -List.lookup_eq_none_iff, hc, z.cls_Cursor, z.na_Cursor_script, z.na_Cursor_at]
  refine ⟨by rw [S_len, sizeLine_eq]; omega, ?_⟩
  rw [cut_next hs]
  exact hq
/-! ### refusing -/
def spBad (K : PySem.W.Frag) : Sp := sp2 fun x y H Q _ => ∃ (a : Addr) (n : Int), x = .ref a ∧ y = .int n ∧ H a = some (exo a (ga K "BadText") none) ∧
  ∀ dx, H dx = none → dx ≠ a → Q .non (upd (upd H dx (exd dx [("at", .int n)])) a (exo a (ga K "BadText") (some dx)))
theorem sc_Bad : FnScope ["self", "at"] ["self", "at"] (defScope s_BadText___init__) := ⟨rfl, rfl, rfl, by decide +kernel, rfl, by decide +kernel, by decide +kernel⟩
theorem ok_Bad (z : Zk K mg base) : ∃ fd ps, FnOk P w K mg base (L2.CX P w) 1 (fAd K ("BadText", some "__init__")) fd ps (spBad K) ∧ Binds K fd ps [] := by
  obtain ⟨fd, F⟩ := z.d_BadText___init__
  refine ⟨fd, ["self", "at"], F.ok sc_Bad (fun vs H Q E h => by match vs, h with | [_, _], _ => rfl) (fun cdv A outer s H vs Q E hr h => ?_), F.bindsN fun _ _ _ _ _ _ us hl => match us, hl with | [_, _], _ => rfl⟩
  match vs, h with
  | [a0, a1], ⟨a, n, e1, e2, hH, hq⟩ =>
  subst e1 e2
  refine ⟨_, pss_one (ps_ost (pv 0) (pv 1)), ?_⟩
  simp only [tOst]
  exact ⟨_, rfl, _, rfl, a, _, rfl, z.x_BadText, z.xn_BadText, Or.inl ⟨hH, fun dx h1 h2 => hq dx h1 h2⟩⟩
/-- raise BadText(e) -/
def tBad (K : PySem.W.Frag) (te : TE) (W : WX) : TS := fun _ σ H => tMkO (ga K "BadText") (spBad K) [] (tCons te tNil) σ H fun cls d H' => W cls d σ H'
theorem ps_bad {X : Cx} {W : WX} {e : Expr} {te : TE} {k0 : Nat} {p pos pos2 : Pos} (z : Zk X.K X.mg X.base) (hr : Room k0 X.A) (hc : X.calm = true) (tk : Takes X W) (he : PE X e te) (hk : 2 ≤ k0 := by decide) (hg : Gl X "BadText" := by rfl)
    (hst : starEach [e] X.env = (false, eval e X.env) :: starEach [] X.env := by rfl) (hpl : (backTo pos (starEach [] X.env)).any (·.1) = false := by rfl) :
    PS X (.Raise (some (.Call (.Name "BadText" p) [e] [] pos)) none pos2) (tBad X.K te W) := by
  obtain ⟨fd, ps, F, b⟩ := ok_Bad (P := X.prog) (w := X.w) z
  exact ps_raise (pos := pos2) hc tk (pmk_oex (ta := tCons te tNil) (pos := pos) (p := p) z.x_BadText z.xi_BadText z.xt_BadText F (hr.mono hk) b .nil passL hg z.g_BadText (pa_cons he pa_nil hst) (by decide) hst hpl)
theorem k_bad {X : Cx} {W : WX} {e : Expr} {te : TE} {k0 : Nat} {p pos pos2 : Pos} (h : X.K = K) (z : Zk X.K X.mg X.base) (hr : Room k0 X.A) (hc : X.calm = true) (tk : Takes X W) (he : PE X e te) (hk : 2 ≤ k0 := by decide) (hg : Gl X "BadText" := by rfl)
    (hst : starEach [e] X.env = (false, eval e X.env) :: starEach [] X.env := by rfl) (hpl : (backTo pos (starEach [] X.env)).any (·.1) = false := by rfl) :
    PS X (.Raise (some (.Call (.Name "BadText" p) [e] [] pos)) none pos2) (tBad K te W) := h ▸ ps_bad z hr hc tk he hk hg hst hpl
theorem bad_fin {H : Hp} {n : Int} {W : Value → Option Addr → Hp → Prop} (h : ∀ d H', Ex H H' → H' d = some (.xd [("at", .int n)]) → W (.ref (ga K "BadText")) (some d) H') : ∀ a, H a = none → spBad K [.ref a, .int n] (upd H a (exo a (ga K "BadText") none))
    (fun v H2 => v = .non ∧ ∃ d : Addr, H2 a = some (exo a (ga K "BadText") (some d)) ∧ ∃ fs : List (Str × V), H2 d = some (exd d fs) ∧ H d = none ∧ W (.ref (ga K "BadText")) (some d) (upd (del H2 a) d (.xd fs))) (fun _ _ _ => False) := by
  intro a ha
  refine ⟨a, n, rfl, rfl, upd_same, fun dx h1 h2 => ⟨rfl, dx, upd_same, _, by rw [upd_ne h2, upd_same], by rwa [upd_ne h2] at h1, ?_⟩⟩
  rw [upd_ne h2] at h1
  refine h dx _ (fun b o e => ?_) upd_same
  have n1 : b ≠ a := ne_of_none e ha
  have n2 : b ≠ dx := ne_of_none e h1
  rw [upd_ne n2, del_ne n1, upd_ne n1, upd_ne n2, upd_ne n1]
  exact e
/-- how a reader at c may fail -/
def BadK (K : PySem.W.Frag) (c : Addr) (E : XK) (H : Hp) (n : Nat) : Prop := ∀ d H', K1 c H H' → H' d = some (.xd [("at", .int n)]) → E (.ref (ga K "BadText")) (some d) H'
theorem BadK.k1 {c : Addr} {E : XK} {H H' : Hp} {n : Nat} (b : BadK K c E H n) (k : K1 c H H') : BadK K c E H' n := fun d H2 k2 h => b d H2 (K1.trans k k2) h
def sp_Cursor_refuse (K : PySem.W.Frag) : Sp := sp1 fun a H Q E => ∃ c l r, a = .ref c ∧ CurR K H c l r ∧ BadK K c E H (l.length - r.length)
theorem sc_Cursor_refuse : FnScope ["self"] ["self"] (defScope s_Cursor_refuse) := ⟨rfl, rfl, rfl, by decide +kernel, rfl, by decide +kernel, by decide +kernel⟩
theorem ok_Cursor_refuse (z : Zk K mg base)   : Cmt P w K mg base (ga K "Cursor") "refuse" 3 (sp_Cursor_refuse K) := by
  obtain ⟨fd, F⟩ := z.d_Cursor_refuse
  refine cmt_of F z.cls_Cursor z.mt_Cursor_refuse sc_Cursor_refuse (fun _ _ _ _ _ _ us hl => match us, hl with | [_], _ => rfl) (fun vs H Q E h => by match vs, h with | [_], _ => rfl) (fun cdv A outer s H vs Q E hr h => ?_)
  have nd := sc_Cursor_refuse.nd
  have hu : (cxOf (L2.CX P w) P w K mg base ["self"] "Cursor.refuse" (defScope s_Cursor_refuse) (fAd K ("Cursor", some "refuse")) cdv A outer s H E).A.units + 64 < cLine := hr.units
  have hu0 := hr.units0
  have hu1 := hu_of hr
  match vs, h with
  | [a0], h =>
  refine ⟨_, (pss_one (k_bad (K := K) rfl z hr rfl (takes_of rfl rfl rfl rfl) (k_fld (K := K) rfl (pv 0)))), ?_⟩
  obtain ⟨c, l, r, rfl, ⟨hs, hl, dx, hc⟩, hq⟩ := h
  simp [tRet, tRetN, tSeq, tIfS, tDrop, tNext, tNever, tBreak, tCont, tAsg, gName, gCons, gNil, gTup, tAndV, tOrV, tNotV, tAnd, tOr, tNot, tOp, tUn, tVar, tC, tB, tTest, tIf, tCons, tNil, tCB, tTup, tLst, tFld, sFld, sFldAug, rAdd, rSub, tSl, tPart, tNoPart, rI0, rI, rU, rEq, rNe, rSlS, rSlL, rIxL, rIxT, rIxS, tChain, tFn, tMt, tM1, tM0, tBM, rAppend, rIn, tIsN, tNotN, scal_ss, scal_ii, LenV_str, L2.start, cxOf, and_assoc, tJs, tFmt, put_at, lk_at, lk_script, lk_upcoming, lk_refuse, lk_skips, lk_expect, lk_word_of, lk_name_unlike, lk_number_to, lk_finish, sp0, sp1, sp2, sp3, sp4, sp5, -List.lookup_eq_none_iff, tBad, tMkO, hc, z.cls_Cursor, z.na_Cursor_at]
  exact bad_fin (K := K) fun d H' e h => hq d H' (K1.of e) h
theorem suf_inj {l r r' : List Nat} (h : r <:+ l) (h' : r' <:+ l) (e : l.length - r.length = l.length - r'.length) : r = r' := by
  have h1 := h.length_le
  have h2 := h'.length_le
  rw [List.suffix_iff_eq_drop.mp h, List.suffix_iff_eq_drop.mp h', e]
theorem CurR.inj {H : Hp} {c : Addr} {l r l' r' : List Nat} (h : CurR K H c l r) (h' : CurR K H c l' r') : l = l' ∧ r = r' := by
  obtain ⟨a, _, dx, h⟩ := h
  obtain ⟨a', _, dx', h'⟩ := h'
  rw [h] at h'
  have e := Option.some.inj h'
  injection e with e1 e2 e3
  simp [S_inj] at e3
  obtain ⟨e4, e5⟩ := e3
  subst e4
  exact ⟨rfl, suf_inj a a' (by omega)⟩
theorem up_iff {H : Hp} {c : Addr} {l r : List Nat} {Q : VK} {E : XK} (h : CurR K H c l r) : sp_Cursor_upcoming K [.ref c] H Q E ↔ Q (.str (S (r.take 1))) H := by
  constructor
  · intro ⟨c', l', r', e, h', q⟩
    cases e
    obtain ⟨rfl, rfl⟩ := h.inj h'
    exact q
  · intro q
    exact ⟨c, l, r, rfl, h, q⟩
/-- one sign is passed -/
theorem CurR.step {H : Hp} {c dx : Addr} {l r : List Nat} {x : Nat} (hs : (x :: r) <:+ l) (hl : l.length ≤ 10000) :
    CurR K (upd H c (.ins (ga K "Cursor") dx [("script", .str (S l)), ("at", .int ((l.length - (x :: r).length : Nat) + 1))])) c l r := by
  refine ⟨(List.suffix_cons x r).trans hs, hl, dx, ?_⟩
  have h1 := hs.length_le
  rw [upd_same]
  simp at h1 ⊢
  omega
theorem let_nil {H : Hp} {Q : VK} {E : XK} : sp_is_letter K [.str (S [])] H Q E ↔ Q (.bl false) H := by
  constructor
  · rintro ⟨l, e, _, q⟩
    have e2 : S [] = S l := by injection e
    rw [S_inj] at e2
    rw [← e2] at q
    exact q
  · intro q
    exact ⟨[], rfl, by simp, q⟩
theorem let_one {H : Hp} {Q : VK} {E : XK} {x : Nat} : sp_is_letter K [.str (S [x])] H Q E ↔ Q (.bl (isLet x)) H := by
  constructor
  · rintro ⟨l, e, _, q⟩
    have e2 : S [x] = S l := by injection e
    rw [S_inj] at e2
    rw [← e2] at q
    simpa using q
  · intro q
    exact ⟨[x], rfl, by simp, by simpa using q⟩
theorem fig_nil {H : Hp} {Q : VK} {E : XK} : sp_is_figure K [.str (S [])] H Q E ↔ Q (.bl false) H := by
  constructor
  · rintro ⟨l, e, _, q⟩
    have e2 : S [] = S l := by injection e
    rw [S_inj] at e2
    rw [← e2] at q
    exact q
  · intro q
    exact ⟨[], rfl, by simp, q⟩
theorem fig_one {H : Hp} {Q : VK} {E : XK} {x : Nat} : sp_is_figure K [.str (S [x])] H Q E ↔ Q (.bl (isFig x)) H := by
  constructor
  · rintro ⟨l, e, _, q⟩
    have e2 : S [x] = S l := by injection e
    rw [S_inj] at e2
    rw [← e2] at q
    simpa using q
  · intro q
    exact ⟨[x], rfl, by simp, by simpa using q⟩
end
end Mp

set_option maxHeartbeats 8000000
/-! Kc2: the reader's methods, on -/
namespace Mp
open PySem PySem.Spec PyProof.Rows L2
open StX (tMakeR run_makeR pe_makeR)
open He (ga ma fAd)
section
variable {P : Program} {w : World} {K : PySem.W.Frag} {mg : Str → Option Value} {base : Heap}
def sp_Cursor_finish (K : PySem.W.Frag) : Sp := sp1 fun a H Q E => ∃ c l r, a = .ref c ∧ CurR K H c l r ∧ (r = [] → Q .non H) ∧ (r ≠ [] → BadK K c E H (l.length - r.length))
theorem sc_Cursor_finish : FnScope ["self"] ["self"] (defScope s_Cursor_finish) := ⟨rfl, rfl, rfl, by decide +kernel, rfl, by decide +kernel, by decide +kernel⟩
theorem ok_Cursor_finish (z : Zk K mg base) (m_Cursor_refuse : Cmt P w K mg base (ga K "Cursor") "refuse" 3 (sp_Cursor_refuse K))  : Cmt P w K mg base (ga K "Cursor") "finish" 4 (sp_Cursor_finish K) := by
  obtain ⟨fd, F⟩ := z.d_Cursor_finish
  refine cmt_of F z.cls_Cursor z.mt_Cursor_finish sc_Cursor_finish (fun _ _ _ _ _ _ us hl => match us, hl with | [_], _ => rfl) (fun vs H Q E h => by match vs, h with | [_], _ => rfl) (fun cdv A outer s H vs Q E hr h => ?_)
  have nd := sc_Cursor_finish.nd
  have hu : (cxOf (L2.CX P w) P w K mg base ["self"] "Cursor.finish" (defScope s_Cursor_finish) (fAd K ("Cursor", some "finish")) cdv A outer s H E).A.units + 64 < cLine := hr.units
  have hu0 := hr.units0
  have hu1 := hu_of hr
  match vs, h with
  | [a0], h =>
  refine ⟨_, (pss_one (ps_if (pt_cmpR op_lt (k_fld (K := K) rfl (pv 0)) (pe_callB (k_len (K := K) rfl) rfl z.b_len boot_len (pa_cons (k_fld (K := K) rfl (pv 0)) pa_nil)) (nomark _)) (pss_one (ps_expr (pe_mt0 (pv 0) m_Cursor_refuse hr (passD (E := E))))) pss_nil)), ?_⟩
  obtain ⟨c, l, r, rfl, ⟨hs, hl, dx, hc⟩, hq, hb⟩ := h
  have hle := hs.length_le
  simp [tRet, tRetN, tSeq, tIfS, tDrop, tNext, tNever, tBreak, tCont, tAsg, gName, gCons, gNil, gTup, tAndV, tOrV, tNotV, tAnd, tOr, tNot, tOp, tUn, tVar, tC, tB, tTest, tIf, tCons, tNil, tCB, tTup, tLst, tFld, sFld, sFldAug, rAdd, rSub, tSl, tPart, tNoPart, rI0, rI, rU, rEq, rNe, rSlS, rSlL, rIxL, rIxT, rIxS, tChain, tFn, tMt, tM1, tM0, tBM, rAppend, rIn, tIsN, tNotN, scal_ss, scal_ii, let_nil, let_one, fig_nil, fig_one, LenV_str, L2.start, cxOf, and_assoc, tJs, tFmt, put_at, lk_at, lk_script, lk_upcoming, lk_refuse, lk_skips, lk_expect, lk_word_of, lk_name_unlike, lk_number_to, lk_finish, sp0, sp1, sp2, sp3, sp4, sp5, -List.lookup_eq_none_iff, hc, z.cls_Cursor, z.na_Cursor_at, z.na_Cursor_script]
  refine ⟨by rw [S_len, sizeLine_eq]; omega, ?_⟩
  rw [S_len]
  by_cases hr0 : r = []
  · subst hr0
    rw [if_neg (by simp)]
    exact hq rfl
  · have h0 : 0 < r.length := List.length_pos_iff.mpr hr0
    rw [if_pos (by omega)]
    exact ⟨c, l, r, rfl, ⟨hs, hl, dx, hc⟩, hb hr0⟩
def sp_Cursor_skips (K : PySem.W.Frag) : Sp := sp2 fun a b H Q _ => ∃ c l r x, a = .ref c ∧ b = .str (S [x]) ∧ CurR K H c l r ∧ (∀ r', r = x :: r' → ∀ H', K1 c H H' → CurR K H' c l r' → Q (.bl true) H') ∧ ((∀ r', r ≠ x :: r') → Q (.bl false) H)
theorem sc_Cursor_skips : FnScope ["self", "sign"] ["self", "sign"] (defScope s_Cursor_skips) := ⟨rfl, rfl, rfl, by decide +kernel, rfl, by decide +kernel, by decide +kernel⟩
theorem ok_Cursor_skips (z : Zk K mg base) (m_Cursor_upcoming : Cmt P w K mg base (ga K "Cursor") "upcoming" 1 (sp_Cursor_upcoming K))  : Cmt P w K mg base (ga K "Cursor") "skips" 2 (sp_Cursor_skips K) := by
  obtain ⟨fd, F⟩ := z.d_Cursor_skips
  refine cmt_of F z.cls_Cursor z.mt_Cursor_skips sc_Cursor_skips (fun _ _ _ _ _ _ us hl => match us, hl with | [_, _], _ => rfl) (fun vs H Q E h => by match vs, h with | [_, _], _ => rfl) (fun cdv A outer s H vs Q E hr h => ?_)
  have nd := sc_Cursor_skips.nd
  have hu : (cxOf (L2.CX P w) P w K mg base ["self", "sign"] "Cursor.skips" (defScope s_Cursor_skips) (fAd K ("Cursor", some "skips")) cdv A outer s H E).A.units + 64 < cLine := hr.units
  have hu0 := hr.units0
  have hu1 := hu_of hr
  match vs, h with
  | [a0, a1], h =>
  refine ⟨_, (pss_cons (ps_if (pt_cmpR op_ne (pe_mt0 (pv 0) m_Cursor_upcoming hr (passD (E := E))) (pv 1) (nomark _)) (pss_one (ps_ret pe_bl)) pss_nil)
      (pss_cons (ks_fldaug (K := K) rfl (pv 0) pe_int in_add)
      (pss_one (ps_ret pe_bl)))), ?_⟩
  obtain ⟨c, l, r, x, rfl, rfl, ⟨hs, hl, dx, hc⟩, hq, hn⟩ := h
  have hC : CurR K H c l r := ⟨hs, hl, dx, hc⟩
  simp [tRet, tRetN, tSeq, tIfS, tDrop, tNext, tNever, tBreak, tCont, tAsg, gName, gCons, gNil, gTup, tAndV, tOrV, tNotV, tAnd, tOr, tNot, tOp, tUn, tVar, tC, tB, tTest, tIf, tCons, tNil, tCB, tTup, tLst, tFld, sFld, sFldAug, rAdd, rSub, tSl, tPart, tNoPart, rI0, rI, rU, rEq, rNe, rSlS, rSlL, rIxL, rIxT, rIxS, tChain, tFn, tMt, tM1, tM0, tBM, rAppend, rIn, tIsN, tNotN, scal_ss, scal_ii, let_nil, let_one, fig_nil, fig_one, LenV_str, L2.start, cxOf, and_assoc, tJs, tFmt, put_at, lk_at, lk_script, lk_upcoming, lk_refuse, lk_skips, lk_expect, lk_word_of, lk_name_unlike, lk_number_to, lk_finish, sp0, sp1, sp2, sp3, sp4, sp5, -List.lookup_eq_none_iff, hc, z.cls_Cursor, z.na_Cursor_at, z.na_Cursor_script, up_iff hC]
  match r, hs, hq, hn with
  | [], hs, hq, hn => exact Or.inr ⟨by simp [S_inj], hn fun _ => by simp⟩
  | y :: r', hs, hq, hn =>
    by_cases hy : y = x
    · subst hy
      exact Or.inl ⟨by simp, hq r' rfl _ K1.upd (CurR.step hs hl)⟩
    · exact Or.inr ⟨by simp [S_inj, hy], hn fun _ e => hy (by injection e)⟩
/-- one sign is wanted -/
def expects : List Nat → List Nat → Res Unit
  | [], r => .ok () r
  | s :: w, r => (expect s r).bind fun _ r => expects w r
def Ends1 (K : PySem.W.Frag) (c : Addr) (l : List Nat) (H : Hp) (E : XK) {α : Type} (res : Res α) (Q : α → Hp → Prop) : Prop :=
  match res with
  | .ok v r => ∀ H', K1 c H H' → CurR K H' c l r → Q v H'
  | .bad r => BadK K c E H (l.length - r.length)
def sp_Cursor_expect (K : PySem.W.Frag) : Sp := sp2 fun a b H Q E => ∃ c l r v, a = .ref c ∧ b = .str (S v) ∧ CurR K H c l r ∧ Ends1 K c l H E (expects v r) fun _ H' => Q .non H'
theorem sc_Cursor_expect : FnScope ["self", "wanted", "sign"] ["self", "wanted"] (defScope s_Cursor_expect) := ⟨rfl, rfl, rfl, by decide +kernel, rfl, by decide +kernel, by decide +kernel⟩
theorem ok_Cursor_expect (z : Zk K mg base) (m_Cursor_skips : Cmt P w K mg base (ga K "Cursor") "skips" 2 (sp_Cursor_skips K)) (m_Cursor_refuse : Cmt P w K mg base (ga K "Cursor") "refuse" 3 (sp_Cursor_refuse K))  : Cmt P w K mg base (ga K "Cursor") "expect" 4 (sp_Cursor_expect K) := by
  obtain ⟨fd, F⟩ := z.d_Cursor_expect
  refine cmt_of F z.cls_Cursor z.mt_Cursor_expect sc_Cursor_expect (fun _ _ _ _ _ _ us hl => match us, hl with | [_, _], _ => rfl) (fun vs H Q E h => by match vs, h with | [_, _], _ => rfl) (fun cdv A outer s H vs Q E hr h => ?_)
  have nd := sc_Cursor_expect.nd
  have hu : (cxOf (L2.CX P w) P w K mg base ["self", "wanted", "sign"] "Cursor.expect" (defScope s_Cursor_expect) (fAd K ("Cursor", some "expect")) cdv A outer s H E).A.units + 64 < cLine := hr.units
  have hu0 := hr.units0
  have hu1 := hu_of hr
  match vs, h with
  | [a0, a1], h =>
  refine ⟨_, (pss_one (ps_for (passes_of rfl) rfl (pi_str (pv 1)) (pg_name nd (i := 2) rfl (Or.inl rfl)) (pss_one (ps_if (pt_not (pt_val (pe_mt (pv 0) m_Cursor_skips hr (passD (E := E)) (pa_cons (pv 2) pa_nil)))) (pss_one (ps_expr (pe_mt0 (pv 0) m_Cursor_refuse hr (passD (E := E))))) pss_nil)))), ?_⟩
  obtain ⟨c, l, r, v, rfl, rfl, hC, hq⟩ := h
  simp [tRet, tRetN, tSeq, tIfS, tDrop, tNext, tNever, tBreak, tCont, tAsg, gName, gCons, gNil, gTup, tAndV, tOrV, tNotV, tAnd, tOr, tNot, tOp, tUn, tVar, tC, tB, tTest, tIf, tCons, tNil, tCB, tTup, tLst, tFld, sFld, sFldAug, rAdd, rSub, tSl, tPart, tNoPart, rI0, rI, rU, rEq, rNe, rSlS, rSlL, rIxL, rIxT, rIxS, tChain, tFn, tMt, tM1, tM0, tBM, rAppend, rIn, tIsN, tNotN, scal_ss, scal_ii, let_nil, let_one, fig_nil, fig_one, LenV_str, L2.start, cxOf, and_assoc, tJs, tFmt, put_at, lk_at, lk_script, lk_upcoming, lk_refuse, lk_skips, lk_expect, lk_word_of, lk_name_unlike, lk_number_to, lk_finish, sp0, sp1, sp2, sp3, sp4, sp5, -List.lookup_eq_none_iff]
  refine tfor_str (l := v) (fun R h => ⟨_, rfl, h⟩)
    (fun i σ H' => (∃ u, σ = [some (.ref c), some (.str (S v)), u]) ∧ ∃ r', CurR K H' c l r' ∧ K1 c H H' ∧ expects (v.drop i) r' = expects v r) ⟨⟨none, rfl⟩, r, hC, K1.rfl', rfl⟩ (fun i y σ H' hi p => ?_) (fun σ H' p => ?_)
  · obtain ⟨⟨u, rfl⟩, r', hC', k1, hg⟩ := p
    obtain ⟨hs, hl, dx, hc⟩ := id hC'
    have hd : v.drop i = y :: v.drop (i + 1) := by
      obtain ⟨hi2, e⟩ := List.getElem?_eq_some_iff.mp hi
      rw [← e]
      exact List.drop_eq_getElem_cons hi2
    rw [hd] at hg
    simp [tRet, tRetN, tSeq, tIfS, tDrop, tNext, tNever, tBreak, tCont, tAsg, gName, gCons, gNil, gTup, tAndV, tOrV, tNotV, tAnd, tOr, tNot, tOp, tUn, tVar, tC, tB, tTest, tIf, tCons, tNil, tCB, tTup, tLst, tFld, sFld, sFldAug, rAdd, rSub, tSl, tPart, tNoPart, rI0, rI, rU, rEq, rNe, rSlS, rSlL, rIxL, rIxT, rIxS, tChain, tFn, tMt, tM1, tM0, tBM, rAppend, rIn, tIsN, tNotN, scal_ss, scal_ii, let_nil, let_one, fig_nil, fig_one, LenV_str, L2.start, cxOf, and_assoc, tJs, tFmt, put_at, lk_at, lk_script, lk_upcoming, lk_refuse, lk_skips, lk_expect, lk_word_of, lk_name_unlike, lk_number_to, lk_finish, sp0, sp1, sp2, sp3, sp4, sp5, -List.lookup_eq_none_iff, hc]
    refine ⟨c, l, r', y, rfl, rfl, hC', fun r2 e H2 k2 c2 => Or.inr ⟨rfl, r2, c2, K1.trans k1 k2, ?_⟩, fun hne => Or.inl ⟨rfl, ?_⟩⟩
    · rw [← hg, e, expects, expect, if_pos rfl]
      rfl
    · simp [tRet, tRetN, tSeq, tIfS, tDrop, tNext, tNever, tBreak, tCont, tAsg, gName, gCons, gNil, gTup, tAndV, tOrV, tNotV, tAnd, tOr, tNot, tOp, tUn, tVar, tC, tB, tTest, tIf, tCons, tNil, tCB, tTup, tLst, tFld, sFld, sFldAug, rAdd, rSub, tSl, tPart, tNoPart, rI0, rI, rU, rEq, rNe, rSlS, rSlL, rIxL, rIxT, rIxS, tChain, tFn, tMt, tM1, tM0, tBM, rAppend, rIn, tIsN, tNotN, scal_ss, scal_ii, let_nil, let_one, fig_nil, fig_one, LenV_str, L2.start, cxOf, and_assoc, tJs, tFmt, put_at, lk_at, lk_script, lk_upcoming, lk_refuse, lk_skips, lk_expect, lk_word_of, lk_name_unlike, lk_number_to, lk_finish, sp0, sp1, sp2, sp3, sp4, sp5, -List.lookup_eq_none_iff, hc]
      refine ⟨c, l, r', rfl, hC', ?_⟩
      have e2 : expects v r = .bad r' := by
        rw [← hg, expects]
        cases r' with
        | nil => rfl
        | cons x q =>
          rw [expect, if_neg (fun e => hne q (by rw [e]))]
          rfl
      rw [e2] at hq
      exact BadK.k1 hq k1
  · obtain ⟨_, r', hC', k1, hg⟩ := p
    rw [List.drop_length, expects] at hg
    rw [← hg] at hq
    exact hq H' k1 hC'
/-- how a reader's method ends -/
theorem inV_strs (f : List Nat) (words : List (List Nat)) : inV (.str (S f)) (words.map fun x => V.str (S x)) = decide (f ∈ words) := by
  unfold inV
  rw [List.any_map, Bool.eq_iff_iff]
  simp only [List.any_eq_true, Function.comp, decide_eq_true_eq]
  constructor
  · rintro ⟨x, hx, e⟩
    have e : (S x == S f) = true := e
    rw [S_beq] at e
    rw [← eq_of_beq e]
    exact hx
  · intro h
    exact ⟨f, h, by show (S f == S f) = true; rw [S_beq]; exact beq_self_eq_true f⟩
theorem flat_strs (words : List (List Nat)) : ∀ y, y ∈ (words.map fun x => V.str (S x)) → flatV y = true := by
  intro y hy
  obtain ⟨x, _, rfl⟩ := List.mem_map.mp hy
  rfl
theorem begins_len {words : List (List Nat)} {f : List Nat} (h : begins words f = true) (hx : ∀ x ∈ words, x.length ≤ 1000) : f.length ≤ 1000 := by
  unfold begins at h
  obtain ⟨x, hm, e⟩ := List.any_eq_true.mp h
  have e := eq_of_beq e
  have h2 := hx x hm
  have h3 := congrArg List.length e
  rw [List.length_take] at h3
  omega
def sp_Cursor_word_of (K : PySem.W.Frag) : Sp := sp2 fun a b H Q E => ∃ c l r ws words, a = .ref c ∧ b = .ref ws ∧ CurR K H c l r ∧ SqL K H ws (words.map fun x => V.str (S x)) ∧ (∀ x ∈ words, x.length ≤ 1000) ∧ words.length ≤ 1000 ∧
  Ends1 K c l H E (wordGo words [] r) fun f H' => Q (.str (S f)) H'
theorem sc_Cursor_word_of : FnScope ["self", "words", "found"] ["self", "words"] (defScope s_Cursor_word_of) := ⟨rfl, rfl, rfl, by decide +kernel, rfl, by decide +kernel, by decide +kernel⟩
theorem ok_Cursor_word_of (z : Zk K mg base) (m_Cursor_upcoming : Cmt P w K mg base (ga K "Cursor") "upcoming" 1 (sp_Cursor_upcoming K)) (m_Cursor_refuse : Cmt P w K mg base (ga K "Cursor") "refuse" 3 (sp_Cursor_refuse K)) (c_begins_one : Cal P w K mg base "begins_one" 1 (sp_begins_one K))  : Cmt P w K mg base (ga K "Cursor") "word_of" 4 (sp_Cursor_word_of K) := by
  obtain ⟨fd, F⟩ := z.d_Cursor_word_of
  refine cmt_of F z.cls_Cursor z.mt_Cursor_word_of sc_Cursor_word_of (fun _ _ _ _ _ _ us hl => match us, hl with | [_, _], _ => rfl) (fun vs H Q E h => by match vs, h with | [_, _], _ => rfl) (fun cdv A outer s H vs Q E hr h => ?_)
  have nd := sc_Cursor_word_of.nd
  have hu : (cxOf (L2.CX P w) P w K mg base ["self", "words", "found"] "Cursor.word_of" (defScope s_Cursor_word_of) (fAd K ("Cursor", some "word_of")) cdv A outer s H E).A.units + 64 < cLine := hr.units
  have hu0 := hr.units0
  have hu1 := hu_of hr
  match vs, h with
  | [a0, a1], h =>
  refine ⟨_, (pss_cons (ps_set (i := 2) nd rfl (Or.inl rfl) pe_str)
      (pss_cons (ps_while (passes_of rfl) (PW.pt (pw_and (pt_cmpR op_ne (pe_mt0 (pv 0) m_Cursor_upcoming hr (passD (E := E))) pe_str (nomark _)) (pw_and1 (pt_val (pe_fn c_begins_one hr (passD (E := E)) (pa_cons (pe_op op_add_str (pv 2) (pe_mt0 (pv 0) m_Cursor_upcoming hr (passD (E := E)))) (pa_cons (pv 1) pa_nil))))))) (pss_cons (ps_set (i := 2) nd rfl (Or.inl rfl) (pe_op op_add_str (pv 2) (pe_mt0 (pv 0) m_Cursor_upcoming hr (passD (E := E)))))
      (pss_one (ks_fldaug (K := K) rfl (pv 0) pe_int in_add))))
      (pss_cons (ps_if (pt_cmpR (k_notIn_seq (K := K) rfl) (pv 2) (pv 1) (by with_unfolding_all rfl)) (pss_one (ps_expr (pe_mt0 (pv 0) m_Cursor_refuse hr (passD (E := E))))) pss_nil)
      (pss_one (ps_ret (pv 2)))))), ?_⟩
  obtain ⟨c, l, r, ws, words, rfl, rfl, hC, hw, hx, hz, hq⟩ := h
  have fin : ∀ H1 f r', CurR K H1 c l r' → K1 c H H1 → (if f ∈ words then Res.ok f r' else .bad r') = wordGo words [] r →
     ∃ x, (SqL K H1 ws x ∨ SqT K H1 ws x) ∧ flatV (.str (S f)) = true ∧ (∀ y, y ∈ x → flatV y = true) ∧ (inV (.str (S f)) x = true ∧ Q (.str (S f)) H1 ∨ inV (.str (S f)) x = false ∧ sp_Cursor_refuse K [.ref c] H1 (fun x H1 => Q (.str (S f)) H1) E) := by
    intro H1 f r' hC1 hk e
    refine ⟨_, Or.inl (SqL.k1 hk hC hw), rfl, flat_strs words, ?_⟩
    rw [inV_strs]
    by_cases hf : f ∈ words
    · rw [if_pos hf] at e
      rw [← e] at hq
      exact Or.inl ⟨by simp [hf], hq H1 hk hC1⟩
    · rw [if_neg hf] at e
      rw [← e] at hq
      exact Or.inr ⟨by simp [hf], c, l, r', rfl, hC1, BadK.k1 hq hk⟩
  simp [tRet, tRetN, tSeq, tIfS, tDrop, tNext, tNever, tBreak, tCont, tAsg, gName, gCons, gNil, gTup, tAndV, tOrV, tNotV, tAnd, tOr, tNot, tOp, tUn, tVar, tC, tB, tTest, tIf, tCons, tNil, tCB, tTup, tLst, tFld, sFld, sFldAug, rAdd, rSub, tSl, tPart, tNoPart, rI0, rI, rU, rEq, rNe, rSlS, rSlL, rIxL, rIxT, rIxS, tChain, tFn, tMt, tM1, tM0, tBM, rAppend, rIn, tIsN, tNotN, scal_ss, scal_ii, let_nil, let_one, fig_nil, fig_one, LenV_str, L2.start, cxOf, and_assoc, tJs, tFmt, put_at, lk_at, lk_script, lk_upcoming, lk_refuse, lk_skips, lk_expect, lk_word_of, lk_name_unlike, lk_number_to, lk_finish, sp0, sp1, sp2, sp3, sp4, sp5, -List.lookup_eq_none_iff]
  refine twhile' (fun m σ H' => ∃ f r', m = r'.length ∧ σ = [some (.ref c), some (.ref ws), some (.str (S f))] ∧ CurR K H' c l r' ∧ K1 c H H' ∧ f.length ≤ 1000 ∧ wordGo words f r' = wordGo words [] r) r.length
    ⟨[], r, rfl, rfl, hC, K1.rfl', by simp, rfl⟩ (fun m σ H' h => ?_)
  obtain ⟨f, r', rfl, rfl, hC', hk, hf, hg⟩ := h
  obtain ⟨hs, hl, dx, hc⟩ := id hC'
  have hw' := SqL.k1 hk hC hw
  match r', hs, hC', hg, hc with
  | [], hs, hC', hg, hc =>
    simp [tRet, tRetN, tSeq, tIfS, tDrop, tNext, tNever, tBreak, tCont, tAsg, gName, gCons, gNil, gTup, tAndV, tOrV, tNotV, tAnd, tOr, tNot, tOp, tUn, tVar, tC, tB, tTest, tIf, tCons, tNil, tCB, tTup, tLst, tFld, sFld, sFldAug, rAdd, rSub, tSl, tPart, tNoPart, rI0, rI, rU, rEq, rNe, rSlS, rSlL, rIxL, rIxT, rIxS, tChain, tFn, tMt, tM1, tM0, tBM, rAppend, rIn, tIsN, tNotN, scal_ss, scal_ii, let_nil, let_one, fig_nil, fig_one, LenV_str, L2.start, cxOf, and_assoc, tJs, tFmt, put_at, lk_at, lk_script, lk_upcoming, lk_refuse, lk_skips, lk_expect, lk_word_of, lk_name_unlike, lk_number_to, lk_finish, sp0, sp1, sp2, sp3, sp4, sp5, -List.lookup_eq_none_iff, hc, up_iff hC', S_nil]
    exact fin H' f [] hC' hk (by rw [← hg, wordGo])
  | x :: r', hs, hC', hg, hc =>
    simp [tRet, tRetN, tSeq, tIfS, tDrop, tNext, tNever, tBreak, tCont, tAsg, gName, gCons, gNil, gTup, tAndV, tOrV, tNotV, tAnd, tOr, tNot, tOp, tUn, tVar, tC, tB, tTest, tIf, tCons, tNil, tCB, tTup, tLst, tFld, sFld, sFldAug, rAdd, rSub, tSl, tPart, tNoPart, rI0, rI, rU, rEq, rNe, rSlS, rSlL, rIxL, rIxT, rIxS, tChain, tFn, tMt, tM1, tM0, tBM, rAppend, rIn, tIsN, tNotN, scal_ss, scal_ii, let_nil, let_one, fig_nil, fig_one, LenV_str, L2.start, cxOf, and_assoc, tJs, tFmt, put_at, lk_at, lk_script, lk_upcoming, lk_refuse, lk_skips, lk_expect, lk_word_of, lk_name_unlike, lk_number_to, lk_finish, sp0, sp1, sp2, sp3, sp4, sp5, -List.lookup_eq_none_iff, hc, up_iff hC', S_nil, S_inj, S_app, z.cls_Cursor, z.na_Cursor_at]
    refine ⟨by rw [S_len, S_len, sizeLine_eq]; simp; omega, f ++ [x], ws, words, rfl, rfl, hw', by simp; omega, hx, hz, fun H1 e => ?_⟩
    have hC1 := hC'.ex e
    have hc1 := e _ _ hc
    rw [wordGo] at hg
    cases hb : begins words (f ++ [x]) with
    | false =>
      rw [hb, if_neg (by simp)] at hg
      simp [tRet, tRetN, tSeq, tIfS, tDrop, tNext, tNever, tBreak, tCont, tAsg, gName, gCons, gNil, gTup, tAndV, tOrV, tNotV, tAnd, tOr, tNot, tOp, tUn, tVar, tC, tB, tTest, tIf, tCons, tNil, tCB, tTup, tLst, tFld, sFld, sFldAug, rAdd, rSub, tSl, tPart, tNoPart, rI0, rI, rU, rEq, rNe, rSlS, rSlL, rIxL, rIxT, rIxS, tChain, tFn, tMt, tM1, tM0, tBM, rAppend, rIn, tIsN, tNotN, scal_ss, scal_ii, let_nil, let_one, fig_nil, fig_one, LenV_str, L2.start, cxOf, and_assoc, tJs, tFmt, put_at, lk_at, lk_script, lk_upcoming, lk_refuse, lk_skips, lk_expect, lk_word_of, lk_name_unlike, lk_number_to, lk_finish, sp0, sp1, sp2, sp3, sp4, sp5, -List.lookup_eq_none_iff, hc1]
      exact fin H1 f (x :: r') hC1 (K1.trans hk (K1.of e)) hg
    | true =>
      rw [hb, if_pos rfl] at hg
      have hlen := begins_len hb hx
      refine Or.inr ⟨rfl, _, fun σ' H' h => h, ?_⟩
      simp [tRet, tRetN, tSeq, tIfS, tDrop, tNext, tNever, tBreak, tCont, tAsg, gName, gCons, gNil, gTup, tAndV, tOrV, tNotV, tAnd, tOr, tNot, tOp, tUn, tVar, tC, tB, tTest, tIf, tCons, tNil, tCB, tTup, tLst, tFld, sFld, sFldAug, rAdd, rSub, tSl, tPart, tNoPart, rI0, rI, rU, rEq, rNe, rSlS, rSlL, rIxL, rIxT, rIxS, tChain, tFn, tMt, tM1, tM0, tBM, rAppend, rIn, tIsN, tNotN, scal_ss, scal_ii, let_nil, let_one, fig_nil, fig_one, LenV_str, L2.start, cxOf, and_assoc, tJs, tFmt, put_at, lk_at, lk_script, lk_upcoming, lk_refuse, lk_skips, lk_expect, lk_word_of, lk_name_unlike, lk_number_to, lk_finish, sp0, sp1, sp2, sp3, sp4, sp5, -List.lookup_eq_none_iff, hc1, up_iff hC1, S_app, z.cls_Cursor, z.na_Cursor_at]
      refine ⟨by rw [S_len, S_len, sizeLine_eq]; simp at hlen ⊢; omega, r'.length, by omega, f ++ [x], r', rfl, rfl, CurR.step hs hl, K1.trans (K1.trans hk (K1.of e)) K1.upd, hlen, hg⟩
end
end Mp

set_option maxHeartbeats 8000000
/-! Kc3: the reader's methods, on -/
namespace Mp
open PySem PySem.Spec PyProof.Rows L2
open StX (tMakeR run_makeR pe_makeR)
open He (ga ma fAd)
section
variable {P : Program} {w : World} {K : PySem.W.Frag} {mg : Str → Option Value} {base : Heap}
theorem S_ne {f : List Nat} (h : f ≠ []) : S f ≠ Str.ofString "" := fun e => h (by rw [S_nil, S_inj] at e; exact e)
theorem barredV : ([.str "byte", .str "size", .str "align", .str "place", .str "end", .str "packed", .str "and", .str "or", .str "not", .str "yes", .str "no", .str "for", .str "nogap", .str "notail", .str "leaf"] : List V) = barred.map fun x => V.str (S x) := by
  simp [barred, ofS]
theorem tBarred (z : Zk K mg base) (H : Hp) : SqT K H (ga K "BARRED") (barred.map fun x => V.str (S x)) := by
  rw [← barredV]
  exact z.t_BARRED H
/-- a list or a tuple of texts -/
def StrsAt (K : PySem.W.Frag) (H : Hp) (a : Addr) (ws : List (List Nat)) : Prop := SqL K H a (ws.map fun x => V.str (S x)) ∨ SqT K H a (ws.map fun x => V.str (S x))
theorem StrsAt.k1 {H H' : Hp} {c a : Addr} {l r : List Nat} {ws : List (List Nat)} (k : K1 c H H') (h : CurR K H c l r) (e : StrsAt K H a ws) : StrsAt K H' a ws := e.elim (fun e => Or.inl (SqL.k1 k h e)) fun e => Or.inr (SqT.k1 k h e)
def sp_Cursor_name_unlike (K : PySem.W.Frag) : Sp := sp2 fun a b H Q E => ∃ c l r ws taken, a = .ref c ∧ b = .ref ws ∧ CurR K H c l r ∧ StrsAt K H ws taken ∧
  Ends1 K c l H E (nameGo taken [] r) fun f H' => Q (.str (S f)) H'
theorem sc_Cursor_name_unlike : FnScope ["self", "taken", "found", "longer"] ["self", "taken"] (defScope s_Cursor_name_unlike) := ⟨rfl, rfl, rfl, by decide +kernel, rfl, by decide +kernel, by decide +kernel⟩
theorem ok_Cursor_name_unlike (z : Zk K mg base) (m_Cursor_upcoming : Cmt P w K mg base (ga K "Cursor") "upcoming" 1 (sp_Cursor_upcoming K)) (m_Cursor_refuse : Cmt P w K mg base (ga K "Cursor") "refuse" 3 (sp_Cursor_refuse K)) (c_is_letter : Cal P w K mg base "is_letter" 1 (sp_is_letter K))  : Cmt P w K mg base (ga K "Cursor") "name_unlike" 4 (sp_Cursor_name_unlike K) := by
  obtain ⟨fd, F⟩ := z.d_Cursor_name_unlike
  refine cmt_of F z.cls_Cursor z.mt_Cursor_name_unlike sc_Cursor_name_unlike (fun _ _ _ _ _ _ us hl => match us, hl with | [_, _], _ => rfl) (fun vs H Q E h => by match vs, h with | [_, _], _ => rfl) (fun cdv A outer s H vs Q E hr h => ?_)
  have nd := sc_Cursor_name_unlike.nd
  have hu : (cxOf (L2.CX P w) P w K mg base ["self", "taken", "found", "longer"] "Cursor.name_unlike" (defScope s_Cursor_name_unlike) (fAd K ("Cursor", some "name_unlike")) cdv A outer s H E).A.units + 64 < cLine := hr.units
  have hu0 := hr.units0
  have hu1 := hu_of hr
  match vs, h with
  | [a0, a1], h =>
  refine ⟨_, (pss_cons (ps_set (i := 2) nd rfl (Or.inl rfl) pe_str)
      (pss_cons (ps_while (passes_of rfl) (PW.pt (pw_and (pt_val (pe_fn c_is_letter hr (passD (E := E)) (pa_cons (pe_mt0 (pv 0) m_Cursor_upcoming hr (passD (E := E))) pa_nil))) (pw_and1 (pt_cmpR op_lt (pe_callB (k_len (K := K) rfl) rfl z.b_len boot_len (pa_cons (pv 2) pa_nil)) (pe_gint z.v_LONGEST_NAME) (nomark _))))) (pss_cons (ps_set (i := 3) nd rfl (Or.inl rfl) (pe_op op_add_str (pv 2) (pe_mt0 (pv 0) m_Cursor_upcoming hr (passD (E := E)))))
      (pss_cons (ps_if (PW.pt (pw_and (pt_cmpR op_eq (pe_callB (k_len (K := K) rfl) rfl z.b_len boot_len (pa_cons (pv 3) pa_nil)) (pe_gint z.v_LONGEST_NAME) (nomark _)) (pw_and1 (PW.pt (pw_or (pt_cmpR (k_in_seq (K := K) rfl) (pv 3) (pv 1) (by with_unfolding_all rfl)) (pw_or1 (pt_cmpR (k_in_seq (K := K) rfl) (pv 3) (pe_gref z.g_BARRED) (by with_unfolding_all rfl)))))))) (pss_one (ps_expr (pe_mt0 (pv 0) m_Cursor_refuse hr (passD (E := E))))) pss_nil)
      (pss_cons (ps_set (i := 2) nd rfl (Or.inl rfl) (pv 3))
      (pss_one (ks_fldaug (K := K) rfl (pv 0) pe_int in_add))))))
      (pss_cons (ps_if (PW.pt (pw_or (pt_cmpR op_eq (pv 2) pe_str (nomark _)) (pw_or (pt_cmpR (k_in_seq (K := K) rfl) (pv 2) (pv 1) (by with_unfolding_all rfl)) (pw_or1 (pt_cmpR (k_in_seq (K := K) rfl) (pv 2) (pe_gref z.g_BARRED) (by with_unfolding_all rfl)))))) (pss_one (ps_expr (pe_mt0 (pv 0) m_Cursor_refuse hr (passD (E := E))))) pss_nil)
      (pss_one (ps_ret (pv 2)))))), ?_⟩
  obtain ⟨c, l, r, ws, taken, rfl, rfl, hC, hw, hq⟩ := h
  have inB : ∀ H1 (g : List Nat), K1 c H H1 → ∀ (A B : Prop), (g ∈ taken ∨ g ∈ barred → A) → (¬ (g ∈ taken ∨ g ∈ barred) → B) →
      ∃ x, (SqL K H1 ws x ∨ SqT K H1 ws x) ∧ flatV (.str (S g)) = true ∧ (∀ y, y ∈ x → flatV y = true) ∧ if inV (.str (S g)) x = true then A else
        ∃ x, (SqL K H1 (ga K "BARRED") x ∨ SqT K H1 (ga K "BARRED") x) ∧ flatV (.str (S g)) = true ∧ (∀ y, y ∈ x → flatV y = true) ∧ if inV (.str (S g)) x = true then A else B := by
    intro H1 g hk A B h1 h2
    refine ⟨_, StrsAt.k1 hk hC hw, rfl, flat_strs _, ?_⟩
    rw [inV_strs]
    by_cases e1 : g ∈ taken
    · rw [if_pos (by simpa using e1)]
      exact h1 (Or.inl e1)
    · rw [if_neg (by simpa using e1)]
      refine ⟨_, Or.inr (tBarred z H1), rfl, flat_strs _, ?_⟩
      rw [inV_strs]
      by_cases e2 : g ∈ barred
      · rw [if_pos (by simpa using e2)]
        exact h1 (Or.inr e2)
      · rw [if_neg (by simpa using e2)]
        exact h2 fun e => e.elim e1 e2
  have fin : ∀ H1 f r', CurR K H1 c l r' → K1 c H H1 → nameEnd taken f r' = nameGo taken [] r →
      if f = [] then sp_Cursor_refuse K [.ref c] H1 (fun x H1 => Q (.str (S f)) H1) E else
      ∃ x, (SqL K H1 ws x ∨ SqT K H1 ws x) ∧ flatV (.str (S f)) = true ∧ (∀ y, y ∈ x → flatV y = true) ∧ if inV (.str (S f)) x = true then sp_Cursor_refuse K [.ref c] H1 (fun x H1 => Q (.str (S f)) H1) E else
        ∃ x, (SqL K H1 (ga K "BARRED") x ∨ SqT K H1 (ga K "BARRED") x) ∧ flatV (.str (S f)) = true ∧ (∀ y, y ∈ x → flatV y = true) ∧ if inV (.str (S f)) x = true then sp_Cursor_refuse K [.ref c] H1 (fun x H1 => Q (.str (S f)) H1) E else Q (.str (S f)) H1 := by
    intro H1 f r' hC1 hk e
    unfold nameEnd at e
    by_cases h0 : f = []
    · rw [if_pos (Or.inl h0)] at e
      rw [← e] at hq
      rw [if_pos h0]
      exact ⟨c, l, r', rfl, hC1, BadK.k1 hq hk⟩
    · rw [if_neg h0]
      refine inB H1 f hk _ _ (fun h => ?_) (fun h => ?_)
      · rw [if_pos (Or.inr h)] at e
        rw [← e] at hq
        exact ⟨c, l, r', rfl, hC1, BadK.k1 hq hk⟩
      · rw [if_neg (fun h2 => h2.elim h0 h)] at e
        rw [← e] at hq
        exact hq H1 hk hC1
  simp [tRet, tRetN, tSeq, tIfS, tDrop, tNext, tNever, tBreak, tCont, tAsg, gName, gCons, gNil, gTup, tAndV, tOrV, tNotV, tAnd, tOr, tNot, tOp, tUn, tVar, tC, tB, tTest, tIf, tCons, tNil, tCB, tTup, tLst, tFld, sFld, sFldAug, rAdd, rSub, tSl, tPart, tNoPart, rI0, rI, rU, rEq, rNe, rSlS, rSlL, rIxL, rIxT, rIxS, tChain, tFn, tMt, tM1, tM0, tBM, rAppend, rIn, tIsN, tNotN, scal_ss, scal_ii, let_nil, let_one, fig_nil, fig_one, LenV_str, L2.start, cxOf, and_assoc, tJs, tFmt, put_at, lk_at, lk_script, lk_upcoming, lk_refuse, lk_skips, lk_expect, lk_word_of, lk_name_unlike, lk_number_to, lk_finish, sp0, sp1, sp2, sp3, sp4, sp5, -List.lookup_eq_none_iff]
  refine twhile' (fun m σ H' => ∃ f r' u, m = r'.length ∧ σ = [some (.ref c), some (.ref ws), some (.str (S f)), u] ∧ CurR K H' c l r' ∧ K1 c H H' ∧ f.length ≤ 8 ∧ nameGo taken f r' = nameGo taken [] r) r.length
    ⟨[], r, none, rfl, rfl, hC, K1.rfl', by simp, rfl⟩ (fun m σ H' h => ?_)
  obtain ⟨f, r', u, rfl, rfl, hC', hk, hf, hg⟩ := h
  obtain ⟨hs, hl, dx, hc⟩ := id hC'
  match r', hs, hC', hg, hc with
  | [], hs, hC', hg, hc =>
    simp [tRet, tRetN, tSeq, tIfS, tDrop, tNext, tNever, tBreak, tCont, tAsg, gName, gCons, gNil, gTup, tAndV, tOrV, tNotV, tAnd, tOr, tNot, tOp, tUn, tVar, tC, tB, tTest, tIf, tCons, tNil, tCB, tTup, tLst, tFld, sFld, sFldAug, rAdd, rSub, tSl, tPart, tNoPart, rI0, rI, rU, rEq, rNe, rSlS, rSlL, rIxL, rIxT, rIxS, tChain, tFn, tMt, tM1, tM0, tBM, rAppend, rIn, tIsN, tNotN, scal_ss, scal_ii, let_nil, let_one, fig_nil, fig_one, LenV_str, L2.start, cxOf, and_assoc, tJs, tFmt, put_at, lk_at, lk_script, lk_upcoming, lk_refuse, lk_skips, lk_expect, lk_word_of, lk_name_unlike, lk_number_to, lk_finish, sp0, sp1, sp2, sp3, sp4, sp5, -List.lookup_eq_none_iff, hc, up_iff hC', S_nil, S_inj]
    exact fin H' f [] hC' hk (by rw [← hg, nameGo])
  | x :: r', hs, hC', hg, hc =>
    simp [tRet, tRetN, tSeq, tIfS, tDrop, tNext, tNever, tBreak, tCont, tAsg, gName, gCons, gNil, gTup, tAndV, tOrV, tNotV, tAnd, tOr, tNot, tOp, tUn, tVar, tC, tB, tTest, tIf, tCons, tNil, tCB, tTup, tLst, tFld, sFld, sFldAug, rAdd, rSub, tSl, tPart, tNoPart, rI0, rI, rU, rEq, rNe, rSlS, rSlL, rIxL, rIxT, rIxS, tChain, tFn, tMt, tM1, tM0, tBM, rAppend, rIn, tIsN, tNotN, scal_ss, scal_ii, let_nil, let_one, fig_nil, fig_one, LenV_str, L2.start, cxOf, and_assoc, tJs, tFmt, put_at, lk_at, lk_script, lk_upcoming, lk_refuse, lk_skips, lk_expect, lk_word_of, lk_name_unlike, lk_number_to, lk_finish, sp0, sp1, sp2, sp3, sp4, sp5, -List.lookup_eq_none_iff, hc, up_iff hC', S_nil, S_inj, S_app, z.cls_Cursor, z.na_Cursor_at]
    rw [nameGo] at hg
    cases hx : isLet x with
    | false =>
      rw [if_neg (by simp [hx])] at hg
      exact Or.inl ⟨rfl, fin H' f (x :: r') hC' hk hg⟩
    | true =>
      refine Or.inr ⟨rfl, by rw [S_len, sizeLine_eq]; omega, ?_⟩
      rw [S_len]
      by_cases h8 : f.length < 8
      · rw [if_pos (by omega)]
        refine ⟨_, fun _ _ h => h, by simp [S_len, sizeLine_eq]; omega, by simp [S_len, sizeLine_eq]; omega, ?_⟩
        rw [if_pos ⟨hx, h8⟩] at hg
        have adv : nameGo taken (f ++ [x]) r' = nameGo taken [] r → ∃ m', m' < r'.length + 1 ∧ ∃ f' r'', m' = r''.length ∧ (∃ u, ([some (.ref c), some (.ref ws), some (.str (S (f ++ [x]))), some (.str (S (f ++ [x])))] : L2.St) = [some (.ref c), some (.ref ws), some (.str (S f')), u]) ∧
            CurR K (upd H' c (.ins (ga K "Cursor") dx [("script", .str (S l)), ("at", .int ((l.length - (x :: r').length : Nat) + 1))])) c l r'' ∧ K1 c H (upd H' c (.ins (ga K "Cursor") dx [("script", .str (S l)), ("at", .int ((l.length - (x :: r').length : Nat) + 1))])) ∧ f'.length ≤ 8 ∧ nameGo taken f' r'' = nameGo taken [] r :=
          fun e => ⟨r'.length, by omega, f ++ [x], r', rfl, ⟨_, rfl⟩, CurR.step hs hl, K1.trans hk K1.upd, by simp; omega, e⟩
        by_cases h7 : (f ++ [x]).length = 8
        · rw [if_pos (by rw [S_len, h7]; rfl)]
          have h7' : f.length + 1 = 8 := by simpa using h7
          refine inB H' (f ++ [x]) hk _ _ (fun h => ?_) (fun h => ?_)
          · rw [if_pos ⟨h7', h⟩] at hg
            rw [← hg] at hq
            exact ⟨c, l, x :: r', rfl, hC', BadK.k1 hq hk⟩
          · rw [if_neg (fun h2 => h h2.2)] at hg
            exact adv hg
        · have h7' : ¬ (f.length + 1 = 8) := by simpa using h7
          rw [if_neg (by rw [S_len]; omega)]
          rw [if_neg (fun h2 => h7' h2.1)] at hg
          exact adv hg
      · rw [if_neg (by omega)]
        rw [if_neg (fun h2 => h8 h2.2)] at hg
        exact fin H' f (x :: r') hC' hk hg
theorem int_fig {x : Nat} (h : isFig x = true) : PySem.intText? (S [x]) = some (((x - 48 : Nat)) : Int) := by
  have h1 : 48 ≤ x ∧ x ≤ 57 := by simpa [isFig] using h
  have h2 := SX.int_S (a := [x]) (by simp; omega) (by simp) (by simp)
  refine h2.trans ?_
  simp [NumText.digitsVal]
def sp_Cursor_number_to (K : PySem.W.Frag) : Sp := sp3 fun a b d H Q E => ∃ c l r least most, a = .ref c ∧ b = .int ((least : Nat) : Int) ∧ d = .int ((most : Nat) : Int) ∧ CurR K H c l r ∧ Ends1 K c l H E (numGo least most 0 false r) fun f H' => Q (.int ((f : Nat) : Int)) H'
theorem sc_Cursor_number_to : FnScope ["self", "least", "most", "value", "start", "longer"] ["self", "least", "most"] (defScope s_Cursor_number_to) := ⟨rfl, rfl, rfl, by decide +kernel, rfl, by decide +kernel, by decide +kernel⟩
theorem ok_Cursor_number_to (z : Zk K mg base) (m_Cursor_upcoming : Cmt P w K mg base (ga K "Cursor") "upcoming" 1 (sp_Cursor_upcoming K)) (m_Cursor_refuse : Cmt P w K mg base (ga K "Cursor") "refuse" 3 (sp_Cursor_refuse K)) (c_is_figure : Cal P w K mg base "is_figure" 1 (sp_is_figure K))  : Cmt P w K mg base (ga K "Cursor") "number_to" 4 (sp_Cursor_number_to K) := by
  obtain ⟨fd, F⟩ := z.d_Cursor_number_to
  refine cmt_of F z.cls_Cursor z.mt_Cursor_number_to sc_Cursor_number_to (fun _ _ _ _ _ _ us hl => match us, hl with | [_, _, _], _ => rfl) (fun vs H Q E h => by match vs, h with | [_, _, _], _ => rfl) (fun cdv A outer s H vs Q E hr h => ?_)
  have nd := sc_Cursor_number_to.nd
  have hu : (cxOf (L2.CX P w) P w K mg base ["self", "least", "most", "value", "start", "longer"] "Cursor.number_to" (defScope s_Cursor_number_to) (fAd K ("Cursor", some "number_to")) cdv A outer s H E).A.units + 64 < cLine := hr.units
  have hu0 := hr.units0
  have hu1 := hu_of hr
  match vs, h with
  | [a0, a1, a2], h =>
  refine ⟨_, (pss_cons (ps_set (i := 3) nd rfl (Or.inl rfl) pe_int)
      (pss_cons (ps_set (i := 4) nd rfl (Or.inl rfl) (k_fld (K := K) rfl (pv 0)))
      (pss_cons (ps_while (passes_of rfl) (pt_val (pe_fn c_is_figure hr (passD (E := E)) (pa_cons (pe_mt0 (pv 0) m_Cursor_upcoming hr (passD (E := E))) pa_nil))) (pss_cons (ps_set (i := 5) nd rfl (Or.inl rfl) (pe_op op_add (pe_op op_mul pe_int (pv 3)) (pe_callTy call_int_str rfl z.b_int boot_int (pa_cons (pe_mt0 (pv 0) m_Cursor_upcoming hr (passD (E := E))) pa_nil))))
      (pss_cons (ps_if (PW.pt (pw_or (pt_cmpR op_gt (pv 5) (pv 2) (nomark _)) (pw_or (pt_cmpR op_lt (pv 5) (pv 1) (nomark _)) (pw_or1 (PW.pt (pw_and (pt_cmpR op_eq (pv 3) pe_int (nomark _)) (pw_and1 (pt_cmpR op_gt (k_fld (K := K) rfl (pv 0)) (pv 4) (nomark _))))))))) (pss_one ps_break) pss_nil)
      (pss_cons (ps_set (i := 3) nd rfl (Or.inl rfl) (pv 5))
      (pss_one (ks_fldaug (K := K) rfl (pv 0) pe_int in_add))))))
      (pss_cons (ps_if (pt_cmpR op_eq (k_fld (K := K) rfl (pv 0)) (pv 4) (nomark _)) (pss_one (ps_expr (pe_mt0 (pv 0) m_Cursor_refuse hr (passD (E := E))))) pss_nil)
      (pss_one (ps_ret (pv 3))))))), ?_⟩
  obtain ⟨c, l, r, least, most, rfl, rfl, rfl, hC, hq⟩ := h
  obtain ⟨hs, hl, dx, hc⟩ := id hC
  simp [tRet, tRetN, tSeq, tIfS, tDrop, tNext, tNever, tBreak, tCont, tAsg, gName, gCons, gNil, gTup, tAndV, tOrV, tNotV, tAnd, tOr, tNot, tOp, tUn, tVar, tC, tB, tTest, tIf, tCons, tNil, tCB, tTup, tLst, tFld, sFld, sFldAug, rAdd, rSub, tSl, tPart, tNoPart, rI0, rI, rU, rEq, rNe, rSlS, rSlL, rIxL, rIxT, rIxS, tChain, tFn, tMt, tM1, tM0, tBM, rAppend, rIn, tIsN, tNotN, scal_ss, scal_ii, let_nil, let_one, fig_nil, fig_one, LenV_str, L2.start, cxOf, and_assoc, tJs, tFmt, put_at, lk_at, lk_script, lk_upcoming, lk_refuse, lk_skips, lk_expect, lk_word_of, lk_name_unlike, lk_number_to, lk_finish, sp0, sp1, sp2, sp3, sp4, sp5, -List.lookup_eq_none_iff, hc, z.cls_Cursor, z.na_Cursor_at]
  refine twhile' (fun m σ H' => ∃ v r' u, m = r'.length ∧ σ = [some (.ref c), some (.int ((least : Nat) : Int)), some (.int ((most : Nat) : Int)), some (.int ((v : Nat) : Int)), some (.int ((l.length - r.length : Nat) : Int)), u] ∧ CurR K H' c l r' ∧ K1 c H H' ∧
      r'.length ≤ r.length ∧ numGo least most v (r'.length != r.length) r' = numGo least most 0 false r) r.length
    ⟨0, r, none, rfl, rfl, hC, K1.rfl', Nat.le_refl _, by simp⟩ (fun m σ H' h => ?_)
  obtain ⟨v, r', u, rfl, rfl, hC', hk, hle, hg⟩ := h
  obtain ⟨hs', hl', dx', hc'⟩ := id hC'
  have hrl := hs.length_le
  have fin : ∀ r', CurR K H' c l r' → r'.length ≤ r.length → numEnd v (r'.length != r.length) r' = numGo least most 0 false r →
      if ((l.length - r'.length : Nat) : Int) = ((l.length - r.length : Nat) : Int) then sp_Cursor_refuse K [.ref c] H' (fun x H1 => Q (.int ((v : Nat) : Int)) H1) E else Q (.int ((v : Nat) : Int)) H' := by
    intro r' hC' hle e
    unfold numEnd at e
    by_cases h0 : r'.length = r.length
    · rw [if_neg (by simp [h0])] at e
      rw [← e] at hq
      rw [if_pos (by rw [h0])]
      exact ⟨c, l, r', rfl, hC', BadK.k1 hq hk⟩
    · rw [if_pos (by simp [h0])] at e
      rw [← e] at hq
      rw [if_neg (by omega)]
      exact hq H' hk hC'
  match r', hs', hC', hg, hc', hle with
  | [], hs', hC', hg, hc', hle =>
    simp [tRet, tRetN, tSeq, tIfS, tDrop, tNext, tNever, tBreak, tCont, tAsg, gName, gCons, gNil, gTup, tAndV, tOrV, tNotV, tAnd, tOr, tNot, tOp, tUn, tVar, tC, tB, tTest, tIf, tCons, tNil, tCB, tTup, tLst, tFld, sFld, sFldAug, rAdd, rSub, tSl, tPart, tNoPart, rI0, rI, rU, rEq, rNe, rSlS, rSlL, rIxL, rIxT, rIxS, tChain, tFn, tMt, tM1, tM0, tBM, rAppend, rIn, tIsN, tNotN, scal_ss, scal_ii, let_nil, let_one, fig_nil, fig_one, LenV_str, L2.start, cxOf, and_assoc, tJs, tFmt, put_at, lk_at, lk_script, lk_upcoming, lk_refuse, lk_skips, lk_expect, lk_word_of, lk_name_unlike, lk_number_to, lk_finish, sp0, sp1, sp2, sp3, sp4, sp5, -List.lookup_eq_none_iff, hc', up_iff hC', z.cls_Cursor, z.na_Cursor_at]
    have := fin [] hC' hle (by rw [← hg, numGo])
    simpa using this
  | x :: r', hs', hC', hg, hc', hle =>
    simp [tRet, tRetN, tSeq, tIfS, tDrop, tNext, tNever, tBreak, tCont, tAsg, gName, gCons, gNil, gTup, tAndV, tOrV, tNotV, tAnd, tOr, tNot, tOp, tUn, tVar, tC, tB, tTest, tIf, tCons, tNil, tCB, tTup, tLst, tFld, sFld, sFldAug, rAdd, rSub, tSl, tPart, tNoPart, rI0, rI, rU, rEq, rNe, rSlS, rSlL, rIxL, rIxT, rIxS, tChain, tFn, tMt, tM1, tM0, tBM, rAppend, rIn, tIsN, tNotN, scal_ss, scal_ii, let_nil, let_one, fig_nil, fig_one, LenV_str, L2.start, cxOf, and_assoc, tJs, tFmt, put_at, lk_at, lk_script, lk_upcoming, lk_refuse, lk_skips, lk_expect, lk_word_of, lk_name_unlike, lk_number_to, lk_finish, sp0, sp1, sp2, sp3, sp4, sp5, -List.lookup_eq_none_iff, hc', up_iff hC', z.cls_Cursor, z.na_Cursor_at]
    rw [numGo] at hg
    have fin2 := fin (x :: r') hC' hle
    simp at fin2
    cases hx : isFig x with
    | false =>
      rw [if_neg (by simp [hx])] at hg
      exact Or.inl ⟨rfl, fin2 hg⟩
    | true =>
      have hx2 : 48 ≤ x ∧ x ≤ 57 := by simpa [isFig] using hx
      refine Or.inr ⟨rfl, _, fun _ _ h => h, Or.inl ⟨by decide, by decide⟩, _, int_fig hx, by simp [S_len], ?_⟩
      have hle2 : r'.length + 1 ≤ r.length := by simpa using hle
      by_cases c1 : 10 * v + (x - 48) > most
      · rw [if_pos (by omega)]
        rw [if_neg (fun h => h.2 (Or.inl c1))] at hg
        exact fin2 hg
      · rw [if_neg (by omega)]
        by_cases c2 : 10 * v + (x - 48) < least
        · rw [if_pos (by omega)]
          rw [if_neg (fun h => h.2 (Or.inr (Or.inl c2)))] at hg
          exact fin2 hg
        · rw [if_neg (by omega)]
          by_cases c3 : v = 0 ∧ r'.length + 1 ≠ r.length
          · rw [if_pos c3.1, if_pos (by omega)]
            rw [if_neg (fun h => h.2 (Or.inr (Or.inr ⟨c3.1, by simp; exact c3.2⟩)))] at hg
            exact fin2 hg
          · have hg2 : numGo least most (10 * v + (x - 48)) true r' = numGo least most 0 false r := by
              rwa [if_pos ⟨hx, fun h => h.elim c1 fun h => h.elim c2 fun h => c3 ⟨h.1, by simpa using h.2⟩⟩] at hg
            have hne : (r'.length != r.length) = true := by simp; omega
            split
            · rename_i hv0
              rw [if_neg (by omega)]
              exact ⟨r'.length, by omega, 10 * v + (x - 48), r', rfl, ⟨some (.int ((10 * v + (x - 48) : Nat) : Int)), by simp⟩, CurR.step hs' hl', K1.trans hk K1.upd, by omega, by rw [hne]; exact hg2⟩
            · exact ⟨r'.length, by omega, 10 * v + (x - 48), r', rfl, ⟨some (.int ((10 * v + (x - 48) : Nat) : Int)), by simp⟩, CurR.step hs' hl', K1.trans hk K1.upd, by omega, by rw [hne]; exact hg2⟩
def intGo (most : Nat) : List Nat → Res Int
  | 45 :: r => (numGo 1 most 0 false r).bind fun n r => .ok (-((n : Nat) : Int)) r
  | r => (numGo 0 most 0 false r).bind fun n r => .ok ((n : Nat) : Int) r
def sp_Cursor_integer_to (K : PySem.W.Frag) : Sp := sp2 fun a b H Q E => ∃ c l r most, a = .ref c ∧ b = .int ((most : Nat) : Int) ∧ CurR K H c l r ∧ Ends1 K c l H E (intGo most r) fun f H' => Q (.int f) H'
theorem sc_Cursor_integer_to : FnScope ["self", "most"] ["self", "most"] (defScope s_Cursor_integer_to) := ⟨rfl, rfl, rfl, by decide +kernel, rfl, by decide +kernel, by decide +kernel⟩
theorem ok_Cursor_integer_to (z : Zk K mg base) (m_Cursor_skips : Cmt P w K mg base (ga K "Cursor") "skips" 2 (sp_Cursor_skips K)) (m_Cursor_number_to : Cmt P w K mg base (ga K "Cursor") "number_to" 4 (sp_Cursor_number_to K))  : Cmt P w K mg base (ga K "Cursor") "integer_to" 5 (sp_Cursor_integer_to K) := by
  obtain ⟨fd, F⟩ := z.d_Cursor_integer_to
  refine cmt_of F z.cls_Cursor z.mt_Cursor_integer_to sc_Cursor_integer_to (fun _ _ _ _ _ _ us hl => match us, hl with | [_, _], _ => rfl) (fun vs H Q E h => by match vs, h with | [_, _], _ => rfl) (fun cdv A outer s H vs Q E hr h => ?_)
  have nd := sc_Cursor_integer_to.nd
  have hu : (cxOf (L2.CX P w) P w K mg base ["self", "most"] "Cursor.integer_to" (defScope s_Cursor_integer_to) (fAd K ("Cursor", some "integer_to")) cdv A outer s H E).A.units + 64 < cLine := hr.units
  have hu0 := hr.units0
  have hu1 := hu_of hr
  match vs, h with
  | [a0, a1], h =>
  refine ⟨_, (pss_cons (ps_if (pt_val (pe_mt (pv 0) m_Cursor_skips hr (passD (E := E)) (pa_cons pe_str pa_nil))) (pss_one (ps_ret (pe_un un_neg (pe_mt (pv 0) m_Cursor_number_to hr (passD (E := E)) (pa_cons pe_int (pa_cons (pv 1) pa_nil)))))) pss_nil)
      (pss_one (ps_ret (pe_mt (pv 0) m_Cursor_number_to hr (passD (E := E)) (pa_cons pe_int (pa_cons (pv 1) pa_nil)))))), ?_⟩
  obtain ⟨c, l, r, most, rfl, rfl, hC, hq⟩ := h
  obtain ⟨hs, hl, dx, hc⟩ := id hC
  simp [tRet, tRetN, tSeq, tIfS, tDrop, tNext, tNever, tBreak, tCont, tAsg, gName, gCons, gNil, gTup, tAndV, tOrV, tNotV, tAnd, tOr, tNot, tOp, tUn, tVar, tC, tB, tTest, tIf, tCons, tNil, tCB, tTup, tLst, tFld, sFld, sFldAug, rAdd, rSub, tSl, tPart, tNoPart, rI0, rI, rU, rEq, rNe, rSlS, rSlL, rIxL, rIxT, rIxS, tChain, tFn, tMt, tM1, tM0, tBM, rAppend, rIn, tIsN, tNotN, scal_ss, scal_ii, let_nil, let_one, fig_nil, fig_one, LenV_str, L2.start, cxOf, and_assoc, tJs, tFmt, put_at, lk_at, lk_script, lk_upcoming, lk_refuse, lk_skips, lk_expect, lk_word_of, lk_name_unlike, lk_number_to, lk_finish, sp0, sp1, sp2, sp3, sp4, sp5, -List.lookup_eq_none_iff, hc]
  refine ⟨c, l, r, 45, rfl, rfl, hC, fun r' e H' k1 c1 => Or.inr ⟨rfl, ?_⟩, fun hne => Or.inl ⟨rfl, ?_⟩⟩
  · obtain ⟨hs', hl', dx', hc'⟩ := id c1
    subst e
    simp [tRet, tRetN, tSeq, tIfS, tDrop, tNext, tNever, tBreak, tCont, tAsg, gName, gCons, gNil, gTup, tAndV, tOrV, tNotV, tAnd, tOr, tNot, tOp, tUn, tVar, tC, tB, tTest, tIf, tCons, tNil, tCB, tTup, tLst, tFld, sFld, sFldAug, rAdd, rSub, tSl, tPart, tNoPart, rI0, rI, rU, rEq, rNe, rSlS, rSlL, rIxL, rIxT, rIxS, tChain, tFn, tMt, tM1, tM0, tBM, rAppend, rIn, tIsN, tNotN, scal_ss, scal_ii, let_nil, let_one, fig_nil, fig_one, LenV_str, L2.start, cxOf, and_assoc, tJs, tFmt, put_at, lk_at, lk_script, lk_upcoming, lk_refuse, lk_skips, lk_expect, lk_word_of, lk_name_unlike, lk_number_to, lk_finish, sp0, sp1, sp2, sp3, sp4, sp5, -List.lookup_eq_none_iff, hc']
    refine ⟨c, l, r', 1, most, rfl, rfl, rfl, c1, ?_⟩
    rw [intGo] at hq
    cases hn : numGo 1 most 0 false r' with
    | ok n r2 =>
      rw [hn] at hq
      exact fun H2 k2 c2 => ⟨_, rfl, hq H2 (K1.trans k1 k2) c2⟩
    | bad r2 =>
      rw [hn] at hq
      exact BadK.k1 hq k1
  · simp [tRet, tRetN, tSeq, tIfS, tDrop, tNext, tNever, tBreak, tCont, tAsg, gName, gCons, gNil, gTup, tAndV, tOrV, tNotV, tAnd, tOr, tNot, tOp, tUn, tVar, tC, tB, tTest, tIf, tCons, tNil, tCB, tTup, tLst, tFld, sFld, sFldAug, rAdd, rSub, tSl, tPart, tNoPart, rI0, rI, rU, rEq, rNe, rSlS, rSlL, rIxL, rIxT, rIxS, tChain, tFn, tMt, tM1, tM0, tBM, rAppend, rIn, tIsN, tNotN, scal_ss, scal_ii, let_nil, let_one, fig_nil, fig_one, LenV_str, L2.start, cxOf, and_assoc, tJs, tFmt, put_at, lk_at, lk_script, lk_upcoming, lk_refuse, lk_skips, lk_expect, lk_word_of, lk_name_unlike, lk_number_to, lk_finish, sp0, sp1, sp2, sp3, sp4, sp5, -List.lookup_eq_none_iff, hc]
    refine ⟨c, l, r, 0, most, rfl, rfl, rfl, hC, ?_⟩
    have e : intGo most r = (numGo 0 most 0 false r).bind fun n r => .ok ((n : Nat) : Int) r := by
      unfold intGo
      split
      · exact absurd rfl (hne _)
      · rfl
    rw [e] at hq
    cases hn : numGo 0 most 0 false r with
    | ok n r2 =>
      rw [hn] at hq
      exact hq
    | bad r2 =>
      rw [hn] at hq
      exact hq
end
end Mp

set_option maxHeartbeats 8000000
/-! Kv1: the plain side: machine texts and trees, the readers on lists of signs; trees in the heap -/
namespace Mp
open PySem PySem.Spec PyProof.Rows L2
open He (ga ma fAd)
theorem Res.bind_ok {α β : Type} {a : Res α} {f : α → List Nat → Res β} {v : β} {r : List Nat} (h : a.bind f = .ok v r) : ∃ u q, a = .ok u q ∧ f u q = .ok v r := by
  cases a with
  | ok u q => exact ⟨u, q, rfl, h⟩
  | bad q => cases h
theorem numGo_le {least most : Nat} : ∀ {r : List Nat} {v : Nat} {st : Bool} {n : Nat} {r' : List Nat}, (st = true → v ≤ most) → numGo least most v st r = .ok n r' → n ≤ most
  | [], v, st, n, r', hv, h => by
    rw [numGo] at h
    unfold numEnd at h
    split at h
    · cases h
      exact hv (by assumption)
    · cases h
  | x :: r, v, st, n, r', hv, h => by
    rw [numGo] at h
    split at h
    · rename_i hc
      exact numGo_le (fun _ => by omega) h
    · unfold numEnd at h
      split at h
      · cases h
        exact hv (by assumption)
      · cases h
theorem wordGo_in {ws : List (List Nat)} : ∀ {r f v r' : List Nat}, wordGo ws f r = .ok v r' → v ∈ ws
  | [], f, v, r', h => by
    rw [wordGo] at h
    split at h
    · cases h; assumption
    · cases h
  | x :: r, f, v, r', h => by
    rw [wordGo] at h
    split at h
    · exact wordGo_in h
    · split at h
      · cases h; assumption
      · cases h
theorem K1.mut {c p : Addr} {H H' : Hp} {o : HO} (k : K1 c H H') (h : H p = none) : K1 c H (L2.upd H' p o) := fun a u n e => by
  rw [upd_ne (fun z => by rw [z, h] at e; cases e)]
  exact k a u n e
theorem CurR.une {K : PySem.W.Frag} {H : Hp} {c p : Addr} {l r : List Nat} {o : HO} (h : CurR K H c l r) (n : p ≠ c) : CurR K (L2.upd H p o) c l r := by
  obtain ⟨a, b, dx, h⟩ := h
  exact ⟨a, b, dx, by rw [upd_ne (Ne.symm n)]; exact h⟩
theorem made_ex {H H' : Hp} {x dx C : Addr} (h1 : H x = none) (h2 : H dx = none) (k : K1 x (upd (upd H dx (.own x)) x (.ins C dx [])) H') : Ex H H' := fun b o e => by
  have n1 : b ≠ x := ne_of_none e h1
  have n2 : b ≠ dx := ne_of_none e h2
  exact k b o n1 (by rw [upd_ne n1, upd_ne n2]; exact e)
theorem made_ex0 {H : Hp} {x dx C : Addr} (h1 : H x = none) (h2 : H dx = none) : Ex H (upd (upd H dx (.own x)) x (.ins C dx [])) := made_ex h1 h2 K1.rfl'
/-- while, its body by a word B of the state behind the test -/
theorem twhileB {c : TT} {tb : TS} {D : Ends} {σ : L2.St} {H : Hp} (W B : Nat → L2.St → Hp → Prop) (m : Nat) (h0 : W m σ H)
    (hs : ∀ m σ H (T : L2.St → Hp → Prop), W m σ H → (∀ σ H, B m σ H → T σ H) → c σ H fun b H1 => if b = true then T σ H1 else D.nx σ H1)
    (hb : ∀ m σ H, B m σ H → tb { D with nx := fun σ' H' => ∃ m', m' < m ∧ W m' σ' H', ct := fun σ' H' => ∃ m', m' < m ∧ W m' σ' H', bk := D.nx } σ H) : tWhile c tb D σ H :=
  ⟨W, ⟨m, h0⟩, fun m σ H h => hs m σ H (fun σ H1 => ∃ N : L2.St → Hp → Prop, (∀ σ' H', N σ' H' → ∃ m', m' < m ∧ W m' σ' H') ∧ tb { D with nx := N, ct := N, bk := D.nx } σ H1) h fun σ H1 b => ⟨_, fun _ _ h => h, hb m σ H1 b⟩⟩
theorem Stb.trans {K : PySem.W.Frag} {H H1 H2 : Hp} (a : Stb K H H1) (b : Stb K H1 H2) : Stb K H H2 := fun x o h s => b x o (a x o h s) s
section
variable {K : PySem.W.Frag}
theorem TyX.ex {H H' : Hp} {x : V} {t : Value} (e : Ex H H') (h : TyX K H x t) : TyX K H' x t := by
  cases h with
  | base h =>
    refine .base ?_
    cases h with
    | non => exact .non
    | bl b => exact .bl b
    | int i => exact .int i
    | str y => exact .str y
    | flt y => exact .flt y
    | lst q => exact .lst (e _ _ q)
    | frz q => exact .frz (e _ _ q)
    | tup q => exact .tup (e _ _ q)
    | dK q => exact .dK (e _ _ q)
    | dT q => exact .dT (e _ _ q)
    | ins q cl ha hn htk hm => exact .ins (e _ _ q) cl ha hn htk hm
  | byt b => exact .byt b
  | set q => exact .set (e _ _ q)
  | kList q c => exact .kList q c
  | kTuple q c => exact .kTuple q c
  | kDict q c => exact .kDict q c
  | fTuple q => exact .fTuple (e _ _ q)
  | fDict q => exact .fDict (e _ _ q)
/-- the error, all that stood stands on -/
def BadX (K : PySem.W.Frag) (E : XK) (H : Hp) (n : Nat) : Prop := ∀ d H', Ex H H' → H' d = some (.xd [("at", .int ((n : Nat) : Int))]) → E (.ref (ga K "BadText")) (some d) H'
theorem BadX.ex {E : XK} {H H' : Hp} {n : Nat} (b : BadX K E H n) (e : Ex H H') : BadX K E H' n := fun d H2 e2 h => b d H2 (Ex.trans e e2) h
/-- a reader just made -/
theorem cur_new {H : Hp} {x dx : Addr} {l : List Nat} (hx : H x = none) (hdx : H dx = none) (hl : l.length ≤ 10000) :
    CurR K (upd (upd H dx (.own x)) x (.ins (ga K "Cursor") dx [("script", .str (S l)), ("at", .int 0)])) x l l ∧ Ex H (upd (upd H dx (.own x)) x (.ins (ga K "Cursor") dx [("script", .str (S l)), ("at", .int 0)])) ∧
    ∀ H1, K1 x (upd (upd H dx (.own x)) x (.ins (ga K "Cursor") dx [("script", .str (S l)), ("at", .int 0)])) H1 → Ex H H1 := by
  have e1 : Ex H (upd (upd H dx (.own x)) x (.ins (ga K "Cursor") dx [("script", .str (S l)), ("at", .int 0)])) := fun b o hbo => by
    have n1 : b ≠ x := ne_of_none hbo hx
    have n2 : b ≠ dx := ne_of_none hbo hdx
    rw [upd_ne n1, upd_ne n2]
    exact hbo
  exact ⟨⟨List.suffix_refl l, hl, dx, by rw [upd_same, Nat.sub_self]; rfl⟩, e1, fun H1 k b o hbo => k b o (ne_of_none hbo hx) (e1 b o hbo)⟩
end
/-! ### the reader of a machine's text -/
def expPart (n : List Nat) (r : List Nat) : Res (Nat × Nat) := (expects (n ++ [32]) r).bind fun _ r => (numGo 0 1000 0 false r).bind fun s r => (expects [32] r).bind fun _ r => (numGo 0 s 0 false r).bind fun a r => .ok (s, a) r
def readExps : List (List Nat) → Bool → List Nat → Res (List (Nat × Nat))
  | [], _, r => .ok [] r
  | n :: ns, later, r => (if later then expects [44, 32] r else .ok () r).bind fun _ r => (expPart n r).bind fun p r => (readExps ns true r).bind fun ps r => .ok (p :: ps) r
def readMach (ns : List (List Nat)) (l : List Nat) : Res (List (Nat × Nat)) := (readExps ns false l).bind fun ps r => match r with
  | [] => .ok ps []
  | _ => .bad r
def addPs (ps : List (Nat × Nat)) (x : Res (List (Nat × Nat))) : Res (List (Nat × Nat)) := x.bind fun qs r => .ok (ps ++ qs) r
theorem addPs_nil (x : Res (List (Nat × Nat))) : addPs [] x = x := by cases x <;> rfl
theorem addPs_cons (ps : List (Nat × Nat)) (p : Nat × Nat) (x : Res (List (Nat × Nat))) : addPs ps (x.bind fun qs r => .ok (p :: qs) r) = addPs (ps ++ [p]) x := by
  cases x with
  | ok v r => simp [addPs, Res.bind]
  | bad r => rfl
theorem expPart_ok {n r r' : List Nat} {p : Nat × Nat} (h : expPart n r = .ok p r') : p.1 ≤ 1000 ∧ p.2 ≤ p.1 := by
  unfold expPart at h
  obtain ⟨_, q1, e1, h⟩ := Res.bind_ok h
  obtain ⟨s, q2, e2, h⟩ := Res.bind_ok h
  obtain ⟨_, q3, e3, h⟩ := Res.bind_ok h
  obtain ⟨a, q4, e4, h⟩ := Res.bind_ok h
  cases h
  exact ⟨numGo_le (fun e => by cases e) e2, numGo_le (fun e => by cases e) e4⟩
/-! ### texts written -/
abbrev numL (n : Nat) : List Nat := TL.numL n
theorem fmt_num (n : Nat) : Str.ofString (((n : Nat) : Int).repr) = S (numL n) := SX.num_S n
def lineOf (n : List Nat) (p : Nat × Nat) : List Nat := n ++ 32 :: (numL p.1 ++ 32 :: numL p.2)
def face (ns : List (List Nat)) (ps : List (Nat × Nat)) : List Nat := TL.joinL [44, 32] ((ns.zip ps).map fun x => lineOf x.1 x.2)
theorem numL_le {n : Nat} (h : n ≤ 2000) : (numL n).length ≤ 4 := by
  show (TL.numL n).length ≤ 4
  by_cases h1 : n < 10
  · rw [TL.numL_lt h1]; simp
  · by_cases h2 : n / 10 < 10
    · rw [TL.numL_step (by omega), TL.numL_lt h2]; simp
    · by_cases h3 : n / 10 / 10 < 10
      · rw [TL.numL_step (by omega), TL.numL_step (by omega), TL.numL_lt h3]; simp
      · rw [TL.numL_step (by omega), TL.numL_step (by omega), TL.numL_step (by omega), TL.numL_lt (by omega)]; simp
theorem repr_neg (m : Nat) : Str.ofString ((Int.negSucc m).repr) = S (45 :: numL (m + 1)) := by
  have e : (Int.negSucc m).repr = "-" ++ (((m + 1 : Nat) : Int).repr) := rfl
  have h2 : T (((m + 1 : Nat) : Int).repr) = numL (m + 1) := by
    have := fmt_num (m + 1)
    rw [ofS, S_inj] at this
    exact this
  rw [e, ofS]
  show S (("-" ++ ((m + 1 : Nat) : Int).repr).toList.map Char.toNat) = _
  rw [String.toList_append, List.map_append]
  show S (T "-" ++ T (((m + 1 : Nat) : Int).repr)) = _
  rw [h2]
  rfl
def numI : Int → List Nat
  | .ofNat n => numL n
  | .negSucc m => 45 :: numL (m + 1)
theorem fmt_int : ∀ i : Int, Str.ofString (i.repr) = S (numI i)
  | .ofNat n => fmt_num n
  | .negSucc m => repr_neg m
/-! ### trees -/
inductive Tr where
  | leaf
  | ask (one other : List Nat) (b : Int) (yes no : Tr)
deriving DecidableEq
def readLeaf (r : List Nat) : Res Tr := (expects (T "leaf") r).bind fun _ r => .ok .leaf r
def readAsk (rd : List Nat → Res Tr) (ws : List (List Nat)) (r : List Nat) : Res Tr := (wordGo ws [] r).bind fun one r => (expects (T " - ") r).bind fun _ r => (wordGo (ws.filter fun x => x != one) [] r).bind fun other r => (expects (T " <= ") r).bind fun _ r =>
  (intGo 2000 r).bind fun b r => (expects (T " ? ") r).bind fun _ r => (rd r).bind fun y r => (expects (T " : ") r).bind fun _ r => (rd r).bind fun n r => (expects [93] r).bind fun _ r => .ok (.ask one other b y n) r
def readTr (ws : List (List Nat)) : Nat → List Nat → Res Tr
  | 0, r => readLeaf r
  | m + 1, r => match r with
    | [] => readLeaf []
    | x :: r' => if x = 91 then readAsk (readTr ws m) ws r' else readLeaf (x :: r')
def readTree (ws : List (List Nat)) (l : List Nat) : Res Tr := (readTr ws 100 l).bind fun t r => match r with
  | [] => .ok t []
  | _ => .bad r
def scalesOf (ns : List (List Nat)) : List (List Nat) := ns.flatMap fun n => [T "size " ++ n, T "align " ++ n]
/-- a tree that stands in the heap -/
def TrAt (H : Hp) : Tr → Addr → Prop
  | .leaf, a => H a = some (.tup [.str (S (T "leaf"))])
  | .ask one other b y n, a => ∃ p q, H a = some (.tup [.str (S (T "ask")), .str (S one), .str (S other), .int b, .ref p, .ref q]) ∧ TrAt H y p ∧ TrAt H n q
theorem TrAt.st {K : PySem.W.Frag} {H H' : Hp} (e : Stb K H H') : ∀ {t : Tr} {a : Addr}, TrAt H t a → TrAt H' t a
  | .leaf, a, h => e _ _ h trivial
  | .ask one other b y n, a, h => by
    obtain ⟨p, q, h, hy, hn⟩ := h
    exact ⟨p, q, e _ _ h trivial, TrAt.st e hy, TrAt.st e hn⟩
theorem TrAt.ex {H H' : Hp} (e : Ex H H') : ∀ {t : Tr} {a : Addr}, TrAt H t a → TrAt H' t a
  | .leaf, a, h => e _ _ h
  | .ask one other b y n, a, h => by
    obtain ⟨p, q, h, hy, hn⟩ := h
    exact ⟨p, q, e _ _ h, TrAt.ex e hy, TrAt.ex e hn⟩
def Tr.text : Tr → List Nat
  | .leaf => T "leaf"
  | .ask one other b y n => 91 :: (one ++ (T " - " ++ (other ++ (T " <= " ++ (numI b ++ (T " ? " ++ (y.text ++ (T " : " ++ (n.text ++ [93])))))))))
/-- the numbers are small -/
def Tr.intOk : Tr → Prop
  | .leaf => True
  | .ask _ _ b y n => b.natAbs ≤ 2000 ∧ y.intOk ∧ n.intOk
/-- how deep -/
def Tr.deep : Tr → Nat
  | .leaf => 0
  | .ask _ _ _ y n => max y.deep n.deep + 1
end Mp

set_option maxHeartbeats 8000000
/-! N1: the plain law of machine texts: written and read, spoiled, cut -/
namespace Mp
theorem expects_app : ∀ (w r : List Nat), expects w (w ++ r) = .ok () r
  | [], r => rfl
  | x :: w, r => by
    show (expect x (x :: (w ++ r))).bind _ = _
    rw [expect, if_pos rfl]
    exact expects_app w r
theorem expects_pre : ∀ (a b r : List Nat), expects (a ++ b) (a ++ r) = expects b r
  | [], b, r => rfl
  | x :: a, b, r => by
    show (expect x (x :: (a ++ r))).bind _ = _
    rw [expect, if_pos rfl]
    exact expects_pre a b r
/-- what is put behind is nothing that w wants -/
theorem expects_cut : ∀ (w : List Nat) (i : Nat) (t : List Nat), i < w.length → (∀ x q, t = x :: q → x ∉ w) → expects w (w.take i ++ t) = .bad t
  | [], i, t, h, _ => absurd h (Nat.not_lt_zero _)
  | x :: w, 0, t, _, ht => by
    show (expect x t).bind _ = _
    cases t with
    | nil => rfl
    | cons y q =>
      have hy := ht y q rfl
      rw [expect, if_neg (fun e => hy (by rw [e]; exact List.mem_cons_self))]
      rfl
  | x :: w, i + 1, t, h, ht => by
    show (expect x (x :: (w.take i ++ t))).bind _ = _
    rw [expect, if_pos rfl]
    exact expects_cut w i t (by simpa using h) (fun y q e hm => ht y q e (List.mem_cons_of_mem _ hm))
theorem fig_of {d : Nat} (h : d < 10) : isFig (48 + d) = true := by
  unfold isFig
  simp
  omega
theorem numGo_num {least most : Nat} (hl : least ≤ 1) : ∀ (n : Nat) (rest : List Nat), n ≤ most → (least = 0 ∨ 1 ≤ n) → numGo least most 0 false (numL n ++ rest) = numGo least most n true rest := by
  intro n
  induction n using Nat.strongRecOn with
  | _ n ih =>
    intro rest hm h1
    by_cases hn : n < 10
    · have e : numL n = [48 + n] := TL.numL_lt hn
      rw [e]
      show numGo least most 0 false ((48 + n) :: rest) = _
      rw [numGo, if_pos ⟨fig_of hn, by simp; omega⟩]
      congr 1
      omega
    · have e : numL n = numL (n / 10) ++ [48 + n % 10] := TL.numL_step (by omega)
      rw [e, List.append_assoc, ih (n / 10) (by omega) _ (by omega) (Or.inr (by omega))]
      show numGo least most (n / 10) true ((48 + n % 10) :: rest) = _
      rw [numGo, if_pos ⟨fig_of (Nat.mod_lt _ (by decide)), by omega⟩]
      congr 1
      omega
def NoFig (t : List Nat) : Prop := ∀ x q, t = x :: q → isFig x = false
theorem numGo_stop {least most n : Nat} {t : List Nat} (ht : NoFig t) : numGo least most n true t = .ok n t := by
  cases t with
  | nil => rw [numGo]; rfl
  | cons x q => rw [numGo, if_neg (by rw [ht x q rfl]; simp)]; rfl
theorem numGo_none {least most : Nat} {t : List Nat} (ht : NoFig t) : numGo least most 0 false t = .bad t := by
  cases t with
  | nil => rw [numGo]; rfl
  | cons x q => rw [numGo, if_neg (by rw [ht x q rfl]; simp)]; rfl
theorem numL_take : ∀ (n i : Nat), 1 ≤ i → ∃ v, v ≤ n ∧ (numL n).take i = numL v ∧ (1 ≤ n → 1 ≤ v) := by
  intro n
  induction n using Nat.strongRecOn with
  | _ n ih =>
    intro i hi
    by_cases hn : n < 10
    · have e : numL n = [48 + n] := TL.numL_lt hn
      exact ⟨n, Nat.le_refl _, by rw [e, List.take_of_length_le (by simpa using hi)], fun h => h⟩
    · have e : numL n = numL (n / 10) ++ [48 + n % 10] := TL.numL_step (by omega)
      by_cases hk : i ≤ (numL (n / 10)).length
      · obtain ⟨v, h1, h2, h3⟩ := ih (n / 10) (by omega) i hi
        exact ⟨v, by omega, by rw [e, List.take_append_of_le_length hk, h2], fun _ => h3 (by omega)⟩
      · exact ⟨n, Nat.le_refl _, by rw [List.take_of_length_le (by rw [e, List.length_append]; simp; omega)], fun h => h⟩
theorem numL_pos (n : Nat) : 1 ≤ (numL n).length := by
  have := TL.numL_ne n
  exact List.length_pos_iff.mpr this
/-! ### cuts -/
/-- read as far as t, or not at all beyond it -/
def AtT {α : Type} (t : List Nat) (x : Res α) : Prop := x = .bad t ∨ ∃ v, x = .ok v t
theorem take_app {a b : List Nat} {i : Nat} : (a ++ b).take i = if i ≤ a.length then a.take i else a ++ b.take (i - a.length) := by
  split
  · rename_i h
    exact List.take_append_of_le_length h
  · rename_i h
    rw [List.take_append, List.take_of_length_le (by omega)]
/-- a text read by x wants behind it what f reads -/
theorem cut_expects {β : Type} {w b t : List Nat} {i : Nat} {f : Unit → List Nat → Res β} {P : Res β → Prop} (ht : ∀ x q, t = x :: q → x ∉ w) (hbad : P (.bad t)) (h : w.length ≤ i → P (f () (b.take (i - w.length) ++ t))) : P ((expects w ((w ++ b).take i ++ t)).bind f) := by
  rw [take_app]
  by_cases hi : i < w.length
  · rw [if_pos (by omega), expects_cut w i t hi ht]
    exact hbad
  · by_cases he : i = w.length
    · rw [if_pos (by omega), he, List.take_length, expects_app]
      have := h (by omega)
      rw [he, Nat.sub_self, List.take_zero, List.nil_append] at this
      exact this
    · rw [if_neg (by omega), List.append_assoc, expects_app]
      exact h (by omega)
theorem noFig_take {b t : List Nat} {j : Nat} (hb : NoFig b) (ht : NoFig t) : NoFig (b.take j ++ t) := by
  cases b with
  | nil => rw [List.take_nil]; exact ht
  | cons x q =>
    cases j with
    | zero => exact ht
    | succ j =>
      intro y r e
      rw [List.take_succ_cons] at e
      cases e
      exact hb _ _ rfl
theorem cut_num {β : Type} {least most n : Nat} {b t : List Nat} {i : Nat} {f : Nat → List Nat → Res β} {P : Res β → Prop} (hl : least ≤ 1) (hn : n ≤ most) (h1 : least = 0 ∨ 1 ≤ n) (ht : NoFig t) (hb : NoFig b) (hbad : P (.bad t)) (hpart : ∀ v, v ≤ n → 1 ≤ i → i ≤ (numL n).length → P (f v t)) (h : (numL n).length < i → P (f n (b.take (i - (numL n).length) ++ t))) :
    P ((numGo least most 0 false ((numL n ++ b).take i ++ t)).bind f) := by
  rw [take_app]
  by_cases h0 : i = 0
  · subst h0
    rw [if_pos (Nat.zero_le _), List.take_zero, List.nil_append, numGo_none ht]
    exact hbad
  · by_cases hi : i ≤ (numL n).length
    · rw [if_pos hi]
      obtain ⟨v, hv, e, hv1⟩ := numL_take n i (by omega)
      rw [e, numGo_num hl v t (by omega) (h1.elim Or.inl fun h => Or.inr (hv1 h)), numGo_stop ht]
      exact hpart v hv (by omega) hi
    · rw [if_neg hi, List.append_assoc, numGo_num hl n _ hn h1]
      have hnf : NoFig (b.take (i - (numL n).length) ++ t) := noFig_take hb ht
      rw [numGo_stop hnf]
      exact h (by omega)
/-! ### machine texts, cut -/
theorem Res.assoc {α β γ : Type} (x : Res α) (f : α → List Nat → Res β) (g : β → List Nat → Res γ) : (x.bind f).bind g = x.bind fun v r => (f v r).bind g := by cases x <;> rfl
def expsText : Bool → List (List Nat) → List (Nat × Nat) → List Nat
  | later, n :: ns, p :: ps => (if later then [44, 32] else []) ++ ((n ++ [32]) ++ (numL p.1 ++ ([32] ++ (numL p.2 ++ expsText true ns ps))))
  | _, _, _ => []
def tailLen : List (Nat × Nat) → Nat
  | [] => 0
  | [p] => (numL p.2).length
  | _ :: p :: ps => tailLen (p :: ps)
def OddT (t : List Nat) : Prop := ∀ x q, t = x :: q → isLet x = false ∧ isFig x = false ∧ x ≠ 32 ∧ x ≠ 44
theorem OddT.noFig {t : List Nat} (h : OddT t) : NoFig t := fun x q e => (h x q e).2.1
def Cut {α : Type} (strict : Bool) (t : List Nat) (x : Res α) : Prop := x = .bad t ∨ (strict = false ∧ ∃ v, x = .ok v t)
theorem Cut.map {α β : Type} {strict : Bool} {t : List Nat} {x : Res α} {f : α → β} (h : Cut strict t x) : Cut strict t (x.bind fun v r => .ok (f v) r) := by
  rcases h with rfl | ⟨h, v, rfl⟩
  · exact Or.inl rfl
  · exact Or.inr ⟨h, _, rfl⟩
theorem noFig_exps (ns : List (List Nat)) (ps : List (Nat × Nat)) : NoFig (expsText true ns ps) := by
  intro x q e
  cases ns with
  | nil => cases e
  | cons n ns =>
    cases ps with
    | nil => cases e
    | cons p ps =>
      cases e
      rfl
def psOk (ps : List (Nat × Nat)) : Prop := ∀ p ∈ ps, p.1 ≤ 1000 ∧ p.2 ≤ p.1
theorem exps_cut {strict : Bool} {t : List Nat} (ht : OddT t) : ∀ (ns : List (List Nat)) (ps : List (Nat × Nat)) (later : Bool) (i : Nat), ps.length = ns.length → (∀ n ∈ ns, n.all isLet = true) → psOk ps → (strict = true → ns ≠ [] ∧ i + tailLen ps ≤ (expsText later ns ps).length) →
    Cut strict t (readExps ns later ((expsText later ns ps).take i ++ t))
  | [], [], later, i, _, _, _, hs => by
    refine Or.inr ⟨?_, [], ?_⟩
    · cases strict
      · rfl
      · exact absurd rfl (hs rfl).1
    · show Res.ok [] (([] : List Nat).take i ++ t) = _
      rw [List.take_nil]
      rfl
  | n :: ns, p :: ps, later, i, hl, hn, hp, hs => by
    have hpp := hp p List.mem_cons_self
    have hnn := hn n List.mem_cons_self
    have w1 : ∀ x q, t = x :: q → x ∉ ([44, 32] : List Nat) := fun x q e hm => by
      have := ht x q e
      simp at hm
      rcases hm with rfl | rfl
      · exact this.2.2.2 rfl
      · exact this.2.2.1 rfl
    have w2 : ∀ x q, t = x :: q → x ∉ n ++ [32] := fun x q e hm => by
      have := ht x q e
      rcases List.mem_append.mp hm with hm | hm
      · have h5 := List.all_eq_true.mp hnn x hm
        rw [this.1] at h5
        cases h5
      · exact this.2.2.1 (by simpa using hm)
    have w3 : ∀ x q, t = x :: q → x ∉ ([32] : List Nat) := fun x q e hm => (ht x q e).2.2.1 (by simpa using hm)
    have b1 : NoFig ([32] ++ (numL p.2 ++ expsText true ns ps)) := fun x q e => by cases e; rfl
    have core : ∀ i, (strict = true → i + tailLen (p :: ps) ≤ ((n ++ [32]) ++ (numL p.1 ++ ([32] ++ (numL p.2 ++ expsText true ns ps)))).length) → Cut strict t ((expPart n (((n ++ [32]) ++ (numL p.1 ++ ([32] ++ (numL p.2 ++ expsText true ns ps)))).take i ++ t)).bind fun p r => (readExps ns true r).bind fun ps r => .ok (p :: ps) r) := by
      intro i hs
      unfold expPart
      simp only [Res.assoc]
      refine cut_expects (P := Cut strict t) w2 (Or.inl rfl) fun h1 => ?_
      refine cut_num (P := Cut strict t) (by omega) hpp.1 (Or.inl rfl) ht.noFig b1 (Or.inl rfl) (fun v _ _ _ => Or.inl ?_) fun h2 => ?_
      · have := expects_cut [32] 0 t (by simp) w3
        rw [List.take_zero, List.nil_append] at this
        rw [this]
        rfl
      refine cut_expects (P := Cut strict t) w3 (Or.inl rfl) fun h3 => ?_
      have hb := noFig_exps ns ps
      refine cut_num (P := Cut strict t) (by omega) hpp.2 (Or.inl rfl) ht.noFig hb (Or.inl rfl) (fun v _ h4 h5 => ?_) fun h4 => ?_
      · show Cut strict t ((readExps ns true t).bind fun ps r => .ok ((p.1, v) :: ps) r)
        cases ns with
        | nil =>
          cases ps with
          | nil =>
            refine Or.inr ⟨?_, _, rfl⟩
            cases strict with
            | false => rfl
            | true =>
              have := hs rfl
              simp only [tailLen, expsText, List.length_append, List.length_cons, List.length_nil] at this h1 h2 h3 h4
              omega
          | cons p2 ps => simp at hl
        | cons n2 ns =>
          refine Or.inl ?_
          have := expects_cut [44, 32] 0 t (by simp) w1
          rw [List.take_zero, List.nil_append] at this
          rw [readExps, if_pos rfl, this]
          rfl
      · refine Cut.map (exps_cut ht ns ps true _ (by simpa using hl) (fun m hm => hn m (List.mem_cons_of_mem _ hm)) (fun q hq => hp q (List.mem_cons_of_mem _ hq)) fun h => ?_)
        have h6 := hs h
        cases ns with
        | nil =>
          cases ps with
          | nil =>
            simp only [tailLen, expsText, List.length_append, List.length_cons, List.length_nil] at h6 h1 h2 h3 h4
            omega
          | cons p2 ps => simp at hl
        | cons n2 ns =>
          cases ps with
          | nil => simp at hl
          | cons p2 ps =>
            refine ⟨List.cons_ne_nil _ _, ?_⟩
            have e7 : tailLen (p :: p2 :: ps) = tailLen (p2 :: ps) := rfl
            rw [e7] at h6
            simp only [List.length_append, List.length_cons, List.length_nil] at h6 h1 h2 h3 h4 ⊢
            omega
    rw [readExps]
    cases later with
    | false => exact core i fun h => (hs h).2
    | true =>
      rw [if_pos rfl]
      refine cut_expects (w := [44, 32]) (P := Cut strict t) w1 (Or.inl rfl) fun h1 => core _ fun h => ?_
      have h2 := (hs h).2
      have e : (expsText true (n :: ns) (p :: ps)).length = 2 + ((n ++ [32]) ++ (numL p.1 ++ ([32] ++ (numL p.2 ++ expsText true ns ps)))).length := by
        show ([44, 32] ++ _).length = _
        rw [List.length_append]
        rfl
      rw [e] at h2
      have l2 : ([44, 32] : List Nat).length = 2 := rfl
      rw [l2] at h1 ⊢
      omega
theorem Res.ok_bind {α β : Type} (v : α) (r : List Nat) (f : α → List Nat → Res β) : (Res.ok v r).bind f = f v r := rfl
theorem exps_ok : ∀ (ns : List (List Nat)) (ps : List (Nat × Nat)) (later : Bool) (rest : List Nat), ps.length = ns.length → psOk ps → NoFig rest → readExps ns later (expsText later ns ps ++ rest) = .ok ps rest
  | [], [], later, rest, _, _, _ => rfl
  | n :: ns, p :: ps, later, rest, hl, hp, hr => by
    have hpp := hp p List.mem_cons_self
    have hb : NoFig (expsText true ns ps ++ rest) := by
      have := noFig_take (j := (expsText true ns ps).length) (noFig_exps ns ps) hr
      rwa [List.take_length] at this
    have b1 : NoFig ([32] ++ (numL p.2 ++ (expsText true ns ps ++ rest))) := fun x q e => by cases e; rfl
    have core : (expPart n ((n ++ [32]) ++ (numL p.1 ++ ([32] ++ (numL p.2 ++ (expsText true ns ps ++ rest)))))).bind (fun p r => (readExps ns true r).bind fun ps r => .ok (p :: ps) r) = .ok (p :: ps) rest := by
      unfold expPart
      simp only [Res.assoc]
      rw [expects_app, Res.ok_bind, numGo_num (by omega) _ _ hpp.1 (Or.inl rfl), numGo_stop b1, Res.ok_bind, expects_app, Res.ok_bind, numGo_num (by omega) _ _ hpp.2 (Or.inl rfl), numGo_stop hb, Res.ok_bind, Res.ok_bind,
        exps_ok ns ps true rest (by simpa using hl) (fun q hq => hp q (List.mem_cons_of_mem _ hq)) hr, Res.ok_bind]
    rw [readExps]
    cases later with
    | false =>
      have e : expsText false (n :: ns) (p :: ps) ++ rest = (n ++ [32]) ++ (numL p.1 ++ ([32] ++ (numL p.2 ++ (expsText true ns ps ++ rest)))) := by
        show ([] ++ _) ++ rest = _
        simp
      rw [e]
      exact core
    | true =>
      have e : expsText true (n :: ns) (p :: ps) ++ rest = [44, 32] ++ ((n ++ [32]) ++ (numL p.1 ++ ([32] ++ (numL p.2 ++ (expsText true ns ps ++ rest))))) := by
        show ([44, 32] ++ _) ++ rest = _
        simp
      rw [e, if_pos rfl, expects_app]
      exact core
theorem joinL_cons2 (s a b : List Nat) (l : List (List Nat)) : TL.joinL s (a :: b :: l) = a ++ (s ++ TL.joinL s (b :: l)) := rfl
theorem face_true : ∀ (ns : List (List Nat)) (ps : List (Nat × Nat)), ps.length = ns.length → ns ≠ [] → [44, 32] ++ face ns ps = expsText true ns ps
  | n :: ns, p :: ps, hl, _ => by
    cases ns with
    | nil =>
      cases ps with
      | nil =>
        show [44, 32] ++ TL.joinL [44, 32] [lineOf n p] = _
        show [44, 32] ++ lineOf n p = _
        unfold lineOf
        simp [expsText]
      | cons q ps => simp at hl
    | cons m ns =>
      cases ps with
      | nil => simp at hl
      | cons q ps =>
        have ih := face_true (m :: ns) (q :: ps) (by simpa using hl) (List.cons_ne_nil _ _)
        have e : face (n :: m :: ns) (p :: q :: ps) = lineOf n p ++ ([44, 32] ++ face (m :: ns) (q :: ps)) := rfl
        rw [e, ih]
        unfold lineOf
        show _ = [44, 32] ++ ((n ++ [32]) ++ (numL p.1 ++ ([32] ++ (numL p.2 ++ expsText true (m :: ns) (q :: ps)))))
        simp
theorem face_eq {ns : List (List Nat)} {ps : List (Nat × Nat)} (hl : ps.length = ns.length) (hn : ns ≠ []) : face ns ps = expsText false ns ps := by
  have h := face_true ns ps hl hn
  cases ns with
  | nil => exact absurd rfl hn
  | cons n ns =>
    cases ps with
    | nil => simp at hl
    | cons p ps =>
      have h2 : [44, 32] ++ face (n :: ns) (p :: ps) = [44, 32] ++ expsText false (n :: ns) (p :: ps) := h
      exact List.append_cancel_left h2
/-! ### the law of machine texts -/
theorem mach_ok {ns : List (List Nat)} {ps : List (Nat × Nat)} (hl : ps.length = ns.length) (hn : ns ≠ []) (hp : psOk ps) : readMach ns (face ns ps) = .ok ps [] := by
  unfold readMach
  have h := exps_ok ns ps false [] hl hp (fun x q e => by cases e)
  rw [List.append_nil, ← face_eq hl hn] at h
  rw [h]
  rfl
theorem mach_more {ns : List (List Nat)} {ps : List (Nat × Nat)} {t : List Nat} (hl : ps.length = ns.length) (hn : ns ≠ []) (hp : psOk ps) (ht : NoFig t) (h0 : t ≠ []) : readMach ns (face ns ps ++ t) = .bad t := by
  unfold readMach
  rw [face_eq hl hn, exps_ok ns ps false t hl hp ht]
  cases t with
  | nil => exact absurd rfl h0
  | cons x t => rfl
theorem mach_bent {ns : List (List Nat)} {ps : List (Nat × Nat)} {t : List Nat} {i : Nat} (hl : ps.length = ns.length) (hn : ns ≠ []) (hw : ∀ n ∈ ns, n.all isLet = true) (hp : psOk ps) (ht : OddT t) (h0 : t ≠ []) : readMach ns ((face ns ps).take i ++ t) = .bad t := by
  unfold readMach
  rw [face_eq hl hn]
  rcases exps_cut (strict := false) ht ns ps false i hl hw hp (fun h => nomatch h) with h | ⟨_, v, h⟩
  · rw [h]; rfl
  · rw [h]
    cases t with
    | nil => exact absurd rfl h0
    | cons x t => rfl
theorem mach_less {ns : List (List Nat)} {ps : List (Nat × Nat)} {i : Nat} (hl : ps.length = ns.length) (hn : ns ≠ []) (hw : ∀ n ∈ ns, n.all isLet = true) (hp : psOk ps) (hi : i + tailLen ps ≤ (face ns ps).length) : readMach ns ((face ns ps).take i) = .bad [] := by
  unfold readMach
  rw [face_eq hl hn] at hi ⊢
  rcases exps_cut (strict := true) (t := []) (fun x q e => by cases e) ns ps false i hl hw hp (fun _ => ⟨hn, hi⟩) with h | ⟨h, _⟩
  · rw [List.append_nil] at h
    rw [h]; rfl
  · cases h
end Mp

set_option maxHeartbeats 8000000
/-! Kw1: more short rules: extend, dicts -/
namespace Mp
open PySem PySem.Spec PyProof.Rows L2
section
variable {X : Cx} {K : PySem.W.Frag} {o e : Expr} {to te : TE} {apos cpos : Pos}
theorem k_extend (h : X.K = K) (ho : PE X o to) (he : PE X e te) (hbase : attributeBase o "extend" X.env (eval o X.env) = eval o X.env := by rfl)
    (hfew : ((backTo cpos (starEach [e] X.env)).all (fun x => !x.1) && (backToKw cpos (keywordEach [] X.env)).all (fun x => x.1.isSome)
      && decide ([e].length + ([] : List Keyword).length + (if ([] : List Keyword).isEmpty then 0 else 1) < 30)) = true := by rfl)
    (hline : (apos.endLine == cpos.line) = true := by rfl) (hs : starEach [e] X.env = [(false, eval e X.env)] := by rfl) (hplain : (backTo cpos (starEach [] X.env)).any (·.1) = false := by rfl) :
    PE X (.Call (.Attribute o "extend" apos) [e] [] cpos) (tBM K "list" rExtend to (tCons te tNil)) := by
  subst h
  exact pe_bm PySem.F.plainAttrs_list PySem.F.slot_list_extend PySem.F.type_list_extend mt_extend ho (pa_cons he pa_nil hs) hbase hfew hline hs hplain
end
theorem lt64 {a : Nat} (h : a + 64 < cLine) : a + 1 < cLine := by omega
/-! ### dicts with text keys -/
def kvsOf (ns : List (List Nat)) (as : List Addr) : List (Key × V) := (ns.zip as).map fun x => (Sum.inr (S x.1), V.ref x.2)
theorem valV_kvs_none : ∀ {ns : List (List Nat)} {as : List Addr} {n : List Nat}, n ∉ ns → valV (kvsOf ns as) (Sum.inr (S n)) = none
  | [], _, _, _ => rfl
  | m :: ns, [], _, _ => rfl
  | m :: ns, a :: as, n, h => by
    have h1 : m ≠ n := fun e => h (by rw [e]; exact List.mem_cons_self)
    have h2 : n ∉ ns := fun e => h (List.mem_cons_of_mem _ e)
    exact (valV_neg (by simpa [S_inj] using h1)).trans (valV_kvs_none h2)
theorem valV_kvs : ∀ {ns : List (List Nat)} {as : List Addr} {i : Nat} {n : List Nat} {a : Addr}, ns.Nodup → ns[i]? = some n → as[i]? = some a → valV (kvsOf ns as) (Sum.inr (S n)) = some (.ref a)
  | m :: ns, b :: as, 0, n, a, _, h1, h2 => by
    cases h1
    cases h2
    exact valV_pos rfl
  | m :: ns, b :: as, i + 1, n, a, hd, h1, h2 => by
    have hm := (List.nodup_cons.mp hd).1
    have h3 : n ∈ ns := List.mem_of_getElem? h1
    exact (valV_neg (by
      have : m ≠ n := fun e => hm (by rw [e]; exact h3)
      simpa [S_inj] using this)).trans (valV_kvs (i := i) (List.nodup_cons.mp hd).2 h1 h2)
theorem kvs_snoc {ns : List (List Nat)} {as : List Addr} {n : List Nat} {a : Addr} (hl : as.length = ns.length) (hn : n ∉ ns) : putK (kvsOf ns as) (Sum.inr (S n)) (.ref a) = kvsOf (ns ++ [n]) (as ++ [a]) := by
  rw [putK_new _ (valV_kvs_none hn)]
  unfold kvsOf
  rw [List.zip_append hl.symm, List.map_append]
  rfl
theorem kvs_len {ns : List (List Nat)} {as : List Addr} (hl : as.length = ns.length) : (kvsOf ns as).length = ns.length := by
  unfold kvsOf
  rw [List.length_map, List.length_zip]
  omega
/-- the dict at a: the names ns, to pairs of numbers -/
def DictAt (H : Hp) (a : Addr) (ns : List (List Nat)) (ps : List (Nat × Nat)) : Prop :=
  ∃ as : List Addr, as.length = ns.length ∧ ps.length = ns.length ∧ H a = some (.dK (kvsOf ns as)) ∧ ∀ (i : Nat) (b : Addr) (p : Nat × Nat), as[i]? = some b → ps[i]? = some p → H b = some (.tup [.int ((p.1 : Nat) : Int), .int ((p.2 : Nat) : Int)])
theorem DictAt.ex {H H' : Hp} {a : Addr} {ns : List (List Nat)} {ps : List (Nat × Nat)} (e : Ex H H') (h : DictAt H a ns ps) : DictAt H' a ns ps := by
  obtain ⟨as, h1, h2, h3, h4⟩ := h
  exact ⟨as, h1, h2, e _ _ h3, fun i b p hb hp => e _ _ (h4 i b p hb hp)⟩
theorem DictAt.put {H : Hp} {a : Addr} {ns : List (List Nat)} {ps : List (Nat × Nat)} {n : List Nat} {b : Addr} {p : Nat × Nat} (hab : a ≠ b) (hn : n ∉ ns) (h : DictAt H a ns ps) (hb : H b = some (.tup [.int ((p.1 : Nat) : Int), .int ((p.2 : Nat) : Int)])) :
    ∃ kvs, H a = some (.dK kvs) ∧ kvs.length = ns.length ∧ DictAt (upd H a (.dK (putK kvs (Sum.inr (S n)) (.ref b)))) a (ns ++ [n]) (ps ++ [p]) := by
  obtain ⟨as, h1, h2, h3, h4⟩ := h
  refine ⟨_, h3, kvs_len h1, as ++ [b], by simp [h1], by simp [h2], ?_, fun i b2 p2 hb2 hp2 => ?_⟩
  · rw [upd_same, kvs_snoc h1 hn]
  · by_cases hi : i < as.length
    · rw [List.getElem?_append_left hi] at hb2
      rw [List.getElem?_append_left (by omega)] at hp2
      have h5 := h4 i b2 p2 hb2 hp2
      rw [upd_ne (fun e => by rw [e, h3] at h5; cases h5)]
      exact h5
    · have hi2 : i = as.length := by
        have := (List.getElem?_eq_some_iff.mp hb2).1
        simp at this
        omega
      subst hi2
      rw [List.getElem?_append_right (by omega), Nat.sub_self] at hb2
      rw [List.getElem?_append_right (by omega), show as.length - ps.length = 0 by omega] at hp2
      cases hb2
      cases hp2
      rw [upd_ne (Ne.symm hab)]
      exact hb
end Mp

set_option maxHeartbeats 8000000
/-! Kw2: a comprehension of two fors, the inner one over tuples -/
namespace Mp
open PySem PySem.Spec PyProof.Rows L2
theorem SqT.put {K : PySem.W.Frag} {H : Hp} {b D : Addr} {xs ys : List V} {o : HO} (hD : H D = some (.lst xs)) (h : SqT K H b ys) : SqT K (upd H D o) b ys := by
  rcases h with (h | ⟨o2, h⟩) | h
  · exact Or.inl (Or.inl (by rw [upd_ne (fun z => by rw [z, hD] at h; cases h)]; exact h))
  · exact Or.inl (Or.inr ⟨o2, by rw [upd_ne (fun z => by rw [z, hD] at h; cases h)]; exact h⟩)
  · exact Or.inr h
theorem lc2_tups {K : PySem.W.Frag} {a : Addr} {xs : List V} {yss : List (List V)} {tl te1 : TE} {i0 i1 : Nat} {σ : L2.St} {H : Hp} {Q : VK} (ht : ∀ R : V → Hp → Prop, R (.ref a) H → tl σ H R) (hl : SqL K H a xs) (hlen : yss.length = xs.length) (hz : yss.flatten.length ≤ 16777215)
    (w1 : ∀ x : V, wipe ((wipe σ [i0, i1]).set i0 (some x)) [i0, i1] = wipe σ [i0, i1]) (w2 : ∀ x y : V, ((wipe ((wipe σ [i0, i1]).set i0 (some x)) [i1]).set i1 (some y))[i1]? = some (some y))
    (hs : ∀ (i : Nat) (x : V) (ys : List V) (H' : Hp) (R : V → Hp → Prop), xs[i]? = some x → yss[i]? = some ys → Ex H H' → (∀ b, SqT K H' b ys → R (.ref b) H') → te1 ((wipe σ [i0, i1]).set i0 (some x)) H' R)
    (hq : ∀ D H', Ex H H' → H D = none → H' D = some (.lst yss.flatten) → Q (.ref D) H') : tLc2 (iList K tl) (gName i0) tYes (iTup K te1) (gName i1) tYes (tVar i1) [i0, i1] [i1] σ H Q := by
  refine ht _ ⟨a, rfl, ⟨xs, hl⟩, fun D hD => ?_⟩
  refine ⟨fun i m H' => i ≤ xs.length ∧ m = xs.length - i ∧ Ex H H' ∧ H' D = some (.lst (yss.take i).flatten), ⟨_, Nat.zero_le _, rfl, Ex.new hD, by rw [upd_same]; rfl⟩, fun i m H' ⟨h1, h2, e, hd⟩ => ?_⟩
  by_cases hi : i = xs.length
  · subst hi
    refine Or.inl ⟨⟨xs, Ex.l e hl, Nat.le_refl _⟩, hq D H' e hD ?_⟩
    rw [hd, ← hlen, List.take_length]
  · have hlt : i < xs.length := by omega
    refine Or.inr ⟨⟨xs, _, Ex.l e hl, List.getElem?_eq_getElem hlt⟩, fun H' => i + 1 ≤ xs.length ∧ Ex H H' ∧ H' D = some (.lst (yss.take (i + 1)).flatten), fun H' h => ⟨xs.length - (i + 1), by omega, h.1, rfl, h.2⟩, ?_⟩
    rintro x H2 ⟨rfl, hx⟩
    have hx := hx xs (Ex.l e hl)
    refine ⟨w1 x, ?_⟩
    obtain ⟨ys, hys⟩ : ∃ ys, yss[i]? = some ys := ⟨_, List.getElem?_eq_getElem (by omega)⟩
    have hyi : yss[i]'(by omega) = ys := by
      obtain ⟨_, q⟩ := List.getElem?_eq_some_iff.mp hys
      exact q
    have htk : (yss.take (i + 1)).flatten = (yss.take i).flatten ++ ys := by
      rw [List.take_succ_eq_append_getElem (by omega), List.flatten_append, hyi]
      simp
    have hle : ((yss.take i).flatten ++ ys).length ≤ yss.flatten.length := by
      rw [← htk]
      have h5 : yss.flatten = (yss.take (i + 1)).flatten ++ (yss.drop (i + 1)).flatten := by
        rw [← List.flatten_append, List.take_append_drop]
      rw [h5, List.length_append]
      omega
    refine hs i x ys _ _ hx hys e fun b hb => ?_
    refine ⟨b, rfl, ⟨_, hb⟩, fun j k H3 => j ≤ ys.length ∧ k = ys.length - j ∧ Ex H H3 ∧ SqT K H3 b ys ∧ H3 D = some (.lst ((yss.take i).flatten ++ ys.take j)), ⟨_, Nat.zero_le _, rfl, e, hb, by rw [hd]; simp⟩, fun j k H3 ⟨j1, j2, e3, hb3, hd3⟩ => ?_⟩
    by_cases hj : j = ys.length
    · subst hj
      refine Or.inl ⟨⟨_, hb3, Nat.le_refl _⟩, hlt, e3, ?_⟩
      rw [hd3, List.take_length, htk]
    · have hjl : j < ys.length := by omega
      refine Or.inr ⟨⟨_, _, hb3, List.getElem?_eq_getElem hjl⟩, fun H4 => j + 1 ≤ ys.length ∧ Ex H H4 ∧ SqT K H4 b ys ∧ H4 D = some (.lst ((yss.take i).flatten ++ ys.take (j + 1))), fun H4 h => ⟨ys.length - (j + 1), by omega, h.1, rfl, h.2⟩, ?_⟩
      rintro y H4 ⟨rfl, hy⟩
      have hy := hy _ hb3
      refine ⟨by simp [wipe], ?_⟩
      refine ⟨y, w2 x y, _, hd3, ?_, hjl, Ex.mut e3 hD, ?_, ?_⟩
      · rw [List.length_append] at hle ⊢
        rw [List.length_take, sizeLine_eq]
        omega
      · exact SqT.put hd3 hb3
      · rw [upd_same, List.append_assoc, take_snoc hy]
end Mp
namespace Mp
open PySem PySem.Spec PyProof.Rows L2
/-- [x for x in xs if ..]: some of the items -/
theorem lc_filtL {K : PySem.W.Frag} {a : Addr} {xs : List V} {g : TG} {tt : TT} {te tl : TE} {vs : List Nat} {σ : L2.St} {H : Hp} {Q : VK} (p : V → Bool) (ht : ∀ R : V → Hp → Prop, R (.ref a) H → tl σ H R) (hz : xs.length ≤ 16777215) (hl : SqL K H a xs)
    (hs : ∀ (x : V) (H' : Hp) (R : V → Hp → Prop) (R0 : Hp → Prop), x ∈ xs → Ex H H' → (p x = true → R x H') → (p x = false → R0 H') → g x (wipe σ vs) H' fun σ2 H2 => wipe σ2 vs = wipe σ vs ∧ tt σ2 H2 fun b H3 => if b = true then te σ2 H3 R else R0 H3)
    (hq : ∀ D H', Ex H H' → H D = none → H' D = some (.lst (xs.filter p)) → Q (.ref D) H') : tLc (iList K tl) g tt te vs σ H Q := by
  refine ht _ ⟨a, rfl, ⟨xs, hl⟩, fun D hD => ?_⟩
  refine lc_list (xs := xs) (Qd := fun H => Q (.ref D) H) (fun i H' => Ex H H' ∧ H' D = some (.lst ((xs.take i).filter p))) ⟨Ex.new hD, by rw [upd_same]; rfl⟩ (fun i H' _ q => Ex.l q.1 hl) (fun i x H' hx q => ?_) (fun H' q => ?_)
  · have hi := (List.getElem?_eq_some_iff.mp hx).1
    refine hs x H' _ _ (List.mem_of_getElem? hx) q.1 (fun hp => ⟨_, q.2, ?_, Ex.mut q.1 hD, ?_⟩) (fun hp => ⟨q.1, ?_⟩)
    · have h1 := List.length_filter_le p (xs.take i)
      rw [List.length_take] at h1
      rw [sizeLine_eq]
      omega
    · rw [upd_same, ← take_snoc hx, List.filter_append]
      simp [hp]
    · rw [q.2, ← take_snoc hx, List.filter_append]
      simp [hp]
  · refine hq D H' q.1 hD ?_
    have h2 := q.2
    rwa [List.take_length] at h2
end Mp

set_option maxHeartbeats 8000000
/-! Kw3: str(o) by an own __str__; a == b by an own __eq__; tuples of the same things; a class held by a local name -/
namespace Mp
open PySem PySem.Spec PyProof.Rows L2
section
open PySem.W
variable {prog : Program} {w : World} {A : Around} {E : Value → Shared → Prop} {s : Shared} {K : PySem.W.Frag} {x C f : Addr} {ox : Obj} {od : Option Obj}
/-- str(o), o's class with its own __str__ -/
theorem str_own {Q : Value → Shared → Prop} (hu : A.in1.in1.units < cLine) (X : K.In s.heap) (I : PySem.W.InstAt s.heap x ox C od) (hs : findIn K (.ref C) "__str__" = some (some (.ref f))) (hf : typeIn K (.ref f) = some (.type "function"))
    (hc : wpAny (model prog w) A.in1.in1 (call (.ref f) [.ref x]) (StrBack Q) E s) : wpAny (model prog w) A (call (.type "str") [.ref x]) Q E s :=
  PySem.W.kso_call hu X I hs (beq_iff_eq.mpr hf) hc
end
section
variable {X : Cx} {pins : List (Addr × Obj)} {σ : L2.St} {H : Hp} {s : Shared}
/-- a promise run two builtins deeper -/
theorem run_fn2 {k : Nat} {f : Addr} {sp : Sp} {E : XK} {Q : VK} {us : List Value} {vs : List V} (F : FnR X.prog X.w X.K X.mg X.base (L2.CX X.prog X.w) k f sp) (hr : Room (k + 2) X.A) (hx : Passes (L2.CX X.prog X.w) X E) (I : Inv X pins σ H s) (r : Vals vs us) (h : sp vs H Q E) :
    wpAny (model X.prog X.w) X.A.in1.in1 (call (.ref f) us) (EP X pins σ Q) X.xe s := by
  refine wpAny_call (codeAny_mono (F X.A.in1.in1 X.stack s H us vs Q E hr.in1.in1 I.env0.in1.in1 r h) fun r s' hq => ?_)
  cases r with
  | error e => exact hx pins σ H s e s' I hq
  | ok fl =>
    cases fl with
    | ret u => exact I.after hq
    | next => exact False.elim hq
    | brk => exact False.elim hq
    | cont => exact False.elim hq
/-- str(o): o of a class with its own __str__ at f, which keeps sp -/
theorem call_strI {K : PySem.W.Frag} {k : Nat} {E : XK} (hK : X.K = K) (hr : Room (k + 2) X.A) (hx : Passes (L2.CX X.prog X.w) X E) :
    CallR X (.type "str") (fun xs H Q => ∃ a C dx fs f sp, xs = [.ref a] ∧ H a = some (.ins C dx fs) ∧ PySem.W.findIn K (.ref C) "__str__" = some (some (.ref f)) ∧ PySem.W.typeIn K (.ref f) = some (.type "function") ∧
      FnR X.prog X.w X.K X.mg X.base (L2.CX X.prog X.w) k f sp ∧ sp [.ref a] H (fun v H' => ∃ y, v = .str y ∧ Q v H') E) := by
  subst hK
  intro pins s σ H xs us Q I r h
  obtain ⟨a, C, dx, fs, f, sp, rfl, hi, h1, h2, F, h⟩ := h
  obtain ⟨u, rfl, ru⟩ := vals1 r
  cases ru
  obtain ⟨mA, J, _⟩ := ins_get I.hok hi
  obtain ⟨od, J, _⟩ := J.look
  refine str_own (by have := hr.in1.in1.units0; exact this) I.kIn J h1 h2 (thn (run_fn2 (us := [.ref a]) (vs := [.ref a]) F hr hx I (.cons rfl .nil) h) fun v s1 ⟨x, H1, I1, rx, y, ey, q⟩ => ?_)
  subst ey
  obtain ⟨t, rfl⟩ := id rx
  exact ⟨.str y, H1, I1, rx, q⟩
/-- a == b: instances of one class with its own __eq__ at f, which keeps sp; the answer is a bool -/
theorem op_eqI {K : PySem.W.Frag} {k : Nat} {E : XK} (hK : X.K = K) (hr : Room k X.A) (hx : Passes (L2.CX X.prog X.w) X E) :
    OpR X (compareOp .Eq) (fun x y H Q => ∃ a b C dx dy fs gs f sp, x = .ref a ∧ y = .ref b ∧ H a = some (.ins C dx fs) ∧ H b = some (.ins C dy gs) ∧ PySem.W.findIn K (.ref C) "__eq__" = some (some (.ref f)) ∧ PySem.W.isFn K (.ref f) = true ∧
      FnR X.prog X.w X.K X.mg X.base (L2.CX X.prog X.w) k f sp ∧ sp [.ref a, .ref b] H (fun v H' => ∃ c, v = .bl c ∧ Q v H') E) := by
  subst hK
  intro pins s σ H x y v u Q I rx ry h
  obtain ⟨a, b, C, dx, dy, fs, gs, f, sp, rfl, rfl, ha, hb, h1, h2, F, h⟩ := h
  cases rx
  cases ry
  obtain ⟨mA, J, _⟩ := ins_get I.hok ha
  obtain ⟨mB, J', _⟩ := ins_get I.hok hb
  obtain ⟨od, J, _⟩ := J.look
  obtain ⟨od', J', _⟩ := J'.look
  obtain ⟨m, hF⟩ := I.fr
  show wpAny (model X.prog X.w) X.A (richCompare .Eq (.ref a) (.ref b)) (EP X pins σ Q) X.xe s
  refine PySem.W.cmp_K (op := .Eq) (tb := .ref C) hr.units0 hF I.ok.mod.kin J J'.type (by simp [PySem.W.notFirst]) h1 h2 ?_
  refine thn (wpAny_call (run_fnR (us := [.ref a, .ref b]) (vs := [.ref a, .ref b]) F hr hx I (.cons rfl (.cons rfl .nil)) h)) fun w s1 ⟨z, H1, I1, rz, c, ez, q⟩ => ?_
  subst ez
  cases rz
  exact ⟨.bl c, H1, I1, rfl, q⟩
end
/-! ### == of tuples that hold the same things -/
def DSame : Eqv := fun x y _ => ∃ a, x = .ref a ∧ y = .ref a
theorem eqG_same {X : Cx} : EqG X 0 DSame := by
  intro A pins s σ H x y u v sb I rx ry ⟨a, e1, e2⟩
  subst e1 e2
  cases rx
  cases ry
  exact SeqAt.EqAt.same _ _ _ _ _ ⟨rfl, H, I, Ext.rfl'⟩
theorem mon_same : Mon DSame := fun _ _ _ _ _ d => d
def rEqSame (K : PySem.W.Frag) : R2 := fun x y H Q => ∃ a b xs, x = .ref a ∧ y = .ref b ∧ SqT K H a xs ∧ SqT K H b xs ∧ (∀ v ∈ xs, ∃ c, v = .ref c) ∧ ∀ H', Ex H H' → Q (.bl true) H'
theorem k_eqSame {X : Cx} {K : PySem.W.Frag} (h : X.K = K) {k : Nat} (hr : Room (k + 1) X.A) : OpR X (compareOp .Eq) (rEqSame K) := by
  subst h
  intro pins s σ H x y v u Q I rx ry ⟨a, b, xs, e1, e2, h1, h2, h3, q⟩
  refine op_eqG (rcG_tup mon_same eqG_same) (hr.mono (by omega)) pins s σ H x y v u Q I rx ry ⟨⟨a, b, xs, xs, e1, e2, h1, h2, rfl, fun i x y hx hy => ?_⟩, q⟩
  rw [hx] at hy
  cases hy
  obtain ⟨c, rfl⟩ := h3 x (List.mem_of_getElem? hx)
  exact ⟨c, rfl, rfl⟩
/-- two lists of the same plain items -/
def rEqFlatL : R2 := fun x y H Q => ∃ a b xs, x = .ref a ∧ y = .ref b ∧ H a = some (.lst xs) ∧ H b = some (.lst xs) ∧ (∀ v ∈ xs, flatV v = true ∧ eqV v v = true) ∧ ∀ H', Ex H H' → Q (.bl true) H'
theorem k_eqFlatL {X : Cx} {k : Nat} (hr : Room (k + 1) X.A) : OpR X (compareOp .Eq) rEqFlatL := by
  intro pins s σ H x y v u Q I rx ry ⟨a, b, xs, e1, e2, h1, h2, h3, q⟩
  refine op_eqG (rcG_list mon_flat eqG_flat) (hr.mono (by omega)) pins s σ H x y v u Q I rx ry ⟨⟨a, b, xs, xs, e1, e2, h1, h2, rfl, fun i x y hx hy => ?_⟩, q⟩
  rw [hx] at hy
  cases hy
  have := h3 x (List.mem_of_getElem? hx)
  exact ⟨this.1, this.1, this.2⟩
/-! ### a class that a local name holds -/
def tMakeL (i : Nat) (C : Addr) (sp : Sp) (E : XK) (t : TA) : TE := fun σ H Q => σ[i]? = some (some (.ref C)) ∧ StX.tMakeR C sp E t σ H Q
theorem pe_mkL {X : Cx} {x0 x : Str} {C : Addr} {k k0 i : Nat} {sp : Sp} {E : XK} {p pos : Pos} {e : Expr} {es : List Expr} {t : TA} (F : Cmk X.prog X.w X.K X.mg X.base x0 C k sp) (hr : Room k0 X.A) (hN : X.N[i]? = some x) (hv : Vis X.env.scope x) (hx : Passes (L2.CX X.prog X.w) X E) (ha : PA X (e :: es) t) (hk : k + 1 ≤ k0 := by decide)
    (hdb : (x == ("__debug__" : Str)) = false := by decide) (hcd : (x == ("__classdict__" : Str)) = false := by decide)
    (he : starEach (e :: es) X.env = (false, eval e X.env) :: starEach es X.env := by rfl) (hpl : (backTo pos (starEach es X.env)).any (·.1) = false := by rfl) :
    PE X (.Call (.Name x p) (e :: es) [] pos) (tMakeL i C sp E t) := by
  obtain ⟨f, G, hm, M⟩ := F.ex
  refine ⟨fun pins s σ H Q I h => ?_⟩
  obtain ⟨hs, ht⟩ := h
  refine wpAny_Call_Name_kw (thn ((pe_var (pos := p) hN hv hdb hcd).run pins s σ H (fun v H1 => v = .ref C ∧ H1 = H) I ⟨.ref C, hs, rfl, rfl⟩) fun u s1 ⟨v, H1, I1, r1, q1⟩ => ?_)
  obtain ⟨rfl, rfl⟩ := q1
  cases r1
  refine PySem.W.callWith_K (h₀ := X.base) I.ok.mod.kin M.kp (thn (ha.run pos pins s1 σ _ _ I1 ht) fun us s2 ⟨vs, H2, I2, r, q⟩ => ⟨I2.kIn, ?_⟩) he hpl
  exact StX.run_makeR M G (hr.mono hk) hx I2 r q
end Mp

set_option maxHeartbeats 8000000
/-! Kw4: zip of a tuple and two lists -/
namespace PySem
open Sem (wp)
open RZ (nextOf_tuple_item nextOf_tuple_end)
abbrev IsTrip (h : Heap) (T : Addr) (a b c : Value) : Prop := h.get? T = some { cls := .type "tuple", data := .seq #[a, b, c] }
theorem aq {n i j : Nat} (h : i ≠ j) : n + i ≠ n + j := by omega
theorem aq0 {n i : Nat} (h : 0 < i) : n ≠ n + i := by omega
theorem aql {n l i : Nat} (h : l < n) : l ≠ n + i := by omega
section
variable {prog : Program} {w : World} {A : Around} {E : Value → Shared → Prop} {s : Shared}
theorem wpAny_updateSeq_trip {T : Addr} {a b c x : Value} {k : Nat} {Q : Unit → Shared → Prop} (hT : IsTrip s.heap T a b c)
    (h : ∀ h', h'.get? T = some { cls := .type "tuple", data := .seq ((#[a, b, c] : Array Value).setIfInBounds k x) } → Heap.SameBut T s.heap h' → Q () { s with heap := h' }) :
    wpAny (model prog w) A (updateSeq T (·.setIfInBounds k x)) Q E s := by
  refine wpAny_updateSeq hT rfl (h _ ?_ (Heap.SameBut.update ..))
  rw [Heap.get?_update_self _ hT rfl]
  simp [Obj.mapSeq]
theorem zip3_next_item {n l1 l2 l3 : Addr} {k : Nat} {xs ys zs : Array Value} {x y v a b c : Value} {Q : Value → Shared → Prop} (d1 : l1 < n) (d2 : l2 < n) (d3 : l3 < n)
    (hz : IsZip s.heap (n + 5) (n + 3) (n + 4) .none) (hTI : IsTrip s.heap (n + 3) (.ref n) (.ref (n + 1)) (.ref (n + 2))) (hTO : IsTrip s.heap (n + 4) a b c)
    (h1 : s.heap.IsTupleIter n l1 k) (h2 : s.heap.IsListIter (n + 1) l2 k) (h3 : s.heap.IsListIter (n + 2) l3 k) (hl1 : s.heap.IsTuple l1 xs) (hl2 : s.heap.IsList l2 ys) (hl3 : s.heap.IsList l3 zs) (hx : xs[k]? = some x) (hy : ys[k]? = some y) (hv : zs[k]? = some v)
    (hQ : ∀ h', IsZip h' (n + 5) (n + 3) (n + 4) (rawInt s.heap.objs.size) → IsTrip h' (n + 4) x y v → h'.IsTupleIter n l1 (k + 1) → h'.IsListIter (n + 1) l2 (k + 1) → h'.IsListIter (n + 2) l3 (k + 1) → IsTrip h' s.heap.objs.size x y v → h'.objs.size = s.heap.objs.size + 1 →
      (∀ c o, c ≠ n + 5 → c ≠ n + 4 → c ≠ n → c ≠ n + 1 → c ≠ n + 2 → s.heap.get? c = some o → h'.get? c = some o) → Q (.ref s.heap.objs.size) { s with heap := h' }) :
    wpAny (model prog w) A (Builtin.«zip.__next__» ⟨[.ref (n + 5)], []⟩) (fun fin s' => ∃ v, fin = .done (.ret v) ∧ Q v s') E s := by
  show wpAny _ _ (field (.ref (n + 5)) 2 >>= _) _ _ _
  refine wpAny_bind (wpAny_field hz rfl (x := .bool false) rfl ?_)
  show wpAny _ _ (field (.ref (n + 5)) 3 >>= _) _ _ _
  refine wpAny_bind (wpAny_field hz rfl (x := .ref (n + 3)) rfl ?_)
  refine wpAny_bind (wpAny_seqItems hTI rfl ?_)
  show wpAny _ _ (Builtin.SmallTypes.ownedTupleIsFree (.ref (n + 5)) >>= _) _ _ _
  refine wpAny_bind ?_
  unfold Builtin.SmallTypes.ownedTupleIsFree
  refine wpAny_bind (wpAny_field hz rfl (x := .none) rfl (wpAny_pure ?_))
  simp only [if_true]
  refine wpAny_bind (wpAny_rule ?_)
  refine wpAny_bind (wpAny_field hz rfl (x := .ref (n + 4)) rfl ?_)
  refine wpAny_bind (wpAny_setField_rec hz (by simp) fun h₁ hz₁ hs₁ => ?_)
  replace hz₁ : IsZip h₁ (n + 5) (n + 3) (n + 4) .ellipsis := hz₁
  refine wpAny_bind ?_
  simp only [List.zipIdx_cons, List.zipIdx_nil, List.forIn_cons, List.forIn_nil]
  have q : ∀ {i j : Nat}, i ≠ j → (n + i : Addr) ≠ n + j := fun {i j} h => aq h
  have q0 : ∀ {i : Nat}, 0 < i → (n : Addr) ≠ n + i := fun {i} h => aq0 h
  have ql : ∀ {l : Addr} {i : Nat}, l < n → l ≠ n + i := fun {l i} h => aql h
  have qn : ∀ {l : Addr}, l < n → l ≠ n := fun {l} h => Nat.ne_of_lt h
  refine wpAny_bind (wpAny_bind (wpAny_onRaise ?_))
  show wpAny _ _ (Builtin.SmallTypes.nextOf (.ref n) >>= _) _ _ _
  refine wpAny_bind (nextOf_tuple_item (h1.extBut hs₁.extBut (q0 (by decide))) (hl1.extBut hs₁.extBut (ql d1)) hx fun h₂ h1₂ hs₂ => wpAny_pure ?_)
  have hTO₂ : IsTrip h₂ (n + 4) a b c := hs₂.extBut _ _ (q0 (by decide)).symm (hs₁.extBut _ _ (q (by decide)) hTO)
  refine wpAny_bind (wpAny_seqItems hTO₂ rfl ?_)
  refine wpAny_bind (wpAny_updateSeq_trip hTO₂ fun h₃ hTO₃ hs₃ => ?_)
  replace hTO₃ : IsTrip h₃ (n + 4) x b c := hTO₃
  refine wpAny_bind (wpAny_letGo (wpAny_pure ?_))

  refine wpAny_bind (wpAny_bind (wpAny_onRaise ?_))
  show wpAny _ _ (Builtin.SmallTypes.nextOf (.ref (n + 1)) >>= _) _ _ _
  refine wpAny_bind (wpAny_nextOf_list_item (((h2.extBut hs₁.extBut (q (by decide))).extBut hs₂.extBut (q0 (by decide)).symm).extBut hs₃.extBut (q (by decide)))
    (((hl2.extBut hs₁.extBut (ql d2)).extBut hs₂.extBut (qn d2)).extBut hs₃.extBut (ql d2)) hy fun h₄ h2₄ hs₄ => wpAny_pure ?_)
  have hTO₄ : IsTrip h₄ (n + 4) x b c := hs₄.extBut _ _ (q (by decide)) hTO₃
  refine wpAny_bind (wpAny_seqItems hTO₄ rfl ?_)
  refine wpAny_bind (wpAny_updateSeq_trip hTO₄ fun h₅ hTO₅ hs₅ => ?_)
  replace hTO₅ : IsTrip h₅ (n + 4) x y c := hTO₅
  refine wpAny_bind (wpAny_letGo (wpAny_pure ?_))

  refine wpAny_bind (wpAny_bind (wpAny_onRaise ?_))
  show wpAny _ _ (Builtin.SmallTypes.nextOf (.ref (n + 2)) >>= _) _ _ _
  refine wpAny_bind (wpAny_nextOf_list_item (((((h3.extBut hs₁.extBut (q (by decide))).extBut hs₂.extBut (q0 (by decide)).symm).extBut hs₃.extBut (q (by decide))).extBut hs₄.extBut (q (by decide))).extBut hs₅.extBut (q (by decide)))
    (((((hl3.extBut hs₁.extBut (ql d3)).extBut hs₂.extBut (qn d3)).extBut hs₃.extBut (ql d3)).extBut hs₄.extBut (ql d3)).extBut hs₅.extBut (ql d3)) hv fun h₆ h3₆ hs₆ => wpAny_pure ?_)
  have hTO₆ : IsTrip h₆ (n + 4) x y c := hs₆.extBut _ _ (q (by decide)) hTO₅
  refine wpAny_bind (wpAny_seqItems hTO₆ rfl ?_)
  refine wpAny_bind (wpAny_updateSeq_trip hTO₆ fun h₇ hTO₇ hs₇ => ?_)
  replace hTO₇ : IsTrip h₇ (n + 4) x y v := hTO₇
  refine wpAny_bind (wpAny_letGo (wpAny_pure (wpAny_pure ?_)))

  refine wpAny_bind (wpAny_seqItems hTO₇ rfl ?_)
  refine wpAny_bind (wpAny_newTuple ?_)
  have hsz : h₇.objs.size = s.heap.objs.size := by rw [hs₇.1, hs₆.1, hs₅.1, hs₄.1, hs₃.1, hs₂.1, hs₁.1]
  have hz₇ : IsZip h₇ (n + 5) (n + 3) (n + 4) .ellipsis := hs₇.extBut _ _ (q (by decide)) (hs₆.extBut _ _ (q (by decide)) (hs₅.extBut _ _ (q (by decide)) (hs₄.extBut _ _ (q (by decide)) (hs₃.extBut _ _ (q (by decide)) (hs₂.extBut _ _ (q0 (by decide)).symm hz₁)))))
  have hk₇ : ∀ c o, c ≠ n + 5 → c ≠ n + 4 → c ≠ n → c ≠ n + 1 → c ≠ n + 2 → s.heap.get? c = some o → h₇.get? c = some o := fun c o c1 c2 c3 c4 c5 e =>
    hs₇.extBut _ _ c2 (hs₆.extBut _ _ c5 (hs₅.extBut _ _ c2 (hs₄.extBut _ _ c4 (hs₃.extBut _ _ c2 (hs₂.extBut _ _ c3 (hs₁.extBut _ _ c1 e))))))
  have h1₇ : h₇.IsTupleIter n l1 (k + 1) := ((((h1₂.extBut hs₃.extBut (q0 (by decide))).extBut hs₄.extBut (q0 (by decide))).extBut hs₅.extBut (q0 (by decide))).extBut hs₆.extBut (q0 (by decide))).extBut hs₇.extBut (q0 (by decide))
  have h2₇ : h₇.IsListIter (n + 1) l2 (k + 1) := ((h2₄.extBut hs₅.extBut (q (by decide))).extBut hs₆.extBut (q (by decide))).extBut hs₇.extBut (q (by decide))
  have h3₇ : h₇.IsListIter (n + 2) l3 (k + 1) := h3₆.extBut hs₇.extBut (q (by decide))
  have hzlt : (n + 5 : Addr) < h₇.objs.size := Heap.lt_size hz₇
  show wpAny _ _ (Builtin.SmallTypes.ownedTupleHandOut (.ref (n + 5)) (.ref h₇.objs.size) >>= _) _ _ _
  refine wpAny_bind ?_
  unfold Builtin.SmallTypes.ownedTupleHandOut
  have hz₈ : IsZip (h₇.push { cls := .type "tuple", data := .seq #[x, y, v] }) (n + 5) (n + 3) (n + 4) .ellipsis := Heap.get?_push_of_some _ hz₇
  refine wpAny_bind (wpAny_setField_rec hz₈ (by simp) fun h₉ hz₉ hs₉ => ?_)
  replace hz₉ : IsZip h₉ (n + 5) (n + 3) (n + 4) (rawInt h₇.objs.size) := hz₉
  refine wpAny_setField_rec hz₉ (by simp) fun h₁₀ hz₁₀ hs₁₀ => ?_
  replace hz₁₀ : IsZip h₁₀ (n + 5) (n + 3) (n + 4) (rawInt h₇.objs.size) := hz₁₀
  have up : ∀ c o, c ≠ n + 5 → h₇.get? c = some o → h₁₀.get? c = some o := fun c o c1 e => hs₁₀.extBut _ _ c1 (hs₉.extBut _ _ c1 (Heap.get?_push_of_some _ e))
  have hT₁₀ : IsTrip h₁₀ h₇.objs.size x y v := hs₁₀.extBut _ _ (Nat.ne_of_gt hzlt) (hs₉.extBut _ _ (Nat.ne_of_gt hzlt) (Heap.get?_push_size _ rfl))
  have hz10 : h₁₀.objs.size = h₇.objs.size + 1 := by rw [hs₁₀.1, hs₉.1, Heap.size_push]
  rw [hsz] at hz₁₀ hT₁₀ hz10
  refine wpAny_pure ⟨_, rfl, ?_⟩
  show Q (.ref h₇.objs.size) _
  rw [hsz]
  exact hQ h₁₀ hz₁₀ (up _ _ (q (by decide)) hTO₇) (h1₇.at fun o e => up _ o (q0 (by decide)) e) (h2₇.at fun o e => up _ o (q (by decide)) e) (h3₇.at fun o e => up _ o (q (by decide)) e) hT₁₀ hz10 fun c o c1 c2 c3 c4 c5 e => up c o c1 (hk₇ c o c1 c2 c3 c4 c5 e)
/-- the tuple is at its end -/
theorem zip3_next_end {n l1 l2 l3 : Addr} {k : Nat} {xs : Array Value} {a b c : Value} {Q : Fin → Shared → Prop} (hh : A.handled = none) (d1 : l1 < n)
    (hz : IsZip s.heap (n + 5) (n + 3) (n + 4) .none) (hTI : IsTrip s.heap (n + 3) (.ref n) (.ref (n + 1)) (.ref (n + 2))) (hTO : IsTrip s.heap (n + 4) a b c)
    (h1 : s.heap.IsTupleIter n l1 k) (hl1 : s.heap.IsTuple l1 xs) (hx : xs[k]? = none)
    (hE : ∀ h' e, (∀ c o, c ≠ n + 5 → c ≠ n → s.heap.get? c = some o → h'.get? c = some o) → (∃ o, h'.get? e = some o ∧ o.cls = .type "StopIteration") → E (.ref e) { s with heap := h' }) :
    wpAny (model prog w) A (Builtin.«zip.__next__» ⟨[.ref (n + 5)], []⟩) Q E s := by
  show wpAny _ _ (field (.ref (n + 5)) 2 >>= _) _ _ _
  refine wpAny_bind (wpAny_field hz rfl (x := .bool false) rfl ?_)
  show wpAny _ _ (field (.ref (n + 5)) 3 >>= _) _ _ _
  refine wpAny_bind (wpAny_field hz rfl (x := .ref (n + 3)) rfl ?_)
  refine wpAny_bind (wpAny_seqItems hTI rfl ?_)
  show wpAny _ _ (Builtin.SmallTypes.ownedTupleIsFree (.ref (n + 5)) >>= _) _ _ _
  refine wpAny_bind ?_
  unfold Builtin.SmallTypes.ownedTupleIsFree
  refine wpAny_bind (wpAny_field hz rfl (x := .none) rfl (wpAny_pure ?_))
  simp only [if_true]
  refine wpAny_bind (wpAny_rule ?_)
  refine wpAny_bind (wpAny_field hz rfl (x := .ref (n + 4)) rfl ?_)
  refine wpAny_bind (wpAny_setField_rec hz (by simp) fun h₁ hz₁ hs₁ => ?_)
  replace hz₁ : IsZip h₁ (n + 5) (n + 3) (n + 4) .ellipsis := hz₁
  refine wpAny_bind ?_
  simp only [List.zipIdx_cons, List.zipIdx_nil, List.forIn_cons, List.forIn_nil]
  refine wpAny_bind (wpAny_bind (wpAny_onRaise ?_))
  show wpAny _ _ (Builtin.SmallTypes.nextOf (.ref n) >>= _) _ _ _
  refine wpAny_bind (nextOf_tuple_end hh (h1.extBut hs₁.extBut (aq0 (by decide))) (hl1.extBut hs₁.extBut (aql d1)) hx fun h₂ e hs₂ he => ?_)
  obtain ⟨oe, hoe, hce⟩ := he
  have hz₂ : IsZip h₂ (n + 5) (n + 3) (n + 4) .ellipsis := hs₂ _ _ (aq0 (by decide)).symm hz₁
  have hez : e ≠ n + 5 := fun x => by subst x; rw [hz₂] at hoe; cases hoe; simp at hce
  exact wpAny_setField_rec hz₂ (by simp) fun h₃ _ hs₃ => hE h₃ e (fun c o c1 c3 x => hs₃.extBut _ _ c1 (hs₂ _ _ c3 (hs₁.extBut _ _ c1 x))) ⟨oe, hs₃.extBut _ _ hez hoe, hce⟩
theorem pyNext_zip3_item {n l1 l2 l3 : Addr} {k : Nat} {xs ys zs : Array Value} {x y v a b c : Value} {Q : Option Value → Shared → Prop} (d1 : l1 < n) (d2 : l2 < n) (d3 : l3 < n)
    (hz : IsZip s.heap (n + 5) (n + 3) (n + 4) .none) (hTI : IsTrip s.heap (n + 3) (.ref n) (.ref (n + 1)) (.ref (n + 2))) (hTO : IsTrip s.heap (n + 4) a b c)
    (h1 : s.heap.IsTupleIter n l1 k) (h2 : s.heap.IsListIter (n + 1) l2 k) (h3 : s.heap.IsListIter (n + 2) l3 k) (hl1 : s.heap.IsTuple l1 xs) (hl2 : s.heap.IsList l2 ys) (hl3 : s.heap.IsList l3 zs) (hx : xs[k]? = some x) (hy : ys[k]? = some y) (hv : zs[k]? = some v)
    (hQ : ∀ h', IsZip h' (n + 5) (n + 3) (n + 4) (rawInt s.heap.objs.size) → IsTrip h' (n + 4) x y v → h'.IsTupleIter n l1 (k + 1) → h'.IsListIter (n + 1) l2 (k + 1) → h'.IsListIter (n + 2) l3 (k + 1) → IsTrip h' s.heap.objs.size x y v → h'.objs.size = s.heap.objs.size + 1 →
      (∀ c o, c ≠ n + 5 → c ≠ n + 4 → c ≠ n → c ≠ n + 1 → c ≠ n + 2 → s.heap.get? c = some o → h'.get? c = some o) → Q (some (.ref s.heap.objs.size)) { s with heap := h' }) :
    wpAny (model prog w) A (pyNext (.ref (n + 5))) Q E s := by
  have hT : s.TypeIs (.ref (n + 5)) "zip" := ⟨_, hz, rfl⟩
  unfold pyNext
  exact wpAny_bind (wpAny_attempt (wpAny_callSpecial?_slot (name := Str.ofString "__next__") hT F.slot_zip_next
    (wpAny_call_entry F.slot_zip_next hT F.entry_zip_next
      (zip3_next_item d1 d2 d3 hz hTI hTO h1 h2 h3 hl1 hl2 hl3 hx hy hv fun h' a1 a2 a3 a4 a5 a6 a7 a8 => wpAny_pure (hQ h' a1 a2 a3 a4 a5 a6 a7 a8)) (F.args_zip_next_1 _))))
theorem pyNext_zip3_end {n l1 l2 l3 : Addr} {k : Nat} {xs : Array Value} {a b c : Value} {Q : Option Value → Shared → Prop} (hh : A.handled = none) (d1 : l1 < n)
    (hz : IsZip s.heap (n + 5) (n + 3) (n + 4) .none) (hTI : IsTrip s.heap (n + 3) (.ref n) (.ref (n + 1)) (.ref (n + 2))) (hTO : IsTrip s.heap (n + 4) a b c)
    (h1 : s.heap.IsTupleIter n l1 k) (hl1 : s.heap.IsTuple l1 xs) (hx : xs[k]? = none)
    (hQ : ∀ h', (∀ c o, c ≠ n + 5 → c ≠ n → s.heap.get? c = some o → h'.get? c = some o) → Q none { s with heap := h' }) : wpAny (model prog w) A (pyNext (.ref (n + 5))) Q E s := by
  have hT : s.TypeIs (.ref (n + 5)) "zip" := ⟨_, hz, rfl⟩
  unfold pyNext
  refine wpAny_bind (wpAny_attempt (wpAny_callSpecial?_slot (name := Str.ofString "__next__") hT F.slot_zip_next
    (wpAny_call_entry F.slot_zip_next hT F.entry_zip_next (zip3_next_end (l2 := l2) (l3 := l3) hh d1 hz hTI hTO h1 hl1 hx fun h' e hk he => ?_) (F.args_zip_next_1 _))))
  obtain ⟨o, ho, hc⟩ := he
  refine wpAny_bind (wpAny_isInstance (T := "StopIteration") (b := true) ⟨o, ho, hc⟩ isSubtype_stop ?_)
  exact wpAny_pure (hQ _ hk)
end
theorem typeCall_zip_3 (a b c : Value) : checkTypeCall "zip" ⟨[a, b, c], []⟩ = pure () := by kernel_rfl
theorem newCall_zip_3 (a b c : Value) : checkBuiltinCall "zip.__new__" ⟨[.type "zip", a, b, c], []⟩ = pure () := by kernel_rfl
theorem args_object_init_4 (a b c d : Value) : argsOk "object.__init__" ⟨[a, b, c, d], []⟩ := by
  unfold argsOk; rw [signature?_of (id := "object.__init__") (n := ['_', '_', 't', 'i', 'n', 'i', '_', '_']) (o := ['t', 'c', 'e', 'j', 'b', 'o']) (by kernel_rfl) F.owner_object]; kernel_rfl
abbrev z3H1 (h : Heap) (l1 : Addr) : Heap := h.push { cls := .type "tuple_iterator", data := .fields #[.ref l1, .int 0 0] }
abbrev z3H2 (h : Heap) (l1 l2 : Addr) : Heap := (z3H1 h l1).push { cls := .type "list_iterator", data := .fields #[.ref l2, .int 0 0] }
abbrev z3H3 (h : Heap) (l1 l2 l3 : Addr) : Heap := (z3H2 h l1 l2).push { cls := .type "list_iterator", data := .fields #[.ref l3, .int 0 0] }
abbrev z3H4 (h : Heap) (l1 l2 l3 : Addr) : Heap := (z3H3 h l1 l2 l3).push { cls := .type "tuple", data := .seq #[.ref h.objs.size, .ref (z3H1 h l1).objs.size, .ref (z3H2 h l1 l2).objs.size] }
abbrev z3H5 (h : Heap) (l1 l2 l3 : Addr) : Heap := (z3H4 h l1 l2 l3).push { cls := .type "tuple", data := .seq #[.none, .none, .none] }
abbrev z3H6 (h : Heap) (l1 l2 l3 : Addr) : Heap := (z3H5 h l1 l2 l3).push { cls := .type "zip", data := .fields #[.none, .bool false, .bool false, .ref (z3H3 h l1 l2 l3).objs.size, .ref (z3H4 h l1 l2 l3).objs.size] }
theorem meets_zip3_new (l1 l2 l3 : Addr) (xs ys zs : Array Value) :
    Meets (Builtin.«zip.__new__» ⟨[.type "zip", .ref l1, .ref l2, .ref l3], []⟩) (fun _ R s => s.heap.IsTuple l1 xs ∧ s.heap.IsList l2 ys ∧ s.heap.IsList l3 zs ∧
      R (.ok (.ret (.ref (z3H5 s.heap l1 l2 l3).objs.size))) { s with heap := z3H6 s.heap l1 l2 l3 }) :=
  .of_wp fun prog w A R s h => by
    obtain ⟨hp, g, d, tk, os⟩ := s; obtain ⟨hl1, hl2, hl3, h⟩ := h
    have hsub := sub_zip
    have hL1 : Heap.IsTuple (Shared.heap ⟨hp, g, d, tk, os⟩) l1 xs := hl1
    have hL2 : Heap.IsList (Shared.heap ⟨hp.push { cls := .type "tuple_iterator", data := .fields #[.ref l1, .int 0 0] }, g, d, tk, os⟩) l2 ys := Heap.IsList.push hl2 _
    have hL3 : Heap.IsList (Shared.heap ⟨(hp.push { cls := .type "tuple_iterator", data := .fields #[.ref l1, .int 0 0] }).push { cls := .type "list_iterator", data := .fields #[.ref l2, .int 0 0] }, g, d, tk, os⟩) l3 zs := Heap.IsList.push (Heap.IsList.push hl3 _) _
    wp_walk using wpAny_pyIter_tuple hL1, wpAny_pyIter_list hL2, wpAny_pyIter_list hL3
    exact ⟨_, rfl, h⟩
section
variable {prog : Program} {w : World} {A : Around} {E : Value → Shared → Prop} {s : Shared}
theorem call_zip3 {l1 l2 l3 : Addr} {xs ys zs : Array Value} {Q : Value → Shared → Prop} (hl1 : s.heap.IsTuple l1 xs) (hl2 : s.heap.IsList l2 ys) (hl3 : s.heap.IsList l3 zs)
    (h : ∀ h', IsZip h' (s.heap.objs.size + 5) (s.heap.objs.size + 3) (s.heap.objs.size + 4) .none → IsTrip h' (s.heap.objs.size + 3) (.ref s.heap.objs.size) (.ref (s.heap.objs.size + 1)) (.ref (s.heap.objs.size + 2)) →
      IsTrip h' (s.heap.objs.size + 4) .none .none .none → h'.IsTupleIter s.heap.objs.size l1 0 → h'.IsListIter (s.heap.objs.size + 1) l2 0 → h'.IsListIter (s.heap.objs.size + 2) l3 0 → h'.objs.size = s.heap.objs.size + 6 →
      (∀ c o, s.heap.get? c = some o → h'.get? c = some o) → Q (.ref (s.heap.objs.size + 5)) { s with heap := h' }) :
    wpAny (model prog w) A (call (.type "zip") [.ref l1, .ref l2, .ref l3]) Q E s := by
  refine callType_new F.called_zip (by decide) (typeCall_zip_3 _ _ _) (newCall_zip_3 _ _ _) (fun obj => args_object_init_4 obj _ _ _) F.entry_zip_new
    (meets_zip3_new l1 l2 l3 xs ys zs) ⟨hl1, hl2, hl3, ?_⟩
  have z1 : (z3H1 s.heap l1).objs.size = s.heap.objs.size + 1 := Heap.size_push ..
  have z2 : (z3H2 s.heap l1 l2).objs.size = s.heap.objs.size + 2 := by rw [Heap.size_push, z1]
  have z3 : (z3H3 s.heap l1 l2 l3).objs.size = s.heap.objs.size + 3 := by rw [Heap.size_push, z2]
  have z4 : (z3H4 s.heap l1 l2 l3).objs.size = s.heap.objs.size + 4 := by rw [Heap.size_push, z3]
  have z5 : (z3H5 s.heap l1 l2 l3).objs.size = s.heap.objs.size + 5 := by rw [Heap.size_push, z4]
  have z6 : (z3H6 s.heap l1 l2 l3).objs.size = s.heap.objs.size + 6 := by rw [Heap.size_push, z5]
  have up : ∀ {h : Heap} {c o} (x : Obj), h.get? c = some o → (h.push x).get? c = some o := fun x e => Heap.get?_push_of_some x e
  have g6 : (z3H6 s.heap l1 l2 l3).get? (z3H5 s.heap l1 l2 l3).objs.size = some _ := Heap.get?_push_size _ rfl
  have g5 : (z3H6 s.heap l1 l2 l3).get? (z3H4 s.heap l1 l2 l3).objs.size = some _ := up _ (Heap.get?_push_size _ rfl)
  have g4 : (z3H6 s.heap l1 l2 l3).get? (z3H3 s.heap l1 l2 l3).objs.size = some _ := up _ (up _ (Heap.get?_push_size _ rfl))
  have g3 : (z3H6 s.heap l1 l2 l3).get? (z3H2 s.heap l1 l2).objs.size = some _ := up _ (up _ (up _ (Heap.get?_push_size _ rfl)))
  have g2 : (z3H6 s.heap l1 l2 l3).get? (z3H1 s.heap l1).objs.size = some _ := up _ (up _ (up _ (up _ (Heap.get?_push_size _ rfl))))
  have g1 : (z3H6 s.heap l1 l2 l3).get? s.heap.objs.size = some _ := up _ (up _ (up _ (up _ (up _ (Heap.get?_push_size _ rfl)))))
  show _ ∧ _
  rw [z3, z4, z5] at g6
  rw [z4] at g5
  rw [z1, z2, z3] at g4
  rw [z2] at g3
  rw [z1] at g2
  rw [z5]
  exact ⟨⟨_, g6, rfl⟩, h _ g6 g4 g5 ⟨_, g1, rfl, rfl⟩ ⟨_, g2, rfl, rfl⟩ ⟨_, g3, rfl, rfl⟩ z6 fun c o x => up _ (up _ (up _ (up _ (up _ (up _ x)))))⟩
end
end PySem
namespace Mp
open PySem PySem.Spec PyProof.Rows L2
/-- a tuple and two lists as they stand, the items in new triples; the tuple ends first -/
def Itz3 (K : PySem.W.Frag) (a b c : Addr) : It :=
  ⟨fun i H => ∃ (xs ys zs : List V) (x y z : V), SqT K H a xs ∧ SqL K H b ys ∧ SqL K H c zs ∧ xs[i]? = some x ∧ ys[i]? = some y ∧ zs[i]? = some z,
    fun i H v H' => ∃ T x y z, v = .ref T ∧ H T = none ∧ H' = upd H T (.tup [x, y, z]) ∧ (∀ xs, SqT K H a xs → xs[i]? = some x) ∧ (∀ ys, SqL K H b ys → ys[i]? = some y) ∧ ∀ zs, SqL K H c zs → zs[i]? = some z,
    fun i H => ∃ xs : List V, SqT K H a xs ∧ xs.length ≤ i⟩
theorem turn_zip3 {P : Program} {w : World} {K : PySem.W.Frag} {elts : List Expr} {kk : Nat} {tpos : Pos} {a b c n : Addr} (d1 : a < n) (d2 : b < n) (d3 : c < n) :
    Turn P w K (.Tuple elts kk tpos) (Itz3 K a b c) [n + 5, n + 3, n + 4, n, n + 1, n + 2] (n + 5) (fun i h => IsZip h (n + 5) (n + 3) (n + 4) .none ∧ IsTrip h (n + 3) (.ref n) (.ref (n + 1)) (.ref (n + 2)) ∧ (∃ x y z, IsTrip h (n + 4) x y z) ∧ h.IsTupleIter n a i ∧ h.IsListIter (n + 1) b i ∧ h.IsListIter (n + 2) c i) where
  mem := by simp
  obj := fun i h st d hd => by
    obtain ⟨hz, hTI, ⟨x, y, z, hTO⟩, ⟨o1, e1, _, d1⟩, ⟨o2, e2, _, d2⟩, ⟨o3, e3, _, d3⟩⟩ := st
    have e' : d = n + 5 ∨ d = n + 3 ∨ d = n + 4 ∨ d = n ∨ d = n + 1 ∨ d = n + 2 := by simpa using hd
    rcases e' with q | q | q | q | q | q
    · rw [q]; exact ⟨_, hz, fun v q => nomatch q⟩
    · rw [q]; exact ⟨_, hTI, fun v q => nomatch q⟩
    · rw [q]; exact ⟨_, hTO, fun v q => nomatch q⟩
    · rw [q]; exact ⟨o1, e1, fun v q => by rw [d1] at q; cases q⟩
    · rw [q]; exact ⟨o2, e2, fun v q => by rw [d2] at q; cases q⟩
    · rw [q]; exact ⟨o3, e3, fun v q => by rw [d3] at q; cases q⟩
  keep := fun i h h' st k => by
    obtain ⟨hz, hTI, ⟨x, y, z, hTO⟩, h1, h2, h3⟩ := st
    exact ⟨k (n + 5) (by simp) _ hz, k (n + 3) (by simp) _ hTI, ⟨x, y, z, k (n + 4) (by simp) _ hTO⟩, h1.at fun o q => k n (by simp) o q, h2.at fun o q => k (n + 1) (by simp) o q, h3.at fun o q => k (n + 2) (by simp) o q⟩
  item := by
    intro X hP hw hK hc i pins s σ H E I hf st hg
    subst hP hw hK
    obtain ⟨hz, hTI, ⟨x0, y0, z0, hTO⟩, h1, h2, h3⟩ := st
    obtain ⟨xs, ys, zs, x, y, z, hqx, hqy, hqz, hx, hy, hv⟩ := hg
    obtain ⟨its, rv, p, _⟩ := I.tuple hqx
    obtain ⟨its2, rv2, p2, _⟩ := I.list hqy
    obtain ⟨its3, rv3, p3, _⟩ := I.list hqz
    obtain ⟨u, hu, ru⟩ := rv.get hx
    obtain ⟨u2, hu2, ru2⟩ := rv2.get hy
    obtain ⟨u3, hu3, ru3⟩ := rv3.get hv
    have hzl : (n + 5 : Addr) < s.heap.objs.size := Heap.lt_size hz
    refine pyNext_zip3_item d1 d2 d3 hz hTI hTO h1 h2 h3 p p2.isList p3.isList (x := u) (y := u2) (v := u3) (by simpa using hu) (by simpa using hu2) (by simpa using hu3) fun h' z' TO' h1' h2' h3' hT hsz hk => ?_
    refine ⟨_, rfl, wpAny_letOwnedTupleGo_zip (s := { s with heap := h' }) z' fun h'' z'' sb => ?_⟩
    have hT2 : h''.get? s.heap.objs.size = some { cls := .type "tuple", data := .seq #[u, u2, u3] } := (sb.2 _ (Nat.ne_of_gt hzl)).trans hT
    have new : ObjOk X.prog X.w (upd H s.heap.objs.size (.tup [x, y, z])) h'' s.heap.objs.size (.tup [x, y, z]) :=
      ⟨by show 3 ≤ sizeLine; decide, [u, u2, u3], .cons ru (.cons ru2 (.cons ru3 .nil)), ⟨_, hT2, rfl, _, rfl⟩⟩
    have I1 : Inv X pins σ (upd H s.heap.objs.size (.tup [x, y, z])) { s with heap := h'' } :=
      I.turnedNew (t' := s.toks) (ch := [n + 5, n + 3, n + 4, n, n + 1, n + 2]) (fun c o hb q => (sb.2 c (fun q' => hb (by simp [q']))).trans (hk c o (fun q' => hb (by simp [q'])) (fun q' => hb (by simp [q'])) (fun q' => hb (by simp [q'])) (fun q' => hb (by simp [q'])) (fun q' => hb (by simp [q'])) q)) hf (Nat.le_refl _) new
    refine ⟨.ref s.heap.objs.size, _, I1, rfl, ⟨_, x, y, z, rfl, I.hok.fresh (Nat.le_refl _), rfl, fun l hl => by rw [I.tuple_inj hl hqx]; exact hx, fun l hl => by rw [I.list_inj hl hqy]; exact hy, fun l hl => by rw [I.list_inj hl hqz]; exact hv⟩, ⟨z'', ?_, ⟨u, u2, u3, ?_⟩, ?_, ?_, ?_⟩, fun c hcm => ?_⟩
    · exact (sb.2 _ (aq (by decide))).trans (hk _ _ (aq (by decide)) (aq (by decide)) (aq0 (by decide)).symm (aq (by decide)) (aq (by decide)) hTI)
    · exact (sb.2 _ (aq (by decide))).trans TO'
    · exact h1'.at fun o q => (sb.2 _ (aq0 (by decide))).trans q
    · exact h2'.at fun o q => (sb.2 _ (aq (by decide))).trans q
    · exact h3'.at fun o q => (sb.2 _ (aq (by decide))).trans q
    · have hlt : c < s.heap.objs.size := by
        have e' : c = n + 5 ∨ c = n + 3 ∨ c = n + 4 ∨ c = n ∨ c = n + 1 ∨ c = n + 2 := by simpa using hcm
        rcases e' with q | q | q | q | q | q
        · rw [q]; exact hzl
        · rw [q]; exact Heap.lt_size hTI
        · rw [q]; exact Heap.lt_size hTO
        · rw [q]; obtain ⟨_, e1, _⟩ := h1; exact Heap.lt_size e1
        · rw [q]; obtain ⟨_, e2, _⟩ := h2; exact Heap.lt_size e2
        · rw [q]; obtain ⟨_, e3, _⟩ := h3; exact Heap.lt_size e3
      rw [upd_ne (Nat.ne_of_lt hlt)]
      exact (hf c hcm).1
  done := by
    intro X hP hw hK hc i pins s σ H E I hf st hg
    subst hP hw hK
    obtain ⟨hz, hTI, ⟨x0, y0, z0, hTO⟩, h1, h2, h3⟩ := st
    obtain ⟨xs, hqx, hend⟩ := hg
    obtain ⟨its, rv, p, _⟩ := I.tuple hqx
    have l1 := rv.length
    exact pyNext_zip3_end (l2 := b) (l3 := c) (I.ok.hd hc) d1 hz hTI hTO h1 p (by simp; omega) fun h' hk => ⟨rfl, I.turnedL (t' := s.toks) (ch := [n + 5, n + 3, n + 4, n, n + 1, n + 2]) (fun c o hb q =>
      hk c o (fun q' => hb (by simp [q'])) (fun q' => hb (by simp [q'])) q) hf⟩
  self := fun A i s Q E st h => wpAny_pyIter_zip st.1 h
def iZip3 (K : PySem.W.Frag) (ta : TA) : TI := fun σ H R => ta σ H fun vs H1 => ∃ a b c xs ys zs, vs = [.ref a, .ref b, .ref c] ∧ SqT K H1 a xs ∧ SqL K H1 b ys ∧ SqL K H1 c zs ∧ R (Itz3 K a b c) H1
theorem pi_zip3 {X : Cx} {e e2 e3 : Expr} {ta : TA} {p pos tpos : Pos} {elts : List Expr} {kk : Nat} (hg : Gl X "zip") (hm : X.mg "zip" = none) (ha : PA X [e, e2, e3] ta)
    (hs : starEach [e, e2, e3] X.env = (false, eval e X.env) :: starEach [e2, e3] X.env := by rfl) (hpl : (backTo pos (starEach [e2, e3] X.env)).any (·.1) = false := by rfl) :
    PI X (.Tuple elts kk tpos) (.Call (.Name "zip" p) [e, e2, e3] [] pos) (iZip3 X.K ta) := by
  refine ⟨fun pins s σ H R I h => ?_⟩
  refine Call_ (ld_blt I hg hm PyProof.Rows.boot_zip (PyProof.Rows.callWith_type1 (thn (ha.run pos pins s σ H _ I h) fun us s1 ⟨vs, H1, I1, r1, q1⟩ => ?_) hs hpl))
  obtain ⟨a, b, c, xs, ys, zs, ex, hqx, hqy, hqz, q⟩ := q1
  subst ex
  cases r1 with
  | cons r rr =>
    cases rr with
    | cons r' rr =>
      cases rr with
      | cons r'' rr =>
        cases rr
        cases r
        cases r'
        cases r''
        have fresh6 : ∀ c, c ∈ [s1.heap.objs.size + 5, s1.heap.objs.size + 3, s1.heap.objs.size + 4, s1.heap.objs.size, s1.heap.objs.size + 1, s1.heap.objs.size + 2] → FpOk X pins H1 c := fun c hcm => by
          have e' : c = s1.heap.objs.size + 5 ∨ c = s1.heap.objs.size + 3 ∨ c = s1.heap.objs.size + 4 ∨ c = s1.heap.objs.size ∨ c = s1.heap.objs.size + 1 ∨ c = s1.heap.objs.size + 2 := by simpa using hcm
          have hle : s1.heap.objs.size ≤ c := by
            rcases e' with z | z | z | z | z | z
            · rw [z]; exact Nat.le_add_right _ _
            · rw [z]; exact Nat.le_add_right _ _
            · rw [z]; exact Nat.le_add_right _ _
            · rw [z]; exact Nat.le_refl _
            · rw [z]; exact Nat.le_add_right _ _
            · rw [z]; exact Nat.le_add_right _ _
          exact I1.fpOk hle (I1.hok.fresh hle)
        obtain ⟨its, rv, p1, _⟩ := I1.tuple hqx
        obtain ⟨its2, rv2, p2, _⟩ := I1.list hqy
        obtain ⟨its3, rv3, p3, _⟩ := I1.list hqz
        obtain ⟨o1, ho1, _⟩ := id p1
        refine call_zip3 (show s1.heap.IsTuple a its.toArray from p1) p2.isList p3.isList fun h' hz hTI hTO h1 h2 h3 hsz hk => wpAny_pyIter_zip hz ?_
        have I2 : Inv X pins σ H1 { s1 with heap := h' } := I1.kept (t' := s1.toks) hk
        exact ⟨s1.heap.objs.size + 5, [s1.heap.objs.size + 5, s1.heap.objs.size + 3, s1.heap.objs.size + 4, s1.heap.objs.size, s1.heap.objs.size + 1, s1.heap.objs.size + 2], _, _, H1, rfl, I2, turn_zip3 (Heap.lt_size ho1) p2.lt p3.lt, ⟨hz, hTI, ⟨_, _, _, hTO⟩, h1, h2, h3⟩, fresh6, q⟩
/-- a loop over such a zip -/
theorem tfor_zip3 {K : PySem.W.Frag} {a : Addr} {xs ys zs : List V} {g : TG} {tb : TS} {D : Ends} {σ : L2.St} {H : Hp} {ta : TA} (hl2 : ys.length = xs.length) (hl3 : zs.length = xs.length) (Pb : Addr → Addr → Hp → Prop) (Pv : Addr → Addr → Nat → L2.St → Hp → Prop) (ht : ∀ R : List V → Hp → Prop, (∀ b c H1, Pb b c H1 → R [.ref a, .ref b, .ref c] H1) → ta σ H R) (h0 : ∀ b c H1, Pb b c H1 → Pv b c 0 σ H1)
    (hq : ∀ b c i σ H, Pv b c i σ H → SqT K H a xs ∧ SqL K H b ys ∧ SqL K H c zs)
    (hs : ∀ (b c : Addr) (i : Nat) (x y z : V) (T : Addr) (σ : L2.St) (H : Hp), xs[i]? = some x → ys[i]? = some y → zs[i]? = some z → Pv b c i σ H → H T = none → g (.ref T) σ (upd H T (.tup [x, y, z])) fun σ2 H2 => tb { D with nx := Pv b c (i + 1), ct := Pv b c (i + 1), bk := D.nx } σ2 H2)
    (hd : ∀ b c σ H, Pv b c xs.length σ H → D.nx σ H) : tFor (iZip3 K ta) g tb D σ H := by
  refine ht _ fun b c H1 hb => ?_
  have h0 := h0 b c H1 hb
  obtain ⟨q1, q2, q3⟩ := hq b c 0 σ H1 h0
  refine ⟨a, b, c, xs, ys, zs, rfl, q1, q2, q3, fun i m σ H => i ≤ xs.length ∧ m = xs.length - i ∧ Pv b c i σ H, ⟨_, Nat.zero_le _, rfl, h0⟩, fun i m σ H ⟨h1, h2, h3⟩ => ?_⟩
  obtain ⟨q1, q2, q3⟩ := hq b c i σ H h3
  by_cases hi : i = xs.length
  · subst hi
    exact Or.inl ⟨⟨xs, q1, Nat.le_refl _⟩, hd b c _ _ h3⟩
  · have hlt : i < xs.length := by omega
    have hx : xs[i]? = some xs[i] := List.getElem?_eq_getElem hlt
    have hy : ys[i]? = some (ys[i]'(by omega)) := List.getElem?_eq_getElem (by omega)
    have hz : zs[i]? = some (zs[i]'(by omega)) := List.getElem?_eq_getElem (by omega)
    refine Or.inr ⟨⟨xs, ys, zs, _, _, _, q1, q2, q3, hx, hy, hz⟩, Pv b c (i + 1), fun σ' H' h => ⟨xs.length - (i + 1), by omega, by omega, rfl, h⟩, ?_⟩
    intro v H' hv
    obtain ⟨T, x, y, z, rfl, hT, rfl, e1, e2, e3⟩ := hv
    exact hs b c i x y z T σ H (e1 _ q1) (e2 _ q2) (e3 _ q3) h3 hT
theorem k_pi_zip3 {X : Cx} {K : PySem.W.Frag} {e e2 e3 : Expr} {ta : TA} {p pos tpos : Pos} {elts : List Expr} {kk : Nat} (h : X.K = K) (hg : Gl X "zip") (hm : X.mg "zip" = none) (ha : PA X [e, e2, e3] ta)
    (hs : starEach [e, e2, e3] X.env = (false, eval e X.env) :: starEach [e2, e3] X.env := by rfl) (hpl : (backTo pos (starEach [e2, e3] X.env)).any (·.1) = false := by rfl) :
    PI X (.Tuple elts kk tpos) (.Call (.Name "zip" p) [e, e2, e3] [] pos) (iZip3 K ta) := h ▸ pi_zip3 hg hm ha hs hpl
end Mp

set_option maxHeartbeats 8000000
/-! Kc4: the reader made; names -/
namespace Mp
open PySem PySem.Spec PyProof.Rows L2
open StX (tMakeR run_makeR pe_makeR)
open He (ga ma fAd)
section
variable {P : Program} {w : World} {K : PySem.W.Frag} {mg : Str → Option Value} {base : Heap}
def sp_Cursor___init__ (K : PySem.W.Frag) : Sp := sp2 fun a t H Q E => ∃ c dx, a = .ref c ∧ H c = some (.ins (ga K "Cursor") dx []) ∧
  ((∃ l, t = .str (S l) ∧ Q .non (upd H c (.ins (ga K "Cursor") dx [("script", .str (S l)), ("at", .int 0)]))) ∨ (∃ ty, TyX K H t ty ∧ PySem.W.kitOne K ty (.type "str") = some false ∧ BadK K c E H 0))
theorem put1 {f : Str} {v : V} : putF f v [] = [(f, v)] := rfl
theorem put_at1 {a v : V} : putF (Str.ofString "at") v [(Str.ofString "script", a)] = [(Str.ofString "script", a), (Str.ofString "at", v)] := rfl
theorem sc_Cursor___init__ : FnScope ["self", "text"] ["self", "text"] (defScope s_Cursor___init__) := ⟨rfl, rfl, rfl, by decide +kernel, rfl, by decide +kernel, by decide +kernel⟩
theorem ok_Cursor___init__ (z : Zk K mg base)   : Cmk P w K mg base "Cursor" (ga K "Cursor") 3 (sp_Cursor___init__ K) := by
  obtain ⟨fd, F⟩ := z.d_Cursor___init__
  refine cmk_of F z.g_Cursor z.mk_Cursor sc_Cursor___init__ (fun _ _ _ _ _ _ us hl => match us, hl with | [_, _], _ => rfl) (fun vs H Q E h => by match vs, h with | [_, _], _ => rfl) (fun cdv A outer s H vs Q E hr h => ?_)
  have nd := sc_Cursor___init__.nd
  have hu : (cxOf (L2.CX P w) P w K mg base ["self", "text"] "Cursor.__init__" (defScope s_Cursor___init__) (fAd K ("Cursor", some "__init__")) cdv A outer s H E).A.units + 64 < cLine := hr.units
  have hu0 := hr.units0
  have hu1 := hu_of hr
  match vs, h with
  | [a0, a1], h =>
  refine ⟨_, (pss_cons (ps_if (pt_not (pt_val (pe_callB (k_isi (K := K) rfl) rfl z.b_isinstance boot_isinstance (pa_cons (pv 1) (pa_cons (pe_bltn (v := .ty "str") rfl z.b_str boot_str rfl) pa_nil))))) (pss_one (k_bad (K := K) rfl z hr rfl (takes_of rfl rfl rfl rfl) pe_int)) pss_nil)
      (pss_cons (ks_fld (K := K) rfl (pv 0) (pv 1))
      (pss_one (ks_fld (K := K) rfl (pv 0) pe_int)))), ?_⟩
  obtain ⟨c, dx, rfl, hc, h⟩ := h
  simp [tRet, tRetN, tSeq, tIfS, tDrop, tNext, tNever, tBreak, tCont, tAsg, gName, gCons, gNil, gTup, tAndV, tOrV, tNotV, tAnd, tOr, tNot, tOp, tUn, tVar, tC, tB, tTest, tIf, tCons, tNil, tCB, tTup, tLst, tFld, sFld, sFldAug, rAdd, rSub, tSl, tPart, tNoPart, rI0, rI, rU, rEq, rNe, rSlS, rSlL, rIxL, rIxT, rIxS, tChain, tFn, tMt, tM1, tM0, tBM, rAppend, rIn, tIsN, tNotN, scal_ss, scal_ii, let_nil, let_one, fig_nil, fig_one, LenV_str, L2.start, cxOf, and_assoc, tJs, tFmt, put_at, lk_at, lk_script, lk_upcoming, lk_refuse, lk_skips, lk_expect, lk_word_of, lk_name_unlike, lk_number_to, lk_finish, sp0, sp1, sp2, sp3, sp4, sp5, -List.lookup_eq_none_iff, rIsi, hc, upd_same, z.cls_Cursor, z.na_Cursor_at, z.na_Cursor_script, put1, put_at1, upd_upd]
  rcases h with ⟨l, rfl, hq⟩ | ⟨ty, hty, hk, hb⟩
  · exact ⟨_, _, .ty "str", .base (.str _), Or.inr ⟨kit_ty (by decide +kernel), hq⟩⟩
  · refine ⟨_, _, .ty "str", hty, Or.inl ⟨hk, ?_⟩⟩
    simp [tRet, tRetN, tSeq, tIfS, tDrop, tNext, tNever, tBreak, tCont, tAsg, gName, gCons, gNil, gTup, tAndV, tOrV, tNotV, tAnd, tOr, tNot, tOp, tUn, tVar, tC, tB, tTest, tIf, tCons, tNil, tCB, tTup, tLst, tFld, sFld, sFldAug, rAdd, rSub, tSl, tPart, tNoPart, rI0, rI, rU, rEq, rNe, rSlS, rSlL, rIxL, rIxT, rIxS, tChain, tFn, tMt, tM1, tM0, tBM, rAppend, rIn, tIsN, tNotN, scal_ss, scal_ii, let_nil, let_one, fig_nil, fig_one, LenV_str, L2.start, cxOf, and_assoc, tJs, tFmt, put_at, lk_at, lk_script, lk_upcoming, lk_refuse, lk_skips, lk_expect, lk_word_of, lk_name_unlike, lk_number_to, lk_finish, sp0, sp1, sp2, sp3, sp4, sp5, -List.lookup_eq_none_iff, tBad, tMkO]
    exact bad_fin (K := K) fun d H' e h => hb d H' (K1.of e) h
/-! ### names -/
def sp_is_whole (K : PySem.W.Frag) : Sp := sp1 fun a H Q _ => ∃ i : Int, a = .int i ∧ Q (.bl true) H
theorem sc_is_whole : FnScope ["thing"] ["thing"] (defScope s_is_whole) := ⟨rfl, rfl, rfl, by decide +kernel, rfl, by decide +kernel, by decide +kernel⟩
theorem ok_is_whole (z : Zk K mg base)   : Cal P w K mg base "is_whole" 1 (sp_is_whole K) := by
  obtain ⟨fd, F⟩ := z.d_is_whole
  refine cal_of F z.g_is_whole sc_is_whole (fun _ _ _ _ _ _ us hl => match us, hl with | [_], _ => rfl) (fun vs H Q E h => by match vs, h with | [_], _ => rfl) (fun cdv A outer s H vs Q E hr h => ?_)
  have nd := sc_is_whole.nd
  have hu : (cxOf (L2.CX P w) P w K mg base ["thing"] "is_whole" (defScope s_is_whole) (fAd K ("is_whole", none)) cdv A outer s H E).A.units + 64 < cLine := hr.units
  have hu0 := hr.units0
  have hu1 := hu_of hr
  match vs, h with
  | [a0], h =>
  refine ⟨_, (pss_one (ps_ret (pe_and (pe_callB (k_isi (K := K) rfl) rfl z.b_isinstance boot_isinstance (pa_cons (pv 0) (pa_cons (pe_bltn (v := .ty "int") rfl z.b_int boot_int rfl) pa_nil))) (pe_one (pe_not (pe_callB (k_isi (K := K) rfl) rfl z.b_isinstance boot_isinstance (pa_cons (pv 0) (pa_cons (pe_bltn (v := .ty "bool") rfl z.b_bool boot_bool rfl) pa_nil)))))))), ?_⟩
  obtain ⟨i, rfl, hq⟩ := h
  simp [tRet, tRetN, tSeq, tIfS, tDrop, tNext, tNever, tBreak, tCont, tAsg, gName, gCons, gNil, gTup, tAndV, tOrV, tNotV, tAnd, tOr, tNot, tOp, tUn, tVar, tC, tB, tTest, tIf, tCons, tNil, tCB, tTup, tLst, tFld, sFld, sFldAug, rAdd, rSub, tSl, tPart, tNoPart, rI0, rI, rU, rEq, rNe, rSlS, rSlL, rIxL, rIxT, rIxS, tChain, tFn, tMt, tM1, tM0, tBM, rAppend, rIn, tIsN, tNotN, scal_ss, scal_ii, let_nil, let_one, fig_nil, fig_one, LenV_str, L2.start, cxOf, and_assoc, tJs, tFmt, put_at, lk_at, lk_script, lk_upcoming, lk_refuse, lk_skips, lk_expect, lk_word_of, lk_name_unlike, lk_number_to, lk_finish, sp0, sp1, sp2, sp3, sp4, sp5, -List.lookup_eq_none_iff, rIsi]
  refine ⟨_, _, .ty "int", .base (.int _), Or.inr ⟨kit_ty (by decide +kernel), ?_⟩⟩
  exact ⟨_, _, .ty "bool", .base (.int _), Or.inl ⟨kit_ty (by decide +kernel), hq⟩⟩
def sp_is_between (K : PySem.W.Frag) : Sp := sp3 fun a b c H Q _ => ∃ i j k : Int, a = .int i ∧ b = .int j ∧ c = .int k ∧ Q (.bl (decide (j ≤ i) && decide (i ≤ k))) H
theorem sc_is_between : FnScope ["thing", "least", "most"] ["thing", "least", "most"] (defScope s_is_between) := ⟨rfl, rfl, rfl, by decide +kernel, rfl, by decide +kernel, by decide +kernel⟩
theorem ok_is_between (z : Zk K mg base) (c_is_whole : Cal P w K mg base "is_whole" 1 (sp_is_whole K))  : Cal P w K mg base "is_between" 2 (sp_is_between K) := by
  obtain ⟨fd, F⟩ := z.d_is_between
  refine cal_of F z.g_is_between sc_is_between (fun _ _ _ _ _ _ us hl => match us, hl with | [_, _, _], _ => rfl) (fun vs H Q E h => by match vs, h with | [_, _, _], _ => rfl) (fun cdv A outer s H vs Q E hr h => ?_)
  have nd := sc_is_between.nd
  have hu : (cxOf (L2.CX P w) P w K mg base ["thing", "least", "most"] "is_between" (defScope s_is_between) (fAd K ("is_between", none)) cdv A outer s H E).A.units + 64 < cLine := hr.units
  have hu0 := hr.units0
  have hu1 := hu_of hr
  match vs, h with
  | [a0, a1, a2], h =>
  refine ⟨_, (pss_one (ps_ret (pe_and (pe_fn c_is_whole hr (passD (E := E)) (pa_cons (pv 0) pa_nil)) (pe_one (pe_chain op_le op_le (pv 1) (pv 0) (pv 2)))))), ?_⟩
  obtain ⟨i, j, k, rfl, rfl, rfl, hq⟩ := h
  simp [tRet, tRetN, tSeq, tIfS, tDrop, tNext, tNever, tBreak, tCont, tAsg, gName, gCons, gNil, gTup, tAndV, tOrV, tNotV, tAnd, tOr, tNot, tOp, tUn, tVar, tC, tB, tTest, tIf, tCons, tNil, tCB, tTup, tLst, tFld, sFld, sFldAug, rAdd, rSub, tSl, tPart, tNoPart, rI0, rI, rU, rEq, rNe, rSlS, rSlL, rIxL, rIxT, rIxS, tChain, tFn, tMt, tM1, tM0, tBM, rAppend, rIn, tIsN, tNotN, scal_ss, scal_ii, let_nil, let_one, fig_nil, fig_one, LenV_str, L2.start, cxOf, and_assoc, tJs, tFmt, put_at, lk_at, lk_script, lk_upcoming, lk_refuse, lk_skips, lk_expect, lk_word_of, lk_name_unlike, lk_number_to, lk_finish, sp0, sp1, sp2, sp3, sp4, sp5, -List.lookup_eq_none_iff]
  refine ⟨i, rfl, Or.inr ⟨rfl, ?_⟩⟩
  by_cases h1 : j ≤ i
  · rw [if_pos h1]
    simpa [h1] using hq
  · rw [if_neg h1]
    simpa [h1] using hq
def nameOk (n : List Nat) : Bool := decide (1 ≤ n.length) && decide (n.length ≤ 8) && !decide (n ∈ barred) && n.all isLet
def sp_is_name (K : PySem.W.Frag) : Sp := sp1 fun a H Q _ => ∃ n : List Nat, a = .str (S n) ∧ n.length ≤ 10000 ∧ ∀ H', Ex H H' → Q (.bl (nameOk n)) H'
theorem sc_is_name : FnScope ["thing", "sign"] ["thing"] (defScope s_is_name) := ⟨rfl, rfl, rfl, by decide +kernel, rfl, by decide +kernel, by decide +kernel⟩
theorem ok_is_name (z : Zk K mg base)   : Cal P w K mg base "is_name" 1 (sp_is_name K) := by
  obtain ⟨fd, F⟩ := z.d_is_name
  refine cal_of F z.g_is_name sc_is_name (fun _ _ _ _ _ _ us hl => match us, hl with | [_], _ => rfl) (fun vs H Q E h => by match vs, h with | [_], _ => rfl) (fun cdv A outer s H vs Q E hr h => ?_)
  have nd := sc_is_name.nd
  have hu : (cxOf (L2.CX P w) P w K mg base ["thing", "sign"] "is_name" (defScope s_is_name) (fAd K ("is_name", none)) cdv A outer s H E).A.units + 64 < cLine := hr.units
  have hu0 := hr.units0
  have hu1 := hu_of hr
  match vs, h with
  | [a0], h =>
  refine ⟨_, (pss_cons (ps_if (PW.pt (pw_or (pt_not (pt_val (pe_callB (k_isi (K := K) rfl) rfl z.b_isinstance boot_isinstance (pa_cons (pv 0) (pa_cons (pe_bltn (v := .ty "str") rfl z.b_str boot_str rfl) pa_nil))))) (pw_or (pt_not (pt_chain op_le op_le pe_int (pe_callB (k_len (K := K) rfl) rfl z.b_len boot_len (pa_cons (pv 0) pa_nil)) (pe_gint z.v_LONGEST))) (pw_or1 (pt_cmpR (k_in_seq (K := K) rfl) (pv 0) (pe_gref z.g_BARRED) (by with_unfolding_all rfl)))))) (pss_one (ps_ret pe_bl)) pss_nil)
      (pss_one (ps_ret (pe_callB (k_all (K := K) rfl rfl) rfl z.b_all boot_all (pa_cons (pe_lc rfl nd (pi_str (pv 0)) (blkOk_by (N := ["thing", "sign"]) (sc := defScope s_is_name) (own := [("sign", 1)]) (by decide +kernel)) (fun _ _ _ _ _ => (pg_name nd (i := 1) rfl (Or.inl rfl))) (fun _ _ _ _ _ => pts_nil) (fun _ _ _ _ _ => (pe_cmpR op_in_str (pv 1) (pe_gstr z.v_LETTERS_names) (by with_unfolding_all rfl)))) pa_nil))))), ?_⟩
  obtain ⟨n, rfl, hn, hq⟩ := h
  simp [tRet, tRetN, tSeq, tIfS, tDrop, tNext, tNever, tBreak, tCont, tAsg, gName, gCons, gNil, gTup, tAndV, tOrV, tNotV, tAnd, tOr, tNot, tOp, tUn, tVar, tC, tB, tTest, tIf, tCons, tNil, tCB, tTup, tLst, tFld, sFld, sFldAug, rAdd, rSub, tSl, tPart, tNoPart, rI0, rI, rU, rEq, rNe, rSlS, rSlL, rIxL, rIxT, rIxS, tChain, tFn, tMt, tM1, tM0, tBM, rAppend, rIn, tIsN, tNotN, scal_ss, scal_ii, let_nil, let_one, fig_nil, fig_one, LenV_str, L2.start, cxOf, and_assoc, tJs, tFmt, put_at, lk_at, lk_script, lk_upcoming, lk_refuse, lk_skips, lk_expect, lk_word_of, lk_name_unlike, lk_number_to, lk_finish, sp0, sp1, sp2, sp3, sp4, sp5, -List.lookup_eq_none_iff, rIsi]
  refine ⟨_, _, .ty "str", .base (.str _), Or.inr ⟨kit_ty (by decide +kernel), ?_⟩⟩
  simp [LenV_str, S_len, and_assoc]
  refine ⟨by rw [sizeLine_eq]; omega, ?_⟩
  have no : nameOk n = false → Q (.bl false) H := fun e => by
    have h2 := hq H Ex.rfl'
    rw [e] at h2
    exact h2
  by_cases h1 : 1 ≤ n.length
  · rw [if_pos (by omega)]
    by_cases h2 : n.length ≤ 8
    · rw [if_pos (by omega)]
      refine ⟨_, Or.inr (tBarred z H), rfl, flat_strs _, ?_⟩
      rw [inV_strs]
      by_cases h3 : n ∈ barred
      · rw [if_pos (by simpa using h3)]
        exact no (by simp [nameOk, h3])
      · rw [if_neg (by simpa using h3)]
        refine lc_mapS (l := n) (fun R h => ⟨_, rfl, h⟩) (ys := n.map fun x => .bl (isLet x)) monG_name monT_yes (by simp; omega) (by simp) (fun i x y H' R hi hy e hR => ?_) fun D H' e hD hl => ?_
        · rw [List.getElem?_map, hi] at hy
          cases hy
          refine ⟨rfl, ?_⟩
          simp [tRet, tRetN, tSeq, tIfS, tDrop, tNext, tNever, tBreak, tCont, tAsg, gName, gCons, gNil, gTup, tAndV, tOrV, tNotV, tAnd, tOr, tNot, tOp, tUn, tVar, tC, tB, tTest, tIf, tCons, tNil, tCB, tTup, tLst, tFld, sFld, sFldAug, rAdd, rSub, tSl, tPart, tNoPart, rI0, rI, rU, rEq, rNe, rSlS, rSlL, rIxL, rIxT, rIxS, tChain, tFn, tMt, tM1, tM0, tBM, rAppend, rIn, tIsN, tNotN, scal_ss, scal_ii, let_nil, let_one, fig_nil, fig_one, LenV_str, L2.start, cxOf, and_assoc, tJs, tFmt, put_at, lk_at, lk_script, lk_upcoming, lk_refuse, lk_skips, lk_expect, lk_word_of, lk_name_unlike, lk_number_to, lk_finish, sp0, sp1, sp2, sp3, sp4, sp5, -List.lookup_eq_none_iff, tYes, wipe]
          rw [found_S, let_mem]
          exact hR _ Ex.rfl'
        · refine ⟨_, n.map isLet, rfl, ?_, ?_⟩
          · rw [List.map_map]
            exact Or.inl (Or.inl hl)
          · have h4 := hq H' e
            have h5 : nameOk n = n.all isLet := by simp [nameOk, h1, h2, h3]
            rw [h5] at h4
            rw [List.all_map]
            exact h4
    · rw [if_neg (by omega)]
      exact no (by simp [nameOk, h2])
  · rw [if_neg (by omega)]
    exact no (by simp [nameOk, h1])
end
end Mp

set_option maxHeartbeats 8000000
/-! Kx4: a method that captures __class__, from its body -/
namespace Mp
open PySem PySem.Spec PyProof.Rows L2
/-- such a method as it stands behind the top: its class at D -/
structure SupD (prog : Program) (K : PySem.W.Frag) (D : Addr) (x qual : Str) (params : Arguments) (body : List Stmt) (scope : Scope) (dvs : List V) (f : Addr) : Prop where
  ex : ∃ (oc : Value) (od : Option Addr) (dV kV doc pm : Value) (an : Option Addr) (cda cc : Addr) (ct : Value) (osl : Array (Option Value)),
    K.lookup f = some ⟨oc, od, .func (PySem.W.fnX x qual params body scope [("__class__", cc)] dV kV doc pm an (.ref cda) ct), osl⟩ ∧ PySem.W.codeIn K (.ref cda) qual = true ∧ DflV K dV dvs ∧
    (∃ (ccl : Value) (cdd : Option Addr) (vs : Array Value) (ccs : Array (Option Value)) (tf : Tok), K.lookup cda = some ⟨ccl, cdd, .fields vs, ccs⟩ ∧ vs[2]? = some (.str prog.main.file tf)) ∧
    ∃ (cl : Value) (cld : Option Addr) (csl : Array (Option Value)), K.lookup cc = some ⟨cl, cld, .cell (some (.ref D)), csl⟩
/-- what super() asks of the whole text -/
structure SupG (prog : Program) (K : PySem.W.Frag) : Prop where
  nosup : PySem.W.nsIn K mainGlobals "super" = some none
  top : (prog.main.scope.names.lookup ("super" : Str)).isSome = false
  opq : PySem.W.nsIn K PySem.cStatics "thirdparty.any" = some none
section
variable {P : Program} {w : World} {K : PySem.W.Frag} {mg : Str → Option Value} {base : Heap} {n qual : Str} {params : Arguments} {body : List Stmt} {scope : Scope} {f D : Addr} {N ps : List Str} {k : Nat} {sp : Sp}
abbrev BodS (P : Program) (w : World) (K : PySem.W.Frag) (mg : Str → Option Value) (base : Heap) (D : Addr) (qual : Str) (scope : Scope) (body : List Stmt) (f : Addr) (N : List Str) (k : Nat) (sp : Sp) : Prop :=
  ∀ (cd : Value) (cc : Addr) (A : Around) (outer : List Env) (s : Shared) (H : Hp) (vs : List V) (Q : VK) (E : XK), SupC P K D f cc cd → Room k (A.deeper (envS qual scope s.heap.objs.size f cd cc)) → sp vs H Q E →
      ∃ t, PSA (cxS P w K mg base N qual scope f cd cc A outer s H E) (.func body (envS qual scope s.heap.objs.size f cd cc)) body t ∧ t { nx := fun _ H' => Q .non H', rt := Q } (L2.start N vs) H
abbrev BindX (qual : Str) (n : Str) (params : Arguments) (body : List Stmt) (scope : Scope) (ps : List Str) : Prop :=
  ∀ (cc : Addr) (kV doc pm : Value) (an : Option Addr) (cdv ct : Value) (us : List Value), us.length = ps.length → bindArgs (PySem.W.fnX n qual params body scope [("__class__", cc)] .none kV doc pm an cdv ct) ⟨us, []⟩ = pure (ps.zip us)
theorem fnr_ofS {sup : SupG P K} (F : SupD P K D n qual params body scope [] f) (S : ScS N ps scope) (hself : ∃ ar : Arg, (params.posonlyargs ++ params.args).head? = some ar ∧ ar.arg = "self") (hD : ∃ cdD, PySem.W.clsIn K D = some cdD)
    (hb : BindX qual n params body scope ps) (len : ∀ vs H Q E, sp vs H Q E → vs.length = ps.length) (hbody : BodS P w K mg base D qual scope body f N k sp) : FnR P w K mg base (L2.CX P w) (k + 1) f sp := by
  obtain ⟨oc, od, dV, kV, doc, pm, an, cda, cc, ct, osl, lk, hcd, hd, hcode, hcell⟩ := F.ex
  have hdn : dV = .none := by
    rcases hd with ⟨_, h⟩ | ⟨h, _⟩
    · exact h
    · exact absurd rfl h
  subst hdn
  have hC : SupC P K D f cc (.ref cda) := by
    obtain ⟨ar, h1, h2⟩ := hself
    obtain ⟨ccl, cdd, vs, ccs, tf, h3, h4⟩ := hcode
    exact ⟨⟨_, _, _, _, ar, lk, h1, h2⟩, ⟨cda, ccl, cdd, vs, ccs, tf, rfl, h3, h4⟩, hcell, hD, sup.nosup, sup.top, sup.opq⟩
  have hcc : ∃ (cl : Value) (cld : Option Addr) (v : Option Value) (csl : Array (Option Value)), K.lookup cc = some ⟨cl, cld, .cell v, csl⟩ := by
    obtain ⟨cl, cld, csl, h⟩ := hcell
    exact ⟨cl, cld, _, csl, h⟩
  have G := fn_ofS (P := P) (w := w) (mg := mg) (base := base) lk hcd S hcc len fun A outer s H vs Q E hr h => hbody (.ref cda) cc A outer s H vs Q E hC hr h
  have b : Binds K _ ps [] := Binds.all fun us hl => hb cc kV doc pm an (.ref cda) ct us hl
  refine (G.raw b .nil).imp fun vs H Q E h => ?_
  show sp (vs ++ []) H Q E
  rw [List.append_nil]
  exact h
/-- .. with one default, all parameters written -/
abbrev BindX1 (qual : Str) (n : Str) (params : Arguments) (body : List Stmt) (scope : Scope) (ps : List Str) : Prop :=
  ∀ (cc T : Addr) (kV doc pm : Value) (an : Option Addr) (cdv ct : Value) (us its : List Value), us.length = ps.length → its.length = 1 →
    ∃ k, bindArgs (PySem.W.fnX n qual params body scope [("__class__", cc)] (.ref T) kV doc pm an cdv ct) ⟨us, []⟩ = seqItems? (.ref T) >>= k ∧ k (some its.toArray) = pure (ps.zip us)
theorem fnr_ofS1 {sup : SupG P K} {dv : V} (F : SupD P K D n qual params body scope [dv] f) (S : ScS N ps scope) (hself : ∃ ar : Arg, (params.posonlyargs ++ params.args).head? = some ar ∧ ar.arg = "self") (hD : ∃ cdD, PySem.W.clsIn K D = some cdD)
    (hb : BindX1 qual n params body scope ps) (len : ∀ vs H Q E, sp vs H Q E → vs.length = ps.length) (hbody : BodS P w K mg base D qual scope body f N k sp) : FnR P w K mg base (L2.CX P w) (k + 1) f sp := by
  obtain ⟨oc, od, dV, kV, doc, pm, an, cda, cc, ct, osl, lk, hcd, hd, hcode, hcell⟩ := F.ex
  rcases hd with ⟨h, _⟩ | ⟨_, T, o, its, nn, rfl, lT, oT, rv⟩
  · cases h
  have hC : SupC P K D f cc (.ref cda) := by
    obtain ⟨ar, h1, h2⟩ := hself
    obtain ⟨ccl, cdd, vs, ccs, tf, h3, h4⟩ := hcode
    exact ⟨⟨_, _, _, _, ar, lk, h1, h2⟩, ⟨cda, ccl, cdd, vs, ccs, tf, rfl, h3, h4⟩, hcell, hD, sup.nosup, sup.top, sup.opq⟩
  have hcc : ∃ (cl : Value) (cld : Option Addr) (v : Option Value) (csl : Array (Option Value)), K.lookup cc = some ⟨cl, cld, .cell v, csl⟩ := by
    obtain ⟨cl, cld, csl, h⟩ := hcell
    exact ⟨cl, cld, _, csl, h⟩
  have G := fn_ofS (P := P) (w := w) (mg := mg) (base := base) lk hcd S hcc len fun A outer s H vs Q E hr h => hbody (.ref cda) cc A outer s H vs Q E hC hr h
  have b : Binds K (PySem.W.fnX n qual params body scope [("__class__", cc)] (.ref T) kV doc pm an (.ref cda) ct) ps [] := by
    intro s us X hl
    rw [List.append_nil] at hl ⊢
    obtain ⟨kk, e1, e2⟩ := hb cc T kV doc pm an (.ref cda) ct us its hl rv.length.symm
    refine BindsTo.of_looks fun M => ?_
    rw [e1]
    refine looks_items X lT oT ?_
    rw [e2]
    exact PySem.W.Looks.now
  refine (G.raw b .nil).imp fun vs H Q E h => ?_
  show sp (vs ++ []) H Q E
  rw [List.append_nil]
  exact h
end
end Mp

set_option maxHeartbeats 8000000
/-! Kp1: what the head says of super(); kinds made -/
namespace Mp
open PySem PySem.Spec PyProof.Rows L2
open StX (tMakeR run_makeR pe_makeR)
open He (ga ma fAd)
structure Apart (K : PySem.W.Frag) : Prop where
  ne : ga K "Kind" ≠ ga K "Cursor" ∧ ga K "Machine" ≠ ga K "Cursor"
/-- what the head says of super() -/
structure Zs (P : Program) (K : PySem.W.Frag) : Prop where
  sup : SupG P K
  s_Kind___init__ : SupD P K (ga K "Kind") "__init__" "Kind.__init__" (defArgs s_Kind___init__) (defBody s_Kind___init__) (defScope s_Kind___init__) [.int 1] (fAd K ("Kind", some "__init__"))
  cd_Kind : ∃ cd, PySem.W.clsIn K (ga K "Kind") = some cd
  sm_Kind_Kind : SupM K (ga K "Kind") (ga K "Kind") "__init__" (fAd K ("Part", some "__init__"))
section
variable {P : Program} {w : World} {K : PySem.W.Frag} {mg : Str → Option Value} {base : Heap}
/-- Part.__init__ of any part that is being made -/
def spPart (K : PySem.W.Frag) : Sp := sp2 fun a b H Q _ => ∃ (C x dx : Addr) (d : Nat), a = .ref x ∧ b = .int ((d : Nat) : Int) ∧ H x = some (.ins C dx []) ∧ Cls K C ∧ NoAttr K C "depth" ∧ d ≤ 4 ∧ Q .non (upd H x (.ins C dx [("depth", .int ((d : Nat) : Int))]))
theorem sc_Part___init__ : FnScope ["self", "depth"] ["self", "depth"] (defScope s_Part___init__) := ⟨rfl, rfl, rfl, by decide +kernel, rfl, by decide +kernel, by decide +kernel⟩
theorem ok_Part___init__ (z : Zk K mg base) : FnR P w K mg base (L2.CX P w) 1 (fAd K ("Part", some "__init__")) (spPart K) := by
  obtain ⟨fd, F⟩ := z.d_Part___init__
  refine fnr_of F sc_Part___init__ (fun _ _ _ _ _ _ us hl => match us, hl with | [_, _], _ => rfl) (fun vs H Q E h => by match vs, h with | [_, _], _ => rfl) (fun cdv A outer s H vs Q E hr h => ?_)
  have nd := sc_Part___init__.nd
  match vs, h with
  | [a0, a1], h =>
  refine ⟨_, (pss_cons (ps_if (pt_cmpR op_gt (pv 1) (k_cval (K := K) rfl (pe_gref z.g_Part)) (nomark _)) (pss_one ps_never) pss_nil) (pss_one (ks_fld (K := K) rfl (pv 0) (pv 1)))), ?_⟩
  obtain ⟨C, x, dx, d, rfl, rfl, hx, cl, na, hd, hq⟩ := h
  obtain ⟨mc, u, c1, c2⟩ := z.k_Part_DEPTH
  simp [tRet, tRetN, tSeq, tIfS, tDrop, tNext, tNever, tBreak, tCont, tAsg, gName, gCons, gNil, gTup, tAndV, tOrV, tNotV, tAnd, tOr, tNot, tOp, tUn, tVar, tC, tB, tTest, tIf, tCons, tNil, tCB, tTup, tLst, tFld, sFld, sFldAug, rAdd, rSub, tSl, tPart, tNoPart, rI0, rI, rU, rEq, rNe, rSlS, rSlL, rIxL, rIxT, rIxS, tChain, tFn, tMt, tM1, tM0, tBM, rAppend, rIn, tIsN, tNotN, scal_ss, scal_ii, let_nil, let_one, fig_nil, fig_one, LenV_str, L2.start, cxOf, and_assoc, tJs, tFmt, put_at, lk_at, lk_script, lk_upcoming, lk_refuse, lk_skips, lk_expect, lk_word_of, lk_name_unlike, lk_number_to, lk_finish, sp0, sp1, sp2, sp3, sp4, sp5, -List.lookup_eq_none_iff, ClX.tCVal, hx, cl, na, put1]
  exact ⟨mc, c1, _, ⟨u, c2⟩, _, rfl, by omega, hq⟩
theorem put_name {a v : V} : putF (Str.ofString "name") v [(Str.ofString "depth", a)] = [(Str.ofString "depth", a), (Str.ofString "name", v)] := rfl
theorem put_times {a b v : V} : putF (Str.ofString "times") v [(Str.ofString "depth", a), (Str.ofString "name", b)] = [(Str.ofString "depth", a), (Str.ofString "name", b), (Str.ofString "times", v)] := rfl
theorem nameOk_len {n : List Nat} (h : nameOk n = true) : 1 ≤ n.length ∧ n.length ≤ 8 := by
  simp [nameOk] at h
  omega
def spKind (K : PySem.W.Frag) : Sp := sp3 fun a b c H Q _ => ∃ (x dx : Addr) (n : List Nat) (t : Nat), a = .ref x ∧ b = .str (S n) ∧ c = .int ((t : Nat) : Int) ∧ H x = some (.ins (ga K "Kind") dx []) ∧ nameOk n = true ∧ 1 ≤ t ∧ t ≤ 8 ∧ ∀ H', K1 x H H' → PartAt K H' (.kind n t) x → Q .non H'
theorem sc_Kind___init__ : ScS ["self", "name", "times"] ["self", "name", "times"] (defScope s_Kind___init__) := ⟨rfl, rfl, rfl, by decide +kernel, rfl, by decide +kernel, by decide +kernel, by decide +kernel⟩
theorem ok_Kind___init__ (z : Zk K mg base) (y : Zs P K) (c_is_name : Cal P w K mg base "is_name" 1 (sp_is_name K)) (c_is_between : Cal P w K mg base "is_between" 2 (sp_is_between K))  : FnR P w K mg base (L2.CX P w) 3 (fAd K ("Kind", some "__init__")) ((spKind K)) := by
  refine fnr_ofS1 (sup := y.sup) y.s_Kind___init__ sc_Kind___init__ ⟨_, rfl, rfl⟩ y.cd_Kind (fun _ _ _ _ _ _ _ _ us its hl hl1 => match us, its, hl, hl1 with | [_, _, _], [_], _, _ => ⟨_, rfl, rfl⟩) (fun vs H Q E h => by match vs, h with | [_, _, _], _ => rfl) (fun cd cc A outer s H vs Q E hT hr h => ?_)
  have nd := sc_Kind___init__.nd
  have hu0 := hr.units0
  match vs, h with
  | [a0, a1, a2], h =>
  refine ⟨_, (psa_cons (ps_if (pt_not (pt_val (pe_fn c_is_name hr (passD (E := E)) (pa_cons (pv 1) pa_nil)))) (pss_one ps_never) pss_nil)
      (psa_cons (ps_if (pt_not (pt_val (pe_fn c_is_between hr (passD (E := E)) (pa_cons (pv 2) (pa_cons pe_int (pa_cons (pe_gint z.v_MOST_TIMES) pa_nil)))))) (pss_one ps_never) pss_nil)
      (psa_sup (k := 1) hT rfl rfl rfl rfl rfl hr (passD (E := E)) (pa_cons pe_int pa_nil)
      (psa_of (pss_cons (ks_fld (K := K) rfl (pv 0) (pv 1))
      (pss_one (ks_fld (K := K) rfl (pv 0) (pv 2))))) (by omega)))), ?_⟩
  obtain ⟨x, dx, n, t, rfl, rfl, rfl, hx, hn, ht1, ht2, hq⟩ := h
  have hl := nameOk_len hn
  simp [tRet, tRetN, tSeq, tIfS, tDrop, tNext, tNever, tBreak, tCont, tAsg, gName, gCons, gNil, gTup, tAndV, tOrV, tNotV, tAnd, tOr, tNot, tOp, tUn, tVar, tC, tB, tTest, tIf, tCons, tNil, tCB, tTup, tLst, tFld, sFld, sFldAug, rAdd, rSub, tSl, tPart, tNoPart, rI0, rI, rU, rEq, rNe, rSlS, rSlL, rIxL, rIxT, rIxS, tChain, tFn, tMt, tM1, tM0, tBM, rAppend, rIn, tIsN, tNotN, scal_ss, scal_ii, let_nil, let_one, fig_nil, fig_one, LenV_str, L2.start, cxOf, and_assoc, tJs, tFmt, put_at, lk_at, lk_script, lk_upcoming, lk_refuse, lk_skips, lk_expect, lk_word_of, lk_name_unlike, lk_number_to, lk_finish, sp0, sp1, sp2, sp3, sp4, sp5, -List.lookup_eq_none_iff]
  refine ⟨n, rfl, by omega, fun H1 e => ⟨by rw [hn], ?_⟩⟩
  refine ⟨_, _, _, rfl, rfl, rfl, ⟨by simp; omega, ?_⟩⟩
  have hx1 := e _ _ hx
  simp only [tSup]
  refine ⟨x, _, dx, _, _, _, rfl, hx1, y.sm_Kind_Kind, ok_Part___init__ z, ?_⟩
  simp [tRet, tRetN, tSeq, tIfS, tDrop, tNext, tNever, tBreak, tCont, tAsg, gName, gCons, gNil, gTup, tAndV, tOrV, tNotV, tAnd, tOr, tNot, tOp, tUn, tVar, tC, tB, tTest, tIf, tCons, tNil, tCB, tTup, tLst, tFld, sFld, sFldAug, rAdd, rSub, tSl, tPart, tNoPart, rI0, rI, rU, rEq, rNe, rSlS, rSlL, rIxL, rIxT, rIxS, tChain, tFn, tMt, tM1, tM0, tBM, rAppend, rIn, tIsN, tNotN, scal_ss, scal_ii, let_nil, let_one, fig_nil, fig_one, LenV_str, L2.start, cxOf, and_assoc, tJs, tFmt, put_at, lk_at, lk_script, lk_upcoming, lk_refuse, lk_skips, lk_expect, lk_word_of, lk_name_unlike, lk_number_to, lk_finish, sp0, sp1, sp2, sp3, sp4, sp5, -List.lookup_eq_none_iff]
  refine ⟨_, _, dx, 0, rfl, rfl, hx1, z.cls_Kind, z.na_Kind_depth, by omega, ?_⟩
  simp [tRet, tRetN, tSeq, tIfS, tDrop, tNext, tNever, tBreak, tCont, tAsg, gName, gCons, gNil, gTup, tAndV, tOrV, tNotV, tAnd, tOr, tNot, tOp, tUn, tVar, tC, tB, tTest, tIf, tCons, tNil, tCB, tTup, tLst, tFld, sFld, sFldAug, rAdd, rSub, tSl, tPart, tNoPart, rI0, rI, rU, rEq, rNe, rSlS, rSlL, rIxL, rIxT, rIxS, tChain, tFn, tMt, tM1, tM0, tBM, rAppend, rIn, tIsN, tNotN, scal_ss, scal_ii, let_nil, let_one, fig_nil, fig_one, LenV_str, L2.start, cxOf, and_assoc, tJs, tFmt, put_at, lk_at, lk_script, lk_upcoming, lk_refuse, lk_skips, lk_expect, lk_word_of, lk_name_unlike, lk_number_to, lk_finish, sp0, sp1, sp2, sp3, sp4, sp5, -List.lookup_eq_none_iff, upd_same, z.cls_Kind, z.na_Kind_name, z.na_Kind_times, put_name, put_times, upd_upd]
  exact hq _ (K1.trans (K1.of e) K1.upd) ⟨dx, upd_same⟩
end
end Mp

set_option maxHeartbeats 8000000
/-! Kp5: machine texts read -/
namespace Mp
open PySem PySem.Spec PyProof.Rows L2
open StX (tMakeR run_makeR pe_makeR)
open He (ga ma fAd)
section
variable {P : Program} {w : World} {K : PySem.W.Frag} {mg : Str → Option Value} {base : Heap}
/-! ### loops over enumerate -/
theorem tfor_enum {a : Addr} {xs : List V} {g : TG} {tb : TS} {D : Ends} {σ : L2.St} {H : Hp} {ta : TA} (ht : ∀ R : List V → Hp → Prop, R [.ref a] H → ta σ H R) (Pv : Nat → L2.St → Hp → Prop) (h0 : Pv 0 σ H) (hl : ∀ i σ H, i ≤ xs.length → Pv i σ H → SqL K H a xs)
    (hs : ∀ (i : Nat) (x : V) (q : Addr) (σ : L2.St) (H : Hp), xs[i]? = some x → Pv i σ H → H q = none → g (.ref q) σ (upd H q (.tup [.int ((i : Nat) : Int), x])) fun σ2 H2 => tb { D with nx := Pv (i + 1), ct := Pv (i + 1), bk := D.nx } σ2 H2)
    (hd : ∀ σ H, Pv xs.length σ H → D.nx σ H) : tFor (iEnum K ta) g tb D σ H := by
  refine ht _ ⟨a, xs, rfl, hl 0 _ _ (Nat.zero_le _) h0, fun i m σ H => i ≤ xs.length ∧ m = xs.length - i ∧ Pv i σ H, ⟨_, Nat.zero_le _, rfl, h0⟩, fun i m σ H ⟨h1, h2, h3⟩ => ?_⟩
  by_cases hi : i = xs.length
  · subst hi
    exact Or.inl ⟨⟨xs, hl _ _ _ h1 h3, Nat.le_refl _⟩, hd _ _ h3⟩
  · have hlt : i < xs.length := by omega
    have hx : xs[i]? = some xs[i] := List.getElem?_eq_getElem hlt
    refine Or.inr ⟨⟨xs, _, hl _ _ _ h1 h3, hx⟩, Pv (i + 1), fun σ' H' h => ⟨xs.length - (i + 1), by omega, by omega, rfl, h⟩, ?_⟩
    intro v H' hv
    obtain ⟨q, x, rfl, hq, rfl, hall⟩ := hv
    exact hs i x q σ H (hall xs (hl _ _ _ h1 h3)) h3 hq
/-! ### kinds in a list -/
/-- the kinds as, of the names ns -/
def KdsAt (K : PySem.W.Frag) (H : Hp) (ns : List (List Nat)) (as : List Addr) : Prop := as.length = ns.length ∧ ∀ (i : Nat) (n : List Nat) (b : Addr), ns[i]? = some n → as[i]? = some b → ∃ (dx : Addr) (t : Nat), H b = some (.ins (ga K "Kind") dx [("depth", .int 0), ("name", .str (S n)), ("times", .int t)])
theorem KdsAt.st {H H' : Hp} {ns : List (List Nat)} {as : List Addr} (ap : Apart K) (e : Stb K H H') (h : KdsAt K H ns as) : KdsAt K H' ns as :=
  ⟨h.1, fun i n b hn hb => by
    obtain ⟨dx, t, h⟩ := h.2 i n b hn hb
    exact ⟨dx, t, e _ _ h ⟨ap.ne.1, List.cons_ne_nil _ _⟩⟩⟩
structure KsOk (ns : List (List Nat)) : Prop where
  nd : ns.Nodup
  ok : ∀ n ∈ ns, nameOk n = true
  lo : 1 ≤ ns.length
  hi : ns.length ≤ 3
def sp_read_exponents (K : PySem.W.Frag) : Sp := sp2 fun a b H Q E => ∃ (c ka : Addr) (l r : List Nat) (ns : List (List Nat)) (as : List Addr), a = .ref c ∧ b = .ref ka ∧ CurR K H c l r ∧ H ka = some (.lst (as.map V.ref)) ∧ KdsAt K H ns as ∧ KsOk ns ∧
  match readExps ns false r with
  | .ok ps r => ∀ D H', K1 c H H' → H D = none → CurR K H' c l r → DictAt H' D ns ps → (∀ p ∈ ps, p.1 ≤ 1000 ∧ p.2 ≤ p.1) → Q (.ref D) H'
  | .bad r => BadK K c E H (l.length - r.length)
theorem c_commasp : Str.ofString ", " = S [44, 32] := rfl
theorem c_sp : Str.ofString " " = S [32] := rfl
theorem lk_name {a b : V} {r : List (Str × V)} : List.lookup (Str.ofString "name") ((Str.ofString "depth", a) :: (Str.ofString "name", b) :: r) = some b := rfl
theorem expect_if {H2 : Hp} {c : Addr} {l r' w : List Nat} {E : XK} {cnd : Prop} [Decidable cnd] {R : Hp → Prop} (hC : CurR K H2 c l r')
    (main : ∀ H1 r1, K1 c H2 H1 → CurR K H1 c l r1 → (if cnd then expects w r' else .ok () r') = .ok () r1 → R H1)
    (bad : ∀ r1, (if cnd then expects w r' else .ok () r') = .bad r1 → BadK K c E H2 (l.length - r1.length)) :
    if cnd then sp_Cursor_expect K [.ref c, .str (S w)] H2 (fun _ H1 => ∃ x x_1, H1 c = some (.ins (ga K (Str.ofString "Cursor")) x x_1) ∧ List.lookup (Str.ofString "expect") x_1 = none ∧ R H1) E else R H2 := by
  split
  · rename_i hc
    rw [if_pos hc] at main bad
    refine ⟨c, l, r', w, rfl, rfl, hC, ?_⟩
    cases he : expects w r' with
    | ok _ r1 =>
      intro H1 k1 c1
      obtain ⟨_, _, dx, h1⟩ := id c1
      exact ⟨_, _, h1, rfl, main H1 r1 k1 c1 he⟩
    | bad r1 => exact bad r1 he
  · rename_i hc
    rw [if_neg hc] at main
    exact main H2 r' K1.rfl' hC rfl
theorem sc_read_exponents : FnScope ["cursor", "kinds", "found", "at", "kind", "size"] ["cursor", "kinds"] (defScope s_read_exponents) := ⟨rfl, rfl, rfl, by decide +kernel, rfl, by decide +kernel, by decide +kernel⟩
theorem ok_read_exponents (z : Zk K mg base) (m_Cursor_number_to : Cmt P w K mg base (ga K "Cursor") "number_to" 4 (sp_Cursor_number_to K)) (m_Cursor_expect : Cmt P w K mg base (ga K "Cursor") "expect" 4 (sp_Cursor_expect K)) (ap : Apart K) : Cal P w K mg base "read_exponents" 5 (sp_read_exponents K) := by
  obtain ⟨fd, F⟩ := z.d_read_exponents
  refine cal_of F z.g_read_exponents sc_read_exponents (fun _ _ _ _ _ _ us hl => match us, hl with | [_, _], _ => rfl) (fun vs H Q E h => by match vs, h with | [_, _], _ => rfl) (fun cdv A outer s H vs Q E hr h => ?_)
  have nd := sc_read_exponents.nd
  have hu : (cxOf (L2.CX P w) P w K mg base ["cursor", "kinds", "found", "at", "kind", "size"] "read_exponents" (defScope s_read_exponents) (fAd K ("read_exponents", none)) cdv A outer s H E).A.units + 64 < cLine := hr.units
  have hu0 := hr.units0
  have hu1 := hu_of hr
  match vs, h with
  | [a0, a1], h =>
  refine ⟨_, (pss_cons (ps_set (i := 2) nd rfl (Or.inl rfl) pe_dnewK)
      (pss_cons (ps_for (passes_of rfl) rfl (k_pi_enum (K := K) rfl rfl z.b_enumerate (pa_cons (pv 1) pa_nil)) (k_pg_tup (K := K) (n := 2) rfl rfl (pgs_cons (pg_name nd (i := 3) rfl (Or.inl rfl)) (pgs_cons (pg_name nd (i := 4) rfl (Or.inl rfl)) pgs_nil))) (pss_cons (ps_if (pt_cmpR op_gt (pv 3) pe_int (nomark _)) (pss_one (ps_expr (pe_mt (pv 0) m_Cursor_expect hr (passD (E := E)) (pa_cons pe_str pa_nil)))) pss_nil)
      (pss_cons (ps_expr (pe_mt (pv 0) m_Cursor_expect hr (passD (E := E)) (pa_cons (pe_op op_add_str (k_fld (K := K) rfl (pv 4)) pe_str) pa_nil)))
      (pss_cons (ps_set (i := 5) nd rfl (Or.inl rfl) (pe_mt (pv 0) m_Cursor_number_to hr (passD (E := E)) (pa_cons pe_int (pa_cons (pe_gint z.v_MOST_EXPONENT) pa_nil))))
      (pss_cons (ps_expr (pe_mt (pv 0) m_Cursor_expect hr (passD (E := E)) (pa_cons pe_str pa_nil)))
      (pss_one (ps_dput (by omega) (pv 2) (k_fld (K := K) rfl (pv 4)) (pe_tup (pa_cons (pv 5) (pa_cons (pe_mt (pv 0) m_Cursor_number_to hr (passD (E := E)) (pa_cons pe_int (pa_cons (pv 5) pa_nil))) pa_nil))) rfl)))))))
      (pss_one (ps_ret (pv 2))))), ?_⟩
  obtain ⟨c, ka, l, r, ns, as, rfl, rfl, hC, hka, hK, hO, hq⟩ := h
  simp [sDPut, tDGet, tDIn, tDNotIn, tRet, tRetN, tSeq, tIfS, tDrop, tNext, tNever, tBreak, tCont, tAsg, gName, gCons, gNil, gTup, tAndV, tOrV, tNotV, tAnd, tOr, tNot, tOp, tUn, tVar, tC, tB, tTest, tIf, tCons, tNil, tCB, tTup, tLst, tFld, sFld, sFldAug, rAdd, rSub, tSl, tPart, tNoPart, rI0, rI, rU, rEq, rNe, rSlS, rSlL, rIxL, rIxT, rIxS, tChain, tFn, tMt, tM1, tM0, tBM, rAppend, rIn, tIsN, tNotN, scal_ss, scal_ii, let_nil, let_one, fig_nil, fig_one, LenV_str, L2.start, cxOf, and_assoc, tJs, tFmt, put_at, lk_at, lk_script, lk_upcoming, lk_refuse, lk_skips, lk_expect, lk_word_of, lk_name_unlike, lk_number_to, lk_finish, sp0, sp1, sp2, sp3, sp4, sp5, -List.lookup_eq_none_iff, tDNewK]
  intro D hD
  have hDc : D ≠ c := fun e => by
    obtain ⟨_, _, dx1, hc1⟩ := hC
    rw [e, hc1] at hD
    cases hD
  have eD : Ex H (upd H D (.dK [])) := Ex.new hD
  have hkc : ka ≠ c := fun e => by
    obtain ⟨_, _, dx1, hc1⟩ := hC
    rw [e, hc1] at hka
    cases hka
  have hkD : ka ≠ D := fun e => by rw [e, hD] at hka; cases hka
  refine tfor_enum (xs := as.map V.ref) (fun R h => ⟨_, rfl, h⟩)
    (fun i σ H' => ∃ r' ps u1 u2 u3, σ = [some (.ref c), some (.ref ka), some (.ref D), u1, u2, u3] ∧ CurR K H' c l r' ∧ K1 c H H' ∧ DictAt H' D (ns.take i) ps ∧ (∀ p ∈ ps, p.1 ≤ 1000 ∧ p.2 ≤ p.1) ∧ addPs ps (readExps (ns.drop i) (i != 0) r') = readExps ns false r)
    ⟨r, [], none, none, none, rfl, hC.ex eD, K1.of eD, ⟨[], rfl, rfl, upd_same, fun i b p h => by simp at h⟩, List.forall_mem_nil _, addPs_nil _⟩ (fun i σ H' _ h => ?_) (fun i x q σ H' hi h hq2 => ?_) (fun σ H' h => ?_)
  · obtain ⟨r', ps, u1, u2, u3, _, _, k, _⟩ := h
    exact SqL.of (k _ _ hkc hka)
  · obtain ⟨r', ps, u1, u2, u3, rfl, hC', hk, hd, hpl, hg⟩ := h
    have e2 : Ex H' (upd H' q (.tup [.int ((i : Nat) : Int), x])) := Ex.new hq2
    have hil : i < ns.length := by
      have := (List.getElem?_eq_some_iff.mp hi).1
      rwa [List.length_map, hK.1] at this
    obtain ⟨b, hb, rfl⟩ : ∃ b, as[i]? = some b ∧ x = .ref b := by
      rw [List.getElem?_map] at hi
      cases hx : as[i]? with
      | none => rw [hx] at hi; cases hi
      | some y => rw [hx] at hi; cases hi; exact ⟨y, rfl, rfl⟩
    obtain ⟨n, hn⟩ : ∃ n, ns[i]? = some n := ⟨_, List.getElem?_eq_getElem hil⟩
    have hDq : D ≠ q := fun e => by
      obtain ⟨as2, _, _, h3, _⟩ := hd
      rw [e, hq2] at h3
      cases h3
    have hdr : ns.drop i = n :: ns.drop (i + 1) := by
      obtain ⟨hi2, e⟩ := List.getElem?_eq_some_iff.mp hn
      rw [← e]
      exact List.drop_eq_getElem_cons hi2
    rw [hdr, readExps] at hg
    have hbk := fun H2 (k : Stb K H H2) => (hK.st ap k).2 i n b hn hb
    have hC2 := hC'.ex e2
    obtain ⟨hs2, hl2, dx2, hc2⟩ := id hC2
    have hnl := nameOk_len (hO.ok n (List.mem_of_getElem? hn))
    have hk2 : K1 c H (upd H' q (.tup [.int ((i : Nat) : Int), .ref b])) := K1.trans hk (K1.of e2)
    simp [sDPut, tDGet, tDIn, tDNotIn, tRet, tRetN, tSeq, tIfS, tDrop, tNext, tNever, tBreak, tCont, tAsg, gName, gCons, gNil, gTup, tAndV, tOrV, tNotV, tAnd, tOr, tNot, tOp, tUn, tVar, tC, tB, tTest, tIf, tCons, tNil, tCB, tTup, tLst, tFld, sFld, sFldAug, rAdd, rSub, tSl, tPart, tNoPart, rI0, rI, rU, rEq, rNe, rSlS, rSlL, rIxL, rIxT, rIxS, tChain, tFn, tMt, tM1, tM0, tBM, rAppend, rIn, tIsN, tNotN, scal_ss, scal_ii, let_nil, let_one, fig_nil, fig_one, LenV_str, L2.start, cxOf, and_assoc, tJs, tFmt, put_at, lk_at, lk_script, lk_upcoming, lk_refuse, lk_skips, lk_expect, lk_word_of, lk_name_unlike, lk_number_to, lk_finish, sp0, sp1, sp2, sp3, sp4, sp5, -List.lookup_eq_none_iff, hc2, c_commasp, c_sp, S_app, S_len, sizeLine_eq]
    refine ⟨_, SqT.of upd_same, rfl, _, _, rfl, _, _, rfl, rfl, _, rfl, ?_⟩
    have hcond : (if (0 : Int) < ((i : Nat) : Int) then expects [44, 32] r' else Res.ok () r') = (if (i != 0) = true then expects [44, 32] r' else Res.ok () r') := by
      by_cases h0 : i = 0
      · rw [if_neg (by omega), if_neg (by simp [h0])]
      · rw [if_pos (by omega), if_pos (by simp [h0])]
    refine expect_if hC2 (fun H3 r1 k3 hC3 he => ?_) (fun r1 he => ?_)
    · rw [hcond] at he
      rw [he] at hg
      have hk3 := K1.trans hk2 k3
      obtain ⟨dx, t, hbk3⟩ := hbk H3 (Stb.k1 hk3 hC)
      refine ⟨_, rfl, _, _, _, hbk3, z.cls_Kind, z.na_Kind_name, _, lk_name, _, rfl, by rw [S_len]; omega, c, l, r1, n ++ [32], rfl, congrArg V.str (S_app _ _), hC3, ?_⟩
      unfold expPart at hg
      cases he2 : expects (n ++ [32]) r1 with
      | bad r2 =>
        rw [Res.bind, he2] at hg
        rw [← hg] at hq
        exact BadK.k1 hq hk3
      | ok _ r2 =>
        rw [Res.bind, he2, Res.bind] at hg
        intro H4 k4 hC4
        obtain ⟨_, _, dx4, hc4⟩ := id hC4
        have hk4 := K1.trans hk3 k4
        refine ⟨_, _, hc4, rfl, c, l, r2, 0, 1000, rfl, rfl, rfl, hC4, ?_⟩
        cases he3 : numGo 0 1000 0 false r2 with
        | bad r3 =>
          rw [he3] at hg
          rw [← hg] at hq
          exact BadK.k1 hq hk4
        | ok sz r3 =>
          rw [he3] at hg
          intro H5 k5 hC5
          obtain ⟨_, _, dx5, hc5⟩ := id hC5
          have hk5 := K1.trans hk4 k5
          simp [sDPut, tDGet, tDIn, tDNotIn, tRet, tRetN, tSeq, tIfS, tDrop, tNext, tNever, tBreak, tCont, tAsg, gName, gCons, gNil, gTup, tAndV, tOrV, tNotV, tAnd, tOr, tNot, tOp, tUn, tVar, tC, tB, tTest, tIf, tCons, tNil, tCB, tTup, tLst, tFld, sFld, sFldAug, rAdd, rSub, tSl, tPart, tNoPart, rI0, rI, rU, rEq, rNe, rSlS, rSlL, rIxL, rIxT, rIxS, tChain, tFn, tMt, tM1, tM0, tBM, rAppend, rIn, tIsN, tNotN, scal_ss, scal_ii, let_nil, let_one, fig_nil, fig_one, LenV_str, L2.start, cxOf, and_assoc, tJs, tFmt, put_at, lk_at, lk_script, lk_upcoming, lk_refuse, lk_skips, lk_expect, lk_word_of, lk_name_unlike, lk_number_to, lk_finish, sp0, sp1, sp2, sp3, sp4, sp5, -List.lookup_eq_none_iff, hc5]
          refine ⟨c, l, r3, [32], rfl, rfl, hC5, ?_⟩
          cases he4 : expects [32] r3 with
          | bad r4 =>
            rw [Res.bind, he4] at hg
            rw [← hg] at hq
            exact BadK.k1 hq hk5
          | ok _ r4 =>
            rw [Res.bind, he4, Res.bind] at hg
            intro H6 k6 hC6
            obtain ⟨_, _, dx6, hc6⟩ := id hC6
            have hk6 := K1.trans hk5 k6
            simp [sDPut, tDGet, tDIn, tDNotIn, tRet, tRetN, tSeq, tIfS, tDrop, tNext, tNever, tBreak, tCont, tAsg, gName, gCons, gNil, gTup, tAndV, tOrV, tNotV, tAnd, tOr, tNot, tOp, tUn, tVar, tC, tB, tTest, tIf, tCons, tNil, tCB, tTup, tLst, tFld, sFld, sFldAug, rAdd, rSub, tSl, tPart, tNoPart, rI0, rI, rU, rEq, rNe, rSlS, rSlL, rIxL, rIxT, rIxS, tChain, tFn, tMt, tM1, tM0, tBM, rAppend, rIn, tIsN, tNotN, scal_ss, scal_ii, let_nil, let_one, fig_nil, fig_one, LenV_str, L2.start, cxOf, and_assoc, tJs, tFmt, put_at, lk_at, lk_script, lk_upcoming, lk_refuse, lk_skips, lk_expect, lk_word_of, lk_name_unlike, lk_number_to, lk_finish, sp0, sp1, sp2, sp3, sp4, sp5, -List.lookup_eq_none_iff, hc6]
            refine ⟨c, l, r4, 0, sz, rfl, rfl, rfl, hC6, ?_⟩
            cases he5 : numGo 0 sz 0 false r4 with
            | bad r5 =>
              rw [he5] at hg
              rw [← hg] at hq
              exact BadK.k1 hq hk6
            | ok al r5 =>
              rw [he5] at hg
              intro H7 k7 hC7
              have hk7 := K1.trans hk6 k7
              intro p hp
              have e7 : Ex H7 (upd H7 p (.tup [.int ((sz : Nat) : Int), .int ((al : Nat) : Int)])) := Ex.new hp
              obtain ⟨dx8, t8, hb8⟩ := hbk _ (Stb.k1 (K1.trans hk7 (K1.of e7)) hC)
              have k27 : K1 c (upd H' q (.tup [.int ((i : Nat) : Int), .ref b])) H7 := K1.trans k3 (K1.trans k4 (K1.trans k5 (K1.trans k6 k7)))
              have hd7 : DictAt H7 D (ns.take i) ps := by
                obtain ⟨as2, h1, h2, h3, h4⟩ := hd
                have st : Stb K (upd H' q (.tup [.int ((i : Nat) : Int), .ref b])) H7 := Stb.k1 k27 hC2
                exact ⟨as2, h1, h2, k27 _ _ hDc (e2 _ _ h3), fun i b p hb hp => st _ _ (e2 _ _ (h4 i b p hb hp)) trivial⟩
              have hDp : D ≠ p := fun e => by
                obtain ⟨as2, _, _, h3, _⟩ := hd7
                rw [e, hp] at h3
                cases h3
              have hnin : n ∉ ns.take i := by
                intro hm
                obtain ⟨j, hj⟩ := List.mem_iff_getElem?.mp hm
                rw [List.getElem?_take] at hj
                split at hj
                · have := nd_ix hO.nd hj hn
                  omega
                · cases hj
              obtain ⟨kvs, hkv, hkl, hput⟩ := DictAt.put (p := (sz, al)) hDp hnin (hd7.ex e7) upd_same
              have hnl2 : (ns.take i).length ≤ 3 := by rw [List.length_take]; have := hO.hi; omega
              refine ⟨_, _, _, hb8, z.cls_Kind, z.na_Kind_name, _, lk_name, _, DPut.k (k := Sum.inr (S n)) hkv (by rw [hkl, sizeLine_eq]; omega), r5, (hC7.ex e7).une hDc, K1.mut (K1.trans hk7 (K1.of e7)) hD, ps ++ [(sz, al)], ?_, ?_, ?_⟩
              · have h9 : ns.take (i + 1) = ns.take i ++ [n] := by
                  obtain ⟨hi2, h8⟩ := List.getElem?_eq_some_iff.mp hn
                  rw [← h8]
                  exact List.take_succ_eq_append_getElem hi2
                rw [h9]
                exact hput
              · intro a b hab
                rcases List.mem_append.mp hab with hab | hab
                · exact hpl _ hab
                · have := List.mem_singleton.mp hab
                  cases this
                  exact ⟨numGo_le (fun e => by cases e) he3, numGo_le (fun e => by cases e) he5⟩
              · exact (addPs_cons _ _ _).symm.trans hg
    · rw [hcond] at he
      rw [he] at hg
      rw [← hg] at hq
      exact BadK.k1 hq hk2
  · obtain ⟨r', ps, u1, u2, u3, rfl, hC', hk, hd, hpl, hg⟩ := h
    have el : (as.map V.ref).length = ns.length := by rw [List.length_map, hK.1]
    rw [el, List.take_length] at hd
    rw [el, List.drop_length, readExps] at hg
    simp [sDPut, tDGet, tDIn, tDNotIn, tRet, tRetN, tSeq, tIfS, tDrop, tNext, tNever, tBreak, tCont, tAsg, gName, gCons, gNil, gTup, tAndV, tOrV, tNotV, tAnd, tOr, tNot, tOp, tUn, tVar, tC, tB, tTest, tIf, tCons, tNil, tCB, tTup, tLst, tFld, sFld, sFldAug, rAdd, rSub, tSl, tPart, tNoPart, rI0, rI, rU, rEq, rNe, rSlS, rSlL, rIxL, rIxT, rIxS, tChain, tFn, tMt, tM1, tM0, tBM, rAppend, rIn, tIsN, tNotN, scal_ss, scal_ii, let_nil, let_one, fig_nil, fig_one, LenV_str, L2.start, cxOf, and_assoc, tJs, tFmt, put_at, lk_at, lk_script, lk_upcoming, lk_refuse, lk_skips, lk_expect, lk_word_of, lk_name_unlike, lk_number_to, lk_finish, sp0, sp1, sp2, sp3, sp4, sp5, -List.lookup_eq_none_iff]
    rw [← hg] at hq
    unfold addPs at hq
    simp only [Res.bind, List.append_nil] at hq
    exact hq D H' hk hD hC' hd hpl
def sp_exponents_in (K : PySem.W.Frag) : Sp := sp2 fun a b H Q E => ∃ (ka : Addr) (ns : List (List Nat)) (as : List Addr), b = .ref ka ∧ H ka = some (.lst (as.map V.ref)) ∧ KdsAt K H ns as ∧ KsOk ns ∧
  ((∃ l : List Nat, a = .str (S l) ∧ l.length ≤ 10000 ∧ match readMach ns l with
  | .ok ps _ => ∀ D H', Ex H H' → H D = none → DictAt H' D ns ps → (∀ p ∈ ps, p.1 ≤ 1000 ∧ p.2 ≤ p.1) → Q (.ref D) H'
  | .bad r => BadX K E H (l.length - r.length)) ∨ (∃ ty, TyX K H a ty ∧ PySem.W.kitOne K ty (.type "str") = some false ∧ BadX K E H 0))
theorem sc_exponents_in : FnScope ["text", "kinds", "cursor", "found"] ["text", "kinds"] (defScope s_exponents_in) := ⟨rfl, rfl, rfl, by decide +kernel, rfl, by decide +kernel, by decide +kernel⟩
theorem ok_exponents_in (z : Zk K mg base) (k_Cursor : Cmk P w K mg base "Cursor" (ga K "Cursor") 3 (sp_Cursor___init__ K)) (m_Cursor_finish : Cmt P w K mg base (ga K "Cursor") "finish" 4 (sp_Cursor_finish K)) (c_read_exponents : Cal P w K mg base "read_exponents" 5 (sp_read_exponents K)) (ap : Apart K) : Cal P w K mg base "exponents_in" 6 (sp_exponents_in K) := by
  obtain ⟨fd, F⟩ := z.d_exponents_in
  refine cal_of F z.g_exponents_in sc_exponents_in (fun _ _ _ _ _ _ us hl => match us, hl with | [_, _], _ => rfl) (fun vs H Q E h => by match vs, h with | [_, _], _ => rfl) (fun cdv A outer s H vs Q E hr h => ?_)
  have nd := sc_exponents_in.nd
  have hu : (cxOf (L2.CX P w) P w K mg base ["text", "kinds", "cursor", "found"] "exponents_in" (defScope s_exponents_in) (fAd K ("exponents_in", none)) cdv A outer s H E).A.units + 64 < cLine := hr.units
  have hu0 := hr.units0
  have hu1 := hu_of hr
  match vs, h with
  | [a0, a1], h =>
  refine ⟨_, (pss_cons (ps_set (i := 2) nd rfl (Or.inl rfl) (pe_mk k_Cursor hr (passD (E := E)) (pa_cons (pv 0) pa_nil)))
      (pss_cons (ps_set (i := 3) nd rfl (Or.inl rfl) (pe_fn c_read_exponents hr (passD (E := E)) (pa_cons (pv 2) (pa_cons (pv 1) pa_nil))))
      (pss_cons (ps_expr (pe_mt0 (pv 2) m_Cursor_finish hr (passD (E := E))))
      (pss_one (ps_ret (pv 3)))))), ?_⟩
  obtain ⟨ka, ns, as, rfl, hka, hK, hO, hq⟩ := h
  simp [sDPut, tDGet, tDIn, tDNotIn, tRet, tRetN, tSeq, tIfS, tDrop, tNext, tNever, tBreak, tCont, tAsg, gName, gCons, gNil, gTup, tAndV, tOrV, tNotV, tAnd, tOr, tNot, tOp, tUn, tVar, tC, tB, tTest, tIf, tCons, tNil, tCB, tTup, tLst, tFld, sFld, sFldAug, rAdd, rSub, tSl, tPart, tNoPart, rI0, rI, rU, rEq, rNe, rSlS, rSlL, rIxL, rIxT, rIxS, tChain, tFn, tMt, tM1, tM0, tBM, rAppend, rIn, tIsN, tNotN, scal_ss, scal_ii, let_nil, let_one, fig_nil, fig_one, LenV_str, L2.start, cxOf, and_assoc, tJs, tFmt, put_at, lk_at, lk_script, lk_upcoming, lk_refuse, lk_skips, lk_expect, lk_word_of, lk_name_unlike, lk_number_to, lk_finish, sp0, sp1, sp2, sp3, sp4, sp5, -List.lookup_eq_none_iff, tMakeR]
  intro x dx hx hdx hxd
  rcases hq with ⟨l, rfl, hl, hq⟩ | ⟨ty, hty, hk, hb⟩
  · refine ⟨x, dx, rfl, upd_same, Or.inl ⟨l, rfl, rfl, ?_⟩⟩
    rw [upd_upd]
    obtain ⟨hC, e1, upE⟩ := cur_new (K := K) hx hdx hl
    refine ⟨x, ka, l, l, ns, as, rfl, rfl, hC, e1 _ _ hka, hK.st ap (Stb.of e1), hO, ?_⟩
    unfold readMach at hq
    cases hi : readExps ns false l with
    | bad r =>
      rw [hi] at hq
      intro d H' k h
      exact hq d H' (upE _ k) h
    | ok ps r =>
      rw [hi] at hq
      intro D H1 k1 hD hC1 hda hps
      obtain ⟨hs1, hl1, dx1, hc1⟩ := id hC1
      refine ⟨_, _, hc1, rfl, x, l, r, rfl, hC1, fun e => ?_, fun e => ?_⟩
      · subst e
        exact hq D H1 (upE _ k1) (Ex.free e1 hD) hda hps
      · intro d H' k h
        cases r with
        | nil => exact absurd rfl e
        | cons y r => exact hq d H' (upE _ (K1.trans k1 k)) h
  · exact ⟨x, dx, rfl, upd_same, Or.inr ⟨ty, TyX.ex (made_ex0 hx hdx) hty, hk, fun d H' k h => hb d H' (made_ex hx hdx k) h⟩⟩
end
end Mp

set_option maxHeartbeats 8000000
/-! N0: names -/
namespace Mp
theorem nameOk_let {n : List Nat} (h : nameOk n = true) : n.all isLet = true := by
  unfold nameOk at h
  simp only [Bool.and_eq_true] at h
  exact h.2
theorem nameOk_barred {n : List Nat} (h : nameOk n = true) : n ∉ barred := by
  unfold nameOk at h
  simp only [Bool.and_eq_true] at h
  simpa using h.1.2
theorem nameOk_le {n : List Nat} (h : nameOk n = true) : 1 ≤ n.length ∧ n.length ≤ 8 := by
  unfold nameOk at h
  simp at h
  omega
end Mp

set_option maxHeartbeats 8000000
/-! Kq5: the names that the law draws -/
namespace Mp
open PySem PySem.Spec PyProof.Rows L2
/-- a row of names as the law makes them -/
structure NamesOk (m : Nat) (ns : List (List Nat)) : Prop where
  len : ns.length = m
  nd : ns.Nodup
  ok : ∀ n ∈ ns, nameOk n = true
  sz : ∃ L, (L = 1 ∨ L = 2 ∨ L = 3 ∨ L = 4 ∨ L = 7) ∧ ∀ n ∈ ns, n.length = L ∨ (n.length = L + 1 ∧ ∃ w ∈ barred, n = w ++ [113] ∧ w.length = L)
def baseN (st : List Nat) (spot front k : Nat) : List Nat := st.take spot ++ [97 + (front + 7 * k) % 26] ++ st.drop spot
def fixN (n : List Nat) : List Nat := if n ∈ barred then n ++ [113] else n
theorem baseN_len {st : List Nat} {spot front k : Nat} (h : spot ≤ st.length) : (baseN st spot front k).length = st.length + 1 := by
  simp [baseN]
  omega
theorem baseN_let {st : List Nat} {spot front k : Nat} (h : st.all isLet = true) : (baseN st spot front k).all isLet = true := by
  rw [List.all_eq_true] at h ⊢
  intro x hx
  simp only [baseN, List.mem_append, List.mem_singleton] at hx
  rcases hx with (hx | hx) | hx
  · exact h x (List.mem_of_mem_take hx)
  · rw [hx]
    simp [isLet]
    omega
  · exact h x (List.mem_of_mem_drop hx)
theorem baseN_inj {st : List Nat} {spot front i j : Nat} (hi : i < 8) (hj : j < 8) (h : baseN st spot front i = baseN st spot front j) : i = j := by
  unfold baseN at h
  have h1 := List.append_cancel_right h
  have h2 := List.append_cancel_left h1
  simp at h2
  omega
theorem barred_q : ∀ w ∈ barred, w ++ [113] ∉ barred := by decide
theorem fixN_inj {a b : List Nat} (hl : a.length = b.length) (h : fixN a = fixN b) : a = b := by
  unfold fixN at h
  split at h
  · split at h
    · exact List.append_cancel_right h
    · have := congrArg List.length h
      simp at this
      omega
  · split at h
    · have := congrArg List.length h
      simp at this
      omega
    · exact h
theorem barred_len : ∀ w ∈ barred, w.length ≤ 6 := by decide
theorem fixN_ok {n : List Nat} (h1 : n.all isLet = true) (h2 : 1 ≤ n.length) (h3 : n.length ≤ 7) : nameOk (fixN n) = true := by
  unfold fixN
  split
  · rename_i hb
    have := barred_len n hb
    unfold nameOk
    have h4 := barred_q n hb
    simp [h4, h1]
    exact ⟨by omega, rfl⟩
  · rename_i hb
    unfold nameOk
    simp [hb]
    refine ⟨by omega, ?_⟩
    simpa using h1
theorem names_ok {st : List Nat} {spot front m : Nat} (hl : st.all isLet = true) (hz : st.length = 0 ∨ st.length = 1 ∨ st.length = 2 ∨ st.length = 3 ∨ st.length = 6) (hs : spot ≤ st.length) (hm : m ≤ 8) : NamesOk m ((List.range m).map fun k => fixN (baseN st spot front k)) := by
  refine ⟨by simp, ?_, ?_, st.length + 1, by omega, ?_⟩
  · rw [List.nodup_iff_pairwise_ne, List.pairwise_map]
    refine List.Pairwise.imp_of_mem ?_ List.pairwise_lt_range
    intro i j hi hj hij e
    have hi := List.mem_range.mp hi
    have hj := List.mem_range.mp hj
    have := baseN_inj (by omega) (by omega) (fixN_inj (by rw [baseN_len hs, baseN_len hs]) e)
    omega
  · intro n hn
    obtain ⟨k, hk, rfl⟩ := List.mem_map.mp hn
    exact fixN_ok (baseN_let hl) (by rw [baseN_len hs]; omega) (by rw [baseN_len hs]; omega)
  · intro n hn
    obtain ⟨k, hk, rfl⟩ := List.mem_map.mp hn
    have hb := baseN_len (front := front) (k := k) hs
    unfold fixN
    split
    · rename_i h
      exact Or.inr ⟨by simp [hb], _, h, rfl, hb⟩
    · exact Or.inl hb
end Mp

set_option maxHeartbeats 8000000
/-! Kq6: signs and kinds of the law -/
namespace Mp
open PySem PySem.Spec PyProof.Rows L2
structure SignsOk (m : Nat) (ns : List (List Nat)) : Prop where
  len : ns.length = m
  nd : ns.Nodup
  ok : ∀ n ∈ ns, nameOk n = true
structure KNames (ns ks : List (List Nat)) : Prop where
  nd : ks.Nodup
  ok : ∀ n ∈ ks, nameOk n = true
  ne : 1 ≤ ks.length
  le : ks.length ≤ 3
  t : ∀ t r, ns = t :: r → t ∈ ks ∧ ∀ n ∈ ks, n ∈ ns ∨ n = t ++ [120] ∨ n = T "bytes"
theorem last_ne {a b : List Nat} {x y : Nat} (h : x ≠ y) : a ++ [x] ≠ b ++ [y] := fun e => by
  have := congrArg List.getLast? e
  simp at this
  exact h this
theorem barred_ax : ∀ w ∈ barred, w.getLast? ≠ some 97 ∧ w.getLast? ≠ some 120 := by decide
theorem name_plus {n : List Nat} {x : Nat} (h : nameOk n = true) (h7 : n.length ≤ 7) (hx : x = 97 ∨ x = 120) : nameOk (n ++ [x]) = true := by
  have h1 := nameOk_let h
  have h2 : n ++ [x] ∉ barred := fun hb => by
    have := barred_ax _ hb
    rcases hx with rfl | rfl <;> simp at this
  unfold nameOk
  simp [h2]
  refine ⟨h7, ?_, ?_⟩
  · simpa using h1
  · rcases hx with rfl | rfl <;> rfl
theorem NamesOk.le7 {m : Nat} {ns : List (List Nat)} (h : NamesOk m ns) : ∀ n ∈ ns, n.length ≤ 7 := by
  obtain ⟨L, hL, hs⟩ := h.sz
  intro n hn
  rcases hs n hn with e | ⟨e, w, hw, _, hwl⟩
  · omega
  · have := barred_len w hw
    omega
theorem NamesOk.plus {m : Nat} {t : List Nat} {r : List (List Nat)} (h : NamesOk m (t :: r)) {x : Nat} (hx : x ≠ 113) : t ++ [x] ∉ t :: r := by
  obtain ⟨L, hL, hs⟩ := h.sz
  intro hn
  have h1 := hs _ hn
  have h2 := hs t (by simp)
  rw [List.length_append, List.length_singleton] at h1
  rcases h1 with e | ⟨e, w, hw, ew, _⟩
  · omega
  · exact last_ne hx ew
theorem signs_ok {m : Nat} {t : List Nat} {r : List (List Nat)} (h : NamesOk m (t :: r)) (hm : 2 ≤ m) (b : Bool) : SignsOk m ((if b then [t, t ++ [97]] else [t ++ [97], t]) ++ r.take (m - 2)) := by
  have hl := h.len
  have hn := h.nd
  have h7 := h.le7 t (by simp)
  have hp := h.plus (x := 97) (by decide)
  rw [List.length_cons] at hl
  rw [List.nodup_cons] at hn
  have hr : (r.take (m - 2)).Nodup := hn.2.sublist (List.take_sublist _ _)
  have h1 : t ∉ r.take (m - 2) := fun e => hn.1 (List.mem_of_mem_take e)
  have h2 : t ++ [97] ∉ r.take (m - 2) := fun e => hp (List.mem_cons_of_mem _ (List.mem_of_mem_take e))
  have h3 : t ++ [97] ≠ t := fun e => by have := congrArg List.length e; simp at this
  have ha := name_plus (x := 97) (h.ok t (by simp)) h7 (Or.inl rfl)
  refine ⟨?_, ?_, ?_⟩
  · cases b <;> simp <;> omega
  · cases b
    · show ((t ++ [97]) :: t :: r.take (m - 2)).Nodup
      rw [List.nodup_cons, List.nodup_cons]
      exact ⟨fun e => (List.mem_cons.mp e).elim h3 h2, h1, hr⟩
    · show (t :: (t ++ [97]) :: r.take (m - 2)).Nodup
      rw [List.nodup_cons, List.nodup_cons]
      exact ⟨fun e => (List.mem_cons.mp e).elim (fun e => h3 e.symm) h1, h2, hr⟩
  · intro n hn2
    rw [List.mem_append] at hn2
    rcases hn2 with h4 | h4
    · have : n = t ∨ n = t ++ [97] := by
        cases b
        · have h4 : n ∈ [t ++ [97], t] := h4
          simp only [List.mem_cons, List.not_mem_nil, or_false] at h4
          exact h4.symm
        · have h4 : n ∈ [t, t ++ [97]] := h4
          simpa only [List.mem_cons, List.not_mem_nil, or_false] using h4
      rcases this with rfl | rfl
      · exact h.ok _ (by simp)
      · exact ha
    · exact h.ok _ (List.mem_cons_of_mem _ (List.mem_of_mem_take h4))
theorem kinds_take {m j : Nat} {ns : List (List Nat)} (h : NamesOk m ns) (hm : 1 ≤ m) (h1 : 1 ≤ j) (h3 : j ≤ 3) : KNames ns (ns.take j) := by
  refine ⟨h.nd.sublist (List.take_sublist _ _), fun n hn => h.ok n (List.mem_of_mem_take hn), ?_, ?_, fun t r e => ⟨?_, fun n hn => Or.inl (List.mem_of_mem_take hn)⟩⟩
  · rw [List.length_take, h.len]; omega
  · rw [List.length_take]; omega
  · rw [e]
    cases j with
    | zero => omega
    | succ j => simp
theorem nd_rev {α : Type} {l : List α} (h : l.Nodup) : l.reverse.Nodup := by
  rw [List.nodup_iff_pairwise_ne] at h ⊢
  rw [List.pairwise_reverse]
  exact h.imp fun e => e.symm
theorem KNames.rev {ns ks : List (List Nat)} (h : KNames ns ks) : KNames ns ks.reverse :=
  ⟨nd_rev h.nd, fun n hn => h.ok n (List.mem_reverse.mp hn), by simpa using h.ne, by simpa using h.le, fun t r e => ⟨List.mem_reverse.mpr (h.t t r e).1, fun n hn => (h.t t r e).2 n (List.mem_reverse.mp hn)⟩⟩
theorem kinds_odd {m j : Nat} {t : List Nat} {r : List (List Nat)} (h : NamesOk m (t :: r)) (h1 : 1 ≤ j) : KNames (t :: r) ([t, t ++ [120], T "bytes"].take j) := by
  have h7 := h.le7 t (by simp)
  have h3 : t ≠ t ++ [120] := fun e => by have := congrArg List.length e; simp at this
  have h4 : t ++ [120] ≠ T "bytes" := fun e => last_ne (a := t) (b := [98, 121, 116, 101]) (x := 120) (y := 115) (by decide) e
  have h5 : t ≠ T "bytes" := fun e => by
    obtain ⟨L, hL, hs⟩ := h.sz
    have el : t.length = 5 := by rw [e]; rfl
    rcases hs t (by simp) with h6 | ⟨h6, w, hw, ew, _⟩
    · omega
    · exact last_ne (a := w) (b := [98, 121, 116, 101]) (x := 113) (y := 115) (by decide) (ew.symm.trans e)
  have hx := name_plus (x := 120) (h.ok t (by simp)) h7 (Or.inr rfl)
  have hnd : [t, t ++ [120], T "bytes"].Nodup := by
    rw [List.nodup_cons, List.nodup_cons, List.nodup_cons]
    refine ⟨?_, ?_, by simp⟩
    · exact fun e => (List.mem_cons.mp e).elim h3 fun e => h5 (List.mem_singleton.mp e)
    · exact fun e => h4 (List.mem_singleton.mp e)
  refine ⟨hnd.sublist (List.take_sublist _ _), fun n hn => ?_, by rw [List.length_take]; simp; omega, by rw [List.length_take]; simp; omega, fun t' r' e => ?_⟩
  · have := List.mem_of_mem_take hn
    simp only [List.mem_cons, List.not_mem_nil, or_false] at this
    rcases this with rfl | rfl | rfl
    · exact h.ok _ (by simp)
    · exact hx
    · decide
  · injection e with e1 e2
    subst e1
    refine ⟨?_, fun n hn => ?_⟩
    · cases j with
      | zero => omega
      | succ j => simp
    · have := List.mem_of_mem_take hn
      simp only [List.mem_cons, List.not_mem_nil, or_false] at this
      rcases this with rfl | h | h
      · exact Or.inl (by simp)
      · exact Or.inr (Or.inl h)
      · exact Or.inr (Or.inr h)
end Mp

set_option maxHeartbeats 8000000
/-! Kx7: readings of lists that lie in the heap as they are -/
namespace Mp
open PySem PySem.Spec PyProof.Rows L2
section
variable {X : Cx}
def rIxH : R2 := fun x y H Q => ∃ p xs i, x = .ref p ∧ y = .int i ∧ H p = some (.lst xs) ∧ ∃ v, atI xs i = some v ∧ Q v H
theorem ix_H : IxR X rIxH := by
  intro value slice pins s σ H x y v u Q I rx ry h
  obtain ⟨p, xs, i, e1, e2, h1, c, h2, q⟩ := h
  exact ix_list value slice pins s σ H x y v u Q I rx ry ⟨p, xs, i, c, e1, e2, Or.inl (Or.inl h1), h2, q⟩
def rLenH : List V → Hp → VK → Prop := fun vs H Q => ∃ p xs, vs = [.ref p] ∧ H p = some (.lst xs) ∧ Q (.int xs.length) H
theorem call_lenH : CallR X (.builtin "len") rLenH := by
  intro pins s σ H xs us Q I r h
  obtain ⟨p, ys, e, h1, q⟩ := h
  exact call_len_seq pins s σ H xs us Q I r ⟨p, ys, e, Or.inl (Or.inl (Or.inl h1)), q⟩
/-- != [] of a list of ints -/
def rNeInts (K : PySem.W.Frag) : R2 := fun x y H Q => ∃ a b ns, x = .ref a ∧ y = .ref b ∧ H a = some (.lst (List.map V.int ns)) ∧ H b = some (.lst []) ∧ Q (.bl !(List.isEmpty ns)) H
theorem dpAll_ints {K : PySem.W.Frag} {H : Hp} : ∀ ns : List Int, DpAll K H (ns.map V.int) (ns.map PyData.int)
  | [] => .nil
  | n :: ns => .cons (.int n) (dpAll_ints ns)
theorem lay_ints : ∀ ns : List Int, PyData.canLayAll0 (ns.map PyData.int) = true
  | [] => rfl
  | n :: ns => by
    rw [List.map_cons, PyData.canLayAll0, lay_ints ns]
    rfl
theorem depth_ints : ∀ ns : List Int, PyData.depthAll (ns.map PyData.int) = 0
  | [] => rfl
  | n :: ns => by
    rw [List.map_cons, PyData.depthAll, depth_ints ns]
    rfl
theorem op_neInts (hu : X.A.units + 64 < cLine) : OpR X (compareOp .NotEq) (rNeInts X.K) := by
  intro pins s σ H x y v u Q I rx ry h
  obtain ⟨a, b, ns, e1, e2, h1, h2, q⟩ := h
  refine op_neD hu pins s σ H x y v u Q I rx ry ⟨.list (ns.map .int), .list [], ?_, ?_, ?_, ?_, ?_⟩
  · rw [e1]
    exact .lst (Or.inl (Or.inl h1)) (dpAll_ints ns)
  · rw [e2]
    exact .lst (Or.inl (Or.inl h2)) .nil
  · unfold SeqAt.shaped
    rw [PyData.canLay0, lay_ints, PyData.depth, depth_ints]
    rfl
  · decide
  · have e : PyData.eqv (.list (ns.map .int)) (.list []) = ns.isEmpty := by
      rw [PyData.eqv]
      cases ns <;> rfl
    rw [e]
    exact q
theorem k_ix_seq {K : PySem.W.Frag} (h : X.K = K) : IxR X (rIx K) := h ▸ ix_seq
theorem k_neInts {K : PySem.W.Frag} (h : X.K = K) (hu : X.A.units + 64 < cLine) : OpR X (compareOp .NotEq) (rNeInts K) := h ▸ op_neInts hu
/-- 'q' * int(b) -/
def rMulS : R2 := fun x y H Q => ∃ a i, x = .str a ∧ y = .int i ∧ 0 ≤ i ∧ i ≤ 1 ∧ Q (.str (if i = 1 then a else Str.empty)) H
theorem op_mulStr : OpR X (binaryOp .Mult) rMulS := by
  intro pins s σ H x y v u Q I rx ry h
  obtain ⟨a, i, rfl, rfl, h0, h1, q⟩ := h
  obtain ⟨t, rfl⟩ := rx
  obtain ⟨t2, rfl⟩ := ry
  refine SB.mul ⟨?_, ?_, ?_⟩ (fun t' k => ⟨.str (Txt.mul a i), H, I.tok k, ⟨t', rfl⟩, ?_⟩)
  · have : i = 0 ∨ i = 1 := by omega
    rcases this with rfl | rfl <;> decide
  · intro e1 e2
    have : i = 1 := by omega
    subst this
    simp at e2
  · intro e1 e2
    have : i = 1 := by omega
    subst this
    simp at e2
  · have : i = 0 ∨ i = 1 := by omega
    rcases this with rfl | rfl
    · exact q
    · exact q
end
end Mp

set_option maxHeartbeats 8000000
/-! Ky1: the law's pen -/
namespace Mp
open PySem PySem.Spec PyProof.Rows L2
open StX (tMakeR run_makeR pe_makeR)
open He (ga ma fAd)
section
variable {P : Program} {w : World} {K : PySem.W.Frag} {mg : Str → Option Value} {base : Heap}
/-- a pen that has drawn n times at most -/
def PenAt (H : Hp) (c l : Addr) (n : Nat) : Prop := ∃ (ns : List Int) (at_ w : Nat), H c = some (.lst [.ref l, .int (at_ : Nat), .int (w : Nat)]) ∧ at_ ≤ n ∧ H l = some (.lst (ns.map V.int)) ∧ l ≠ c ∧ ns.length ≤ 63
theorem PenAt.ex {H H' : Hp} {c l : Addr} {n : Nat} (h : PenAt H c l n) (e : Ex H H') : PenAt H' c l n := let ⟨ns, a, w, h1, h2, h3, h4⟩ := h; ⟨ns, a, w, e _ _ h1, h2, e _ _ h3, h4⟩
theorem PenAt.le {H : Hp} {c l : Addr} {n m : Nat} (h : PenAt H c l n) (e : n ≤ m) : PenAt H c l m := let ⟨ns, a, w, h1, h2, h3⟩ := h; ⟨ns, a, w, h1, Nat.le_trans h2 e, h3⟩
theorem PenAt.stb {H H' : Hp} {c l : Addr} {n : Nat} (h : PenAt H c l n) (k : K1 c H H') : Stb K H H' := let ⟨ns, a, w, h1, h2, h3⟩ := h; Stb.lst k h1
def cutV1 (ns : List Int) : List Int := (ns.drop (HT.sIx ns.length 0 none)).take (HT.sIx ns.length ns.length (some 63) - HT.sIx ns.length 0 none)
def spPen (K : PySem.W.Frag) : Sp := sp1 fun a H Q _ => ∃ (s : Addr) (ns : List Int), a = .ref s ∧ SqL K H s (ns.map V.int) ∧ ∀ c l H', Ex H H' → H c = none → PenAt H' c l 0 → Q (.ref c) H'
theorem sc__law_pen : FnScope ["script"] ["script"] (defScope s__law_pen) := ⟨rfl, rfl, rfl, by decide +kernel, rfl, by decide +kernel, by decide +kernel⟩
theorem ok__law_pen (z : Zk K mg base)   : Cal P w K mg base "_law_pen" 2 ((spPen K)) := by
  obtain ⟨fd, F⟩ := z.d__law_pen
  refine cal_of F z.g__law_pen sc__law_pen (fun _ _ _ _ _ _ us hl => match us, hl with | [_], _ => rfl) (fun vs H Q E h => by match vs, h with | [_], _ => rfl) (fun cdv A outer s H vs Q E hr h => ?_)
  have nd := sc__law_pen.nd
  have hu : (cxOf (L2.CX P w) P w K mg base ["script"] "_law_pen" (defScope s__law_pen) (fAd K ("_law_pen", none)) cdv A outer s H E).A.units + 64 < cLine := hr.units
  have hu0 := hr.units0
  have hu1 := hu_of hr
  match vs, h with
  | [a0], h =>
  refine ⟨_, (pss_one (ps_ret (pe_lst (pa_cons (pe_callTy (k_list_of (K := K) rfl) rfl z.b_list boot_list (pa_cons (pe_slice (k_sl_list (K := K) rfl) (pv 0) po_none (po_some pe_int)) pa_nil)) (pa_cons pe_int (pa_cons pe_int pa_nil)))))), ?_⟩
  obtain ⟨s, ns, rfl, hs, hq⟩ := h
  simp [tRet, tRetN, tSeq, tIfS, tDrop, tNext, tNever, tBreak, tCont, tAsg, gName, gCons, gNil, gTup, tAndV, tOrV, tNotV, tAnd, tOr, tNot, tOp, tUn, tVar, tC, tB, tTest, tIf, tCons, tNil, tCB, tTup, tLst, tFld, sFld, sFldAug, rAdd, rSub, tSl, tPart, tNoPart, rI0, rI, rU, rEq, rNe, rSlS, rSlL, rIxL, rIxT, rIxS, tChain, tFn, tMt, tM1, tM0, tBM, rAppend, rIn, tIsN, tNotN, scal_ss, scal_ii, let_nil, let_one, fig_nil, fig_one, LenV_str, L2.start, cxOf, and_assoc, tJs, tFmt, put_at, lk_at, lk_script, lk_upcoming, lk_refuse, lk_skips, lk_expect, lk_word_of, lk_name_unlike, lk_number_to, lk_finish, sp0, sp1, sp2, sp3, sp4, sp5, -List.lookup_eq_none_iff]
  refine ⟨_, hs, fun p hp => ⟨_, Or.inl (Or.inl (Or.inl upd_same)), fun l hl => ⟨by decide, fun c hc => ?_⟩⟩⟩
  have hpl : p ≠ l := fun e => by rw [e, upd_same] at hl; cases hl
  have hcl : l ≠ c := fun e => by rw [e, upd_same] at hc; cases hc
  have hl0 : H l = none := by rw [upd_ne (fun e => hpl e.symm)] at hl; exact hl
  have hcp : c ≠ p := fun e => by
    rw [e, upd_ne hpl, upd_same] at hc
    cases hc
  have hc0 : H c = none := by rw [upd_ne (fun e => hcl e.symm), upd_ne hcp] at hc; exact hc
  refine hq c l _ (Ex.trans (Ex.new hp) (Ex.trans (Ex.new hl) (Ex.new hc))) hc0 ⟨cutV1 ns, 0, 0, upd_same, Nat.le_refl _, ?_, hcl, ?_⟩
  · rw [upd_ne hcl, upd_same]
    simp [cutV, cutV1, List.map_take, List.map_drop]
  · simp only [cutV1, List.length_take]
    have : HT.sIx ns.length ns.length (some 63) ≤ 63 := by simp [HT.sIx]; omega
    omega
def spDraw : Sp := sp2 fun a b H Q _ => ∃ (c l : Addr) (n m : Nat), a = .ref c ∧ b = .int (m : Nat) ∧ PenAt H c l n ∧ n < 1000000 ∧ 1 ≤ m ∧ m < 1000000000 ∧ ∀ (d : Nat) H', d < m → K1 c H H' → PenAt H' c l (n + 1) → Q (.int (d : Nat)) H'
theorem atI_nat {α : Type} {xs : List α} {j : Nat} (h : j < xs.length) : atI xs ((j : Nat) : Int) = some xs[j] := by
  have h1 : ixN xs.length ((j : Nat) : Int) = some j := by
    unfold ixN
    rw [if_pos (by omega), if_pos (by omega)]
    rfl
  unfold atI
  rw [h1]
  show xs[j]? = _
  rw [List.getElem?_eq_getElem h]
theorem atI_map (ns : List Int) {j : Nat} (h : j < ns.length) : atI (ns.map V.int) ((j : Nat) : Int) = some (.int ns[j]) := by
  rw [atI_nat (by simpa using h)]
  simp
theorem mod_place {i : Int} {n : Nat} (h : 0 < n) : (i % (n : Int)).toNat < n ∧ (((i % (n : Int)).toNat : Nat) : Int) = i % (n : Int) := by
  have h1 : 0 ≤ i % (n : Int) := Int.emod_nonneg i (by omega)
  have h2 : i % (n : Int) < (n : Int) := Int.emod_lt_of_pos i (by omega)
  omega
theorem Q_int {Q : VK} {H : Hp} {i : Int} {m : Nat} (hm : (0 : Int) < m) (h : ∀ d : Nat, d < m → Q (.int (d : Nat)) H) : Q (.int (i % (m : Int))) H := by
  have h1 := Int.emod_nonneg i (b := (m : Int)) (by omega)
  have h2 := Int.emod_lt_of_pos i (b := (m : Int)) hm
  obtain ⟨d, hd⟩ := Int.eq_ofNat_of_zero_le h1
  rw [hd]
  exact h d (by omega)
theorem sc__law_draw : FnScope ["pen", "many", "at", "cell", "mixed", "digit", "great"] ["pen", "many"] (defScope s__law_draw) := ⟨rfl, rfl, rfl, by decide +kernel, rfl, by decide +kernel, by decide +kernel⟩
theorem ok__law_draw (z : Zk K mg base)   : Cal P w K mg base "_law_draw" 2 spDraw := by
  obtain ⟨fd, F⟩ := z.d__law_draw
  refine cal_of F z.g__law_draw sc__law_draw (fun _ _ _ _ _ _ us hl => match us, hl with | [_, _], _ => rfl) (fun vs H Q E h => by match vs, h with | [_, _], _ => rfl) (fun cdv A outer s H vs Q E hr h => ?_)
  have nd := sc__law_draw.nd
  have hu : (cxOf (L2.CX P w) P w K mg base ["pen", "many", "at", "cell", "mixed", "digit", "great"] "_law_draw" (defScope s__law_draw) (fAd K ("_law_draw", none)) cdv A outer s H E).A.units + 64 < cLine := hr.units
  have hu0 := hr.units0
  have hu1 := hu_of hr
  match vs, h with
  | [a0, a1], h =>
  obtain ⟨c, l, n, m, rfl, rfl, ⟨ns, at_, wd, h1, h2, h3, h4, h5⟩, hn, hm, hm2, hq⟩ := h
  have i0 : ∀ {a b c : V}, atI [a, b, c] 0 = some a := rfl
  have i1 : ∀ {a b c : V}, atI [a, b, c] 1 = some b := rfl
  have i2 : ∀ {a b c : V}, atI [a, b, c] 2 = some c := rfl
  have n1 : ixN 3 1 = some 1 := rfl
  have n2 : ixN 3 2 = some 2 := rfl
  have hm0 : (0 : Int) < m := by omega
  have hmm : (m : Int) < 1073741824 := by omega
  have hl1 : ∀ o, upd H c o l = some (.lst (ns.map V.int)) := fun o => by rw [upd_ne h4]; exact h3
  obtain ⟨t6, hT6, hR6⟩ : ∃ t, PSs (cxOf (L2.CX P w) P w K mg base ["pen", "many", "at", "cell", "mixed", "digit", "great"] "_law_draw" (defScope s__law_draw) (fAd K ("_law_draw", none)) cdv A outer s H E) ((defBody s__law_draw).drop 6) t ∧ ∀ (cl : Int) (x4 x5 x6 : Option V) H2, K1 c H H2 → PenAt H2 c l (n + 1) → t { nx := fun _ H' => Q .non H', rt := Q } [some (.ref c), some (.int (m : Nat)), some (.int (at_ : Nat)), some (.int cl), x4, x5, x6] H2 := by
    refine ⟨_, (pss_cons (ps_set (i := 4) nd rfl (Or.inl rfl) (pe_op op_mod (pe_callTy call_int1 rfl z.b_int boot_int (pa_cons (pe_op op_pow (pe_op op_add (pe_op op_add (pe_op op_mod (pe_callTy call_int1 rfl z.b_int boot_int (pa_cons (pv 3) pa_nil)) pe_int) (pe_op op_mul pe_int (pv 2))) pe_int) pe_int) pa_nil)) pe_int))
      (pss_cons (ps_set (i := 4) nd rfl (Or.inl rfl) (pe_op op_mod (pe_callTy call_int1 rfl z.b_int boot_int (pa_cons (pe_op op_pow (pe_op op_add (pe_op op_add (pe_op op_mul (pv 4) (pe_op op_add (pe_op op_mul pe_int (pv 2)) pe_int)) (pe_op op_mul (pe_op op_mul pe_int (pv 2)) (pv 2))) pe_int) pe_int) pa_nil)) pe_int))
      (pss_one (ps_ret (pe_op op_mod (pe_callTy call_int1 rfl z.b_int boot_int (pa_cons (pe_op op_fdiv (pv 4) pe_int) pa_nil)) (pv 1)))))), fun cl x4 x5 x6 H2 k1 hp2 => ?_⟩
    simp [tRet, tRetN, tSeq, tIfS, tDrop, tNext, tNever, tBreak, tCont, tAsg, gName, gCons, gNil, gTup, tAndV, tOrV, tNotV, tAnd, tOr, tNot, tOp, tUn, tVar, tC, tB, tTest, tIf, tCons, tNil, tCB, tTup, tLst, tFld, sFld, sFldAug, rAdd, rSub, tSl, tPart, tNoPart, rI0, rI, rU, rEq, rNe, rSlS, rSlL, rIxL, rIxT, rIxS, tChain, tFn, tMt, tM1, tM0, tBM, rAppend, rIn, tIsN, tNotN, scal_ss, scal_ii, let_nil, let_one, fig_nil, fig_one, LenV_str, L2.start, cxOf, and_assoc, tJs, tFmt, put_at, lk_at, lk_script, lk_upcoming, lk_refuse, lk_skips, lk_expect, lk_word_of, lk_name_unlike, lk_number_to, lk_finish, sp0, sp1, sp2, sp3, sp4, sp5, -List.lookup_eq_none_iff, CDiv, CMul, CPow, hm0, hmm]
    obtain ⟨A, eA, hA0, hA1⟩ : ∃ A, (cl % 2147483563 + 62089 * (at_ : Int) + 171) ^ 5 % 2147483629 = A ∧ 0 ≤ A ∧ A < 2147483629 := ⟨_, rfl, Int.emod_nonneg _ (by decide), Int.emod_lt_of_pos _ (by decide)⟩
    rw [eA]
    have c0 := Int.emod_nonneg cl (b := 2147483563) (by decide)
    have c1 := Int.emod_lt_of_pos cl (b := 2147483563) (by decide)
    have b1 : A * (2 * (at_ : Int) + 181) ≤ 2147483629 * 2000181 := Int.mul_le_mul (by omega) (by omega) (by omega) (by omega)
    have b1' : 0 ≤ A * (2 * (at_ : Int) + 181) := Int.mul_nonneg hA0 (by omega)
    have b2 : 50189 * (at_ : Int) * (at_ : Int) ≤ 50189000000 * 1000000 := Int.mul_le_mul (by omega) (by omega) (by omega) (by omega)
    have b2' : 0 ≤ 50189 * (at_ : Int) * (at_ : Int) := Int.mul_nonneg (by omega) (by omega)
    refine ⟨by omega, Or.inl ⟨by omega, by omega⟩, Or.inl ⟨by omega, by omega⟩, by omega, by omega, ?_⟩
    exact Q_int hm0 (fun d hd => hq d H2 hd k1 hp2)
  obtain ⟨t5, hT5, hR5⟩ : ∃ t, PSs (cxOf (L2.CX P w) P w K mg base ["pen", "many", "at", "cell", "mixed", "digit", "great"] "_law_draw" (defScope s__law_draw) (fAd K ("_law_draw", none)) cdv A outer s H E) ((defBody s__law_draw).drop 5) t ∧ ∀ (cl : Int) (x4 x5 x6 : Option V) H2, K1 c H H2 → H2 c = some (.lst [.ref l, .int (at_ + 1 : Nat), .int 0]) → H2 l = some (.lst (ns.map V.int)) → t { nx := fun _ H' => Q .non H', rt := Q } [some (.ref c), some (.int (m : Nat)), some (.int (at_ : Nat)), some (.int cl), x4, x5, x6] H2 := by
    refine ⟨_, (pss_cons (ps_if (PW.pt (pw_and (pt_cmpR op_lt (pv 2) (pe_callB call_lenH rfl z.b_len boot_len (pa_cons (pe_ix ix_H (pv 0) pe_int fun _ _ => rfl) pa_nil)) (nomark _)) (pw_and1 (pt_cmpR op_ge (pe_callB call_abs rfl z.b_abs boot_abs (pa_cons (pv 3) pa_nil)) (pe_op op_pow pe_int pe_int) (nomark _))))) (pss_cons (ps_set (i := 6) nd rfl (Or.inl rfl) (pe_op op_add (pe_op op_mul pe_int (pe_op op_sub (pe_callB call_abs rfl z.b_abs boot_abs (pa_cons (pv 3) pa_nil)) (pe_op op_pow pe_int pe_int))) (pe_callTy call_int1 rfl z.b_int boot_int (pa_cons (pe_cmpR op_lt (pv 3) pe_int (nomark _)) pa_nil))))
      (pss_cons (ps_asg (pe_op op_fdiv (pe_callTy call_int1 rfl z.b_int boot_int (pa_cons (pv 6) pa_nil)) (pv 1)) (pg_sub (pv 0) pe_int set_list))
      (pss_one (ps_ret (pe_op op_mod (pe_callTy call_int1 rfl z.b_int boot_int (pa_cons (pv 6) pa_nil)) (pv 1)))))) pss_nil)
      hT6), fun cl x4 x5 x6 H2 k1 g1 g2 => ?_⟩
    simp [tRet, tRetN, tSeq, tIfS, tDrop, tNext, tNever, tBreak, tCont, tAsg, gName, gCons, gNil, gTup, tAndV, tOrV, tNotV, tAnd, tOr, tNot, tOp, tUn, tVar, tC, tB, tTest, tIf, tCons, tNil, tCB, tTup, tLst, tFld, sFld, sFldAug, rAdd, rSub, tSl, tPart, tNoPart, rI0, rI, rU, rEq, rNe, rSlS, rSlL, rIxL, rIxT, rIxS, tChain, tFn, tMt, tM1, tM0, tBM, rAppend, rIn, tIsN, tNotN, scal_ss, scal_ii, let_nil, let_one, fig_nil, fig_one, LenV_str, L2.start, cxOf, and_assoc, tJs, tFmt, put_at, lk_at, lk_script, lk_upcoming, lk_refuse, lk_skips, lk_expect, lk_word_of, lk_name_unlike, lk_number_to, lk_finish, sp0, sp1, sp2, sp3, sp4, sp5, -List.lookup_eq_none_iff, CDiv, CMul, CPow, hm0, hmm, rIxH, rLenH, i0, i1, i2, g1, g2]
    have hp2 : PenAt H2 c l (n + 1) := ⟨ns, at_ + 1, 0, g1, by omega, g2, h4, h5⟩
    obtain ⟨ab, hab⟩ : ∃ ab, (if cl < 0 then -cl else cl) = ab := ⟨_, rfl⟩
    obtain ⟨bb, hbb⟩ : ∃ bb, (if cl < 0 then (1 : Int) else 0) = bb := ⟨_, rfl⟩
    have hb0 : 0 ≤ bb := by rw [← hbb]; split <;> decide
    rw [hab, hbb]
    by_cases q1 : at_ < ns.length
    · rw [if_pos q1]
      by_cases q2 : 1000000000000000000 ≤ ab
      · rw [if_pos q2]
        obtain ⟨g, eg⟩ : ∃ g : Nat, 2 * (ab - 1000000000000000000) + bb = (g : Int) := ⟨_, (Int.toNat_of_nonneg (by omega)).symm⟩
        rw [eg]
        refine ⟨by omega, ?_⟩
        simp [tRet, tRetN, tSeq, tIfS, tDrop, tNext, tNever, tBreak, tCont, tAsg, gName, gCons, gNil, gTup, tAndV, tOrV, tNotV, tAnd, tOr, tNot, tOp, tUn, tVar, tC, tB, tTest, tIf, tCons, tNil, tCB, tTup, tLst, tFld, sFld, sFldAug, rAdd, rSub, tSl, tPart, tNoPart, rI0, rI, rU, rEq, rNe, rSlS, rSlL, rIxL, rIxT, rIxS, tChain, tFn, tMt, tM1, tM0, tBM, rAppend, rIn, tIsN, tNotN, scal_ss, scal_ii, let_nil, let_one, fig_nil, fig_one, LenV_str, L2.start, cxOf, and_assoc, tJs, tFmt, put_at, lk_at, lk_script, lk_upcoming, lk_refuse, lk_skips, lk_expect, lk_word_of, lk_name_unlike, lk_number_to, lk_finish, sp0, sp1, sp2, sp3, sp4, sp5, -List.lookup_eq_none_iff, gSub, rSetL, g1, n2, hm0]
        refine ⟨by omega, Q_int hm0 fun d hd => hq d _ hd (K1.trans k1 K1.upd) ⟨ns, at_ + 1, g / m, ?_, by omega, ?_, h4, h5⟩⟩
        · rw [upd_same, Int.natCast_ediv]
          rfl
        · rw [upd_ne h4, g2]
      · rw [if_neg q2]
        exact hR6 _ _ _ _ _ k1 hp2
    · rw [if_neg q1]
      exact hR6 _ _ _ _ _ k1 hp2
  refine ⟨_, (pss_cons (ps_if (pt_cmpR op_gt (pe_ix ix_H (pv 0) pe_int fun _ _ => rfl) pe_int (nomark _)) (pss_cons (ps_set (i := 5) nd rfl (Or.inl rfl) (pe_op op_mod (pe_callTy call_int1 rfl z.b_int boot_int (pa_cons (pe_ix ix_H (pv 0) pe_int fun _ _ => rfl) pa_nil)) (pv 1)))
      (pss_cons (ps_asg (pe_op op_fdiv (pe_callTy call_int1 rfl z.b_int boot_int (pa_cons (pe_ix ix_H (pv 0) pe_int fun _ _ => rfl) pa_nil)) (pv 1)) (pg_sub (pv 0) pe_int set_list))
      (pss_one (ps_ret (pv 5))))) pss_nil)
      (pss_cons (ps_set (i := 2) nd rfl (Or.inl rfl) (pe_ix ix_H (pv 0) pe_int fun _ _ => rfl))
      (pss_cons (ps_asg (pe_op op_add (pv 2) pe_int) (pg_sub (pv 0) pe_int set_list))
      (pss_cons (ps_set (i := 3) nd rfl (Or.inl rfl) (pe_op op_add (pe_op op_mul pe_int (pv 2)) pe_int))
      (pss_cons (ps_if (pt_cmpR (k_neInts (K := K) rfl hu) (pe_ix ix_H (pv 0) pe_int fun _ _ => rfl) (pe_lst pa_nil) (nomark _)) (pss_one (ps_set (i := 3) nd rfl (Or.inl rfl) (pe_ix ix_H (pe_ix ix_H (pv 0) pe_int fun _ _ => rfl) (pe_op op_mod (pe_callTy call_int1 rfl z.b_int boot_int (pa_cons (pv 2) pa_nil)) (pe_callB call_lenH rfl z.b_len boot_len (pa_cons (pe_ix ix_H (pv 0) pe_int fun _ _ => rfl) pa_nil))) fun _ _ => rfl))) pss_nil)
      hT5))))), ?_⟩
  by_cases hw : 0 < wd
  · simp [tRet, tRetN, tSeq, tIfS, tDrop, tNext, tNever, tBreak, tCont, tAsg, gName, gCons, gNil, gTup, tAndV, tOrV, tNotV, tAnd, tOr, tNot, tOp, tUn, tVar, tC, tB, tTest, tIf, tCons, tNil, tCB, tTup, tLst, tFld, sFld, sFldAug, rAdd, rSub, tSl, tPart, tNoPart, rI0, rI, rU, rEq, rNe, rSlS, rSlL, rIxL, rIxT, rIxS, tChain, tFn, tMt, tM1, tM0, tBM, rAppend, rIn, tIsN, tNotN, scal_ss, scal_ii, let_nil, let_one, fig_nil, fig_one, LenV_str, L2.start, cxOf, and_assoc, tJs, tFmt, put_at, lk_at, lk_script, lk_upcoming, lk_refuse, lk_skips, lk_expect, lk_word_of, lk_name_unlike, lk_number_to, lk_finish, sp0, sp1, sp2, sp3, sp4, sp5, -List.lookup_eq_none_iff, h1, h3, hl1, rIxH, rSetL, rLenH, gSub, i0, i1, i2, n1, n2, hw, CDiv, hm0, hmm]
    refine ⟨by omega, Q_int hm0 fun d hd => hq d _ hd K1.upd ⟨ns, at_, wd / m, ?_, by omega, ?_, h4, h5⟩⟩
    · rw [upd_same, Int.natCast_ediv]
    · exact hl1 _
  · have hw0 : wd = 0 := by omega
    subst hw0
    simp [tRet, tRetN, tSeq, tIfS, tDrop, tNext, tNever, tBreak, tCont, tAsg, gName, gCons, gNil, gTup, tAndV, tOrV, tNotV, tAnd, tOr, tNot, tOp, tUn, tVar, tC, tB, tTest, tIf, tCons, tNil, tCB, tTup, tLst, tFld, sFld, sFldAug, rAdd, rSub, tSl, tPart, tNoPart, rI0, rI, rU, rEq, rNe, rSlS, rSlL, rIxL, rIxT, rIxS, tChain, tFn, tMt, tM1, tM0, tBM, rAppend, rIn, tIsN, tNotN, scal_ss, scal_ii, let_nil, let_one, fig_nil, fig_one, LenV_str, L2.start, cxOf, and_assoc, tJs, tFmt, put_at, lk_at, lk_script, lk_upcoming, lk_refuse, lk_skips, lk_expect, lk_word_of, lk_name_unlike, lk_number_to, lk_finish, sp0, sp1, sp2, sp3, sp4, sp5, -List.lookup_eq_none_iff, h1, h3, hl1, rIxH, rSetL, rLenH, gSub, i0, i1, i2, n1, n2, CDiv, hm0, hmm, upd_same, CMul, rNeInts]
    intro p hp
    have hpc : p ≠ c := fun e => by rw [e, upd_same] at hp; cases hp
    have hpl : p ≠ l := fun e => by rw [e, hl1] at hp; cases hp
    have g1 : upd (upd H c (.lst [.ref l, .int ((at_ : Int) + 1), .int 0])) p (.lst []) c = some (.lst [.ref l, .int ((at_ : Int) + 1), .int 0]) := by rw [upd_ne (fun e => hpc e.symm), upd_same]
    have g2 : upd (upd H c (.lst [.ref l, .int ((at_ : Int) + 1), .int 0])) p (.lst []) l = some (.lst (ns.map V.int)) := by rw [upd_ne (fun e => hpl e.symm), hl1]
    have k1 : K1 c H (upd (upd H c (.lst [.ref l, .int ((at_ : Int) + 1), .int 0])) p (.lst [])) := K1.trans K1.upd (K1.of (Ex.new hp))
    have fin := fun (cl : Int) (x4 x5 x6 : Option V) => hR5 cl x4 x5 x6 _ k1 g1 g2
    refine ⟨ns, g2, ?_⟩
    by_cases hns : ns = []
    · exact Or.inl ⟨hns, fin _ _ _ _⟩
    · refine Or.inr ⟨hns, ?_⟩
      simp [g1, g2, i0]
      have hn0 : 0 < ns.length := List.length_pos_iff.mpr hns
      obtain ⟨m1, m2⟩ := mod_place (i := (at_ : Int)) hn0
      refine ⟨hn0, .int (ns[((at_ : Int) % (ns.length : Int)).toNat]), ?_, fin _ _ _ _⟩
      have := atI_map ns m1
      rw [m2] at this
      exact this
def spPick : Sp := sp2 fun a b H Q _ => ∃ (c l : Addr) (n : Nat), a = .ref c ∧ PenAt H c l n ∧ n < 1000000 ∧
  ((∃ (p : Addr) (xs : List V), b = .ref p ∧ p ≠ c ∧ H p = some (.lst xs) ∧ xs ≠ [] ∧ xs.length < 1000000000 ∧ ∀ v H', v ∈ xs → K1 c H H' → PenAt H' c l (n + 1) → Q v H') ∨
   (∃ w : List Nat, b = .str (S w) ∧ w ≠ [] ∧ w.length < 1000 ∧ ∀ x H', x ∈ w → K1 c H H' → PenAt H' c l (n + 1) → Q (.str (S [x])) H'))
theorem sc__law_pick : FnScope ["pen", "some"] ["pen", "some"] (defScope s__law_pick) := ⟨rfl, rfl, rfl, by decide +kernel, rfl, by decide +kernel, by decide +kernel⟩
theorem ok__law_pick (z : Zk K mg base) (c__law_draw : Cal P w K mg base "_law_draw" 2 spDraw)  : Cal P w K mg base "_law_pick" 3 spPick := by
  obtain ⟨fd, F⟩ := z.d__law_pick
  refine cal_of F z.g__law_pick sc__law_pick (fun _ _ _ _ _ _ us hl => match us, hl with | [_, _], _ => rfl) (fun vs H Q E h => by match vs, h with | [_, _], _ => rfl) (fun cdv A outer s H vs Q E hr h => ?_)
  have nd := sc__law_pick.nd
  have hu : (cxOf (L2.CX P w) P w K mg base ["pen", "some"] "_law_pick" (defScope s__law_pick) (fAd K ("_law_pick", none)) cdv A outer s H E).A.units + 64 < cLine := hr.units
  have hu0 := hr.units0
  have hu1 := hu_of hr
  match vs, h with
  | [a0, a1], h =>
  refine ⟨_, (pss_one (ps_ret (pe_ix (k_ix_seq (K := K) rfl) (pv 1) (pe_fn c__law_draw hr (passD (E := E)) (pa_cons (pv 0) (pa_cons (pe_callB (k_len (K := K) rfl) rfl z.b_len boot_len (pa_cons (pv 1) pa_nil)) pa_nil)) (by omega)) fun _ _ => rfl))), ?_⟩
  obtain ⟨c, l, n, rfl, hp, hn, h⟩ := h
  rcases h with ⟨p, xs, rfl, hpc, h1, h2, h3, hq⟩ | ⟨ls, rfl, h2, h3, hq⟩
  · simp [tRet, tRetN, tSeq, tIfS, tDrop, tNext, tNever, tBreak, tCont, tAsg, gName, gCons, gNil, gTup, tAndV, tOrV, tNotV, tAnd, tOr, tNot, tOp, tUn, tVar, tC, tB, tTest, tIf, tCons, tNil, tCB, tTup, tLst, tFld, sFld, sFldAug, rAdd, rSub, tSl, tPart, tNoPart, rI0, rI, rU, rEq, rNe, rSlS, rSlL, rIxL, rIxT, rIxS, tChain, tFn, tMt, tM1, tM0, tBM, rAppend, rIn, tIsN, tNotN, scal_ss, scal_ii, let_nil, let_one, fig_nil, fig_one, LenV_str, L2.start, cxOf, and_assoc, tJs, tFmt, put_at, lk_at, lk_script, lk_upcoming, lk_refuse, lk_skips, lk_expect, lk_word_of, lk_name_unlike, lk_number_to, lk_finish, sp0, sp1, sp2, sp3, sp4, sp5, -List.lookup_eq_none_iff, rIx]
    refine ⟨xs.length, Or.inl ⟨xs, Or.inl (Or.inl h1), rfl⟩, c, l, n, xs.length, rfl, rfl, hp, hn, List.length_pos_iff.mpr h2, h3, fun d H' hd k1 hp2 => Or.inl ⟨xs, _, rfl, Or.inl (Or.inl (k1 _ _ hpc h1)), _, atI_nat hd, hq _ _ (List.getElem_mem _) k1 hp2⟩⟩
  · simp [tRet, tRetN, tSeq, tIfS, tDrop, tNext, tNever, tBreak, tCont, tAsg, gName, gCons, gNil, gTup, tAndV, tOrV, tNotV, tAnd, tOr, tNot, tOp, tUn, tVar, tC, tB, tTest, tIf, tCons, tNil, tCB, tTup, tLst, tFld, sFld, sFldAug, rAdd, rSub, tSl, tPart, tNoPart, rI0, rI, rU, rEq, rNe, rSlS, rSlL, rIxL, rIxT, rIxS, tChain, tFn, tMt, tM1, tM0, tBM, rAppend, rIn, tIsN, tNotN, scal_ss, scal_ii, let_nil, let_one, fig_nil, fig_one, LenV_str, L2.start, cxOf, and_assoc, tJs, tFmt, put_at, lk_at, lk_script, lk_upcoming, lk_refuse, lk_skips, lk_expect, lk_word_of, lk_name_unlike, lk_number_to, lk_finish, sp0, sp1, sp2, sp3, sp4, sp5, -List.lookup_eq_none_iff, rIx]
    refine ⟨by rw [S_len, sizeLine_eq]; omega, c, l, n, ls.length, rfl, by rw [S_len], hp, hn, List.length_pos_iff.mpr h2, by omega, fun d H' hd k1 hp2 => ⟨_, rfl, by rw [S_len, sizeLine_eq]; omega, ls[d], ?_, hq _ _ (List.getElem_mem _) k1 hp2⟩⟩
    rw [S_cps]
    exact atI_nat hd
end
end Mp

set_option maxHeartbeats 8000000
/-! Ky2: comprehensions whose items move the pen -/
namespace Mp
open PySem PySem.Spec PyProof.Rows L2
section
variable {K : PySem.W.Frag} {a c l : Addr} {xs : List V} {g : TG} {tt : TT} {te : TE} {vs : List Nat} {σ : L2.St} {H H1 H2 H3 : Hp} {Q : VK} {n q : Nat}
/-- all but a list stays -/
def K2 (d : Addr) (H H' : Hp) : Prop := (∀ a o, a ≠ d → H a = some o → H' a = some o) ∧ ∀ a xs, H a = some (.tup xs) → H' a = some (.tup xs)
theorem K2.upd {d : Addr} {o : HO} (h : H d = none ∨ ∃ xs, H d = some (.lst xs)) : K2 d H (upd H d o) :=
  ⟨fun a u n h => by rw [upd_ne n]; exact h, fun a xs e => by
    have n : a ≠ d := fun z => by
      rw [z] at e
      rcases h with h | ⟨ys, h⟩
      · rw [h] at e; cases e
      · rw [h] at e; cases e
    rw [upd_ne n]
    exact e⟩
theorem PenAt.upd {d : Addr} {o : HO} (h : PenAt H c l n) (h1 : d ≠ c) (h2 : d ≠ l) : PenAt (upd H d o) c l n := by
  obtain ⟨ns, at_, w, e1, e2, e3, e4, e5⟩ := h
  exact ⟨ns, at_, w, by rw [upd_ne (fun e => h1 e.symm)]; exact e1, e2, by rw [upd_ne (fun e => h2 e.symm)]; exact e3, e4, e5⟩
theorem PenAt.has (h : PenAt H c l n) : (∃ o, H c = some o) ∧ ∃ o, H l = some o := let ⟨_, _, _, h1, _, h2, _⟩ := h; ⟨⟨_, h1⟩, ⟨_, h2⟩⟩
/-- what a comprehension does behind its iterated expression -/
def LcFrom (J : It) (g : TG) (tt : TT) (te : TE) (vs : List Nat) (σ : L2.St) (H1 : Hp) (Q : VK) : Prop :=
  ∀ D, H1 D = none → ∃ W : Nat → Nat → Hp → Prop, (∃ m, W 0 m (L2.upd H1 D (.lst []))) ∧ ∀ i m H, W i m H →
  (J.stop i H ∧ Q (.ref D) H) ∨ (J.go i H ∧ ∃ Nx : Hp → Prop, (∀ H', Nx H' → ∃ m', m' < m ∧ W (i + 1) m' H') ∧ ∀ x H', J.yld i H x H' → g x (wipe σ vs) H' fun σ2 H2 => wipe σ2 vs = wipe σ vs ∧ tt σ2 H2 fun b H3 =>
    if b = true then te σ2 H3 fun y H4 => ∃ acc, H4 D = some (.lst acc) ∧ acc.length < sizeLine ∧ Nx (L2.upd H4 D (.lst (acc ++ [y]))) else Nx H3)
theorem lc_from {wi : TI} : tLc wi g tt te vs σ H Q = wi σ H fun J H1 => LcFrom J g tt te vs σ H1 Q := rfl
/-- what the turns of a comprehension are to keep: i turns done, the list at D -/
def PenI (c l : Addr) (n q : Nat) (W : Addr → Nat → List V → Hp → Prop) (H1 : Hp) (D : Addr) (i : Nat) (H' : Hp) : Prop :=
  K1 c H1 H' ∧ PenAt H' c l (n + q * i) ∧ ∃ acc, H' D = some (.lst acc) ∧ acc.length = i ∧ W D i acc H'
def PenTurn (c l : Addr) (n q : Nat) (W : Addr → Nat → List V → Hp → Prop) (H1 : Hp) (g : TG) (tt : TT) (te : TE) (vs : List Nat) (σ : L2.St) (i : Nat) (x : V) : Prop :=
  ∀ D acc H' R, H1 D = none → D ≠ c → K1 c H1 H' → PenAt H' c l (n + q * i) → H' D = some (.lst acc) → W D i acc H' → (∀ y H4, K1 c H' H4 → PenAt H4 c l (n + q * (i + 1)) → W D (i + 1) (acc ++ [y]) H4 → R y H4) → LcTurn g tt te vs σ x H' R
theorem pen_ne {D : Addr} (hp : PenAt H1 c l n) (hD : H1 D = none) : D ≠ c ∧ D ≠ l := by
  obtain ⟨⟨o, h1⟩, ⟨u, h2⟩⟩ := hp.has
  exact ⟨fun e => (by rw [e, h1] at hD; cases hD), fun e => (by rw [e, h2] at hD; cases hD)⟩
theorem peni_zero {W : Addr → Nat → List V → Hp → Prop} (hp : PenAt H1 c l n) (h0 : ∀ D, W D 0 [] H1) (mono : ∀ D i acc H2 H3, K2 D H2 H3 → W D i acc H2 → W D i acc H3) {D : Addr} (hD : H1 D = none) : PenI c l n q W H1 D 0 (L2.upd H1 D (.lst [])) :=
  ⟨K1.of (Ex.new hD), hp.upd (pen_ne hp hD).1 (pen_ne hp hD).2, [], upd_same, rfl, mono _ _ _ _ _ (K2.upd (Or.inl hD)) (h0 D)⟩
theorem peni_step {W : Addr → Nat → List V → Hp → Prop} (hp : PenAt H1 c l n) (mono : ∀ D i acc H2 H3, K2 D H2 H3 → W D i acc H2 → W D i acc H3) (mg : MonG g) (mt : MonT tt) {D : Addr} {i m : Nat} {x : V} {H' : Hp} (hz : m ≤ 16777215) (hi : i < m) (hD : H1 D = none)
    (ht : PenTurn c l n q W H1 g tt te vs σ i x) (h : PenI c l n q W H1 D i H') :
    g x (wipe σ vs) H' fun σ2 H2 => wipe σ2 vs = wipe σ vs ∧ tt σ2 H2 fun b H3 =>
      if b = true then te σ2 H3 fun y H4 => ∃ acc, H4 D = some (.lst acc) ∧ acc.length < sizeLine ∧ PenI c l n q W H1 D (i + 1) (L2.upd H4 D (.lst (acc ++ [y]))) else PenI c l n q W H1 D (i + 1) H3 := by
  obtain ⟨k1, hp2, acc, hd, hal, hw⟩ := h
  obtain ⟨n1, n2⟩ := pen_ne hp hD
  refine LcTurn.weak mg mt (ht D acc H' _ hD n1 k1 hp2 hd hw fun y H4 k4 p4 w4 => ⟨acc, k4 _ _ n1 hd, ?_, fun a o ha h => ?_, p4.upd n1 n2, acc ++ [y], upd_same, by simp [hal], mono _ _ _ _ _ (K2.upd (Or.inr ⟨_, k4 _ _ n1 hd⟩)) w4⟩)
  · rw [hal, sizeLine_eq]
    omega
  · have : a ≠ D := fun e => by rw [e, hD] at h; cases h
    rw [upd_ne this]
    exact k4 _ _ ha (k1 _ _ ha h)
/-- .. over a list -/
theorem lcf_penL (W : Addr → Nat → List V → Hp → Prop) (q : Nat) (mg : MonG g) (mt : MonT tt) (hl : H1 a = some (.lst xs)) (hac : a ≠ c) (hz : xs.length ≤ 16777215) (hp : PenAt H1 c l n) (h0 : ∀ D, W D 0 [] H1)
    (mono : ∀ D i acc H2 H3, K2 D H2 H3 → W D i acc H2 → W D i acc H3) (ht : ∀ (i : Nat) (x : V), xs[i]? = some x → PenTurn c l n q W H1 g tt te vs σ i x)
    (hq : ∀ D acc H', H1 D = none → D ≠ c → K1 c H1 H' → PenAt H' c l (n + q * xs.length) → H' D = some (.lst acc) → acc.length = xs.length → W D xs.length acc H' → Q (.ref D) H') : LcFrom (Itl K a) g tt te vs σ H1 Q := by
  intro D hD
  refine lc_list (xs := xs) (Qd := fun H => Q (.ref D) H) (PenI c l n q W H1 D) (peni_zero hp h0 mono hD) (fun i H' _ p => Or.inl (Or.inl (p.1 _ _ hac hl))) (fun i x H' hx p => ?_) (fun H' p => ?_)
  · exact peni_step hp mono mg mt hz (List.getElem?_eq_some_iff.mp hx).1 hD (ht i x hx) p
  · obtain ⟨k1, hp2, acc, hd, hal, hw⟩ := p
    exact hq D acc H' hD (pen_ne hp hD).1 k1 hp2 hd hal hw
/-- .. over a range -/
theorem lcf_penR {m : Nat} (W : Addr → Nat → List V → Hp → Prop) (q : Nat) (mg : MonG g) (mt : MonT tt) (hz : m ≤ 16777215) (hp : PenAt H1 c l n) (h0 : ∀ D, W D 0 [] H1)
    (mono : ∀ D i acc H2 H3, K2 D H2 H3 → W D i acc H2 → W D i acc H3) (ht : ∀ (i : Nat), i < m → PenTurn c l n q W H1 g tt te vs σ i (.int (0 + (i : Nat))))
    (hq : ∀ D acc H', H1 D = none → D ≠ c → K1 c H1 H' → PenAt H' c l (n + q * m) → H' D = some (.lst acc) → acc.length = m → W D m acc H' → Q (.ref D) H') : LcFrom (Itr 0 m) g tt te vs σ H1 Q := by
  intro D hD
  refine lc_range (Qd := fun H => Q (.ref D) H) (PenI c l n q W H1 D) (peni_zero hp h0 mono hD) (fun i H' hi p => ?_) (fun H' p => ?_)
  · exact peni_step hp mono mg mt hz hi hD (ht i hi) p
  · obtain ⟨k1, hp2, acc, hd, hal, hw⟩ := p
    exact hq D acc H' hD (pen_ne hp hD).1 k1 hp2 hd hal hw
end
end Mp

set_option maxHeartbeats 8000000
/-! Ky3: the law's names -/
namespace Mp
open PySem PySem.Spec PyProof.Rows L2
open StX (tMakeR run_makeR pe_makeR)
open He (ga ma fAd)
theorem split_barred : Txt.split "byte size align place end packed and or not yes no for nogap notail leaf" " " = barred.map S := by decide +kernel
section
variable {P : Program} {w : World} {K : PySem.W.Frag} {mg : Str → Option Value} {base : Heap}
theorem tfor_rng {ta : TA} {g : TG} {tb : TS} {D : Ends} {σ : L2.St} {H : Hp} {m : Nat} (ht : ∀ R : List V → Hp → Prop, R [.int (m : Nat)] H → ta σ H R) (hm : m < 1000000000) (Pv : Nat → L2.St → Hp → Prop) (h0 : Pv 0 σ H)
    (hs : ∀ i σ H, i < m → Pv i σ H → g (.int ((i : Nat) : Int)) σ H fun σ2 H2 => tb { D with nx := Pv (i + 1), ct := Pv (i + 1), bk := D.nx } σ2 H2) (hd : ∀ σ H, Pv m σ H → D.nx σ H) : tFor (iRng1 ta) g tb D σ H :=
  ht _ ⟨_, rfl, by omega, by omega, for_range Pv h0 (fun i σ H hi h => by
    rw [Int.zero_add]
    exact hs i σ H hi h) hd⟩
theorem cut_pre {l : List Nat} {k : Nat} (h : k ≤ l.length) : cutS (S l) none (some ((k : Nat) : Int)) = S (l.take k) := by
  unfold cutS
  rw [HT.sIx_nat, HT.sIx_none, S_len, S_cps, Nat.min_eq_left h]
  rfl
theorem cut_suf {l : List Nat} {k : Nat} (h : k ≤ l.length) : cutS (S l) (some ((k : Nat) : Int)) none = S (l.drop k) := by
  unfold cutS
  rw [HT.sIx_nat, HT.sIx_none, S_len, S_cps, Nat.min_eq_left h, List.take_of_length_le (by simp)]
  rfl
theorem K1.free {c d : Addr} {H H' : Hp} (k : K1 c H H') (n : d ≠ c) (h : H' d = none) : H d = none := by
  cases e : H d with
  | none => rfl
  | some o =>
    rw [k _ _ n e] at h
    cases h
theorem PenAt.nec {H : Hp} {c l d : Addr} {n : Nat} (h : PenAt H c l n) (hd : H d = none) : d ≠ c := (pen_ne h hd).1
theorem sum_ones : ∀ ls : List Nat, (ls.map ((fun x : Str => x.length) ∘ fun x => S [x])).sum = ls.length
  | [] => rfl
  | x :: ls => by
    rw [List.map_cons, List.sum_cons, sum_ones ls]
    have : ((fun x : Str => x.length) ∘ fun x => S [x]) x = 1 := rfl
    rw [this, List.length_cons]
    omega
theorem joinL_ones : ∀ ls : List Nat, TL.joinL [] (ls.map fun x => [x]) = ls
  | [] => rfl
  | [x] => rfl
  | x :: y :: ls => by
    have h := joinL_ones (y :: ls)
    show [x] ++ ([] ++ TL.joinL [] ((y :: ls).map fun x => [x])) = _
    rw [h]
    rfl
theorem letters_at : ∀ j, j < 26 → atI (Str.ofString "abcdefghijklmnopqrstuvwxyz").cps.toList ((j : Nat) : Int) = some (97 + j) := by decide +kernel
theorem S_one (x : Nat) : ({ cps := #[x] } : Str) = S [x] := rfl
def spNames : Sp := sp2 fun a b H Q _ => ∃ (c l : Addr) (n m : Nat), a = .ref c ∧ b = .int (m : Nat) ∧ m ≤ 8 ∧ PenAt H c l n ∧ n + 20 < 1000000 ∧ ∀ D ns H', NamesOk m ns → K1 c H H' → H D = none → D ≠ c → H' D = some (.lst (ns.map fun n => .str (S n))) → PenAt H' c l (n + 20) → Q (.ref D) H'
theorem sc__law_names : FnScope ["pen", "many", "letters", "barred", "stem", "found", "k", "spot", "front", "sign", "word"] ["pen", "many"] (defScope s__law_names) := ⟨rfl, rfl, rfl, by decide +kernel, rfl, by decide +kernel, by decide +kernel⟩
theorem ok__law_names (z : Zk K mg base) (c__law_draw : Cal P w K mg base "_law_draw" 2 spDraw) (c__law_pick : Cal P w K mg base "_law_pick" 3 spPick)  : Cal P w K mg base "_law_names" 4 spNames := by
  obtain ⟨fd, F⟩ := z.d__law_names
  refine cal_of F z.g__law_names sc__law_names (fun _ _ _ _ _ _ us hl => match us, hl with | [_, _], _ => rfl) (fun vs H Q E h => by match vs, h with | [_, _], _ => rfl) (fun cdv A outer s H vs Q E hr h => ?_)
  have nd := sc__law_names.nd
  have hu : (cxOf (L2.CX P w) P w K mg base ["pen", "many", "letters", "barred", "stem", "found", "k", "spot", "front", "sign", "word"] "_law_names" (defScope s__law_names) (fAd K ("_law_names", none)) cdv A outer s H E).A.units + 64 < cLine := hr.units
  have hu0 := hr.units0
  have hu1 := hu_of hr
  match vs, h with
  | [a0, a1], h =>
  obtain ⟨c, l, n, m, rfl, rfl, hm, hp, hn, hq⟩ := h
  obtain ⟨t5, hT5, hR5⟩ : ∃ t, PSs (cxOf (L2.CX P w) P w K mg base ["pen", "many", "letters", "barred", "stem", "found", "k", "spot", "front", "sign", "word"] "_law_names" (defScope s__law_names) (fAd K ("_law_names", none)) cdv A outer s H E) ((defBody s__law_names).drop 5) t ∧ ∀ (st : List Nat) (spot front : Nat) (x5 x6 x9 x10 : Option V) H2, st.all isLet = true → (st.length = 0 ∨ st.length = 1 ∨ st.length = 2 ∨ st.length = 3 ∨ st.length = 6) → spot ≤ st.length → front < 26 → K1 c H H2 → PenAt H2 c l (n + 20) →
      t { nx := fun _ H' => Q .non H', rt := Q } [some (.ref c), some (.int (m : Nat)), some (.str "abcdefghijklmnopqrstuvwxyz"), some (.str "byte size align place end packed and or not yes no for nogap notail leaf"), some (.str (S st)), x5, x6, some (.int (spot : Nat)), some (.int (front : Nat)), x9, x10] H2 := by
    refine ⟨_, (pss_cons (ps_set (i := 5) nd rfl (Or.inl rfl) (pe_lst pa_nil))
      (pss_cons (ps_for (passes_of rfl) rfl (pi_range1 rfl z.b_range (pa_cons (pv 1) pa_nil)) (pg_name nd (i := 6) rfl (Or.inl rfl)) (pss_cons (ps_set (i := 9) nd rfl (Or.inl rfl) (pe_ix ix_str (pv 2) (pe_op op_mod (pe_callTy call_int1 rfl z.b_int boot_int (pa_cons (pe_op op_add (pv 8) (pe_op op_mul pe_int (pv 6))) pa_nil)) pe_int) fun _ _ => rfl))
      (pss_one (ps_expr (k_append (K := K) rfl (pv 5) (pe_op op_add_str (pe_op op_add_str (pe_slice sl_str (pv 4) po_none (po_some (pv 7))) (pv 9)) (pe_slice sl_str (pv 4) (po_some (pv 7)) po_none)))))))
      (pss_one (ps_ret (pe_lc rfl nd (k_pi_list (K := K) rfl (pv 5)) (blkOk_by (N := ["pen", "many", "letters", "barred", "stem", "found", "k", "spot", "front", "sign", "word"]) (sc := defScope s__law_names) (own := [("word", 10)]) (by decide +kernel)) (fun _ _ _ _ _ => (pg_name nd (i := 10) rfl (Or.inl rfl))) (fun _ _ _ _ _ => pts_nil) (fun _ _ _ _ _ => (pe_op op_add_str (pv 10) (pe_op op_mulStr pe_str (pe_callTy call_int1 rfl z.b_int boot_int (pa_cons (pe_cmpR (k_in_seq (K := K) rfl) (pv 10) (pe_split (pv 3) pe_str) (by with_unfolding_all rfl)) pa_nil)))))))))), fun st spot front x5 x6 x9 x10 H2 hl hz hs hf k1 hp2 => ?_⟩
    simp [tRet, tRetN, tSeq, tIfS, tDrop, tNext, tNever, tBreak, tCont, tAsg, gName, gCons, gNil, gTup, tAndV, tOrV, tNotV, tAnd, tOr, tNot, tOp, tUn, tVar, tC, tB, tTest, tIf, tCons, tNil, tCB, tTup, tLst, tFld, sFld, sFldAug, rAdd, rSub, tSl, tPart, tNoPart, rI0, rI, rU, rEq, rNe, rSlS, rSlL, rIxL, rIxT, rIxS, tChain, tFn, tMt, tM1, tM0, tBM, rAppend, rIn, tIsN, tNotN, scal_ss, scal_ii, let_nil, let_one, fig_nil, fig_one, LenV_str, L2.start, cxOf, and_assoc, tJs, tFmt, put_at, lk_at, lk_script, lk_upcoming, lk_refuse, lk_skips, lk_expect, lk_word_of, lk_name_unlike, lk_number_to, lk_finish, sp0, sp1, sp2, sp3, sp4, sp5, -List.lookup_eq_none_iff]
    intro fa hfa
    have e0 : Ex H2 (upd H2 fa (.lst [])) := Ex.new hfa
    refine tfor_rng (m := m) (fun R h => ⟨_, rfl, h⟩) (by omega) (fun i σ H3 => ∃ x6 x9, σ = [some (.ref c), some (.int (m : Nat)), some (.str "abcdefghijklmnopqrstuvwxyz"), some (.str "byte size align place end packed and or not yes no for nogap notail leaf"), some (.str (S st)), some (.ref fa), x6, some (.int (spot : Nat)), some (.int (front : Nat)), x9, x10] ∧ Ex H2 H3 ∧ H3 fa = some (.lst ((List.range i).map fun k => .str (S (baseN st spot front k))))) ⟨_, _, rfl, e0, upd_same⟩ (fun i σ H3 hi h => ?_) (fun σ H3 h => ?_)
    · obtain ⟨y6, y9, rfl, e3, h3⟩ := h
      simp [tRet, tRetN, tSeq, tIfS, tDrop, tNext, tNever, tBreak, tCont, tAsg, gName, gCons, gNil, gTup, tAndV, tOrV, tNotV, tAnd, tOr, tNot, tOp, tUn, tVar, tC, tB, tTest, tIf, tCons, tNil, tCB, tTup, tLst, tFld, sFld, sFldAug, rAdd, rSub, tSl, tPart, tNoPart, rI0, rI, rU, rEq, rNe, rSlS, rSlL, rIxL, rIxT, rIxS, tChain, tFn, tMt, tM1, tM0, tBM, rAppend, rIn, tIsN, tNotN, scal_ss, scal_ii, let_nil, let_one, fig_nil, fig_one, LenV_str, L2.start, cxOf, and_assoc, tJs, tFmt, put_at, lk_at, lk_script, lk_upcoming, lk_refuse, lk_skips, lk_expect, lk_word_of, lk_name_unlike, lk_number_to, lk_finish, sp0, sp1, sp2, sp3, sp4, sp5, -List.lookup_eq_none_iff]
      have hi2 : ((front : Int) + 7 * (i : Int)) % 26 = (((front + 7 * i) % 26 : Nat) : Int) := by omega
      rw [hi2, cut_pre hs, cut_suf hs]
      refine ⟨Or.inl ⟨by omega, by omega⟩, by decide, _, letters_at _ (Nat.mod_lt _ (by omega)), Or.inl ⟨rfl, _, Or.inl (Or.inl h3)⟩, ?_, ?_, ?_, ?_, _, h3, ?_, ?_, ?_⟩
      · rw [S_len, sizeLine_eq]; omega
      · rw [S_one, S_len, S_len, sizeLine_eq, List.length_take]; simp; omega
      · rw [S_len, sizeLine_eq]; omega
      · rw [S_one, S_app, S_len, S_len, sizeLine_eq]; simp; omega
      · simp [sizeLine_eq]; omega
      · exact Ex.mut e3 hfa
      · rw [upd_same, S_one, S_app, S_app, List.range_succ, List.map_append]
        rfl
    · obtain ⟨y6, y9, rfl, e3, h3⟩ := h
      simp [tRet, tRetN, tSeq, tIfS, tDrop, tNext, tNever, tBreak, tCont, tAsg, gName, gCons, gNil, gTup, tAndV, tOrV, tNotV, tAnd, tOr, tNot, tOp, tUn, tVar, tC, tB, tTest, tIf, tCons, tNil, tCB, tTup, tLst, tFld, sFld, sFldAug, rAdd, rSub, tSl, tPart, tNoPart, rI0, rI, rU, rEq, rNe, rSlS, rSlL, rIxL, rIxT, rIxS, tChain, tFn, tMt, tM1, tM0, tBM, rAppend, rIn, tIsN, tNotN, scal_ss, scal_ii, let_nil, let_one, fig_nil, fig_one, LenV_str, L2.start, cxOf, and_assoc, tJs, tFmt, put_at, lk_at, lk_script, lk_upcoming, lk_refuse, lk_skips, lk_expect, lk_word_of, lk_name_unlike, lk_number_to, lk_finish, sp0, sp1, sp2, sp3, sp4, sp5, -List.lookup_eq_none_iff]
      refine lc_mapL (a := fa) (xs := (List.range m).map fun k => .str (S (baseN st spot front k))) (ys := (List.range m).map fun k => .str (S (fixN (baseN st spot front k)))) (fun R h => ⟨_, rfl, h⟩) monG_name monT_yes (by simp; omega) (by simp) (SqL.of h3) (fun i x y H4 R hx hy e4 hR => ?_) (fun D H4 e4 hD hDl => ?_)
      · obtain ⟨k, hk, rfl, rfl⟩ : ∃ k, k < m ∧ x = .str (S (baseN st spot front k)) ∧ y = .str (S (fixN (baseN st spot front k))) := by
          have hi : i < m := by simpa using (List.getElem?_eq_some_iff.mp hx).1
          rw [List.getElem?_map, List.getElem?_range hi] at hx hy
          exact ⟨i, hi, (Option.some.inj hx).symm, (Option.some.inj hy).symm⟩
        simp [tRet, tRetN, tSeq, tIfS, tDrop, tNext, tNever, tBreak, tCont, tAsg, gName, gCons, gNil, gTup, tAndV, tOrV, tNotV, tAnd, tOr, tNot, tOp, tUn, tVar, tC, tB, tTest, tIf, tCons, tNil, tCB, tTup, tLst, tFld, sFld, sFldAug, rAdd, rSub, tSl, tPart, tNoPart, rI0, rI, rU, rEq, rNe, rSlS, rSlL, rIxL, rIxT, rIxS, tChain, tFn, tMt, tM1, tM0, tBM, rAppend, rIn, tIsN, tNotN, scal_ss, scal_ii, let_nil, let_one, fig_nil, fig_one, LenV_str, L2.start, cxOf, and_assoc, tJs, tFmt, put_at, lk_at, lk_script, lk_upcoming, lk_refuse, lk_skips, lk_expect, lk_word_of, lk_name_unlike, lk_number_to, lk_finish, sp0, sp1, sp2, sp3, sp4, sp5, -List.lookup_eq_none_iff, LcTurn, tYes, wipe, rMulS, rNewStrs, split_barred]
        refine ⟨by decide, by decide, fun p hp3 => ⟨barred.map fun x => .str (S x), Or.inl (SqL.of upd_same), rfl, by simp [flatV], ?_⟩⟩
        have hbl := baseN_len (front := front) (k := k) hs
        have hR2 := hR _ (Ex.new (o := .lst (barred.map fun x => .str (S x))) hp3)
        rw [inV_strs]
        unfold fixN at hR2
        by_cases hb : baseN st spot front k ∈ barred
        · rw [if_pos hb, ← S_app] at hR2
          refine Or.inr ⟨by simp [hb], ?_, hR2⟩
          rw [S_len, sizeLine_eq, hbl]
          have : (Str.ofString "q").length = 1 := rfl
          omega
        · rw [if_neg hb] at hR2
          refine Or.inl ⟨by simp [hb], ?_, ?_⟩
          · rw [S_len, sizeLine_eq, hbl]
            have : Str.empty.length = 0 := rfl
            omega
          · have e9 : S (baseN st spot front k) ++ Str.empty = S (baseN st spot front k) := by
              show S _ ++ S [] = _
              rw [S_app, List.append_nil]
            rw [e9]
            exact hR2
      · have hp3 := (hp2.ex e3).nec hD
        have hDH : H D = none := K1.free k1 hp3 (Ex.free e3 hD)
        refine hq D _ H4 (names_ok (spot := spot) (front := front) hl hz hs hm) (K1.trans k1 (K1.of (Ex.trans e3 e4))) hDH hp3 ?_ (hp2.ex (Ex.trans e3 e4))
        rw [hDl, List.map_map]
        rfl
  obtain ⟨t3, hT3, hR3⟩ : ∃ t, PSs (cxOf (L2.CX P w) P w K mg base ["pen", "many", "letters", "barred", "stem", "found", "k", "spot", "front", "sign", "word"] "_law_names" (defScope s__law_names) (fAd K ("_law_names", none)) cdv A outer s H E) ((defBody s__law_names).drop 3) t ∧ ∀ (st : List Nat) (x5 x6 x7 x8 x9 x10 : Option V) H2, st.all isLet = true → (st.length = 0 ∨ st.length = 1 ∨ st.length = 2 ∨ st.length = 3 ∨ st.length = 6) → K1 c H H2 → PenAt H2 c l (n + 17) →
      t { nx := fun _ H' => Q .non H', rt := Q } [some (.ref c), some (.int (m : Nat)), some (.str "abcdefghijklmnopqrstuvwxyz"), some (.str "byte size align place end packed and or not yes no for nogap notail leaf"), some (.str (S st)), x5, x6, x7, x8, x9, x10] H2 := by
    refine ⟨_, (pss_cons (ps_set (i := 4) nd rfl (Or.inl rfl) (pe_fn c__law_pick hr (passD (E := E)) (pa_cons (pv 0) (pa_cons (pe_lst (pa_cons (pv 4) (pa_cons (pv 4) (pa_cons (pv 4) (pa_cons pe_str (pa_cons pe_str (pa_cons pe_str pa_nil))))))) pa_nil))))
      (pss_cons (ps_par (i := 7) (j := 8) rfl nd rfl rfl (by decide) rfl rfl (pa_cons (pe_fn c__law_draw hr (passD (E := E)) (pa_cons (pv 0) (pa_cons (pe_op op_add (pe_callB (k_len (K := K) rfl) rfl z.b_len boot_len (pa_cons (pv 4) pa_nil)) pe_int) pa_nil))) (pa_cons (pe_fn c__law_draw hr (passD (E := E)) (pa_cons (pv 0) (pa_cons pe_int pa_nil))) pa_nil)) (by first | rfl | with_unfolding_all rfl))
      hT5)), fun st x5 x6 x7 x8 x9 x10 H2 hl hz k1 hp2 => ?_⟩
    simp [tRet, tRetN, tSeq, tIfS, tDrop, tNext, tNever, tBreak, tCont, tAsg, gName, gCons, gNil, gTup, tAndV, tOrV, tNotV, tAnd, tOr, tNot, tOp, tUn, tVar, tC, tB, tTest, tIf, tCons, tNil, tCB, tTup, tLst, tFld, sFld, sFldAug, rAdd, rSub, tSl, tPart, tNoPart, rI0, rI, rU, rEq, rNe, rSlS, rSlL, rIxL, rIxT, rIxS, tChain, tFn, tMt, tM1, tM0, tBM, rAppend, rIn, tIsN, tNotN, scal_ss, scal_ii, let_nil, let_one, fig_nil, fig_one, LenV_str, L2.start, cxOf, and_assoc, tJs, tFmt, put_at, lk_at, lk_script, lk_upcoming, lk_refuse, lk_skips, lk_expect, lk_word_of, lk_name_unlike, lk_number_to, lk_finish, sp0, sp1, sp2, sp3, sp4, sp5, -List.lookup_eq_none_iff]
    refine ⟨by decide, fun p hp3 => ?_⟩
    have hpc := hp2.nec hp3
    refine ⟨c, l, n + 17, rfl, hp2.ex (Ex.new hp3), by omega, Or.inl ⟨p, _, rfl, hpc, upd_same, by simp, by simp, fun v H4 hv k4 hp4 => ?_⟩⟩
    obtain ⟨st2, rfl, hl2, hz2⟩ : ∃ st2, v = .str (S st2) ∧ st2.all isLet = true ∧ (st2.length = 0 ∨ st2.length = 1 ∨ st2.length = 2 ∨ st2.length = 3 ∨ st2.length = 6) := by
      simp at hv
      rcases hv with rfl | rfl | rfl | rfl
      · exact ⟨st, rfl, hl, hz⟩
      · exact ⟨[111, 116], rfl, rfl, by decide⟩
      · exact ⟨[108, 101, 97], rfl, rfl, by decide⟩
      · exact ⟨[110, 100], rfl, rfl, by decide⟩
    simp [tRet, tRetN, tSeq, tIfS, tDrop, tNext, tNever, tBreak, tCont, tAsg, gName, gCons, gNil, gTup, tAndV, tOrV, tNotV, tAnd, tOr, tNot, tOp, tUn, tVar, tC, tB, tTest, tIf, tCons, tNil, tCB, tTup, tLst, tFld, sFld, sFldAug, rAdd, rSub, tSl, tPart, tNoPart, rI0, rI, rU, rEq, rNe, rSlS, rSlL, rIxL, rIxT, rIxS, tChain, tFn, tMt, tM1, tM0, tBM, rAppend, rIn, tIsN, tNotN, scal_ss, scal_ii, let_nil, let_one, fig_nil, fig_one, LenV_str, L2.start, cxOf, and_assoc, tJs, tFmt, put_at, lk_at, lk_script, lk_upcoming, lk_refuse, lk_skips, lk_expect, lk_word_of, lk_name_unlike, lk_number_to, lk_finish, sp0, sp1, sp2, sp3, sp4, sp5, -List.lookup_eq_none_iff, tPar]
    refine ⟨by rw [S_len, sizeLine_eq]; omega, c, l, n + 17 + 1, st2.length + 1, rfl, by rw [S_len]; rfl, hp4, by omega, by omega, by omega, fun d H5 hd k5 hp5 => ?_⟩
    refine ⟨c, l, n + 17 + 1 + 1, 26, rfl, rfl, hp5, by omega, by omega, by omega, fun f H6 hf k6 hp6 => ?_⟩
    exact hR5 st2 d f _ _ _ _ H6 hl2 hz2 (by omega) hf (K1.trans (K1.trans k1 (K1.of (Ex.new hp3))) (K1.trans k4 (K1.trans k5 k6))) (hp6.le (by omega))
  refine ⟨_, (pss_cons (ps_set (i := 2) nd rfl (Or.inr rfl) pe_str)
      (pss_cons (ps_set (i := 3) nd rfl (Or.inr rfl) pe_str)
      (pss_cons (ps_set (i := 4) nd rfl (Or.inl rfl) (k_join (K := K) rfl pe_str (pe_lc rfl nd (pi_range1 rfl z.b_range (pa_cons (pe_fn c__law_pick hr (passD (E := E)) (pa_cons (pv 0) (pa_cons (pe_lst (pa_cons pe_int (pa_cons pe_int (pa_cons pe_int (pa_cons pe_int (pa_cons pe_int pa_nil)))))) pa_nil))) pa_nil)) (blkOk_by (N := ["pen", "many", "letters", "barred", "stem", "found", "k", "spot", "front", "sign", "word"]) (sc := defScope s__law_names) (own := [("k", 6)]) (by decide +kernel)) (fun _ _ _ _ _ => (pg_name nd (i := 6) rfl (Or.inl rfl))) (fun _ _ _ _ _ => pts_nil) (fun _ _ _ _ _ => (pe_fn c__law_pick hr passL (pa_cons (pv 0) (pa_cons (pv 2) pa_nil)))))))
      hT3))), ?_⟩
  simp [tRet, tRetN, tSeq, tIfS, tDrop, tNext, tNever, tBreak, tCont, tAsg, gName, gCons, gNil, gTup, tAndV, tOrV, tNotV, tAnd, tOr, tNot, tOp, tUn, tVar, tC, tB, tTest, tIf, tCons, tNil, tCB, tTup, tLst, tFld, sFld, sFldAug, rAdd, rSub, tSl, tPart, tNoPart, rI0, rI, rU, rEq, rNe, rSlS, rSlL, rIxL, rIxT, rIxS, tChain, tFn, tMt, tM1, tM0, tBM, rAppend, rIn, tIsN, tNotN, scal_ss, scal_ii, let_nil, let_one, fig_nil, fig_one, LenV_str, L2.start, cxOf, and_assoc, tJs, tFmt, put_at, lk_at, lk_script, lk_upcoming, lk_refuse, lk_skips, lk_expect, lk_word_of, lk_name_unlike, lk_number_to, lk_finish, sp0, sp1, sp2, sp3, sp4, sp5, -List.lookup_eq_none_iff]
  rw [lc_from]
  simp [tRet, tRetN, tSeq, tIfS, tDrop, tNext, tNever, tBreak, tCont, tAsg, gName, gCons, gNil, gTup, tAndV, tOrV, tNotV, tAnd, tOr, tNot, tOp, tUn, tVar, tC, tB, tTest, tIf, tCons, tNil, tCB, tTup, tLst, tFld, sFld, sFldAug, rAdd, rSub, tSl, tPart, tNoPart, rI0, rI, rU, rEq, rNe, rSlS, rSlL, rIxL, rIxT, rIxS, tChain, tFn, tMt, tM1, tM0, tBM, rAppend, rIn, tIsN, tNotN, scal_ss, scal_ii, let_nil, let_one, fig_nil, fig_one, LenV_str, L2.start, cxOf, and_assoc, tJs, tFmt, put_at, lk_at, lk_script, lk_upcoming, lk_refuse, lk_skips, lk_expect, lk_word_of, lk_name_unlike, lk_number_to, lk_finish, sp0, sp1, sp2, sp3, sp4, sp5, -List.lookup_eq_none_iff, iRng1]
  refine ⟨by decide, fun p hp3 => ?_⟩
  have hpc := hp.nec hp3
  have k0 : K1 c H (upd H p (.lst [.int 0, .int 1, .int 2, .int 3, .int 6])) := K1.of (Ex.new hp3)
  refine ⟨c, l, n, rfl, hp.ex (Ex.new hp3), by omega, Or.inl ⟨p, _, rfl, hpc, upd_same, by simp, by simp, fun v H4 hv k4 hp4 => ?_⟩⟩
  obtain ⟨j, rfl, hj⟩ : ∃ j : Nat, v = .int (j : Nat) ∧ (j = 0 ∨ j = 1 ∨ j = 2 ∨ j = 3 ∨ j = 6) := by
    simp at hv
    rcases hv with rfl | rfl | rfl | rfl | rfl
    · exact ⟨0, rfl, by omega⟩
    · exact ⟨1, rfl, by omega⟩
    · exact ⟨2, rfl, by omega⟩
    · exact ⟨3, rfl, by omega⟩
    · exact ⟨6, rfl, by omega⟩
  refine ⟨(j : Nat), rfl, by omega, by omega, ?_⟩
  rw [Int.toNat_natCast]
  refine lcf_penR (fun _ i acc _ => ∃ ls : List Nat, acc = ls.map (fun x => .str (S [x])) ∧ ls.length = i ∧ ls.all isLet = true) 1 monG_name monT_yes (by omega) hp4 (fun _ => ⟨[], rfl, rfl, rfl⟩) (fun _ _ _ _ _ _ h => h) (fun i hi => ?_) (fun D acc H5 hD hDc k5 hp5 hDl hal h => ?_)
  · intro D acc H5 R hD hDc k5 hp5 hDl ⟨ls, ha, hl2, hl3⟩ hR
    simp [tRet, tRetN, tSeq, tIfS, tDrop, tNext, tNever, tBreak, tCont, tAsg, gName, gCons, gNil, gTup, tAndV, tOrV, tNotV, tAnd, tOr, tNot, tOp, tUn, tVar, tC, tB, tTest, tIf, tCons, tNil, tCB, tTup, tLst, tFld, sFld, sFldAug, rAdd, rSub, tSl, tPart, tNoPart, rI0, rI, rU, rEq, rNe, rSlS, rSlL, rIxL, rIxT, rIxS, tChain, tFn, tMt, tM1, tM0, tBM, rAppend, rIn, tIsN, tNotN, scal_ss, scal_ii, let_nil, let_one, fig_nil, fig_one, LenV_str, L2.start, cxOf, and_assoc, tJs, tFmt, put_at, lk_at, lk_script, lk_upcoming, lk_refuse, lk_skips, lk_expect, lk_word_of, lk_name_unlike, lk_number_to, lk_finish, sp0, sp1, sp2, sp3, sp4, sp5, -List.lookup_eq_none_iff, LcTurn, tYes, wipe]
    refine ⟨c, l, n + 1 + 1 * i, rfl, hp5, by omega, Or.inr ⟨(Str.ofString "abcdefghijklmnopqrstuvwxyz").cps.toList, congrArg V.str (S_of _), by decide, by decide, fun x H6 hx k6 hp6 => ?_⟩⟩
    refine hR _ _ k6 (hp6.le (by omega)) ⟨ls ++ [x], by rw [ha]; simp, by simp [hl2], ?_⟩
    rw [List.all_append, hl3]
    have hxl : ∀ x ∈ (Str.ofString "abcdefghijklmnopqrstuvwxyz").cps.toList, isLet x = true := by decide +kernel
    simp [hxl x hx]
  · obtain ⟨ls, rfl, hl2, hl3⟩ := h
    refine ⟨_, D, ls.map fun x => S [x], rfl, rfl, Or.inl (SqL.of (by rw [hDl, List.map_map]; rfl)), ?_, ?_⟩
    · have e1 : (Str.ofString "").length = 0 := rfl
      rw [e1, List.map_map]
      have e2 : (ls.map ((fun x => x.length) ∘ fun x => S [x])).sum = ls.length := sum_ones ls
      rw [e2]
      omega
    · have e3 : Txt.join (Str.ofString "") (ls.map fun x => S [x]) = S ls := by
        have := SX.join_S [] (ls.map fun x => [x])
        rw [List.map_map, joinL_ones] at this
        exact this
      rw [e3]
      exact hR3 ls _ _ _ _ _ _ H5 hl3 (by omega) (K1.trans k0 (K1.trans k4 k5)) (hp5.le (by omega))
end
end Mp

set_option maxHeartbeats 8000000
/-! Ky4: the law's signs and kinds -/
namespace Mp
open PySem PySem.Spec PyProof.Rows L2
open StX (tMakeR run_makeR pe_makeR)
open He (ga ma fAd)
section
variable {P : Program} {w : World} {K : PySem.W.Frag} {mg : Str → Option Value} {base : Heap}
def txV (ns : List (List Nat)) : List V := ns.map fun n => .str (S n)
theorem cutV_pre {xs : List V} {j : Nat} : cutV xs none (some ((j : Nat) : Int)) = xs.take j := by
  unfold cutV
  rw [HT.sIx_nat, HT.sIx_none]
  show (xs.drop 0).take _ = _
  rw [List.drop_zero]
  by_cases h : j ≤ xs.length
  · rw [Nat.min_eq_left h, Nat.sub_zero]
  · rw [Nat.min_eq_right (by omega), Nat.sub_zero, List.take_of_length_le (Nat.le_refl _), List.take_of_length_le (by omega)]
theorem cutV_mid {x : V} {xs : List V} {j : Nat} (h : j ≤ xs.length) : cutV (x :: xs) (some 1) (some (((j + 1 : Nat) : Nat) : Int)) = xs.take j := by
  have e1 : HT.sIx (x :: xs).length 0 (some 1) = 1 := by
    have := HT.sIx_nat (x :: xs).length 0 1
    rw [show (some ((1 : Nat) : Int)) = some 1 from rfl] at this
    rw [this, List.length_cons]
    omega
  unfold cutV
  rw [HT.sIx_nat, e1, List.length_cons, Nat.min_eq_left (by omega)]
  show xs.take _ = _
  rw [Nat.add_sub_cancel]
theorem at_zero {t : List Nat} {r : List (List Nat)} : atI (List.map (fun n => V.str (S n)) (t :: r)) 0 = some (.str (S t)) := by
  have := atI_nat (xs := List.map (fun n => V.str (S n)) (t :: r)) (j := 0) (by simp)
  exact this
theorem txV_take (ns : List (List Nat)) (j : Nat) : (txV ns).take j = txV (ns.take j) := by
  unfold txV
  rw [List.map_take]
theorem pen_new {H H' : Hp} {c l p : Addr} {n : Nat} {o : HO} (k : K1 c H H') (hp : PenAt H' c l n) (h : H' p = none) : K1 c H (upd H' p o) ∧ PenAt (upd H' p o) c l n ∧ H p = none ∧ p ≠ c :=
  ⟨K1.trans k (K1.of (Ex.new h)), hp.ex (Ex.new h), K1.free k (hp.nec h) h, hp.nec h⟩
def spKinds : Sp := sp2 fun a b H Q _ => ∃ (c l q : Addr) (n : Nat) (ns : List (List Nat)), a = .ref c ∧ b = .ref q ∧ q ≠ c ∧ H q = some (.lst (txV ns)) ∧ NamesOk 3 ns ∧ PenAt H c l n ∧ n + 30 < 1000000 ∧ ∀ D ks H', KNames ns ks → K1 c H H' → H D = none → D ≠ c → H' D = some (.lst (txV ks)) → PenAt H' c l (n + 3) → Q (.ref D) H'
theorem sc__law_kinds : FnScope ["pen", "names", "some"] ["pen", "names"] (defScope s__law_kinds) := ⟨rfl, rfl, rfl, by decide +kernel, rfl, by decide +kernel, by decide +kernel⟩
theorem ok__law_kinds (z : Zk K mg base) (c__law_draw : Cal P w K mg base "_law_draw" 2 spDraw)  : Cal P w K mg base "_law_kinds" 3 spKinds := by
  obtain ⟨fd, F⟩ := z.d__law_kinds
  refine cal_of F z.g__law_kinds sc__law_kinds (fun _ _ _ _ _ _ us hl => match us, hl with | [_, _], _ => rfl) (fun vs H Q E h => by match vs, h with | [_, _], _ => rfl) (fun cdv A outer s H vs Q E hr h => ?_)
  have nd := sc__law_kinds.nd
  have hu : (cxOf (L2.CX P w) P w K mg base ["pen", "names", "some"] "_law_kinds" (defScope s__law_kinds) (fAd K ("_law_kinds", none)) cdv A outer s H E).A.units + 64 < cLine := hr.units
  have hu0 := hr.units0
  have hu1 := hu_of hr
  match vs, h with
  | [a0, a1], h =>
  refine ⟨_, (pss_cons (ps_if (pt_cmpR op_eq (pe_fn c__law_draw hr (passD (E := E)) (pa_cons (pv 0) (pa_cons pe_int pa_nil))) pe_int (nomark _)) (pss_one (ps_ret (pe_slice (k_sl_list (K := K) rfl) (pv 1) po_none (po_some (pe_op op_add pe_int (pe_fn c__law_draw hr (passD (E := E)) (pa_cons (pv 0) (pa_cons pe_int pa_nil)))))))) pss_nil)
      (pss_cons (ps_set (i := 2) nd rfl (Or.inl rfl) (pe_slice (k_sl_list (K := K) rfl) (pe_lst (pa_cons (pe_ix ix_H (pv 1) pe_int fun _ _ => rfl) (pa_cons (pe_op op_add_str (pe_ix ix_H (pv 1) pe_int fun _ _ => rfl) pe_str) (pa_cons pe_str pa_nil)))) po_none (po_some (pe_op op_add pe_int (pe_fn c__law_draw hr (passD (E := E)) (pa_cons (pv 0) (pa_cons pe_int pa_nil)))))))
      (pss_one (ps_ret (pe_ifExp (pt_cmpR op_eq (pe_fn c__law_draw hr (passD (E := E)) (pa_cons (pv 0) (pa_cons pe_int pa_nil))) pe_int (nomark _)) (pv 2) (k_revL (K := K) rfl (pv 2))))))), ?_⟩
  obtain ⟨c, l, q, n, ns, rfl, rfl, hqc, hql, hok, hp, hn, hq⟩ := h
  simp [tRet, tRetN, tSeq, tIfS, tDrop, tNext, tNever, tBreak, tCont, tAsg, gName, gCons, gNil, gTup, tAndV, tOrV, tNotV, tAnd, tOr, tNot, tOp, tUn, tVar, tC, tB, tTest, tIf, tCons, tNil, tCB, tTup, tLst, tFld, sFld, sFldAug, rAdd, rSub, tSl, tPart, tNoPart, rI0, rI, rU, rEq, rNe, rSlS, rSlL, rIxL, rIxT, rIxS, tChain, tFn, tMt, tM1, tM0, tBM, rAppend, rIn, tIsN, tNotN, scal_ss, scal_ii, let_nil, let_one, fig_nil, fig_one, LenV_str, L2.start, cxOf, and_assoc, tJs, tFmt, put_at, lk_at, lk_script, lk_upcoming, lk_refuse, lk_skips, lk_expect, lk_word_of, lk_name_unlike, lk_number_to, lk_finish, sp0, sp1, sp2, sp3, sp4, sp5, -List.lookup_eq_none_iff]
  refine ⟨c, l, n, 2, rfl, rfl, hp, by omega, by omega, by omega, fun d H1 hd k1 hp1 => ?_⟩
  have hql1 := k1 _ _ hqc hql
  simp [tRet, tRetN, tSeq, tIfS, tDrop, tNext, tNever, tBreak, tCont, tAsg, gName, gCons, gNil, gTup, tAndV, tOrV, tNotV, tAnd, tOr, tNot, tOp, tUn, tVar, tC, tB, tTest, tIf, tCons, tNil, tCB, tTup, tLst, tFld, sFld, sFldAug, rAdd, rSub, tSl, tPart, tNoPart, rI0, rI, rU, rEq, rNe, rSlS, rSlL, rIxL, rIxT, rIxS, tChain, tFn, tMt, tM1, tM0, tBM, rAppend, rIn, tIsN, tNotN, scal_ss, scal_ii, let_nil, let_one, fig_nil, fig_one, LenV_str, L2.start, cxOf, and_assoc, tJs, tFmt, put_at, lk_at, lk_script, lk_upcoming, lk_refuse, lk_skips, lk_expect, lk_word_of, lk_name_unlike, lk_number_to, lk_finish, sp0, sp1, sp2, sp3, sp4, sp5, -List.lookup_eq_none_iff, rIxH, hql1]
  obtain ⟨t, r, rfl⟩ : ∃ t r, ns = t :: r := by
    cases ns with
    | nil => have := hok.len; simp at this
    | cons t r => exact ⟨t, r, rfl⟩
  have ht7 := hok.le7 t (by simp)
  split
  · refine ⟨c, l, n + 1, 3, rfl, rfl, hp1, by omega, by omega, by omega, fun d2 H2 hd2 k2 hp2 => ⟨_, rfl, _, SqL.of (k2 _ _ hqc hql1), fun p hp3 => ?_⟩⟩
    have e : (1 : Int) + (d2 : Int) = ((1 + d2 : Nat) : Int) := by omega
    rw [e, cutV_pre, txV_take]
    obtain ⟨g1, g2, g3, g4⟩ := pen_new (o := .lst (txV ((t :: r).take (1 + d2)))) (K1.trans k1 k2) hp2 hp3
    exact hq p _ _ (kinds_take hok (by omega) (by omega) (by omega)) g1 g3 g4 upd_same (g2.le (by omega))
  · refine ⟨_, at_zero, _, at_zero, _, rfl, ?_, by decide, fun p hp3 => ?_⟩
    · rw [S_len, sizeLine_eq]
      have : (Str.ofString "x").length = 1 := rfl
      omega
    have ex : S t ++ Str.ofString "x" = S (t ++ [120]) := S_app t [120]
    rw [ex]
    obtain ⟨g1, g2, g3, g4⟩ := pen_new (o := .lst [.str (S t), .str (S (t ++ [120])), .str (Str.ofString "bytes")]) k1 hp1 hp3
    refine ⟨c, l, n + 1, 2, rfl, rfl, g2, by omega, by omega, by omega, fun d2 H2 hd2 k2 hp2 => ⟨_, rfl, _, SqL.of (k2 _ _ g4 upd_same), fun p2 hp4 => ?_⟩⟩
    have e : (2 : Int) + (d2 : Int) = ((2 + d2 : Nat) : Int) := by omega
    have ev : [V.str (S t), .str (S (t ++ [120])), .str (Str.ofString "bytes")] = txV [t, t ++ [120], T "bytes"] := rfl
    rw [e, cutV_pre, ev, txV_take]
    have hkn := kinds_odd (j := 2 + d2) hok (by omega)
    obtain ⟨w1, w2, w3, w4⟩ := pen_new (o := .lst (txV ([t, t ++ [120], T "bytes"].take (2 + d2)))) (K1.trans g1 k2) hp2 hp4
    refine ⟨c, l, n + 1 + 1, 2, rfl, rfl, w2, by omega, by omega, by omega, fun d3 H3 hd3 k3 hp5 => ⟨rfl, ?_⟩⟩
    have hl3 := k3 _ _ w4 upd_same
    split
    · exact hq p2 _ _ hkn (K1.trans w1 k3) w3 w4 hl3 (hp5.le (by omega))
    · simp only [tRevL, tVar]
      refine ⟨_, rfl, p2, _, rfl, SqL.of hl3, fun p6 hp6 => ?_⟩
      obtain ⟨y1, y2, y3, y4⟩ := pen_new (o := .lst (txV ([t, t ++ [120], T "bytes"].take (2 + d2))).reverse) (K1.trans w1 k3) hp5 hp6
      refine hq p6 _ _ hkn.rev y1 y3 y4 ?_ (y2.le (by omega))
      rw [upd_same]
      unfold txV
      rw [List.map_reverse]
end
end Mp

set_option maxHeartbeats 8000000
/-! Kp6: machines made -/
namespace Mp
open PySem PySem.Spec PyProof.Rows L2
open StX (tMakeR run_makeR pe_makeR)
open He (ga ma fAd)
section
variable {P : Program} {w : World} {K : PySem.W.Frag} {mg : Str → Option Value} {base : Heap}
theorem KdsAt.get {H : Hp} {ns : List (List Nat)} {as : List Addr} (h : KdsAt K H ns as) {i : Nat} {x : V} (hi : (as.map V.ref)[i]? = some x) : ∃ (n : List Nat) (b dx : Addr) (t : Nat), ns[i]? = some n ∧ as[i]? = some b ∧ x = .ref b ∧ H b = some (.ins (ga K "Kind") dx [("depth", .int 0), ("name", .str (S n)), ("times", .int t)]) := by
  rw [List.getElem?_map] at hi
  cases hx : as[i]? with
  | none => rw [hx] at hi; cases hi
  | some b =>
    rw [hx] at hi
    cases hi
    have hl : i < ns.length := by
      have := (List.getElem?_eq_some_iff.mp hx).1
      rwa [h.1] at this
    obtain ⟨dx, t, hb⟩ := h.2 i _ b (List.getElem?_eq_getElem hl) hx
    exact ⟨_, b, dx, t, List.getElem?_eq_getElem hl, rfl, rfl, hb⟩
theorem scalesOf_len : ∀ ns : List (List Nat), (scalesOf ns).length = 2 * ns.length
  | [] => rfl
  | n :: ns => by
    have := scalesOf_len ns
    unfold scalesOf at this ⊢
    rw [List.flatMap_cons, List.length_append, this, List.length_cons]
    simp
    omega
theorem tfor_seq {a : Addr} {xs : List V} {g : TG} {tb : TS} {D : Ends} {σ : L2.St} {H : Hp} {te : TE} (ht : ∀ R : V → Hp → Prop, R (.ref a) H → te σ H R) (Pv : Nat → L2.St → Hp → Prop) (h0 : Pv 0 σ H)
    (hl : (∀ i σ H, i ≤ xs.length → Pv i σ H → SqL K H a xs) ∨ (∀ i σ H, i ≤ xs.length → Pv i σ H → SqT K H a xs))
    (hs : ∀ (i : Nat) (x : V) (σ : L2.St) (H : Hp), xs[i]? = some x → Pv i σ H → g x σ H fun σ2 H2 => tb { D with nx := Pv (i + 1), ct := Pv (i + 1), bk := D.nx } σ2 H2)
    (hd : ∀ σ H, Pv xs.length σ H → D.nx σ H) : tFor (fun s H R => iList K te s H R ∨ iTup K te s H R) g tb D σ H := by
  rcases hl with hl | hl
  · exact Or.inl (tfor_list ht Pv h0 hl hs hd)
  · exact Or.inr (tfor_tup ht Pv h0 hl hs hd)
def sp_need_kinds (K : PySem.W.Frag) : Sp := sp1 fun a H Q _ => ∃ (ka : Addr) (ns : List (List Nat)) (as : List Addr), a = .ref ka ∧ H ka = some (.lst (as.map V.ref)) ∧ KdsAt K H ns as ∧ KsOk ns ∧ ∀ H', Ex H H' → Q .non H'
theorem sc_need_kinds : FnScope ["kinds", "names", "at", "kind", "name"] ["kinds"] (defScope s_need_kinds) := ⟨rfl, rfl, rfl, by decide +kernel, rfl, by decide +kernel, by decide +kernel⟩
theorem ok_need_kinds (z : Zk K mg base)  (ap : Apart K) : Cal P w K mg base "need_kinds" 2 (sp_need_kinds K) := by
  obtain ⟨fd, F⟩ := z.d_need_kinds
  refine cal_of F z.g_need_kinds sc_need_kinds (fun _ _ _ _ _ _ us hl => match us, hl with | [_], _ => rfl) (fun vs H Q E h => by match vs, h with | [_], _ => rfl) (fun cdv A outer s H vs Q E hr h => ?_)
  have nd := sc_need_kinds.nd
  have hu : (cxOf (L2.CX P w) P w K mg base ["kinds", "names", "at", "kind", "name"] "need_kinds" (defScope s_need_kinds) (fAd K ("need_kinds", none)) cdv A outer s H E).A.units + 64 < cLine := hr.units
  have hu0 := hr.units0
  have hu1 := hu_of hr
  match vs, h with
  | [a0], h =>
  refine ⟨_, (pss_cons (ps_if (PW.pt (pw_or (pt_not (pt_val (pe_callB (k_isiT (K := K) rfl) rfl z.b_isinstance boot_isinstance (pa_cons (pv 0) (pa_cons (pe_tup (pa_cons (pe_bltn (v := .ty "list") rfl z.b_list boot_list rfl) (pa_cons (pe_bltn (v := .ty "tuple") rfl z.b_tuple boot_tuple rfl) pa_nil))) pa_nil))))) (pw_or1 (pt_not (pt_chain op_le op_le pe_int (pe_callB (k_len (K := K) rfl) rfl z.b_len boot_len (pa_cons (pv 0) pa_nil)) (pe_gint z.v_MOST_KINDS)))))) (pss_one ps_never) pss_nil)
      (pss_cons (ps_for (passes_of rfl) rfl (k_pi_enum (K := K) rfl rfl z.b_enumerate (pa_cons (pv 0) pa_nil)) (k_pg_tup (K := K) (n := 2) rfl rfl (pgs_cons (pg_name nd (i := 2) rfl (Or.inl rfl)) (pgs_cons (pg_name nd (i := 3) rfl (Or.inl rfl)) pgs_nil))) (pss_one (ps_if (pt_not (pt_val (pe_callB (k_isi (K := K) rfl) rfl z.b_isinstance boot_isinstance (pa_cons (pv 3) (pa_cons (pe_gref z.g_Kind) pa_nil))))) (pss_one ps_never) pss_nil)))
      (pss_cons (ps_setLc (i := 1) rfl nd rfl rfl (sw_true rfl rfl rfl rfl) (k_pi_list (K := K) rfl (pv 0)) (blkOk_by (N := ["kinds", "names", "at", "kind", "name"]) (sc := defScope s_need_kinds) (own := [("kind", 3)]) (by decide +kernel)) (fun _ _ _ _ _ => (pg_name nd (i := 3) rfl (Or.inl rfl))) (fun _ _ _ _ _ => pts_nil) (fun _ _ _ _ _ => (k_fld (K := K) rfl (pv 3))))
      (pss_one (ps_for (passes_of rfl) rfl (k_pi_enum (K := K) rfl rfl z.b_enumerate (pa_cons (pv 1) pa_nil)) (k_pg_tup (K := K) (n := 2) rfl rfl (pgs_cons (pg_name nd (i := 2) rfl (Or.inl rfl)) (pgs_cons (pg_name nd (i := 4) rfl (Or.inl rfl)) pgs_nil))) (pss_one (ps_if (pt_cmpR (k_in_seq (K := K) rfl) (pv 4) (pe_slice (k_sl_list (K := K) rfl) (pv 1) po_none (po_some (pv 2))) (by with_unfolding_all rfl)) (pss_one ps_never) pss_nil))))))), ?_⟩
  obtain ⟨ka, ns, as, rfl, hka, hK, hO, hq⟩ := h
  have hlo := hO.lo
  have hhi := hO.hi
  have hl := hK.1
  have hal : as.length = ns.length := hK.1
  simp [sDPut, tDGet, tDIn, tDNotIn, tRet, tRetN, tSeq, tIfS, tDrop, tNext, tNever, tBreak, tCont, tAsg, gName, gCons, gNil, gTup, tAndV, tOrV, tNotV, tAnd, tOr, tNot, tOp, tUn, tVar, tC, tB, tTest, tIf, tCons, tNil, tCB, tTup, tLst, tFld, sFld, sFldAug, rAdd, rSub, tSl, tPart, tNoPart, rI0, rI, rU, rEq, rNe, rSlS, rSlL, rIxL, rIxT, rIxS, tChain, tFn, tMt, tM1, tM0, tBM, rAppend, rIn, tIsN, tNotN, scal_ss, scal_ii, let_nil, let_one, fig_nil, fig_one, LenV_str, L2.start, cxOf, and_assoc, tJs, tFmt, put_at, lk_at, lk_script, lk_upcoming, lk_refuse, lk_skips, lk_expect, lk_word_of, lk_name_unlike, lk_number_to, lk_finish, sp0, sp1, sp2, sp3, sp4, sp5, -List.lookup_eq_none_iff, rIsiT]
  refine ⟨by rw [sizeLine_eq]; omega, fun t ht => ⟨_, upd_same, _, _, .cons (.ty "list") (.cons (.ty "tuple") .nil), .base (.lst (Ex.new ht _ _ hka)), kitAny_cons (b := true) (kit_ty (by decide +kernel)) (fun h => nomatch h) (fun _ => rfl), ?_⟩⟩
  have e1 : Ex H (upd H t (.tup [.ty "list", .ty "tuple"])) := Ex.new ht
  refine ⟨_, Or.inl ⟨_, Or.inl (Or.inl (e1 _ _ hka)), rfl⟩, by simp; omega, by simp; omega, ?_⟩
  refine tfor_enum (xs := as.map V.ref) (fun R h => ⟨_, rfl, h⟩) (fun i σ H' => ∃ u2 u3, σ = [some (.ref ka), none, u2, u3, none] ∧ Ex H H')
    ⟨none, none, rfl, e1⟩ (fun i σ H' _ h => ?_) (fun i x q σ H' hi h hq2 => ?_) (fun σ H' h => ?_)
  · obtain ⟨u2, u3, _, e⟩ := h
    exact Or.inl (Or.inl (e _ _ hka))
  · obtain ⟨u2, u3, rfl, e⟩ := h
    obtain ⟨n, b, dx, tt, hn, hb, rfl, hbk⟩ := (hK.st ap (Stb.of e)).get hi
    have e2 : Ex H' (upd H' q (.tup [.int ((i : Nat) : Int), .ref b])) := Ex.new hq2
    simp [sDPut, tDGet, tDIn, tDNotIn, tRet, tRetN, tSeq, tIfS, tDrop, tNext, tNever, tBreak, tCont, tAsg, gName, gCons, gNil, gTup, tAndV, tOrV, tNotV, tAnd, tOr, tNot, tOp, tUn, tVar, tC, tB, tTest, tIf, tCons, tNil, tCB, tTup, tLst, tFld, sFld, sFldAug, rAdd, rSub, tSl, tPart, tNoPart, rI0, rI, rU, rEq, rNe, rSlS, rSlL, rIxL, rIxT, rIxS, tChain, tFn, tMt, tM1, tM0, tBM, rAppend, rIn, tIsN, tNotN, scal_ss, scal_ii, let_nil, let_one, fig_nil, fig_one, LenV_str, L2.start, cxOf, and_assoc, tJs, tFmt, put_at, lk_at, lk_script, lk_upcoming, lk_refuse, lk_skips, lk_expect, lk_word_of, lk_name_unlike, lk_number_to, lk_finish, sp0, sp1, sp2, sp3, sp4, sp5, -List.lookup_eq_none_iff, rIsi]
    exact ⟨_, SqT.of upd_same, rfl, _, _, rfl, _, _, rfl, rfl, _, _, .own _, z.ty_Kind.ty z.cls_Kind (e2 _ _ hbk), z.kit_Kind_Kind, Ex.trans e e2⟩
  · obtain ⟨u2, u3, rfl, e⟩ := h
    simp [sDPut, tDGet, tDIn, tDNotIn, tRet, tRetN, tSeq, tIfS, tDrop, tNext, tNever, tBreak, tCont, tAsg, gName, gCons, gNil, gTup, tAndV, tOrV, tNotV, tAnd, tOr, tNot, tOp, tUn, tVar, tC, tB, tTest, tIf, tCons, tNil, tCB, tTup, tLst, tFld, sFld, sFldAug, rAdd, rSub, tSl, tPart, tNoPart, rI0, rI, rU, rEq, rNe, rSlS, rSlL, rIxL, rIxT, rIxS, tChain, tFn, tMt, tM1, tM0, tBM, rAppend, rIn, tIsN, tNotN, scal_ss, scal_ii, let_nil, let_one, fig_nil, fig_one, LenV_str, L2.start, cxOf, and_assoc, tJs, tFmt, put_at, lk_at, lk_script, lk_upcoming, lk_refuse, lk_skips, lk_expect, lk_word_of, lk_name_unlike, lk_number_to, lk_finish, sp0, sp1, sp2, sp3, sp4, sp5, -List.lookup_eq_none_iff]
    refine lc_mapL (a := ka) (xs := as.map V.ref) (ys := txV ns) (fun R h => ⟨_, rfl, h⟩) monG_name monT_yes (by unfold txV; simp; omega) (by unfold txV; simp; omega) (SqL.of (e _ _ hka)) (fun i x y H2 R hi hy e2 hR => ?_) (fun D H2 e2 hD hDl => ?_)
    · obtain ⟨n, b, dx, tt, hn, hb, rfl, hbk⟩ := (hK.st ap (Stb.of (Ex.trans e e2))).get hi
      unfold txV at hy
      rw [List.getElem?_map, hn] at hy
      cases hy
      simp [sDPut, tDGet, tDIn, tDNotIn, tRet, tRetN, tSeq, tIfS, tDrop, tNext, tNever, tBreak, tCont, tAsg, gName, gCons, gNil, gTup, tAndV, tOrV, tNotV, tAnd, tOr, tNot, tOp, tUn, tVar, tC, tB, tTest, tIf, tCons, tNil, tCB, tTup, tLst, tFld, sFld, sFldAug, rAdd, rSub, tSl, tPart, tNoPart, rI0, rI, rU, rEq, rNe, rSlS, rSlL, rIxL, rIxT, rIxS, tChain, tFn, tMt, tM1, tM0, tBM, rAppend, rIn, tIsN, tNotN, scal_ss, scal_ii, let_nil, let_one, fig_nil, fig_one, LenV_str, L2.start, cxOf, and_assoc, tJs, tFmt, put_at, lk_at, lk_script, lk_upcoming, lk_refuse, lk_skips, lk_expect, lk_word_of, lk_name_unlike, lk_number_to, lk_finish, sp0, sp1, sp2, sp3, sp4, sp5, -List.lookup_eq_none_iff, LcTurn, tYes, wipe]
      exact ⟨_, _, _, hbk, z.cls_Kind, z.na_Kind_name, _, lk_name, hR _ Ex.rfl'⟩
    · refine tfor_enum (xs := txV ns) (fun R h => ⟨_, rfl, h⟩) (fun i σ H' => ∃ u2 u3 u4, σ = [some (.ref ka), some (.ref D), u2, u3, u4] ∧ Ex H2 H')
        ⟨_, _, _, rfl, Ex.rfl'⟩ (fun i σ H' _ h => ?_) (fun i x q σ H' hi h hq2 => ?_) (fun σ H' h => ?_)
      · obtain ⟨_, _, _, _, e3⟩ := h
        exact SqL.of (e3 _ _ hDl)
      · obtain ⟨_, _, _, rfl, e3⟩ := h
        obtain ⟨n, hn, rfl⟩ : ∃ n, ns[i]? = some n ∧ x = .str (S n) := by
          unfold txV at hi
          rw [List.getElem?_map] at hi
          cases hx : ns[i]? with
          | none => rw [hx] at hi; cases hi
          | some n => rw [hx] at hi; cases hi; exact ⟨n, rfl, rfl⟩
        have e4 : Ex H' (upd H' q (.tup [.int ((i : Nat) : Int), .str (S n)])) := Ex.new hq2
        simp [sDPut, tDGet, tDIn, tDNotIn, tRet, tRetN, tSeq, tIfS, tDrop, tNext, tNever, tBreak, tCont, tAsg, gName, gCons, gNil, gTup, tAndV, tOrV, tNotV, tAnd, tOr, tNot, tOp, tUn, tVar, tC, tB, tTest, tIf, tCons, tNil, tCB, tTup, tLst, tFld, sFld, sFldAug, rAdd, rSub, tSl, tPart, tNoPart, rI0, rI, rU, rEq, rNe, rSlS, rSlL, rIxL, rIxT, rIxS, tChain, tFn, tMt, tM1, tM0, tBM, rAppend, rIn, tIsN, tNotN, scal_ss, scal_ii, let_nil, let_one, fig_nil, fig_one, LenV_str, L2.start, cxOf, and_assoc, tJs, tFmt, put_at, lk_at, lk_script, lk_upcoming, lk_refuse, lk_skips, lk_expect, lk_word_of, lk_name_unlike, lk_number_to, lk_finish, sp0, sp1, sp2, sp3, sp4, sp5, -List.lookup_eq_none_iff]
        refine ⟨_, SqT.of upd_same, rfl, _, _, rfl, _, _, rfl, rfl, _, rfl, _, SqL.of (e4 _ _ (e3 _ _ hDl)), fun p hp => ?_⟩
        rw [cutV_pre, txV_take]
        refine ⟨_, Or.inl (SqL.of upd_same), rfl, flat_strs _, ?_, Ex.trans e3 (Ex.trans e4 (Ex.new hp))⟩
        unfold txV
        rw [inV_strs]
        simp only [decide_eq_false_iff_not]
        intro hm
        obtain ⟨j, hj⟩ := List.mem_iff_getElem?.mp hm
        rw [List.getElem?_take] at hj
        split at hj
        · have := nd_ix hO.nd hj hn
          omega
        · cases hj
      · obtain ⟨_, _, _, rfl, e3⟩ := h
        exact hq _ (Ex.trans e (Ex.trans e2 e3))
def sp_need_exponents (K : PySem.W.Frag) : Sp := sp2 fun a b H Q _ => ∃ (ka D : Addr) (ns : List (List Nat)) (as : List Addr) (ps : List (Nat × Nat)), a = .ref ka ∧ b = .ref D ∧ H ka = some (.lst (as.map V.ref)) ∧ KdsAt K H ns as ∧ KsOk ns ∧ DictAt H D ns ps ∧ (∀ p ∈ ps, p.1 ≤ 1000 ∧ p.2 ≤ p.1) ∧ ∀ H', Ex H H' → Q .non H'
theorem sc_need_exponents : FnScope ["kinds", "exponents", "names", "name", "pair", "kind"] ["kinds", "exponents"] (defScope s_need_exponents) := ⟨rfl, rfl, rfl, by decide +kernel, rfl, by decide +kernel, by decide +kernel⟩
theorem ok_need_exponents (z : Zk K mg base) (c_is_between : Cal P w K mg base "is_between" 2 (sp_is_between K)) (ap : Apart K) : Cal P w K mg base "need_exponents" 3 (sp_need_exponents K) := by
  obtain ⟨fd, F⟩ := z.d_need_exponents
  refine cal_of F z.g_need_exponents sc_need_exponents (fun _ _ _ _ _ _ us hl => match us, hl with | [_, _], _ => rfl) (fun vs H Q E h => by match vs, h with | [_, _], _ => rfl) (fun cdv A outer s H vs Q E hr h => ?_)
  have nd := sc_need_exponents.nd
  have hu : (cxOf (L2.CX P w) P w K mg base ["kinds", "exponents", "names", "name", "pair", "kind"] "need_exponents" (defScope s_need_exponents) (fAd K ("need_exponents", none)) cdv A outer s H E).A.units + 64 < cLine := hr.units
  have hu0 := hr.units0
  have hu1 := hu_of hr
  match vs, h with
  | [a0, a1], h =>
  refine ⟨_, (pss_cons (ps_setLc (i := 2) rfl nd rfl rfl (sw_true rfl rfl rfl rfl) (k_pi_list (K := K) rfl (pv 0)) (blkOk_by (N := ["kinds", "exponents", "names", "name", "pair", "kind"]) (sc := defScope s_need_exponents) (own := [("kind", 5)]) (by decide +kernel)) (fun _ _ _ _ _ => (pg_name nd (i := 5) rfl (Or.inl rfl))) (fun _ _ _ _ _ => pts_nil) (fun _ _ _ _ _ => (k_fld (K := K) rfl (pv 5))))
      (pss_cons (ps_if (PW.pt (pw_or (pt_not (pt_val (pe_callB (k_isi (K := K) rfl) rfl z.b_isinstance boot_isinstance (pa_cons (pv 1) (pa_cons (pe_bltn (v := .ty "dict") rfl z.b_dict boot_dict rfl) pa_nil))))) (pw_or1 (pt_cmpR op_ne (pe_callB call_lenD rfl z.b_len boot_len (pa_cons (pv 1) pa_nil)) (pe_callB (k_len (K := K) rfl) rfl z.b_len boot_len (pa_cons (pv 2) pa_nil)) (nomark _))))) (pss_one ps_never) pss_nil)
      (pss_cons (ps_if (pt_not (pt_val (pe_callB (k_all (K := K) rfl rfl) rfl z.b_all boot_all (pa_cons (pe_lc rfl nd (k_pi_list (K := K) rfl (pv 2)) (blkOk_by (N := ["kinds", "exponents", "names", "name", "pair", "kind"]) (sc := defScope s_need_exponents) (own := [("name", 3)]) (by decide +kernel)) (fun _ _ _ _ _ => (pg_name nd (i := 3) rfl (Or.inl rfl))) (fun _ _ _ _ _ => pts_nil) (fun _ _ _ _ _ => (pe_cmp (pc_din (lt64 hu) (pv 3) (pv 1)) (by with_unfolding_all rfl)))) pa_nil)))) (pss_one ps_never) pss_nil)
      (pss_one (ps_for (passes_of rfl) rfl (k_pi_list (K := K) rfl (pv 2)) (pg_name nd (i := 3) rfl (Or.inl rfl)) (pss_cons (ps_set (i := 4) nd rfl (Or.inl rfl) (pe_dget (lt64 hu) (pv 1) (pv 3) (fun _ _ => rfl)))
      (pss_cons (ps_if (PW.pt (pw_or (pt_not (pt_val (pe_callB (k_isi (K := K) rfl) rfl z.b_isinstance boot_isinstance (pa_cons (pv 4) (pa_cons (pe_bltn (v := .ty "tuple") rfl z.b_tuple boot_tuple rfl) pa_nil))))) (pw_or (pt_cmpR op_ne (pe_callB (k_len (K := K) rfl) rfl z.b_len boot_len (pa_cons (pv 4) pa_nil)) pe_int (nomark _)) (pw_or1 (pt_not (pt_val (pe_fn c_is_between hr (passD (E := E)) (pa_cons (pe_ix (k_ix_tup (K := K) rfl) (pv 4) pe_int fun _ _ => rfl) (pa_cons pe_int (pa_cons (k_cval (K := K) rfl (pe_gref z.g_Machine)) pa_nil)))))))))) (pss_one ps_never) pss_nil)
      (pss_one (ps_if (pt_not (pt_val (pe_fn c_is_between hr (passD (E := E)) (pa_cons (pe_ix (k_ix_tup (K := K) rfl) (pv 4) pe_int fun _ _ => rfl) (pa_cons pe_int (pa_cons (pe_ix (k_ix_tup (K := K) rfl) (pv 4) pe_int fun _ _ => rfl) pa_nil)))))) (pss_one ps_never) pss_nil))))))))), ?_⟩
  obtain ⟨ka, D, ns, as, ps, rfl, rfl, hka, hK, hO, hd, hpl, hq⟩ := h
  obtain ⟨mc, u, c1, c2⟩ := z.k_Machine_MOST
  have hlo := hO.lo
  have hhi := hO.hi
  have hal : as.length = ns.length := hK.1
  simp [sDPut, tDGet, tDIn, tDNotIn, tRet, tRetN, tSeq, tIfS, tDrop, tNext, tNever, tBreak, tCont, tAsg, gName, gCons, gNil, gTup, tAndV, tOrV, tNotV, tAnd, tOr, tNot, tOp, tUn, tVar, tC, tB, tTest, tIf, tCons, tNil, tCB, tTup, tLst, tFld, sFld, sFldAug, rAdd, rSub, tSl, tPart, tNoPart, rI0, rI, rU, rEq, rNe, rSlS, rSlL, rIxL, rIxT, rIxS, tChain, tFn, tMt, tM1, tM0, tBM, rAppend, rIn, tIsN, tNotN, scal_ss, scal_ii, let_nil, let_one, fig_nil, fig_one, LenV_str, L2.start, cxOf, and_assoc, tJs, tFmt, put_at, lk_at, lk_script, lk_upcoming, lk_refuse, lk_skips, lk_expect, lk_word_of, lk_name_unlike, lk_number_to, lk_finish, sp0, sp1, sp2, sp3, sp4, sp5, -List.lookup_eq_none_iff, rIsi, ClX.tCVal]
  refine lc_mapL (a := ka) (xs := as.map V.ref) (ys := txV ns) (fun R h => ⟨_, rfl, h⟩) monG_name monT_yes (by unfold txV; simp; omega) (by unfold txV; simp; omega) (SqL.of hka) (fun i x y H2 R hi hy e2 hR => ?_) (fun N H2 e2 hN hNl => ?_)
  · obtain ⟨n, b, dx, tt, hn, hb, rfl, hbk⟩ := (hK.st ap (Stb.of e2)).get hi
    unfold txV at hy
    rw [List.getElem?_map, hn] at hy
    cases hy
    simp [sDPut, tDGet, tDIn, tDNotIn, tRet, tRetN, tSeq, tIfS, tDrop, tNext, tNever, tBreak, tCont, tAsg, gName, gCons, gNil, gTup, tAndV, tOrV, tNotV, tAnd, tOr, tNot, tOp, tUn, tVar, tC, tB, tTest, tIf, tCons, tNil, tCB, tTup, tLst, tFld, sFld, sFldAug, rAdd, rSub, tSl, tPart, tNoPart, rI0, rI, rU, rEq, rNe, rSlS, rSlL, rIxL, rIxT, rIxS, tChain, tFn, tMt, tM1, tM0, tBM, rAppend, rIn, tIsN, tNotN, scal_ss, scal_ii, let_nil, let_one, fig_nil, fig_one, LenV_str, L2.start, cxOf, and_assoc, tJs, tFmt, put_at, lk_at, lk_script, lk_upcoming, lk_refuse, lk_skips, lk_expect, lk_word_of, lk_name_unlike, lk_number_to, lk_finish, sp0, sp1, sp2, sp3, sp4, sp5, -List.lookup_eq_none_iff, LcTurn, tYes, wipe]
    exact ⟨_, _, _, hbk, z.cls_Kind, z.na_Kind_name, _, lk_name, hR _ Ex.rfl'⟩
  · obtain ⟨ds, h1, h2, h3, h4⟩ := hd.ex e2
    have hget : ∀ i n, ns[i]? = some n → ∃ b p, ds[i]? = some b ∧ ps[i]? = some p := fun i n hn => by
      have := (List.getElem?_eq_some_iff.mp hn).1
      exact ⟨_, _, List.getElem?_eq_getElem (by omega), List.getElem?_eq_getElem (by omega)⟩
    refine ⟨_, _, .ty "dict", .base (.dK h3), kit_ty (by decide +kernel), _, h3, _, Or.inl ⟨_, SqL.of hNl, rfl⟩, by rw [kvs_len h1]; unfold txV; simp, ?_⟩
    refine lc_mapL (a := N) (xs := txV ns) (ys := ns.map fun _ => .bl true) (fun R h => ⟨_, rfl, h⟩) monG_name monT_yes (by simp; omega) (by unfold txV; simp) (SqL.of hNl) (fun i x y H3 R hi hy e3 hR => ?_) (fun B H3 e3 hB hBl => ?_)
    · unfold txV at hi
      rw [List.getElem?_map] at hi hy
      cases hn : ns[i]? with
      | none => rw [hn] at hi; cases hi
      | some n =>
        rw [hn] at hi hy
        cases hi
        cases hy
        obtain ⟨b, p, hb, hp⟩ := hget i n hn
        simp [sDPut, tDGet, tDIn, tDNotIn, tRet, tRetN, tSeq, tIfS, tDrop, tNext, tNever, tBreak, tCont, tAsg, gName, gCons, gNil, gTup, tAndV, tOrV, tNotV, tAnd, tOr, tNot, tOp, tUn, tVar, tC, tB, tTest, tIf, tCons, tNil, tCB, tTup, tLst, tFld, sFld, sFldAug, rAdd, rSub, tSl, tPart, tNoPart, rI0, rI, rU, rEq, rNe, rSlS, rSlL, rIxL, rIxT, rIxS, tChain, tFn, tMt, tM1, tM0, tBM, rAppend, rIn, tIsN, tNotN, scal_ss, scal_ii, let_nil, let_one, fig_nil, fig_one, LenV_str, L2.start, cxOf, and_assoc, tJs, tFmt, put_at, lk_at, lk_script, lk_upcoming, lk_refuse, lk_skips, lk_expect, lk_word_of, lk_name_unlike, lk_number_to, lk_finish, sp0, sp1, sp2, sp3, sp4, sp5, -List.lookup_eq_none_iff, LcTurn, tYes, wipe]
        refine ⟨_, DGet.k (k := Sum.inr (S n)) (e3 _ _ h3), ?_⟩
        rw [valV_kvs hO.nd hn hb]
        exact hR _ Ex.rfl'
    · refine ⟨B, ns.map fun _ => true, rfl, SqL.of (by rw [hBl, List.map_map]; rfl), by simp, ?_⟩
      refine tfor_list (xs := txV ns) (fun R h => ⟨_, rfl, h⟩) (fun i σ H' => ∃ u3 u4, σ = [some (.ref ka), some (.ref D), some (.ref N), u3, u4, none] ∧ Ex H3 H')
        ⟨_, _, rfl, Ex.rfl'⟩ (fun i σ H' _ h => ?_) (fun i x σ H' hi h => ?_) (fun σ H' h => ?_)
      · obtain ⟨_, _, _, e4⟩ := h
        exact SqL.of (Ex.trans e3 e4 _ _ hNl)
      · obtain ⟨_, _, rfl, e4⟩ := h
        obtain ⟨n, hn, rfl⟩ : ∃ n, ns[i]? = some n ∧ x = .str (S n) := by
          unfold txV at hi
          rw [List.getElem?_map] at hi
          cases hx : ns[i]? with
          | none => rw [hx] at hi; cases hi
          | some n => rw [hx] at hi; cases hi; exact ⟨n, rfl, rfl⟩
        obtain ⟨b, p, hb, hp⟩ := hget i n hn
        have e34 := Ex.trans e3 e4
        have hbt := e34 _ _ (h4 i b p hb hp)
        have hle := hpl p (List.mem_of_getElem? hp)
        simp [sDPut, tDGet, tDIn, tDNotIn, tRet, tRetN, tSeq, tIfS, tDrop, tNext, tNever, tBreak, tCont, tAsg, gName, gCons, gNil, gTup, tAndV, tOrV, tNotV, tAnd, tOr, tNot, tOp, tUn, tVar, tC, tB, tTest, tIf, tCons, tNil, tCB, tTup, tLst, tFld, sFld, sFldAug, rAdd, rSub, tSl, tPart, tNoPart, rI0, rI, rU, rEq, rNe, rSlS, rSlL, rIxL, rIxT, rIxS, tChain, tFn, tMt, tM1, tM0, tBM, rAppend, rIn, tIsN, tNotN, scal_ss, scal_ii, let_nil, let_one, fig_nil, fig_one, LenV_str, L2.start, cxOf, and_assoc, tJs, tFmt, put_at, lk_at, lk_script, lk_upcoming, lk_refuse, lk_skips, lk_expect, lk_word_of, lk_name_unlike, lk_number_to, lk_finish, sp0, sp1, sp2, sp3, sp4, sp5, -List.lookup_eq_none_iff, rIsi, ClX.tCVal]
        refine ⟨_, DGet.k (k := Sum.inr (S n)) (e34 _ _ h3) |> fun g => by rw [valV_kvs hO.nd hn hb] at g; exact g, ?_⟩
        refine ⟨_, _, .ty "tuple", .base (.tup hbt), kit_ty (by decide +kernel), 2, Or.inr ⟨_, SqT.of hbt, rfl⟩, rfl, ?_⟩
        exact ⟨_, rfl, _, SqT.of hbt, _, rfl, mc, c1, _, ⟨u, c2⟩, _, _, _, rfl, rfl, rfl, by simp; omega, _, rfl, _, SqT.of hbt, _, rfl, _, rfl, _, SqT.of hbt, _, rfl, _, _, _, rfl, rfl, rfl, by simp; omega, e4⟩
      · obtain ⟨_, _, rfl, e4⟩ := h
        exact hq _ (Ex.trans e2 (Ex.trans e3 e4))
def sp_scales_of (K : PySem.W.Frag) : Sp := sp1 fun a H Q _ => ∃ (ka : Addr) (ns : List (List Nat)) (as : List Addr), a = .ref ka ∧ (H ka = some (.lst (as.map V.ref)) ∨ H ka = some (.tup (as.map V.ref))) ∧ KdsAt K H ns as ∧ KsOk ns ∧ ∀ D H', Ex H H' → H D = none → H' D = some (.tup (txV (scalesOf ns))) → Q (.ref D) H'
theorem sc_scales_of : FnScope ["kinds", "found", "kind"] ["kinds"] (defScope s_scales_of) := ⟨rfl, rfl, rfl, by decide +kernel, rfl, by decide +kernel, by decide +kernel⟩
theorem ok_scales_of (z : Zk K mg base)  (ap : Apart K) : Cal P w K mg base "scales_of" 1 (sp_scales_of K) := by
  obtain ⟨fd, F⟩ := z.d_scales_of
  refine cal_of F z.g_scales_of sc_scales_of (fun _ _ _ _ _ _ us hl => match us, hl with | [_], _ => rfl) (fun vs H Q E h => by match vs, h with | [_], _ => rfl) (fun cdv A outer s H vs Q E hr h => ?_)
  have nd := sc_scales_of.nd
  have hu : (cxOf (L2.CX P w) P w K mg base ["kinds", "found", "kind"] "scales_of" (defScope s_scales_of) (fAd K ("scales_of", none)) cdv A outer s H E).A.units + 64 < cLine := hr.units
  have hu0 := hr.units0
  have hu1 := hu_of hr
  match vs, h with
  | [a0], h =>
  refine ⟨_, (pss_cons (ps_set (i := 1) nd rfl (Or.inl rfl) (pe_lst pa_nil))
      (pss_cons (ps_for (passes_of rfl) rfl (pi_orc (k_pi_list (K := K) rfl (pv 0)) (k_pi_tup (K := K) rfl (pv 0))) (pg_name nd (i := 2) rfl (Or.inl rfl)) (pss_one (ps_expr (k_extend (K := K) rfl (pv 1) (pe_lst (pa_cons (pe_joined (.cons pe_str (.cons (pe_fmt (k_fld (K := K) rfl (pv 2))) .nil))) (pa_cons (pe_joined (.cons pe_str (.cons (pe_fmt (k_fld (K := K) rfl (pv 2))) .nil))) pa_nil)))))))
      (pss_one (ps_ret (pe_callTy (k_tuple_of (K := K) rfl) rfl z.b_tuple boot_tuple (pa_cons (pv 1) pa_nil)))))), ?_⟩
  obtain ⟨ka, ns, as, rfl, hka, hK, hO, hq⟩ := h
  have hhi := hO.hi
  have hal : as.length = ns.length := hK.1
  simp [sDPut, tDGet, tDIn, tDNotIn, tRet, tRetN, tSeq, tIfS, tDrop, tNext, tNever, tBreak, tCont, tAsg, gName, gCons, gNil, gTup, tAndV, tOrV, tNotV, tAnd, tOr, tNot, tOp, tUn, tVar, tC, tB, tTest, tIf, tCons, tNil, tCB, tTup, tLst, tFld, sFld, sFldAug, rAdd, rSub, tSl, tPart, tNoPart, rI0, rI, rU, rEq, rNe, rSlS, rSlL, rIxL, rIxT, rIxS, tChain, tFn, tMt, tM1, tM0, tBM, rAppend, rIn, tIsN, tNotN, scal_ss, scal_ii, let_nil, let_one, fig_nil, fig_one, LenV_str, L2.start, cxOf, and_assoc, tJs, tFmt, put_at, lk_at, lk_script, lk_upcoming, lk_refuse, lk_skips, lk_expect, lk_word_of, lk_name_unlike, lk_number_to, lk_finish, sp0, sp1, sp2, sp3, sp4, sp5, -List.lookup_eq_none_iff]
  intro D hD
  have eD : Ex H (upd H D (.lst [])) := Ex.new hD
  refine tfor_seq (a := ka) (xs := as.map V.ref) (fun R h => ⟨_, rfl, h⟩) (fun i σ H' => ∃ u2, σ = [some (.ref ka), some (.ref D), u2] ∧ Ex H H' ∧ H' D = some (.lst (txV (scalesOf (ns.take i)))))
    ⟨_, rfl, eD, upd_same⟩ ?_ (fun i x σ H' hi h => ?_) (fun σ H' h => ?_)
  · rcases hka with hka | hka
    · exact Or.inl fun i σ H' _ ⟨_, _, e, _⟩ => SqL.of (e _ _ hka)
    · exact Or.inr fun i σ H' _ ⟨_, _, e, _⟩ => SqT.of (e _ _ hka)
  · obtain ⟨_, rfl, e, hd⟩ := h
    obtain ⟨n, b, dx, tt, hn, hb, rfl, hbk⟩ := (hK.st ap (Stb.of e)).get hi
    have hok := nameOk_len (hO.ok n (List.mem_of_getElem? hn))
    simp [sDPut, tDGet, tDIn, tDNotIn, tRet, tRetN, tSeq, tIfS, tDrop, tNext, tNever, tBreak, tCont, tAsg, gName, gCons, gNil, gTup, tAndV, tOrV, tNotV, tAnd, tOr, tNot, tOp, tUn, tVar, tC, tB, tTest, tIf, tCons, tNil, tCB, tTup, tLst, tFld, sFld, sFldAug, rAdd, rSub, tSl, tPart, tNoPart, rI0, rI, rU, rEq, rNe, rSlS, rSlL, rIxL, rIxT, rIxS, tChain, tFn, tMt, tM1, tM0, tBM, rAppend, rIn, tIsN, tNotN, scal_ss, scal_ii, let_nil, let_one, fig_nil, fig_one, LenV_str, L2.start, cxOf, and_assoc, tJs, tFmt, put_at, lk_at, lk_script, lk_upcoming, lk_refuse, lk_skips, lk_expect, lk_word_of, lk_name_unlike, lk_number_to, lk_finish, sp0, sp1, sp2, sp3, sp4, sp5, -List.lookup_eq_none_iff]
    have e6 : Str.empty ++ Str.ofString "size " = S (T "size ") := rfl
    have e7 : Str.empty ++ Str.ofString "align " = S (T "align ") := rfl
    rw [e6, e7]
    have l1 : (T "size ").length = 5 := rfl
    have l2 : (T "align ").length = 6 := rfl
    refine ⟨Or.inl ⟨rfl, _, SqL.of hd⟩, by rw [S_len, sizeLine_eq]; omega, _, _, _, hbk, z.cls_Kind, z.na_Kind_name, _, lk_name, Or.inl ⟨_, rfl, by rw [S_len, sizeLine_eq]; omega, by rw [S_app, S_len, sizeLine_eq, List.length_append]; omega, by rw [S_len, sizeLine_eq]; omega,
      _, _, _, hbk, z.cls_Kind, z.na_Kind_name, _, lk_name, Or.inl ⟨_, rfl, by rw [S_len, sizeLine_eq]; omega, by rw [S_app, S_len, sizeLine_eq, List.length_append]; omega, by rw [sizeLine_eq]; omega, fun p hp => ?_⟩⟩⟩
    have e8 : Ex H' (upd H' p (.lst [.str (S (T "size ") ++ S n), .str (S (T "align ") ++ S n)])) := Ex.new hp
    have hDn := Ex.trans e e8
    refine ⟨D, p, _, _, rfl, rfl, e8 _ _ hd, upd_same, ?_, Ex.mut hDn hD, ?_⟩
    · have : i < ns.length := (List.getElem?_eq_some_iff.mp hn).1
      have h10 : (scalesOf (ns.take i)).length = 2 * (ns.take i).length := scalesOf_len _
      unfold txV
      rw [List.length_map, h10, List.length_take, sizeLine_eq]
      simp
      omega
    · rw [upd_same]
      have h9 : ns.take (i + 1) = ns.take i ++ [n] := by
        obtain ⟨hi2, h8⟩ := List.getElem?_eq_some_iff.mp hn
        rw [← h8]
        exact List.take_succ_eq_append_getElem hi2
      rw [h9, S_app, S_app]
      unfold txV scalesOf
      simp
  · obtain ⟨_, rfl, e, hd⟩ := h
    rw [List.length_map, hal, List.take_length] at hd
    simp [sDPut, tDGet, tDIn, tDNotIn, tRet, tRetN, tSeq, tIfS, tDrop, tNext, tNever, tBreak, tCont, tAsg, gName, gCons, gNil, gTup, tAndV, tOrV, tNotV, tAnd, tOr, tNot, tOp, tUn, tVar, tC, tB, tTest, tIf, tCons, tNil, tCB, tTup, tLst, tFld, sFld, sFldAug, rAdd, rSub, tSl, tPart, tNoPart, rI0, rI, rU, rEq, rNe, rSlS, rSlL, rIxL, rIxT, rIxS, tChain, tFn, tMt, tM1, tM0, tBM, rAppend, rIn, tIsN, tNotN, scal_ss, scal_ii, let_nil, let_one, fig_nil, fig_one, LenV_str, L2.start, cxOf, and_assoc, tJs, tFmt, put_at, lk_at, lk_script, lk_upcoming, lk_refuse, lk_skips, lk_expect, lk_word_of, lk_name_unlike, lk_number_to, lk_finish, sp0, sp1, sp2, sp3, sp4, sp5, -List.lookup_eq_none_iff]
    refine ⟨_, Or.inl ⟨SqL.of hd, fun p hp => hq p _ (Ex.trans e (Ex.new hp)) (Ex.free e hp) upd_same⟩⟩
end
end Mp

set_option maxHeartbeats 8000000
/-! Kp7: machines made -/
namespace Mp
open PySem PySem.Spec PyProof.Rows L2
open StX (tMakeR run_makeR pe_makeR)
open He (ga ma fAd)
section
variable {P : Program} {w : World} {K : PySem.W.Frag} {mg : Str → Option Value} {base : Heap}
def powsV (ps : List (Nat × Nat)) : List V := ps.flatMap fun p => [.int ((p.1 : Nat) : Int), .int ((p.2 : Nat) : Int)]
theorem pows_len : ∀ ps : List (Nat × Nat), (ps.map fun p => [V.int ((p.1 : Nat) : Int), .int ((p.2 : Nat) : Int)]).flatten.length = 2 * ps.length
  | [] => rfl
  | p :: ps => by
    have := pows_len ps
    rw [List.map_cons, List.flatten_cons, List.length_append, this, List.length_cons]
    simp
    omega
/-- a machine -/
def MachAt (K : PySem.W.Frag) (H : Hp) (ns : List (List Nat)) (as : List Addr) (ps : List (Nat × Nat)) (x : Addr) : Prop := ∃ dx kt st pl, H x = some (.ins (ga K "Machine") dx [("kinds", .ref kt), ("scales", .ref st), ("powers", .ref pl)]) ∧
  H kt = some (.tup (as.map V.ref)) ∧ H st = some (.tup (txV (scalesOf ns))) ∧ H pl = some (.lst (powsV ps))
theorem MachAt.ex {H H' : Hp} {ns : List (List Nat)} {as : List Addr} {ps : List (Nat × Nat)} {x : Addr} (e : Ex H H') (h : MachAt K H ns as ps x) : MachAt K H' ns as ps x := by
  obtain ⟨dx, kt, st, pl, h1, h2, h3, h4⟩ := h
  exact ⟨dx, kt, st, pl, e _ _ h1, e _ _ h2, e _ _ h3, e _ _ h4⟩
def sp_Machine___init__ (K : PySem.W.Frag) : Sp := sp3 fun a b d H Q _ => ∃ (x dx ka D : Addr) (ns : List (List Nat)) (as : List Addr) (ps : List (Nat × Nat)), a = .ref x ∧ b = .ref ka ∧ d = .ref D ∧ H x = some (.ins (ga K "Machine") dx []) ∧ H ka = some (.lst (as.map V.ref)) ∧ KdsAt K H ns as ∧ KsOk ns ∧ DictAt H D ns ps ∧ (∀ p ∈ ps, p.1 ≤ 1000 ∧ p.2 ≤ p.1) ∧
  ∀ H', K1 x H H' → MachAt K H' ns as ps x → Q .non H'
theorem put_kinds {v : V} : putF (Str.ofString "kinds") v [] = [(Str.ofString "kinds", v)] := rfl
theorem put_scales {v a : V} : putF (Str.ofString "scales") v [(Str.ofString "kinds", a)] = [(Str.ofString "kinds", a), (Str.ofString "scales", v)] := rfl
theorem put_powers {v a b : V} : putF (Str.ofString "powers") v [(Str.ofString "kinds", a), (Str.ofString "scales", b)] = [(Str.ofString "kinds", a), (Str.ofString "scales", b), (Str.ofString "powers", v)] := rfl
theorem sc_Machine___init__ : FnScope ["self", "kinds", "exponents", "kind", "number"] ["self", "kinds", "exponents"] (defScope s_Machine___init__) := ⟨rfl, rfl, rfl, by decide +kernel, rfl, by decide +kernel, by decide +kernel⟩
theorem ok_Machine___init__ (z : Zk K mg base) (c_need_kinds : Cal P w K mg base "need_kinds" 2 (sp_need_kinds K)) (c_need_exponents : Cal P w K mg base "need_exponents" 3 (sp_need_exponents K)) (c_scales_of : Cal P w K mg base "scales_of" 1 (sp_scales_of K)) (ap : Apart K) : Cmk P w K mg base "Machine" (ga K "Machine") 4 (sp_Machine___init__ K) := by
  obtain ⟨fd, F⟩ := z.d_Machine___init__
  refine cmk_of F z.g_Machine z.mk_Machine sc_Machine___init__ (fun _ _ _ _ _ _ us hl => match us, hl with | [_, _, _], _ => rfl) (fun vs H Q E h => by match vs, h with | [_, _, _], _ => rfl) (fun cdv A outer s H vs Q E hr h => ?_)
  have nd := sc_Machine___init__.nd
  have hu : (cxOf (L2.CX P w) P w K mg base ["self", "kinds", "exponents", "kind", "number"] "Machine.__init__" (defScope s_Machine___init__) (fAd K ("Machine", some "__init__")) cdv A outer s H E).A.units + 64 < cLine := hr.units
  have hu0 := hr.units0
  have hu1 := hu_of hr
  match vs, h with
  | [a0, a1, a2], h =>
  refine ⟨_, (pss_cons (ps_expr (pe_fn c_need_kinds hr (passD (E := E)) (pa_cons (pv 1) pa_nil)))
      (pss_cons (ps_expr (pe_fn c_need_exponents hr (passD (E := E)) (pa_cons (pv 1) (pa_cons (pv 2) pa_nil))))
      (pss_cons (ks_fld (K := K) rfl (pv 0) (pe_callTy (k_tuple_of (K := K) rfl) rfl z.b_tuple boot_tuple (pa_cons (pv 1) pa_nil)))
      (pss_cons (ks_fld (K := K) rfl (pv 0) (pe_fn c_scales_of hr (passD (E := E)) (pa_cons (pv 1) pa_nil)))
      (pss_one (ks_fld (K := K) rfl (pv 0) (pe_lc2 (vs1 := [4]) rfl nd (k_pi_list (K := K) rfl (pv 1)) (blkOk_by (N := ["self", "kinds", "exponents", "kind", "number"]) (sc := defScope s_Machine___init__) (own := [("kind", 3), ("number", 4)]) (by decide +kernel)) (by decide) (fun _ _ _ _ _ => (pg_name nd (i := 3) rfl (Or.inl rfl))) (fun _ _ _ _ _ => pts_nil) (fun _ _ _ _ _ => (k_pi_tup (K := K) rfl (pe_dget (lt64 hu) (pv 2) (k_fld (K := K) rfl (pv 3)) (fun _ _ => rfl)))) (fun _ _ _ _ _ => (pg_name nd (i := 4) rfl (Or.inl rfl))) (fun _ _ _ _ _ => pts_nil) (fun _ _ _ _ _ => (pv 4))))))))), ?_⟩
  obtain ⟨x, dx, ka, D, ns, as, ps, rfl, rfl, rfl, hx, hka, hK, hO, hd, hpl, hq⟩ := h
  have hlo := hO.lo
  have hhi := hO.hi
  have hal : as.length = ns.length := hK.1
  simp [sDPut, tDGet, tDIn, tDNotIn, tRet, tRetN, tSeq, tIfS, tDrop, tNext, tNever, tBreak, tCont, tAsg, gName, gCons, gNil, gTup, tAndV, tOrV, tNotV, tAnd, tOr, tNot, tOp, tUn, tVar, tC, tB, tTest, tIf, tCons, tNil, tCB, tTup, tLst, tFld, sFld, sFldAug, rAdd, rSub, tSl, tPart, tNoPart, rI0, rI, rU, rEq, rNe, rSlS, rSlL, rIxL, rIxT, rIxS, tChain, tFn, tMt, tM1, tM0, tBM, rAppend, rIn, tIsN, tNotN, scal_ss, scal_ii, let_nil, let_one, fig_nil, fig_one, LenV_str, L2.start, cxOf, and_assoc, tJs, tFmt, put_at, lk_at, lk_script, lk_upcoming, lk_refuse, lk_skips, lk_expect, lk_word_of, lk_name_unlike, lk_number_to, lk_finish, sp0, sp1, sp2, sp3, sp4, sp5, -List.lookup_eq_none_iff]
  refine ⟨ka, ns, as, rfl, hka, hK, hO, fun H1 e1 => ⟨ka, D, ns, as, ps, rfl, rfl, e1 _ _ hka, hK.st ap (Stb.of e1), hO, hd.ex e1, hpl, fun H2 e2 => ?_⟩⟩
  have e12 := Ex.trans e1 e2
  have hx2 := e12 _ _ hx
  refine ⟨_, Or.inl ⟨SqL.of (e12 _ _ hka), fun kt hkt => ?_⟩⟩
  have e3 : Ex H2 (upd H2 kt (.tup (as.map V.ref))) := Ex.new hkt
  have hkx : ka ≠ x := fun e => by rw [e, hx] at hka; cases hka
  have hDx : ∀ {o : HO}, H D = some o → (∀ C d f, o ≠ .ins C d f) → D ≠ x := fun h1 h2 e => by rw [e, hx] at h1; cases h1; exact h2 _ _ _ rfl
  have hktx : kt ≠ x := fun e => by rw [e, hx2] at hkt; cases hkt
  have kx : K1 x H (upd (upd H2 kt (.tup (as.map V.ref))) x (.ins (ga K "Machine") dx [(Str.ofString "kinds", .ref kt)])) := K1.trans (K1.of (Ex.trans e12 e3)) K1.upd
  have hKx : ∀ {H'}, K1 x H H' → KdsAt K H' ns as := fun k => hK.st ap (Stb.made k hx)
  refine ⟨_, _, _, e3 _ _ hx2, z.cls_Machine, z.na_Machine_kinds, by decide, ka, ns, as, rfl, Or.inl (kx _ _ hkx hka), hKx kx, hO, fun st H4 e4 hst hs4 => ?_⟩
  have hx4 := e4 _ _ upd_same
  rw [put_kinds] at hx4
  have hkt4 : H4 kt = some (.tup (as.map V.ref)) := e4 _ _ (by rw [upd_ne hktx, upd_same])
  have hstx : st ≠ x := fun e => by rw [e, upd_same] at hst; cases hst
  refine ⟨_, _, _, hx4, z.cls_Machine, z.na_Machine_scales, by simp, ?_⟩
  rw [put_scales]
  have kx5 : K1 x H (upd H4 x (.ins (ga K "Machine") dx [(Str.ofString "kinds", .ref kt), (Str.ofString "scales", .ref st)])) := K1.trans kx (K1.trans (K1.of e4) K1.upd)
  obtain ⟨ds, h1, h2, h3, h4⟩ := hd
  have hDne : D ≠ x := hDx h3 (fun _ _ _ h => nomatch h)
  refine lc2_tups (a := ka) (xs := as.map V.ref) (yss := ps.map fun p => [.int ((p.1 : Nat) : Int), .int ((p.2 : Nat) : Int)]) (fun R h => ⟨_, rfl, h⟩) (SqL.of (kx5 _ _ hkx hka)) (by simp; omega) ?_ (fun _ => rfl) (fun _ _ => rfl) (fun i y ys H6 R hi hy e6 hR => ?_) (fun pl H6 e6 hpl hpl6 => ?_)
  · have : (ps.map fun p => [V.int ((p.1 : Nat) : Int), .int ((p.2 : Nat) : Int)]).flatten.length = 2 * ps.length := pows_len ps
    omega
  · obtain ⟨n, b, dx2, tt, hn, hb, rfl, hbk⟩ := (hKx (K1.trans kx5 (K1.of e6))).get hi
    have hil := (List.getElem?_eq_some_iff.mp hn).1
    have hds : ds[i]? = some ds[i] := List.getElem?_eq_getElem (by omega)
    have hps : ps[i]? = some ps[i] := List.getElem?_eq_getElem (by omega)
    rw [List.getElem?_map, hps] at hy
    cases hy
    simp [sDPut, tDGet, tDIn, tDNotIn, tRet, tRetN, tSeq, tIfS, tDrop, tNext, tNever, tBreak, tCont, tAsg, gName, gCons, gNil, gTup, tAndV, tOrV, tNotV, tAnd, tOr, tNot, tOp, tUn, tVar, tC, tB, tTest, tIf, tCons, tNil, tCB, tTup, tLst, tFld, sFld, sFldAug, rAdd, rSub, tSl, tPart, tNoPart, rI0, rI, rU, rEq, rNe, rSlS, rSlL, rIxL, rIxT, rIxS, tChain, tFn, tMt, tM1, tM0, tBM, rAppend, rIn, tIsN, tNotN, scal_ss, scal_ii, let_nil, let_one, fig_nil, fig_one, LenV_str, L2.start, cxOf, and_assoc, tJs, tFmt, put_at, lk_at, lk_script, lk_upcoming, lk_refuse, lk_skips, lk_expect, lk_word_of, lk_name_unlike, lk_number_to, lk_finish, sp0, sp1, sp2, sp3, sp4, sp5, -List.lookup_eq_none_iff]
    refine ⟨_, rfl, _, rfl, _, rfl, _, _, _, hbk, z.cls_Kind, z.na_Kind_name, _, lk_name, _, rfl, _, DGet.k (k := Sum.inr (S n)) (e6 _ _ (kx5 _ _ hDne h3)) |> fun g => by rw [valV_kvs hO.nd hn hds] at g; exact g, ?_⟩
    refine hR _ (SqT.of (e6 _ _ ((Stb.made (K := K) kx5 hx) _ _ (h4 i _ _ hds hps) trivial)))
  · have hx6 := e6 _ _ upd_same
    refine ⟨_, _, _, hx6, z.cls_Machine, z.na_Machine_powers, by simp, ?_⟩
    rw [put_powers]
    have hplx : pl ≠ x := fun e => by rw [e, upd_same] at hpl; cases hpl
    refine hq _ (K1.trans kx5 (K1.trans (K1.of e6) K1.upd)) ⟨dx, kt, st, pl, upd_same, ?_, ?_, ?_⟩
    · rw [upd_ne hktx]
      exact e6 _ _ (by rw [upd_ne hktx]; exact hkt4)
    · rw [upd_ne hstx]
      exact e6 _ _ (by rw [upd_ne hstx]; exact hs4)
    · rw [upd_ne hplx, hpl6, List.flatMap_def.symm]
      rfl
end
end Mp

set_option maxHeartbeats 8000000
/-! Kp8: machines read, compared -/
namespace Mp
open PySem PySem.Spec PyProof.Rows L2
open StX (tMakeR run_makeR pe_makeR)
open He (ga ma fAd)
/-- what the head says of Machine's own methods -/
structure Zm (K : PySem.W.Frag) : Prop where
  str_ : PySem.W.findIn K (.ref (ga K "Machine")) "__str__" = some (some (.ref (fAd K ("Machine", some "__str__"))))
  strf : PySem.W.typeIn K (.ref (fAd K ("Machine", some "__str__"))) = some (.type "function")
  eq_ : PySem.W.findIn K (.ref (ga K "Machine")) "__eq__" = some (some (.ref (fAd K ("Machine", some "__eq__"))))
  eqf : PySem.W.isFn K (.ref (fAd K ("Machine", some "__eq__"))) = true
  rd : ∃ p f fd, ClX.CRead K (ga K "Machine") (.type "type") ∧ ClX.CMet K (ga K "Machine") (.type "type") "read" p f ∧ FunD K "read" "Machine.read" (defArgs s_Machine_read) (defBody s_Machine_read) (defScope s_Machine_read) [] [] f fd
section
variable {P : Program} {w : World} {K : PySem.W.Frag} {mg : Str → Option Value} {base : Heap}
/-- Machine.read keeps sp -/
structure Crd (P : Program) (w : World) (K : PySem.W.Frag) (mg : Str → Option Value) (base : Heap) (k : Nat) (sp : Sp) : Prop where
  ex : ∃ p f, ClX.CRead K (ga K "Machine") (.type "type") ∧ ClX.CMet K (ga K "Machine") (.type "type") "read" p f ∧ FnR P w K mg base (L2.CX P w) k f sp
theorem k_read {X : Cx} {K : PySem.W.Frag} {k k0 : Nat} {sp : Sp} {E : XK} {o e : Expr} {es : List Expr} {pos apos : Pos} {ta : TE} {t : TA} {pl : Sem Bool} (h : X.K = K) (F : Crd X.prog X.w X.K X.mg X.base k sp) (hr : Room k0 X.A) (hx : Passes (L2.CX X.prog X.w) X E) (he : PE X o ta) (ha : PA X (e :: es) t) (hk : k ≤ k0 := by decide)
    (hst : starEach (e :: es) X.env = (false, eval e X.env) :: starEach es X.env := by rfl) (hpl : (backTo pos (starEach es X.env)).any (·.1) = false := by rfl)
    (ht : eval (.Call (.Attribute o "read" apos) (e :: es) [] pos) X.env = (do
      let ov ← eval o X.env
      standAt apos.atName
      let (f, first) ← holding [ov] (getMethod ov "read" pl)
      callWith pos f first (backTo pos (starEach (e :: es) X.env)) (backToKw pos (keywordEach [] X.env))) := by rfl) :
    PE X (.Call (.Attribute o "read" apos) (e :: es) [] pos) (ClX.tCMeth (ga K "Machine") sp E ta t) := by
  subst h
  obtain ⟨p, f, r, c, G⟩ := F.ex
  exact ClX.pe_cmeth he r c G (hr.mono hk) hx ha hst hpl ht
/-- how a machine's text is read -/
def spRead (K : PySem.W.Frag) : Sp := sp2 fun a b H Q E => ∃ (ka : Addr) (ns : List (List Nat)) (as : List Addr), b = .ref ka ∧ H ka = some (.lst (as.map V.ref)) ∧ KdsAt K H ns as ∧ KsOk ns ∧
  ((∃ l : List Nat, a = .str (S l) ∧ l.length ≤ 10000 ∧ match readMach ns l with
  | .ok ps _ => ∀ x H', Ex H H' → H x = none → MachAt K H' ns as ps x → Q (.ref x) H'
  | .bad r => BadX K E H (l.length - r.length)) ∨ (∃ ty, TyX K H a ty ∧ PySem.W.kitOne K ty (.type "str") = some false ∧ BadX K E H 0))
def spReadC (K : PySem.W.Frag) : Sp := fun vs H Q E => ∃ a b, vs = [.ref (ga K "Machine"), a, b] ∧ spRead K [a, b] H Q E
theorem sc_Machine_read : FnScope ["cls", "text", "kinds"] ["cls", "text", "kinds"] (defScope s_Machine_read) := ⟨rfl, rfl, rfl, by decide +kernel, rfl, by decide +kernel, by decide +kernel⟩
theorem ok_Machine_read (z : Zk K mg base) (zm : Zm K) (ap : Apart K) (k_Machine : Cmk P w K mg base "Machine" (ga K "Machine") 4 (sp_Machine___init__ K)) (c_exponents_in : Cal P w K mg base "exponents_in" 6 (sp_exponents_in K)) : Crd P w K mg base 7 (spReadC K) := by
  obtain ⟨p, f, fd, r, c, F⟩ := zm.rd
  refine ⟨p, f, r, c, ?_⟩
  refine fnr_of F sc_Machine_read (fun _ _ _ _ _ _ us hl => match us, hl with | [_, _, _], _ => rfl) (fun vs H Q E h => by obtain ⟨a, b, rfl, h⟩ := h; rfl) (fun cdv A outer s H vs Q E hr h => ?_)
  have nd := sc_Machine_read.nd
  obtain ⟨a0, a1, rfl, h⟩ := h
  refine ⟨_, pss_one (ps_ret (pe_mkL k_Machine hr (i := 0) rfl (Or.inl rfl) (passD (E := E)) (pa_cons (pv 2) (pa_cons (pe_fn c_exponents_in hr (passD (E := E)) (pa_cons (pv 1) (pa_cons (pv 2) pa_nil))) pa_nil)))), ?_⟩
  obtain ⟨ka, ns, as, rfl, hka, hK, hO, hq⟩ := h
  simp [sDPut, tDGet, tDIn, tDNotIn, tRet, tRetN, tSeq, tIfS, tDrop, tNext, tNever, tBreak, tCont, tAsg, gName, gCons, gNil, gTup, tAndV, tOrV, tNotV, tAnd, tOr, tNot, tOp, tUn, tVar, tC, tB, tTest, tIf, tCons, tNil, tCB, tTup, tLst, tFld, sFld, sFldAug, rAdd, rSub, tSl, tPart, tNoPart, rI0, rI, rU, rEq, rNe, rSlS, rSlL, rIxL, rIxT, rIxS, tChain, tFn, tMt, tM1, tM0, tBM, rAppend, rIn, tIsN, tNotN, scal_ss, scal_ii, let_nil, let_one, fig_nil, fig_one, LenV_str, L2.start, cxOf, and_assoc, tJs, tFmt, put_at, lk_at, lk_script, lk_upcoming, lk_refuse, lk_skips, lk_expect, lk_word_of, lk_name_unlike, lk_number_to, lk_finish, sp0, sp1, sp2, sp3, sp4, sp5, -List.lookup_eq_none_iff, tMakeL, tMakeR]
  refine ⟨ka, ns, as, rfl, hka, hK, hO, ?_⟩
  rcases hq with ⟨l, rfl, hl, hq⟩ | ⟨ty, hty, hk, hb⟩
  · refine Or.inl ⟨l, rfl, hl, ?_⟩
    cases hm : readMach ns l with
    | bad r =>
      rw [hm] at hq
      exact hq
    | ok ps r =>
      rw [hm] at hq
      intro D H1 e1 hD hda hps x dx hx hdx hne
      have e2 := made_ex0 (C := ga K "Machine") hx hdx
      have e12 := Ex.trans e1 e2
      refine ⟨x, dx, ka, D, ns, as, ps, rfl, rfl, rfl, upd_same, e12 _ _ hka, hK.st ap (Stb.of e12), hO, hda.ex e2, hps, fun H2 k2 hma => ⟨rfl, hq x H2 (Ex.trans e1 (made_ex hx hdx k2)) (Ex.free e1 hx) hma⟩⟩
  · exact Or.inr ⟨ty, hty, hk, hb⟩
def spEqM (K : PySem.W.Frag) : Sp := sp2 fun a b H Q _ => ∃ (x y : Addr) (ns : List (List Nat)) (as : List Addr) (ps : List (Nat × Nat)), a = .ref x ∧ b = .ref y ∧ MachAt K H ns as ps x ∧ MachAt K H ns as ps y ∧ ∀ H', Ex H H' → Q (.bl true) H'
theorem sc_Machine___eq__ : FnScope ["self", "other"] ["self", "other"] (defScope s_Machine___eq__) := ⟨rfl, rfl, rfl, by decide +kernel, rfl, by decide +kernel, by decide +kernel⟩
theorem ok_Machine___eq__ (z : Zk K mg base)   : FnR P w K mg base (L2.CX P w) (2 + 1) (fAd K ("Machine", some "__eq__")) ((spEqM K)) := by
  obtain ⟨fd, F⟩ := z.d_Machine___eq__
  refine fnr_of F sc_Machine___eq__ (fun _ _ _ _ _ _ us hl => match us, hl with | [_, _], _ => rfl) (fun vs H Q E h => by match vs, h with | [_, _], _ => rfl) (fun cdv A outer s H vs Q E hr h => ?_)
  have nd := sc_Machine___eq__.nd
  have hu : (cxOf (L2.CX P w) P w K mg base ["self", "other"] "Machine.__eq__" (defScope s_Machine___eq__) (fAd K ("Machine", some "__eq__")) cdv A outer s H E).A.units + 64 < cLine := hr.units
  have hu0 := hr.units0
  have hu1 := hu_of hr
  match vs, h with
  | [a0, a1], h =>
  refine ⟨_, (pss_one (ps_ret (pe_and (pe_callB (k_isi (K := K) rfl) rfl z.b_isinstance boot_isinstance (pa_cons (pv 1) (pa_cons (pe_gref z.g_Machine) pa_nil))) (pe_and (pe_cmpR (k_eqSame (K := K) rfl hr) (k_fld (K := K) rfl (pv 0)) (k_fld (K := K) rfl (pv 1)) (nomark _)) (pe_one (pe_cmpR (k_eqFlatL hr) (k_fld (K := K) rfl (pv 0)) (k_fld (K := K) rfl (pv 1)) (nomark _))))))), ?_⟩
  obtain ⟨x, y, ns, as, ps, rfl, rfl, ⟨dx, kt, st, pl, h1, h2, h3, h4⟩, ⟨dx', kt', st', pl', g1, g2, g3, g4⟩, hq⟩ := h
  simp [sDPut, tDGet, tDIn, tDNotIn, tRet, tRetN, tSeq, tIfS, tDrop, tNext, tNever, tBreak, tCont, tAsg, gName, gCons, gNil, gTup, tAndV, tOrV, tNotV, tAnd, tOr, tNot, tOp, tUn, tVar, tC, tB, tTest, tIf, tCons, tNil, tCB, tTup, tLst, tFld, sFld, sFldAug, rAdd, rSub, tSl, tPart, tNoPart, rI0, rI, rU, rEq, rNe, rSlS, rSlL, rIxL, rIxT, rIxS, tChain, tFn, tMt, tM1, tM0, tBM, rAppend, rIn, tIsN, tNotN, scal_ss, scal_ii, let_nil, let_one, fig_nil, fig_one, LenV_str, L2.start, cxOf, and_assoc, tJs, tFmt, put_at, lk_at, lk_script, lk_upcoming, lk_refuse, lk_skips, lk_expect, lk_word_of, lk_name_unlike, lk_number_to, lk_finish, sp0, sp1, sp2, sp3, sp4, sp5, -List.lookup_eq_none_iff, rIsi]
  refine ⟨_, _, .own _, z.ty_Machine.ty z.cls_Machine g1, Or.inr ⟨z.kit_Machine_Machine, _, _, _, h1, z.cls_Machine, z.na_Machine_kinds, _, rfl, _, _, _, g1, z.cls_Machine, z.na_Machine_kinds, _, rfl, kt, kt', _, rfl, rfl, SqT.of h2, SqT.of g2, fun v hv => ?_, fun H1 e1 => Or.inr ⟨rfl, ?_⟩⟩⟩
  · obtain ⟨c, _, rfl⟩ := List.mem_map.mp hv
    exact ⟨c, rfl⟩
  · refine ⟨_, _, _, e1 _ _ h1, z.cls_Machine, z.na_Machine_powers, _, rfl, _, _, _, e1 _ _ g1, z.cls_Machine, z.na_Machine_powers, _, rfl, pl, pl', _, rfl, rfl, e1 _ _ h4, e1 _ _ g4, fun v hv => ?_, fun H2 e2 => hq _ (Ex.trans e1 e2)⟩
    unfold powsV at hv
    obtain ⟨p, _, hv⟩ := List.mem_flatMap.mp hv
    simp at hv
    rcases hv with rfl | rfl
    · exact ⟨rfl, by simp [eqV]⟩
    · exact ⟨rfl, by simp [eqV]⟩
theorem sc_read_machine : FnScope ["text", "kinds"] ["text", "kinds"] (defScope s_read_machine) := ⟨rfl, rfl, rfl, by decide +kernel, rfl, by decide +kernel, by decide +kernel⟩
theorem ok_read_machine (z : Zk K mg base)  (cr : Crd P w K mg base 7 (spReadC K)) : Cal P w K mg base "read_machine" 8 ((spRead K)) := by
  obtain ⟨fd, F⟩ := z.d_read_machine
  refine cal_of F z.g_read_machine sc_read_machine (fun _ _ _ _ _ _ us hl => match us, hl with | [_, _], _ => rfl) (fun vs H Q E h => by match vs, h with | [_, _], _ => rfl) (fun cdv A outer s H vs Q E hr h => ?_)
  have nd := sc_read_machine.nd
  have hu : (cxOf (L2.CX P w) P w K mg base ["text", "kinds"] "read_machine" (defScope s_read_machine) (fAd K ("read_machine", none)) cdv A outer s H E).A.units + 64 < cLine := hr.units
  have hu0 := hr.units0
  have hu1 := hu_of hr
  match vs, h with
  | [a0, a1], h =>
  refine ⟨_, (pss_one (ps_ret (k_read (K := K) rfl cr hr (passD (E := E)) (pe_gref z.g_Machine) (pa_cons (pv 0) (pa_cons (pv 1) pa_nil))))), ?_⟩
  simp [sDPut, tDGet, tDIn, tDNotIn, tRet, tRetN, tSeq, tIfS, tDrop, tNext, tNever, tBreak, tCont, tAsg, gName, gCons, gNil, gTup, tAndV, tOrV, tNotV, tAnd, tOr, tNot, tOp, tUn, tVar, tC, tB, tTest, tIf, tCons, tNil, tCB, tTup, tLst, tFld, sFld, sFldAug, rAdd, rSub, tSl, tPart, tNoPart, rI0, rI, rU, rEq, rNe, rSlS, rSlL, rIxL, rIxT, rIxS, tChain, tFn, tMt, tM1, tM0, tBM, rAppend, rIn, tIsN, tNotN, scal_ss, scal_ii, let_nil, let_one, fig_nil, fig_one, LenV_str, L2.start, cxOf, and_assoc, tJs, tFmt, put_at, lk_at, lk_script, lk_upcoming, lk_refuse, lk_skips, lk_expect, lk_word_of, lk_name_unlike, lk_number_to, lk_finish, sp0, sp1, sp2, sp3, sp4, sp5, -List.lookup_eq_none_iff, ClX.tCMeth]
  exact ⟨_, _, rfl, h⟩
end
end Mp

set_option maxHeartbeats 8000000
/-! Kw5: xs[::2], xs[1::2] of a machine's powers -/
namespace Mp
open PySem PySem.Spec PyProof.Rows L2
def rng2 (l : Option Int) (n : Nat) : List Nat := sliceRange (sliceBounds l none (some 2) n).1 (sliceBounds l none (some 2) n).2.1 (sliceBounds l none (some 2) n).2.2
section
variable {a b c d e f : Value}
theorem rng_a1 : rng2 none 2 = [0] := by decide +kernel
theorem pick_a1 : slicePick #[a, b] none none (some 2) = #[a] := by
  show ((rng2 none 2).filterMap ((#[a, b] : Array Value)[·]?)).toArray = _
  rw [rng_a1]
  rfl
theorem rng_a2 : rng2 none 4 = [0, 2] := by decide +kernel
theorem pick_a2 : slicePick #[a, b, c, d] none none (some 2) = #[a, c] := by
  show ((rng2 none 4).filterMap ((#[a, b, c, d] : Array Value)[·]?)).toArray = _
  rw [rng_a2]
  rfl
theorem rng_a3 : rng2 none 6 = [0, 2, 4] := by decide +kernel
theorem pick_a3 : slicePick #[a, b, c, d, e, f] none none (some 2) = #[a, c, e] := by
  show ((rng2 none 6).filterMap ((#[a, b, c, d, e, f] : Array Value)[·]?)).toArray = _
  rw [rng_a3]
  rfl
theorem rng_b1 : rng2 (some 1) 2 = [1] := by decide +kernel
theorem pick_b1 : slicePick #[a, b] (some 1) none (some 2) = #[b] := by
  show ((rng2 (some 1) 2).filterMap ((#[a, b] : Array Value)[·]?)).toArray = _
  rw [rng_b1]
  rfl
theorem rng_b2 : rng2 (some 1) 4 = [1, 3] := by decide +kernel
theorem pick_b2 : slicePick #[a, b, c, d] (some 1) none (some 2) = #[b, d] := by
  show ((rng2 (some 1) 4).filterMap ((#[a, b, c, d] : Array Value)[·]?)).toArray = _
  rw [rng_b2]
  rfl
theorem rng_b3 : rng2 (some 1) 6 = [1, 3, 5] := by decide +kernel
theorem pick_b3 : slicePick #[a, b, c, d, e, f] (some 1) none (some 2) = #[b, d, f] := by
  show ((rng2 (some 1) 6).filterMap ((#[a, b, c, d, e, f] : Array Value)[·]?)).toArray = _
  rw [rng_b3]
  rfl
end
/-- every second number -/
def half (l : Option Int) (ps : List (Nat × Nat)) : List V := ps.map fun p => .int (((if l = none then p.1 else p.2 : Nat)) : Int)
theorem half_pick {l : Option Int} (hl : l = none ∨ l = some 1) {ps : List (Nat × Nat)} {its : List Value} (r : Vals (powsV ps) its) (h1 : 1 ≤ ps.length) (h3 : ps.length ≤ 3) : Vals (half l ps) (slicePick its.toArray l none (some 2)).toList := by
  match ps, h1, h3 with
  | [p], _, _ =>
    cases r with | cons a r => cases r with | cons b r => cases r with | nil =>
    rcases hl with rfl | rfl
    · show Vals _ (slicePick #[_, _] none none (some 2)).toList; rw [pick_a1]; exact .cons a .nil
    · show Vals _ (slicePick #[_, _] (some 1) none (some 2)).toList; rw [pick_b1]; exact .cons b .nil
  | [p, q], _, _ =>
    cases r with | cons a r => cases r with | cons b r => cases r with | cons c r => cases r with | cons d r => cases r with | nil =>
    rcases hl with rfl | rfl
    · show Vals _ (slicePick #[_, _, _, _] none none (some 2)).toList; rw [pick_a2]; exact .cons a (.cons c .nil)
    · show Vals _ (slicePick #[_, _, _, _] (some 1) none (some 2)).toList; rw [pick_b2]; exact .cons b (.cons d .nil)
  | [p, q, s], _, _ =>
    cases r with | cons a r => cases r with | cons b r => cases r with | cons c r => cases r with | cons d r => cases r with | cons e r => cases r with | cons f r => cases r with | nil =>
    rcases hl with rfl | rfl
    · show Vals _ (slicePick #[_, _, _, _, _, _] none none (some 2)).toList; rw [pick_a3]; exact .cons a (.cons c (.cons e .nil))
    · show Vals _ (slicePick #[_, _, _, _, _, _] (some 1) none (some 2)).toList; rw [pick_b3]; exact .cons b (.cons d (.cons f .nil))
def tHalf (K : PySem.W.Frag) (l : Option Int) (te : TE) : TE := fun σ H Q => te σ H fun x H1 => ∃ a ps, x = .ref a ∧ SqL K H1 a (powsV ps) ∧ 1 ≤ ps.length ∧ ps.length ≤ 3 ∧ ∀ p, H1 p = none → Q (.ref p) (upd H1 p (.lst (half l ps)))
theorem pe_half {X : Cx} {e : Expr} {lo : Option Expr} {te : TE} {l : Option Int} {tl : TO} {k : Nat} {p1 p3 pos : Pos} (hl : l = none ∨ l = some 1) (he : PE X e te) (hlo : PO X lo tl) (hq : ∀ σ H (Q : Option Int → Hp → Prop), Q l H → tl σ H Q) : PE X (.Subscript e (.Slice lo none (some (.Constant (.int 2) k p1)) p3) pos) (tHalf X.K l te) := by
  refine ⟨fun pins s σ H Q I h => ?_⟩
  refine Subscript_ (thn (he.run pins s σ H _ I h) fun v s1 ⟨x, H1, I1, r1, q1⟩ => ?_)
  obtain ⟨a, ps, ex, hx, h1, h3, q⟩ := q1
  subst ex
  cases r1
  have hst : PO X (some (.Constant (.int 2) k p1)) (tPart (tC (.int 2))) := po_some pe_int
  refine wpAny_Slice (thn (hlo.run pins s1 σ H1 (fun o H2 => o = l ∧ H2 = H1) I1 (hq _ _ _ ⟨rfl, rfl⟩)) fun vl s2 ⟨l', H2, I2, pl, el, e2⟩ => ?_)
  subst el e2
  refine thn (po_none.run pins s2 σ H2 (fun o H3 => o = none ∧ H3 = H2) I2 ⟨rfl, rfl⟩) fun vu s3 ⟨u, H3, I3, pu, eu, e3⟩ => ?_
  subst eu e3
  refine thn (hst.run pins s3 σ H3 (fun o H4 => o = some 2 ∧ H4 = H3) I3 ⟨2, rfl, rfl, rfl⟩) fun vs s4 ⟨o, H4, I4, ps', eo, e4⟩ => ?_
  subst eo e4
  have I5 : Inv X pins σ H4 { s4 with heap := s4.heap.push { cls := .type "slice", data := .fields #[vl, vu, vs] } } := I4.kept (t' := s4.toks) fun b ob q => Heap.get?_push_of_some _ q
  obtain ⟨its, r, ht, hz⟩ := I5.list hx
  have hlen := r.length
  show wpAny (model X.prog X.w) X.A (subscriptTail e (.Slice lo none (some (.Constant (.int 2) k p1)) p3) (.ref a) (.ref s4.heap.objs.size)) (EP X pins σ Q) X.xe { s4 with heap := s4.heap.push { cls := .type "slice", data := .fields #[vl, vu, vs] } }
  refine tail_any (ops := [.ref a, .ref s4.heap.objs.size]) ht.isList.typeIs (PySem.slot_list_getitem.lookup) ?_ (by with_unfolding_all rfl)
  refine wpAny_getItem_list_slice ht.isList (Heap.IsSliceOf.new _ vl vu vs) pl pu ps' (by decide) ?_ (by rw [List.size_toArray]; omega)
  refine ⟨.ref _, _, I5.laid (t' := s4.toks) (o := .lst (half l' ps)) (fun b ob q => Heap.get?_push_of_some _ q) (Nat.le_refl _) ?_, rfl, q _ (I5.hok.fresh (Nat.le_refl _))⟩
  refine ⟨?_, _, 0, half_pick hl r h1 h3, ?_⟩
  · unfold half
    rw [List.length_map, sizeLine_eq]
    omega
  · exact Heap.get?_push_size _ rfl
theorem k_half {X : Cx} {K : PySem.W.Frag} (h : X.K = K) {e : Expr} {lo : Option Expr} {te : TE} {l : Option Int} {tl : TO} {k : Nat} {p1 p3 pos : Pos} (hl : l = none ∨ l = some 1) (he : PE X e te) (hlo : PO X lo tl) (hq : ∀ σ H (Q : Option Int → Hp → Prop), Q l H → tl σ H Q) : PE X (.Subscript e (.Slice lo none (some (.Constant (.int 2) k p1)) p3) pos) (tHalf K l te) := h ▸ pe_half hl he hlo hq
end Mp

set_option maxHeartbeats 8000000
/-! Kp9: machines written -/
namespace Mp
open PySem PySem.Spec PyProof.Rows L2
open StX (tMakeR run_makeR pe_makeR)
open He (ga ma fAd)
section
variable {P : Program} {w : World} {K : PySem.W.Frag} {mg : Str → Option Value} {base : Heap}
def spStrM (K : PySem.W.Frag) : Sp := sp1 fun a H Q _ => ∃ (x : Addr) (ns : List (List Nat)) (as : List Addr) (ps : List (Nat × Nat)), a = .ref x ∧ MachAt K H ns as ps x ∧ KdsAt K H ns as ∧ KsOk ns ∧ ps.length = ns.length ∧ (∀ p ∈ ps, p.1 ≤ 1000 ∧ p.2 ≤ p.1) ∧ ∀ H', Ex H H' → Q (.str (S (face ns ps))) H'
theorem sc_Machine___str__ : FnScope ["self", "found", "kind", "size", "align"] ["self"] (defScope s_Machine___str__) := ⟨rfl, rfl, rfl, by decide +kernel, rfl, by decide +kernel, by decide +kernel⟩
theorem ok_Machine___str__ (z : Zk K mg base)  (ap : Apart K) : FnR P w K mg base (L2.CX P w) (1 + 1) (fAd K ("Machine", some "__str__")) ((spStrM K)) := by
  obtain ⟨fd, F⟩ := z.d_Machine___str__
  refine fnr_of F sc_Machine___str__ (fun _ _ _ _ _ _ us hl => match us, hl with | [_], _ => rfl) (fun vs H Q E h => by match vs, h with | [_], _ => rfl) (fun cdv A outer s H vs Q E hr h => ?_)
  have nd := sc_Machine___str__.nd
  have hu : (cxOf (L2.CX P w) P w K mg base ["self", "found", "kind", "size", "align"] "Machine.__str__" (defScope s_Machine___str__) (fAd K ("Machine", some "__str__")) cdv A outer s H E).A.units + 64 < cLine := hr.units
  have hu0 := hr.units0
  have hu1 := hu_of hr
  match vs, h with
  | [a0], h =>
  refine ⟨_, (pss_cons (ps_set (i := 1) nd rfl (Or.inl rfl) (pe_lst pa_nil))
      (pss_cons (ps_for (passes_of rfl) rfl (k_pi_zip3 (K := K) rfl rfl z.b_zip (pa_cons (k_fld (K := K) rfl (pv 0)) (pa_cons (k_half (K := K) rfl (l := none) (Or.inl rfl) (k_fld (K := K) rfl (pv 0)) po_none (fun _ _ _ h => h)) (pa_cons (k_half (K := K) rfl (l := some 1) (Or.inr rfl) (k_fld (K := K) rfl (pv 0)) (po_some pe_int) (fun _ _ _ h => ⟨1, rfl, h⟩)) pa_nil)))) (k_pg_tup (K := K) (n := 3) rfl rfl (pgs_cons (pg_name nd (i := 2) rfl (Or.inl rfl)) (pgs_cons (pg_name nd (i := 3) rfl (Or.inl rfl)) (pgs_cons (pg_name nd (i := 4) rfl (Or.inl rfl)) pgs_nil)))) (pss_one (ps_expr (k_append (K := K) rfl (pv 1) (pe_joined (.cons (pe_fmt (k_fld (K := K) rfl (pv 2))) (.cons pe_str (.cons (pe_fmt (pv 3)) (.cons pe_str (.cons (pe_fmt (pv 4)) .nil))))))))))
      (pss_one (ps_ret (k_join (K := K) rfl pe_str (pv 1)))))), ?_⟩
  obtain ⟨x, ns, as, ps, rfl, ⟨dx, kt, st, pl, h1, h2, h3, h4⟩, hK, hO, hpn, hpl, hq⟩ := h
  have hlo := hO.lo
  have hhi := hO.hi
  have hal := hK.1
  simp [sDPut, tDGet, tDIn, tDNotIn, tRet, tRetN, tSeq, tIfS, tDrop, tNext, tNever, tBreak, tCont, tAsg, gName, gCons, gNil, gTup, tAndV, tOrV, tNotV, tAnd, tOr, tNot, tOp, tUn, tVar, tC, tB, tTest, tIf, tCons, tNil, tCB, tTup, tLst, tFld, sFld, sFldAug, rAdd, rSub, tSl, tPart, tNoPart, rI0, rI, rU, rEq, rNe, rSlS, rSlL, rIxL, rIxT, rIxS, tChain, tFn, tMt, tM1, tM0, tBM, rAppend, rIn, tIsN, tNotN, scal_ss, scal_ii, let_nil, let_one, fig_nil, fig_one, LenV_str, L2.start, cxOf, and_assoc, tJs, tFmt, put_at, lk_at, lk_script, lk_upcoming, lk_refuse, lk_skips, lk_expect, lk_word_of, lk_name_unlike, lk_number_to, lk_finish, sp0, sp1, sp2, sp3, sp4, sp5, -List.lookup_eq_none_iff, tHalf]
  intro D hD
  have eD : Ex H (upd H D (.lst [])) := Ex.new hD
  refine tfor_zip3 (K := K) (a := kt) (xs := as.map V.ref) (ys := half none ps) (zs := half (some 1) ps) (by simp [half]; omega) (by simp [half]; omega) (fun b c H1 => (b ≠ D ∧ c ≠ D) ∧ Ex H H1 ∧ H1 D = some (.lst []) ∧ H1 b = some (.lst (half none ps)) ∧ H1 c = some (.lst (half (some 1) ps)))
    (fun b c i σ H' => (b ≠ D ∧ c ≠ D) ∧ ∃ u2 u3 u4, σ = [some (.ref x), some (.ref D), u2, u3, u4] ∧ Ex H H' ∧ H' D = some (.lst (((ns.zip ps).take i).map fun x => V.str (S (lineOf x.1 x.2)))) ∧ H' b = some (.lst (half none ps)) ∧ H' c = some (.lst (half (some 1) ps)))
    (fun R hR => ?_) (fun b c H1 h => ?_) (fun b c i σ H' h => ?_) (fun b c i u v t q σ H' hu hv ht h hq2 => ?_) (fun b c σ H' h => ?_)
  · simp [sDPut, tDGet, tDIn, tDNotIn, tRet, tRetN, tSeq, tIfS, tDrop, tNext, tNever, tBreak, tCont, tAsg, gName, gCons, gNil, gTup, tAndV, tOrV, tNotV, tAnd, tOr, tNot, tOp, tUn, tVar, tC, tB, tTest, tIf, tCons, tNil, tCB, tTup, tLst, tFld, sFld, sFldAug, rAdd, rSub, tSl, tPart, tNoPart, rI0, rI, rU, rEq, rNe, rSlS, rSlL, rIxL, rIxT, rIxS, tChain, tFn, tMt, tM1, tM0, tBM, rAppend, rIn, tIsN, tNotN, scal_ss, scal_ii, let_nil, let_one, fig_nil, fig_one, LenV_str, L2.start, cxOf, and_assoc, tJs, tFmt, put_at, lk_at, lk_script, lk_upcoming, lk_refuse, lk_skips, lk_expect, lk_word_of, lk_name_unlike, lk_number_to, lk_finish, sp0, sp1, sp2, sp3, sp4, sp5, -List.lookup_eq_none_iff, tHalf]
    have hx1 := eD _ _ h1
    refine ⟨_, _, _, hx1, z.cls_Machine, z.na_Machine_kinds, _, rfl, _, _, _, hx1, z.cls_Machine, z.na_Machine_powers, _, rfl, pl, rfl, ps, SqL.of (eD _ _ h4), by omega, by omega, fun b hb => ?_⟩
    have e2 := Ex.trans eD (Ex.new (o := .lst (half none ps)) hb)
    have hDb : D ≠ b := fun e => by rw [e, ← e, upd_same] at hb; cases hb
    refine ⟨_, _, _, e2 _ _ h1, z.cls_Machine, z.na_Machine_powers, _, rfl, pl, rfl, ps, SqL.of (e2 _ _ h4), by omega, by omega, fun c hc => ?_⟩
    have e3 := Ex.trans e2 (Ex.new (o := .lst (half (some 1) ps)) hc)
    have hDc : D ≠ c := fun e => by rw [e, upd_ne (fun z => by rw [z] at hc; rw [upd_same] at hc; cases hc), ← e, upd_same] at hc; cases hc
    refine hR b c _ ⟨⟨Ne.symm hDb, Ne.symm hDc⟩, e3, ?_, ?_, upd_same⟩
    · exact (Ex.new hc) _ _ (by rw [upd_ne hDb, upd_same])
    · exact (Ex.new hc) _ _ upd_same
  · obtain ⟨hne, e, hd, hb, hc⟩ := h
    exact ⟨hne, none, none, none, rfl, e, hd, hb, hc⟩
  · obtain ⟨_, _, _, _, _, e, hd, hb, hc⟩ := h
    exact ⟨SqT.of (e _ _ h2), SqL.of hb, SqL.of hc⟩
  · obtain ⟨⟨hbD, hcD⟩, _, _, _, rfl, e, hd, hb, hc⟩ := h
    obtain ⟨n, k, dk, tt, hn, hk, rfl, hbk⟩ := (hK.st ap (Stb.of e)).get hu
    have e2 : Ex H' (upd H' q (.tup [.ref k, v, t])) := Ex.new hq2
    obtain ⟨p, hp⟩ : ∃ p, ps[i]? = some p := ⟨_, List.getElem?_eq_getElem (by have := (List.getElem?_eq_some_iff.mp hn).1; omega)⟩
    have hv' : v = .int ((p.1 : Nat) : Int) := by
      unfold half at hv
      rw [List.getElem?_map, hp] at hv
      cases hv
      rfl
    have ht' : t = .int ((p.2 : Nat) : Int) := by
      unfold half at ht
      rw [List.getElem?_map, hp] at ht
      cases ht
      rfl
    subst hv' ht'
    have hle := hpl p (List.mem_of_getElem? hp)
    have hnl := nameOk_len (hO.ok n (List.mem_of_getElem? hn))
    have g1 : (((p.1 : Nat) : Int).natAbs.log2 < 1920) := Nat.lt_of_le_of_lt (Nat.log2_le_self _) (by omega)
    have g2 : (((p.2 : Nat) : Int).natAbs.log2 < 1920) := Nat.lt_of_le_of_lt (Nat.log2_le_self _) (by omega)
    have w1 := numL_le (n := p.1) (by omega)
    have w2 := numL_le (n := p.2) (by omega)
    have es : Str.empty = S [] := rfl
    simp [sDPut, tDGet, tDIn, tDNotIn, tRet, tRetN, tSeq, tIfS, tDrop, tNext, tNever, tBreak, tCont, tAsg, gName, gCons, gNil, gTup, tAndV, tOrV, tNotV, tAnd, tOr, tNot, tOp, tUn, tVar, tC, tB, tTest, tIf, tCons, tNil, tCB, tTup, tLst, tFld, sFld, sFldAug, rAdd, rSub, tSl, tPart, tNoPart, rI0, rI, rU, rEq, rNe, rSlS, rSlL, rIxL, rIxT, rIxS, tChain, tFn, tMt, tM1, tM0, tBM, rAppend, rIn, tIsN, tNotN, scal_ss, scal_ii, let_nil, let_one, fig_nil, fig_one, LenV_str, L2.start, cxOf, and_assoc, tJs, tFmt, put_at, lk_at, lk_script, lk_upcoming, lk_refuse, lk_skips, lk_expect, lk_word_of, lk_name_unlike, lk_number_to, lk_finish, sp0, sp1, sp2, sp3, sp4, sp5, -List.lookup_eq_none_iff, fmt_num, es, c_sp]
    refine ⟨_, SqT.of upd_same, rfl, _, _, rfl, _, _, rfl, _, _, rfl, rfl, Or.inl ⟨rfl, _, SqL.of (e2 _ _ hd)⟩, k, rfl, _, _, _, e2 _ _ hbk, z.cls_Kind, z.na_Kind_name, _, lk_name, Or.inl ⟨_, rfl, ?_, ?_, ?_, Or.inr ⟨_, rfl, g1, ?_, ?_, Or.inr ⟨_, rfl, g2, ?_, ?_⟩⟩⟩⟩
    all_goals first | (simp [S_app, S_len, sizeLine_eq, fmt_num]; omega) | skip
    refine ⟨_, e2 _ _ hd, ?_, hbD, hcD, Ex.mut (Ex.trans e e2) hD, ?_, ?_, ?_⟩
    · simp [sizeLine_eq]
      omega
    · rw [upd_same]
      have hz : (ns.zip ps)[i]? = some (n, p) := by
        rw [List.getElem?_zip_eq_some]
        exact ⟨hn, hp⟩
      have hz2 : ((ns.zip ps).map fun x => V.str (S (lineOf x.1 x.2)))[i]? = some (.str (S (lineOf n p))) := by
        rw [List.getElem?_map, hz]
        rfl
      rw [← take_snoc hz2]
      have e5 : S [] ++ S n ++ S [32] ++ Str.ofString (((p.1 : Nat) : Int).repr) ++ S [32] ++ Str.ofString (((p.2 : Nat) : Int).repr) = S (lineOf n p) := by
        rw [fmt_num, fmt_num, S_app, S_app, S_app, S_app, S_app]
        unfold lineOf
        simp
      rw [e5, ← List.map_take]
    · rw [upd_ne hbD]
      exact e2 _ _ hb
    · rw [upd_ne hcD]
      exact e2 _ _ hc
  · obtain ⟨_, _, _, _, rfl, e, hd, hb, hc⟩ := h
    have hlz : (as.map V.ref).length = (ns.zip ps).length := by
      rw [List.length_map, hal, List.length_zip]
      omega
    rw [hlz, List.take_length] at hd
    simp [sDPut, tDGet, tDIn, tDNotIn, tRet, tRetN, tSeq, tIfS, tDrop, tNext, tNever, tBreak, tCont, tAsg, gName, gCons, gNil, gTup, tAndV, tOrV, tNotV, tAnd, tOr, tNot, tOp, tUn, tVar, tC, tB, tTest, tIf, tCons, tNil, tCB, tTup, tLst, tFld, sFld, sFldAug, rAdd, rSub, tSl, tPart, tNoPart, rI0, rI, rU, rEq, rNe, rSlS, rSlL, rIxL, rIxT, rIxS, tChain, tFn, tMt, tM1, tM0, tBM, rAppend, rIn, tIsN, tNotN, scal_ss, scal_ii, let_nil, let_one, fig_nil, fig_one, LenV_str, L2.start, cxOf, and_assoc, tJs, tFmt, put_at, lk_at, lk_script, lk_upcoming, lk_refuse, lk_skips, lk_expect, lk_word_of, lk_name_unlike, lk_number_to, lk_finish, sp0, sp1, sp2, sp3, sp4, sp5, -List.lookup_eq_none_iff]
    have hm : ∀ y ∈ (ns.zip ps).map fun x => lineOf x.1 x.2, y.length ≤ 20 := by
      intro y hy
      obtain ⟨⟨n, p⟩, hx, rfl⟩ := List.mem_map.mp hy
      obtain ⟨hn, hp⟩ := List.of_mem_zip hx
      have hle := hpl p hp
      have hnl := nameOk_len (hO.ok n hn)
      have w1 := numL_le (n := p.1) (by omega)
      have w2 := numL_le (n := p.2) (by omega)
      show (lineOf n p).length ≤ 20
      unfold lineOf
      simp
      omega
    refine ⟨_, D, ((ns.zip ps).map fun x => lineOf x.1 x.2).map S, rfl, rfl, Or.inl (SqL.of (by rw [hd]; simp [Function.comp_def])), ?_, ?_⟩
    · have hs : ∀ l : List (List Nat), (∀ y ∈ l, y.length ≤ 20) → ((l.map S).map (·.length)).sum ≤ 20 * l.length := by
        intro l
        induction l with
        | nil => intro _; simp
        | cons y l ih =>
          intro h
          have h1 := h y List.mem_cons_self
          have h2 := ih fun y hy => h y (List.mem_cons_of_mem _ hy)
          simp only [List.map_cons, List.sum_cons, List.length_cons, S_len] at h2 ⊢
          omega
      have h1 := hs _ hm
      have h2 : ((ns.zip ps).map fun x => lineOf x.1 x.2).length ≤ 3 := by
        rw [List.length_map, List.length_zip]
        omega
      have h3 : (Str.ofString ", ").length = 2 := rfl
      rw [h3, List.length_map]
      omega
    · have hj := SX.join_S [44, 32] ((ns.zip ps).map fun x => lineOf x.1 x.2)
      have e3 : Txt.join (S [44, 32]) (List.map S ((ns.zip ps).map fun x => lineOf x.1 x.2)) = S (face ns ps) := hj
      rw [c_commasp, e3]
      exact hq _ e
end
end Mp

set_option maxHeartbeats 8000000
/-! Kt1: trees read -/
namespace Mp
open PySem PySem.Spec PyProof.Rows L2
open StX (tMakeR run_makeR pe_makeR)
open He (ga ma fAd)
section
variable {P : Program} {w : World} {K : PySem.W.Frag} {mg : Str → Option Value} {base : Heap}
/-- how the reading of a tree ends -/
def EndsT (K : PySem.W.Frag) (c : Addr) (l : List Nat) (H : Hp) (Q : VK) (E : XK) (res : Res Tr) : Prop :=
  match res with
  | .ok t r => ∀ a H', K1 c H H' → CurR K H' c l r → TrAt H' t a → Q (.ref a) H'
  | .bad r => BadK K c E H (l.length - r.length)
def WsOk (ws : List (List Nat)) : Prop := ws.length ≤ 10 ∧ ∀ x ∈ ws, x.length ≤ 20
def trLess (f : Nat → Sp) : Nat → Sp
  | 0 => fun _ _ _ _ => False
  | m + 1 => f m
def spInnerT (m : Nat) (K : PySem.W.Frag) : Sp := sp3 fun a b d H Q E => ∃ (c wa : Addr) (l r : List Nat) (ws : List (List Nat)), a = .ref c ∧ b = .ref wa ∧ d = .int ((m : Nat) : Int) ∧ CurR K H c l r ∧ H wa = some (.lst (txV ws)) ∧ WsOk ws ∧ EndsT K c l H Q E (readTr ws m r)
section
variable {H0 H : Hp} {c : Addr} {l r : List Nat} {E : XK} {Q' Qt : VK}
theorem exp_go {w : List Nat} {f : Unit → List Nat → Res Tr} (hk : K1 c H0 H) (hC : CurR K H c l r) (hq : EndsT K c l H0 Qt E ((expects w r).bind f)) (next : ∀ r1 H1, K1 c H0 H1 → CurR K H1 c l r1 → EndsT K c l H0 Qt E (f () r1) → K1 c H H1 → Q' .non H1) : sp_Cursor_expect K [.ref c, .str (S w)] H Q' E := by
  refine ⟨c, l, r, w, rfl, rfl, hC, ?_⟩
  cases he : expects w r with
  | bad r1 =>
    rw [he] at hq
    exact BadK.k1 hq hk
  | ok _ r1 =>
    rw [he] at hq
    exact fun H1 k1 c1 => next r1 H1 (K1.trans hk k1) c1 hq k1
theorem word_go {wa : Addr} {ws : List (List Nat)} {f : List Nat → List Nat → Res Tr} (hk : K1 c H0 H) (hC : CurR K H c l r) (hw : SqL K H wa (txV ws)) (ho : WsOk ws) (hq : EndsT K c l H0 Qt E ((wordGo ws [] r).bind f)) (next : ∀ w r1 H1, K1 c H0 H1 → CurR K H1 c l r1 → EndsT K c l H0 Qt E (f w r1) → w ∈ ws → Q' (.str (S w)) H1) : sp_Cursor_word_of K [.ref c, .ref wa] H Q' E := by
  refine ⟨c, l, r, wa, ws, rfl, rfl, hC, hw, fun x hx => by have := ho.2 x hx; omega, by have := ho.1; omega, ?_⟩
  cases he : wordGo ws [] r with
  | bad r1 =>
    rw [he] at hq
    exact BadK.k1 hq hk
  | ok v r1 =>
    rw [he] at hq
    exact fun H1 k1 c1 => next v r1 H1 (K1.trans hk k1) c1 hq (wordGo_in he)
theorem int_go {most : Nat} {f : Int → List Nat → Res Tr} (hk : K1 c H0 H) (hC : CurR K H c l r) (hq : EndsT K c l H0 Qt E ((intGo most r).bind f)) (next : ∀ v r1 H1, K1 c H0 H1 → CurR K H1 c l r1 → EndsT K c l H0 Qt E (f v r1) → Q' (.int v) H1) : sp_Cursor_integer_to K [.ref c, .int ((most : Nat) : Int)] H Q' E := by
  refine ⟨c, l, r, most, rfl, rfl, hC, ?_⟩
  cases he : intGo most r with
  | bad r1 =>
    rw [he] at hq
    exact BadK.k1 hq hk
  | ok v r1 =>
    rw [he] at hq
    exact fun H1 k1 c1 => next v r1 H1 (K1.trans hk k1) c1 hq
theorem tree_go {wa : Addr} {ws : List (List Nat)} {m : Nat} {f : Tr → List Nat → Res Tr} (hk : K1 c H0 H) (hC : CurR K H c l r) (hw : H wa = some (.lst (txV ws))) (ho : WsOk ws) (hq : EndsT K c l H0 Qt E ((readTr ws m r).bind f)) (next : ∀ t a r1 H1, K1 c H H1 → CurR K H1 c l r1 → TrAt H1 t a → EndsT K c l H0 Qt E (f t r1) → Q' (.ref a) H1) : spInnerT m K [.ref c, .ref wa, .int ((m : Nat) : Int)] H Q' E := by
  refine ⟨c, wa, l, r, ws, rfl, rfl, rfl, hC, hw, ho, ?_⟩
  cases he : readTr ws m r with
  | bad r1 =>
    rw [he] at hq
    exact BadK.k1 hq hk
  | ok v r1 =>
    rw [he] at hq
    exact fun a H1 k1 c1 ht => next v a r1 H1 k1 c1 ht hq
end
theorem c_dash : Str.ofString " - " = S (T " - ") := ofS _
theorem c_le : Str.ofString " <= " = S (T " <= ") := ofS _
theorem c_q : Str.ofString " ? " = S (T " ? ") := ofS _
theorem c_col : Str.ofString " : " = S (T " : ") := ofS _
theorem c_rb : Str.ofString "]" = S [93] := rfl
theorem c_lb : Str.ofString "[" = S [91] := rfl
theorem c_leaf : Str.ofString "leaf" = S (T "leaf") := ofS _
theorem c_ask : Str.ofString "ask" = S (T "ask") := ofS _
section
variable {m k : Nat}
theorem sc_read_inner_tree : FnScope ["cursor", "scales", "room", "one", "other", "bound", "yes", "no", "scale"] ["cursor", "scales", "room"] (defScope s_read_inner_tree) := ⟨rfl, rfl, rfl, by decide +kernel, rfl, by decide +kernel, by decide +kernel⟩
theorem ok_read_inner_tree (z : Zk K mg base) (m_Cursor_upcoming : Cmt P w K mg base (ga K "Cursor") "upcoming" 1 (sp_Cursor_upcoming K)) (m_Cursor_expect : Cmt P w K mg base (ga K "Cursor") "expect" 4 (sp_Cursor_expect K)) (m_Cursor_word_of : Cmt P w K mg base (ga K "Cursor") "word_of" 4 (sp_Cursor_word_of K)) (m_Cursor_integer_to : Cmt P w K mg base (ga K "Cursor") "integer_to" 5 (sp_Cursor_integer_to K)) (ap : Apart K) (c_read_inner_tree : Cal P w K mg base "read_inner_tree" k (trLess (fun m => spInnerT m K) m)) (hk : 6 ≤ k) : Cal P w K mg base "read_inner_tree" (k + 1) ((spInnerT m K)) := by
  obtain ⟨fd, F⟩ := z.d_read_inner_tree
  refine cal_of F z.g_read_inner_tree sc_read_inner_tree (fun _ _ _ _ _ _ us hl => match us, hl with | [_, _, _], _ => rfl) (fun vs H Q E h => by match vs, h with | [_, _, _], _ => rfl) (fun cdv A outer s H vs Q E hr h => ?_)
  have nd := sc_read_inner_tree.nd
  have hu : (cxOf (L2.CX P w) P w K mg base ["cursor", "scales", "room", "one", "other", "bound", "yes", "no", "scale"] "read_inner_tree" (defScope s_read_inner_tree) (fAd K ("read_inner_tree", none)) cdv A outer s H E).A.units + 64 < cLine := hr.units
  have hu0 := hr.units0
  have hu1 := hu_of hr
  match vs, h with
  | [a0, a1, a2], h =>
  refine ⟨_, (pss_cons (ps_if (PW.pt (pw_or (pt_cmpR op_eq (pv 2) pe_int (nomark _)) (pw_or1 (pt_cmpR op_ne (pe_mt0 (pv 0) m_Cursor_upcoming hr (passD (E := E)) (by omega)) pe_str (nomark _))))) (pss_cons (ps_expr (pe_mt (pv 0) m_Cursor_expect hr (passD (E := E)) (pa_cons pe_str pa_nil) (by omega)))
      (pss_one (ps_ret (pe_tup (pa_cons pe_str pa_nil))))) pss_nil)
      (pss_cons (ps_expr (pe_mt (pv 0) m_Cursor_expect hr (passD (E := E)) (pa_cons pe_str pa_nil) (by omega)))
      (pss_cons (ps_set (i := 3) nd rfl (Or.inr rfl) (pe_mt (pv 0) m_Cursor_word_of hr (passD (E := E)) (pa_cons (pv 1) pa_nil) (by omega)))
      (pss_cons (ps_expr (pe_mt (pv 0) m_Cursor_expect hr (passD (E := E)) (pa_cons pe_str pa_nil) (by omega)))
      (pss_cons (ps_set (i := 4) nd rfl (Or.inl rfl) (pe_mt (pv 0) m_Cursor_word_of hr (passD (E := E)) (pa_cons (pe_lc rfl nd (k_pi_list (K := K) rfl (pv 1)) (blkOk_by (N := ["cursor", "scales", "room", "one", "other", "bound", "yes", "no", "scale"]) (sc := defScope s_read_inner_tree) (own := [("scale", 8)]) (by decide +kernel)) (fun _ _ _ _ _ => (pg_name nd (i := 8) rfl (Or.inl rfl))) (fun _ _ _ _ _ => (pts_one (pt_cmpR op_ne (pv 8) (pv 3) (nomark _)))) (fun _ _ _ _ _ => (pv 8))) pa_nil) (by omega)))
      (pss_cons (ps_expr (pe_mt (pv 0) m_Cursor_expect hr (passD (E := E)) (pa_cons pe_str pa_nil) (by omega)))
      (pss_cons (ps_set (i := 5) nd rfl (Or.inl rfl) (pe_mt (pv 0) m_Cursor_integer_to hr (passD (E := E)) (pa_cons (pe_gint z.v_MOST_BOUND) pa_nil) (by omega)))
      (pss_cons (ps_expr (pe_mt (pv 0) m_Cursor_expect hr (passD (E := E)) (pa_cons pe_str pa_nil) (by omega)))
      (pss_cons (ps_set (i := 6) nd rfl (Or.inl rfl) (pe_fn c_read_inner_tree hr (passD (E := E)) (pa_cons (pv 0) (pa_cons (pv 1) (pa_cons (pe_op op_sub (pv 2) pe_int) pa_nil))) (by omega)))
      (pss_cons (ps_expr (pe_mt (pv 0) m_Cursor_expect hr (passD (E := E)) (pa_cons pe_str pa_nil) (by omega)))
      (pss_cons (ps_set (i := 7) nd rfl (Or.inl rfl) (pe_fn c_read_inner_tree hr (passD (E := E)) (pa_cons (pv 0) (pa_cons (pv 1) (pa_cons (pe_op op_sub (pv 2) pe_int) pa_nil))) (by omega)))
      (pss_cons (ps_expr (pe_mt (pv 0) m_Cursor_expect hr (passD (E := E)) (pa_cons pe_str pa_nil) (by omega)))
      (pss_one (ps_ret (pe_tup (pa_cons pe_str (pa_cons (pv 3) (pa_cons (pv 4) (pa_cons (pv 5) (pa_cons (pv 6) (pa_cons (pv 7) pa_nil))))))))))))))))))))), ?_⟩
  obtain ⟨c, wa, l, r, ws, rfl, rfl, rfl, hC, hw, ho, hq⟩ := h
  obtain ⟨hs, hl, dx, hc⟩ := id hC
  have leaf : ∀ (Q' : VK), EndsT K c l H Q E (readLeaf r) → sp_Cursor_expect K [.ref c, .str (Str.ofString "leaf")] H (fun x H1 => 1 ≤ sizeLine ∧ ∀ (p : Addr), H1 p = none → Q (.ref p) (upd H1 p (.tup [.str (Str.ofString "leaf")]))) E := fun _ hq => by
    rw [c_leaf]
    refine exp_go K1.rfl' hC hq fun r1 H1 k1 hC1 hq1 _ => ⟨by decide, fun p hp => ?_⟩
    have e1 := Ex.new (o := .tup [.str (S (T "leaf"))]) hp
    exact hq1 p _ (K1.trans k1 (K1.of e1)) (hC1.ex e1) upd_same
  simp [sDPut, tDGet, tDIn, tDNotIn, tRet, tRetN, tSeq, tIfS, tDrop, tNext, tNever, tBreak, tCont, tAsg, gName, gCons, gNil, gTup, tAndV, tOrV, tNotV, tAnd, tOr, tNot, tOp, tUn, tVar, tC, tB, tTest, tIf, tCons, tNil, tCB, tTup, tLst, tFld, sFld, sFldAug, rAdd, rSub, tSl, tPart, tNoPart, rI0, rI, rU, rEq, rNe, rSlS, rSlL, rIxL, rIxT, rIxS, tChain, tFn, tMt, tM1, tM0, tBM, rAppend, rIn, tIsN, tNotN, scal_ss, scal_ii, let_nil, let_one, fig_nil, fig_one, LenV_str, L2.start, cxOf, and_assoc, tJs, tFmt, put_at, lk_at, lk_script, lk_upcoming, lk_refuse, lk_skips, lk_expect, lk_word_of, lk_name_unlike, lk_number_to, lk_finish, sp0, sp1, sp2, sp3, sp4, sp5, -List.lookup_eq_none_iff, hc, up_iff hC]
  cases m with
  | zero =>
    rw [if_pos rfl]
    exact leaf Q hq
  | succ m =>
    rw [if_neg (by omega)]
    cases r with
    | nil => exact Or.inr ⟨by rw [c_lb, S_inj]; simp, leaf Q hq⟩
    | cons x r' =>
      have hq : EndsT K c l H Q E (if x = 91 then readAsk (readTr ws m) ws r' else readLeaf (x :: r')) := hq
      by_cases hx : x = 91
      · subst hx
        rw [if_pos rfl] at hq
        refine Or.inl ⟨by rw [c_lb]; rfl, ?_⟩
        have hq : EndsT K c l H Q E ((expects [91] (91 :: r')).bind fun _ r => readAsk (readTr ws m) ws r) := hq
        rw [c_lb]
        refine exp_go K1.rfl' hC hq fun r1 H1 k1 hC1 hq1 jH1 => ?_
        obtain ⟨_, _, dx1, hc1⟩ := id hC1
        refine ⟨_, _, hc1, rfl, ?_⟩
        have hwc : wa ≠ c := fun e => by rw [e, hc] at hw; cases hw
        unfold readAsk at hq1
        refine word_go k1 hC1 (SqL.of (k1 _ _ hwc hw)) ho hq1 fun one r2 H2 k2 hC2 hq2 h1in => ?_
        obtain ⟨_, _, dx2, hc2⟩ := id hC2
        refine ⟨_, _, hc2, rfl, ?_⟩
        rw [c_dash]
        refine exp_go k2 hC2 hq2 fun r3 H3 k3 hC3 hq3 jH3 => ?_
        obtain ⟨_, _, dx3, hc3⟩ := id hC3
        refine ⟨_, _, hc3, rfl, ?_⟩
        refine lc_filtL (a := wa) (xs := txV ws) (fun v => !decide (v = .str (S one))) (fun R h => ⟨_, rfl, h⟩) (by unfold txV; have := ho.1; simp; omega) (SqL.of (k3 _ _ hwc hw)) (fun x H' R R0 hx e hR hR0 => ?_) (fun D H4 e4 hD hDl => ?_)
        · obtain ⟨n, hn, rfl⟩ := List.mem_map.mp hx
          simp [sDPut, tDGet, tDIn, tDNotIn, tRet, tRetN, tSeq, tIfS, tDrop, tNext, tNever, tBreak, tCont, tAsg, gName, gCons, gNil, gTup, tAndV, tOrV, tNotV, tAnd, tOr, tNot, tOp, tUn, tVar, tC, tB, tTest, tIf, tCons, tNil, tCB, tTup, tLst, tFld, sFld, sFldAug, rAdd, rSub, tSl, tPart, tNoPart, rI0, rI, rU, rEq, rNe, rSlS, rSlL, rIxL, rIxT, rIxS, tChain, tFn, tMt, tM1, tM0, tBM, rAppend, rIn, tIsN, tNotN, scal_ss, scal_ii, let_nil, let_one, fig_nil, fig_one, LenV_str, L2.start, cxOf, and_assoc, tJs, tFmt, put_at, lk_at, lk_script, lk_upcoming, lk_refuse, lk_skips, lk_expect, lk_word_of, lk_name_unlike, lk_number_to, lk_finish, sp0, sp1, sp2, sp3, sp4, sp5, -List.lookup_eq_none_iff, wipe, S_inj] at hR hR0 ⊢
          by_cases hno : n = one
          · exact Or.inl ⟨hno, hR0 hno⟩
          · exact Or.inr ⟨hno, hR hno⟩
        · have k4 : K1 c H H4 := K1.trans k3 (K1.of e4)
          have hC4 := hC3.ex e4
          have hfl : (txV ws).filter (fun v => !decide (v = .str (S one))) = txV (ws.filter fun x => x != one) := by
            unfold txV
            rw [List.filter_map]
            congr 1
            apply List.filter_congr
            intro x _
            simp only [Function.comp, V.str.injEq, S_inj, bne]
            by_cases h : x = one
            · simp [h]
            · simp [h]
          rw [hfl] at hDl
          have ho2 : WsOk (ws.filter fun x => x != one) := ⟨Nat.le_trans (List.length_filter_le _ _) ho.1, fun x hx => ho.2 x (List.mem_filter.mp hx).1⟩
          refine word_go k4 hC4 (SqL.of hDl) ho2 hq3 fun other r5 H5 k5 hC5 hq5 h2in => ?_
          obtain ⟨_, _, dx5, hc5⟩ := id hC5
          refine ⟨_, _, hc5, rfl, ?_⟩
          rw [c_le]
          refine exp_go k5 hC5 hq5 fun r6 H6 k6 hC6 hq6 jH6 => ?_
          obtain ⟨_, _, dx6, hc6⟩ := id hC6
          refine ⟨_, _, hc6, rfl, ?_⟩
          refine int_go (most := 2000) k6 hC6 hq6 fun b r7 H7 k7 hC7 hq7 => ?_
          obtain ⟨_, _, dx7, hc7⟩ := id hC7
          refine ⟨_, _, hc7, rfl, ?_⟩
          rw [c_q]
          refine exp_go k7 hC7 hq7 fun r8 H8 k8 hC8 hq8 jH8 => ?_
          have em : ((m + 1 : Nat) : Int) - 1 = ((m : Nat) : Int) := by omega
          rw [em]
          refine tree_go k8 hC8 (k8 _ _ hwc hw) ho hq8 fun y ya r9 H9 k89 hC9 hy hq9 => ?_
          have k9 := K1.trans k8 k89
          obtain ⟨_, _, dx9, hc9⟩ := id hC9
          refine ⟨_, _, hc9, rfl, ?_⟩
          rw [c_col]
          refine exp_go k9 hC9 hq9 fun r10 H10 k10 hC10 hq10 jH10 => ?_
          refine tree_go k10 hC10 (k10 _ _ hwc hw) ho hq10 fun nn na r11 H11 k1011 hC11 hn hq11 => ?_
          have k11 := K1.trans k10 k1011
          obtain ⟨_, _, dx11, hc11⟩ := id hC11
          refine ⟨_, _, hc11, rfl, ?_⟩
          rw [c_rb]
          refine exp_go k11 hC11 hq11 fun r12 H12 k12 hC12 hq12 jH12 => ⟨by decide, fun p hp => ?_⟩
          rw [c_ask]
          have e13 := Ex.new (o := .tup [.str (S (T "ask")), .str (S one), .str (S other), .int b, .ref ya, .ref na]) hp
          refine hq12 p _ (K1.trans k12 (K1.of e13)) (hC12.ex e13) ⟨ya, na, upd_same, ?_, ?_⟩
          · exact ((hy.st (Stb.k1 (K1.trans jH10 (K1.trans k1011 jH12)) hC9)).ex e13)
          · exact ((hn.st (Stb.k1 jH12 hC11)).ex e13)
      · rw [if_neg hx] at hq
        exact Or.inr ⟨by rw [c_lb, S_inj]; simp [hx], leaf Q hq⟩
end
end
end Mp

set_option maxHeartbeats 8000000
/-! Kt2: trees read from a text; trees written -/
namespace Mp
open PySem PySem.Spec PyProof.Rows L2
open StX (tMakeR run_makeR pe_makeR)
open He (ga ma fAd)
section
variable {P : Program} {w : World} {K : PySem.W.Frag} {mg : Str → Option Value} {base : Heap}
theorem k_star {X : Cx} {K : PySem.W.Frag} {e : Expr} {es : List Expr} {te : TE} {t : TA} {p : Pos} (h : X.K = K) (he : PE X e te) (hr : PA X es t) (hs : starEach (.Starred e p :: es) X.env = (true, eval e X.env) :: starEach es X.env := by rfl) : PA X (.Starred e p :: es) (StX.tStar K te t) := h ▸ StX.pa_star he hr hs
theorem cal_bare {x : Str} {f : Addr} {fd : FuncData} {n qual : Str} {params : Arguments} {body : List Stmt} {scope : Scope} {dvs : List V} {kws : List (Str × V)} {sp : Sp} {k : Nat} (F : FunD K n qual params body scope dvs kws f fd) (hm : mg x = some (.ref f)) (h : ∀ vs H Q E, ¬ sp vs H Q E) : Cal P w K mg base x k sp :=
  ⟨f, fun A outer s H us vs Q E _ _ _ q => absurd q (h vs H Q E), hm, F.kp⟩
/-- the methods of the reader -/
structure CurM (P : Program) (w : World) (K : PySem.W.Frag) (mg : Str → Option Value) (base : Heap) : Prop where
  up : Cmt P w K mg base (ga K "Cursor") "upcoming" 1 (sp_Cursor_upcoming K)
  refuse : Cmt P w K mg base (ga K "Cursor") "refuse" 3 (sp_Cursor_refuse K)
  finish : Cmt P w K mg base (ga K "Cursor") "finish" 4 (sp_Cursor_finish K)
  skips : Cmt P w K mg base (ga K "Cursor") "skips" 2 (sp_Cursor_skips K)
  expect : Cmt P w K mg base (ga K "Cursor") "expect" 4 (sp_Cursor_expect K)
  word : Cmt P w K mg base (ga K "Cursor") "word_of" 4 (sp_Cursor_word_of K)
  num : Cmt P w K mg base (ga K "Cursor") "number_to" 4 (sp_Cursor_number_to K)
  int_ : Cmt P w K mg base (ga K "Cursor") "integer_to" 5 (sp_Cursor_integer_to K)
theorem curM (z : Zk K mg base) : CurM P w K mg base := by
  have up := ok_Cursor_upcoming (P := P) (w := w) z
  have rf := ok_Cursor_refuse (P := P) (w := w) z
  have sk := ok_Cursor_skips (P := P) (w := w) z up
  have nm := ok_Cursor_number_to z up rf (ok_is_figure z)
  exact ⟨up, rf, ok_Cursor_finish z rf, sk, ok_Cursor_expect z sk rf, ok_Cursor_word_of z up rf (ok_begins_one z), nm, ok_Cursor_integer_to z sk nm⟩
theorem innerT_all (z : Zk K mg base) (ap : Apart K) : ∀ m : Nat, Cal P w K mg base "read_inner_tree" (7 + m) (spInnerT m K) := by
  have M := curM (P := P) (w := w) z
  obtain ⟨fd, F⟩ := z.d_read_inner_tree
  intro m
  induction m with
  | zero => exact ok_read_inner_tree (m := 0) (k := 6) z M.up M.expect M.word M.int_ ap (cal_bare F z.g_read_inner_tree fun vs H Q E h => h) (by omega)
  | succ m ih => exact ok_read_inner_tree (m := m + 1) (k := 7 + m) z M.up M.expect M.word M.int_ ap ih (by omega)
def treeWords (ns : List (List Nat)) : List (List Nat) := T "byte" :: scalesOf ns
theorem words_ok {ns : List (List Nat)} (h : KsOk ns) : WsOk (treeWords ns) := by
  refine ⟨?_, fun x hx => ?_⟩
  · unfold treeWords
    rw [List.length_cons, scalesOf_len]
    have := h.hi
    omega
  · unfold treeWords scalesOf at hx
    rcases List.mem_cons.mp hx with rfl | hx
    · decide
    · obtain ⟨n, hn, hx⟩ := List.mem_flatMap.mp hx
      have := nameOk_len (h.ok n hn)
      simp at hx
      have l1 : (T "size ").length = 5 := rfl
      have l2 : (T "align ").length = 6 := rfl
      rcases hx with rfl | rfl
      · simp; omega
      · simp; omega
def EndsXT (K : PySem.W.Frag) (l : List Nat) (H : Hp) (Q : VK) (E : XK) (res : Res Tr) : Prop :=
  match res with
  | .ok t _ => ∀ a H', Ex H H' → TrAt H' t a → Q (.ref a) H'
  | .bad r => BadX K E H (l.length - r.length)
def spReadTree (K : PySem.W.Frag) : Sp := sp2 fun a b H Q E => ∃ (ka : Addr) (ns : List (List Nat)) (as : List Addr), b = .ref ka ∧ (H ka = some (.lst (as.map V.ref)) ∨ H ka = some (.tup (as.map V.ref))) ∧ KdsAt K H ns as ∧ KsOk ns ∧
  ((∃ l : List Nat, a = .str (S l) ∧ l.length ≤ 10000 ∧ EndsXT K l H Q E (readTree (treeWords ns) l)) ∨ (∃ ty, TyX K H a ty ∧ PySem.W.kitOne K ty (.type "str") = some false ∧ BadX K E H 0))
theorem sc_read_tree : FnScope ["text", "kinds", "cursor", "found"] ["text", "kinds"] (defScope s_read_tree) := ⟨rfl, rfl, rfl, by decide +kernel, rfl, by decide +kernel, by decide +kernel⟩
theorem ok_read_tree (z : Zk K mg base) (k_Cursor : Cmk P w K mg base "Cursor" (ga K "Cursor") 3 (sp_Cursor___init__ K)) (m_Cursor_finish : Cmt P w K mg base (ga K "Cursor") "finish" 4 (sp_Cursor_finish K)) (c_scales_of : Cal P w K mg base "scales_of" 1 (sp_scales_of K)) (ap : Apart K) (c_read_inner_tree : Cal P w K mg base "read_inner_tree" 107 (spInnerT 100 K)) : Cal P w K mg base "read_tree" 108 ((spReadTree K)) := by
  obtain ⟨fd, F⟩ := z.d_read_tree
  refine cal_of F z.g_read_tree sc_read_tree (fun _ _ _ _ _ _ us hl => match us, hl with | [_, _], _ => rfl) (fun vs H Q E h => by match vs, h with | [_, _], _ => rfl) (fun cdv A outer s H vs Q E hr h => ?_)
  have nd := sc_read_tree.nd
  have hu : (cxOf (L2.CX P w) P w K mg base ["text", "kinds", "cursor", "found"] "read_tree" (defScope s_read_tree) (fAd K ("read_tree", none)) cdv A outer s H E).A.units + 64 < cLine := hr.units
  have hu0 := hr.units0
  have hu1 := hu_of hr
  match vs, h with
  | [a0, a1], h =>
  refine ⟨_, (pss_cons (ps_set (i := 2) nd rfl (Or.inl rfl) (pe_mk k_Cursor hr (passD (E := E)) (pa_cons (pv 0) pa_nil)))
      (pss_cons (ps_set (i := 3) nd rfl (Or.inl rfl) (pe_fn c_read_inner_tree hr (passD (E := E)) (pa_cons (pv 2) (pa_cons (pe_lst (pa_cons pe_str (k_star (K := K) rfl (pe_fn c_scales_of hr (passD (E := E)) (pa_cons (pv 1) pa_nil)) pa_nil))) (pa_cons (pe_gint z.v_MOST_TREE) pa_nil)))))
      (pss_cons (ps_expr (pe_mt0 (pv 2) m_Cursor_finish hr (passD (E := E))))
      (pss_one (ps_ret (pv 3)))))), ?_⟩
  obtain ⟨ka, ns, as, rfl, hka, hK, hO, hq⟩ := h
  simp [sDPut, tDGet, tDIn, tDNotIn, tRet, tRetN, tSeq, tIfS, tDrop, tNext, tNever, tBreak, tCont, tAsg, gName, gCons, gNil, gTup, tAndV, tOrV, tNotV, tAnd, tOr, tNot, tOp, tUn, tVar, tC, tB, tTest, tIf, tCons, tNil, tCB, tTup, tLst, tFld, sFld, sFldAug, rAdd, rSub, tSl, tPart, tNoPart, rI0, rI, rU, rEq, rNe, rSlS, rSlL, rIxL, rIxT, rIxS, tChain, tFn, tMt, tM1, tM0, tBM, rAppend, rIn, tIsN, tNotN, scal_ss, scal_ii, let_nil, let_one, fig_nil, fig_one, LenV_str, L2.start, cxOf, and_assoc, tJs, tFmt, put_at, lk_at, lk_script, lk_upcoming, lk_refuse, lk_skips, lk_expect, lk_word_of, lk_name_unlike, lk_number_to, lk_finish, sp0, sp1, sp2, sp3, sp4, sp5, -List.lookup_eq_none_iff, tMakeR, StX.tStar]
  intro x dx hx hdx hxd
  rcases hq with ⟨l, rfl, hl, hq⟩ | ⟨ty, hty, hk, hb⟩
  · refine ⟨x, dx, rfl, upd_same, Or.inl ⟨l, rfl, rfl, ?_⟩⟩
    rw [upd_upd]
    obtain ⟨hC, e1, upE⟩ := cur_new (K := K) hx hdx hl
    refine ⟨ka, ns, as, rfl, hka.elim (fun h => Or.inl (e1 _ _ h)) (fun h => Or.inr (e1 _ _ h)), hK.st ap (Stb.of e1), hO, fun D H2 e2 hD hDl => ⟨D, rfl, _, Or.inl (SqT.of hDl), ?_⟩⟩
    have hln : (txV (scalesOf ns)).length = 2 * ns.length := by unfold txV; rw [List.length_map, scalesOf_len]
    have hhi := hO.hi
    refine ⟨by rw [hln, sizeLine_eq]; omega, fun W hW => ?_⟩
    have e3 : Ex H2 (upd H2 W (.lst (V.str (Str.ofString "byte") :: txV (scalesOf ns)))) := Ex.new hW
    have hbyte : V.str (Str.ofString "byte") :: txV (scalesOf ns) = txV (treeWords ns) := by
      unfold treeWords txV
      rw [List.map_cons, ofS]
    rw [hbyte] at e3 ⊢
    have k3 : K1 x (upd (upd H dx (.own x)) x (.ins (ga K "Cursor") dx [("script", .str (S l)), ("at", .int 0)])) (upd H2 W (.lst (txV (treeWords ns)))) := K1.of (Ex.trans e2 e3)
    have hwo : WsOk (treeWords ns) := words_ok hO
    refine ⟨x, W, l, l, treeWords ns, rfl, rfl, rfl, (hC.ex e2).ex e3, upd_same, hwo, ?_⟩
    unfold readTree at hq
    cases hi : readTr (treeWords ns) 100 l with
    | bad r =>
      rw [hi] at hq
      intro d H' k h
      exact hq d H' (upE _ (K1.trans k3 k)) h
    | ok t r =>
      rw [hi] at hq
      intro a H4 k4 hC4 ht
      obtain ⟨hs4, hl4, dx4, hc4⟩ := id hC4
      refine ⟨_, _, hc4, rfl, x, l, r, rfl, hC4, fun e => ?_, fun e => ?_⟩
      · subst e
        exact hq a H4 (upE _ (K1.trans k3 k4)) ht
      · intro d H' k h
        cases r with
        | nil => exact absurd rfl e
        | cons y r => exact hq d H' (upE _ (K1.trans k3 (K1.trans k4 k))) h
  · exact ⟨x, dx, rfl, upd_same, Or.inr ⟨ty, TyX.ex (made_ex0 hx hdx) hty, hk, fun d H' k h => hb d H' (made_ex hx hdx k) h⟩⟩
def spText (d : Nat) (K : PySem.W.Frag) : Sp := sp1 fun a H Q _ => ∃ (t : Tr) (x : Addr), a = .ref x ∧ TrAt H t x ∧ t.deep ≤ d ∧ t.text.length ≤ 10000 ∧ t.intOk ∧ Q (.str (S t.text)) H
section
variable {m k : Nat}
theorem sc_tree_text : FnScope ["tree", "word", "one", "other", "bound", "yes", "no"] ["tree"] (defScope s_tree_text) := ⟨rfl, rfl, rfl, by decide +kernel, rfl, by decide +kernel, by decide +kernel⟩
theorem ok_tree_text (z : Zk K mg base)  (c_tree_text : Cal P w K mg base "tree_text" k (trLess (fun m => spText m K) m)) : Cal P w K mg base "tree_text" (k + 1) ((spText m K)) := by
  obtain ⟨fd, F⟩ := z.d_tree_text
  refine cal_of F z.g_tree_text sc_tree_text (fun _ _ _ _ _ _ us hl => match us, hl with | [_], _ => rfl) (fun vs H Q E h => by match vs, h with | [_], _ => rfl) (fun cdv A outer s H vs Q E hr h => ?_)
  have nd := sc_tree_text.nd
  have hu : (cxOf (L2.CX P w) P w K mg base ["tree", "word", "one", "other", "bound", "yes", "no"] "tree_text" (defScope s_tree_text) (fAd K ("tree_text", none)) cdv A outer s H E).A.units + 64 < cLine := hr.units
  have hu0 := hr.units0
  have hu1 := hu_of hr
  match vs, h with
  | [a0], h =>
  refine ⟨_, (pss_cons (ps_if (pt_cmpR op_eq (pe_ix (k_ix_tup (K := K) rfl) (pv 0) pe_int fun _ _ => rfl) pe_str (nomark _)) (pss_one (ps_ret pe_str)) pss_nil)
      (pss_cons (ps_asg (pv 0) (k_pg_tup (K := K) (n := 6) rfl rfl (pgs_cons (pg_name nd (i := 1) rfl (Or.inl rfl)) (pgs_cons (pg_name nd (i := 2) rfl (Or.inl rfl)) (pgs_cons (pg_name nd (i := 3) rfl (Or.inl rfl)) (pgs_cons (pg_name nd (i := 4) rfl (Or.inl rfl)) (pgs_cons (pg_name nd (i := 5) rfl (Or.inl rfl)) (pgs_cons (pg_name nd (i := 6) rfl (Or.inl rfl)) pgs_nil))))))))
      (pss_one (ps_ret (pe_joined (.cons pe_str (.cons (pe_fmt (pv 2)) (.cons pe_str (.cons (pe_fmt (pv 3)) (.cons pe_str (.cons (pe_fmt (pv 4)) (.cons pe_str (.cons (pe_fmt (pe_fn c_tree_text hr (passD (E := E)) (pa_cons (pv 5) pa_nil) (by omega))) (.cons pe_str (.cons (pe_fmt (pe_fn c_tree_text hr (passD (E := E)) (pa_cons (pv 6) pa_nil) (by omega))) (.cons pe_str .nil)))))))))))))))), ?_⟩
  obtain ⟨t, x, rfl, ht, hd, hl, hi, hq⟩ := h
  have es : Str.empty = S [] := rfl
  simp [sDPut, tDGet, tDIn, tDNotIn, tRet, tRetN, tSeq, tIfS, tDrop, tNext, tNever, tBreak, tCont, tAsg, gName, gCons, gNil, gTup, tAndV, tOrV, tNotV, tAnd, tOr, tNot, tOp, tUn, tVar, tC, tB, tTest, tIf, tCons, tNil, tCB, tTup, tLst, tFld, sFld, sFldAug, rAdd, rSub, tSl, tPart, tNoPart, rI0, rI, rU, rEq, rNe, rSlS, rSlL, rIxL, rIxT, rIxS, tChain, tFn, tMt, tM1, tM0, tBM, rAppend, rIn, tIsN, tNotN, scal_ss, scal_ii, let_nil, let_one, fig_nil, fig_one, LenV_str, L2.start, cxOf, and_assoc, tJs, tFmt, put_at, lk_at, lk_script, lk_upcoming, lk_refuse, lk_skips, lk_expect, lk_word_of, lk_name_unlike, lk_number_to, lk_finish, sp0, sp1, sp2, sp3, sp4, sp5, -List.lookup_eq_none_iff]
  cases t with
  | leaf =>
    refine ⟨_, SqT.of ht, _, rfl, rfl, ?_⟩
    rw [c_leaf, if_pos rfl]
    exact hq
  | ask one other b y n =>
    obtain ⟨p, q, ht, hy, hn⟩ := ht
    refine ⟨_, SqT.of ht, _, rfl, rfl, ?_⟩
    rw [c_leaf, if_neg (by simp [S_inj]; decide)]
    refine ⟨_, SqT.of ht, rfl, _, _, rfl, _, _, rfl, _, _, rfl, _, _, rfl, _, _, rfl, _, _, rfl, rfl, ?_⟩
    rw [es, c_lb, c_dash, c_le, c_q, c_col, c_rb]
    simp [fmt_int]
    cases m with
    | zero => simp [Tr.deep] at hd
    | succ m =>
      have hd2 : y.deep ≤ m ∧ n.deep ≤ m := by
        simp only [Tr.deep] at hd
        omega
      have l1 : (T " - ").length = 3 := rfl
      have l2 : (T " <= ").length = 4 := rfl
      have l3 : (T " ? ").length = 3 := rfl
      have l4 : (T " : ").length = 3 := rfl
      have hl2 : one.length + (3 + (other.length + (4 + ((numI b).length + (3 + (y.text.length + (3 + (n.text.length + 1)))))))) + 1 ≤ 10000 := by
        simpa [Tr.text, l1, l2, l3, l4] using hl
      have hb : b.natAbs.log2 < 1920 := by
        have h1 := hi.1
        by_cases h0 : b.natAbs = 0
        · rw [h0]; decide
        · exact (Nat.log2_lt h0).mpr (Nat.lt_of_le_of_lt h1 (Nat.lt_of_lt_of_le (by decide : 2000 < 2 ^ 11) (Nat.pow_le_pow_right (by decide) (by decide))))
      simp only [S_app, S_len, sizeLine_eq, List.length_append, List.length_cons, List.length_nil, l1, l2]
      refine ⟨by omega, by omega, by omega, by omega, by omega, by omega, by omega, hb, by omega, by omega, ?_⟩
      show spText m K [.ref p] H _ E
      refine ⟨y, p, rfl, hy, hd2.1, by omega, hi.2.1, Or.inl ⟨_, rfl, by rw [S_len]; omega, ?_⟩⟩
      simp only [S_app, S_len, List.length_append, List.length_cons, List.length_nil, l1, l2, l3, l4]
      refine ⟨by omega, by omega, ?_⟩
      show spText m K [.ref q] H _ E
      refine ⟨n, q, rfl, hn, hd2.2, by omega, hi.2.2, Or.inl ⟨_, rfl, by rw [S_len]; omega, ?_⟩⟩
      simp only [S_app, S_len, List.length_append, List.length_cons, List.length_nil, l1, l2, l3, l4]
      refine ⟨by omega, by omega, ?_⟩
      have e : [] ++ [91] ++ one ++ T " - " ++ other ++ T " <= " ++ numI b ++ T " ? " ++ y.text ++ T " : " ++ n.text ++ [93] = (Tr.ask one other b y n).text := by
        simp [Tr.text]
      rw [e]
      exact hq
end
end
end Mp

set_option maxHeartbeats 8000000
/-! Kl1: the law's powers, faces, scales -/
namespace Mp
open PySem PySem.Spec PyProof.Rows L2
open StX (tMakeR run_makeR pe_makeR)
open He (ga ma fAd)
section
variable {P : Program} {w : World} {K : PySem.W.Frag} {mg : Str → Option Value} {base : Heap}
theorem DictAt.k1 {H H' : Hp} {c l a : Addr} {n : Nat} {ns : List (List Nat)} {ps : List (Nat × Nat)} (hp : PenAt H c l n) (k : K1 c H H') (h : DictAt H a ns ps) : DictAt H' a ns ps := by
  obtain ⟨as, h1, h2, h3, h4⟩ := h
  have hac : a ≠ c := fun e => by
    obtain ⟨_, _, _, h5, _⟩ := hp
    rw [e, h5] at h3
    cases h3
  exact ⟨as, h1, h2, k _ _ hac h3, fun i b p hb hp2 => (hp.stb (K := default) k) _ _ (h4 i b p hb hp2) trivial⟩
theorem ix_mem {H : Hp} {p : Addr} {xs : List V} {d : Nat} {R : VK} (hp : H p = some (.lst xs)) (hd : d < xs.length) (h : ∀ v, v ∈ xs → R v H) : rIxH (.ref p) (.int ((d : Nat) : Int)) H R :=
  ⟨p, xs, _, rfl, rfl, hp, _, atI_nat hd, h _ (List.getElem_mem hd)⟩
def spPowers : Sp := sp2 fun a b H Q _ => ∃ (c l q : Addr) (n : Nat) (ns : List (List Nat)), a = .ref c ∧ b = .ref q ∧ q ≠ c ∧ H q = some (.lst (txV ns)) ∧ KsOk ns ∧ PenAt H c l n ∧ n + 30 < 1000000 ∧
  ∀ D ps H', K1 c H H' → H D = none → D ≠ c → DictAt H' D ns ps → (∀ p ∈ ps, p.1 ≤ 1000 ∧ p.2 ≤ p.1) → PenAt H' c l (n + 15) → Q (.ref D) H'
theorem sc__law_powers : FnScope ["pen", "titles", "found", "title", "high"] ["pen", "titles"] (defScope s__law_powers) := ⟨rfl, rfl, rfl, by decide +kernel, rfl, by decide +kernel, by decide +kernel⟩
theorem ok__law_powers (z : Zk K mg base) (c__law_draw : Cal P w K mg base "_law_draw" 2 spDraw)  : Cal P w K mg base "_law_powers" 3 spPowers := by
  obtain ⟨fd, F⟩ := z.d__law_powers
  refine cal_of F z.g__law_powers sc__law_powers (fun _ _ _ _ _ _ us hl => match us, hl with | [_, _], _ => rfl) (fun vs H Q E h => by match vs, h with | [_, _], _ => rfl) (fun cdv A outer s H vs Q E hr h => ?_)
  have nd := sc__law_powers.nd
  have hu : (cxOf (L2.CX P w) P w K mg base ["pen", "titles", "found", "title", "high"] "_law_powers" (defScope s__law_powers) (fAd K ("_law_powers", none)) cdv A outer s H E).A.units + 64 < cLine := hr.units
  have hu0 := hr.units0
  have hu1 := hu_of hr
  match vs, h with
  | [a0, a1], h =>
  refine ⟨_, (pss_cons (ps_set (i := 2) nd rfl (Or.inl rfl) pe_dnewK)
      (pss_cons (ps_for (passes_of rfl) rfl (k_pi_list (K := K) rfl (pv 1)) (pg_name nd (i := 3) rfl (Or.inl rfl)) (pss_cons (ps_set (i := 4) nd rfl (Or.inl rfl) (pe_ix ix_H (pe_lst (pa_cons (pe_fn c__law_draw hr (passD (E := E)) (pa_cons (pv 0) (pa_cons pe_int pa_nil))) (pa_cons (pe_fn c__law_draw hr (passD (E := E)) (pa_cons (pv 0) (pa_cons pe_int pa_nil))) (pa_cons pe_int pa_nil)))) (pe_fn c__law_draw hr (passD (E := E)) (pa_cons (pv 0) (pa_cons pe_int pa_nil))) fun _ _ => rfl))
      (pss_one (ps_dput (lt64 hu) (pv 2) (pv 3) (pe_tup (pa_cons (pv 4) (pa_cons (pe_ix ix_H (pe_lst (pa_cons pe_int (pa_cons (pv 4) (pa_cons (pe_fn c__law_draw hr (passD (E := E)) (pa_cons (pv 0) (pa_cons (pe_op op_add (pv 4) pe_int) pa_nil))) pa_nil)))) (pe_fn c__law_draw hr (passD (E := E)) (pa_cons (pv 0) (pa_cons pe_int pa_nil))) fun _ _ => rfl) pa_nil))) rfl))))
      (pss_one (ps_ret (pv 2))))), ?_⟩
  obtain ⟨c, l, q, n, ns, rfl, rfl, hqc, hql, hO, hp, hn, hq⟩ := h
  simp [sDPut, tDGet, tDIn, tDNotIn, tRet, tRetN, tSeq, tIfS, tDrop, tNext, tNever, tBreak, tCont, tAsg, gName, gCons, gNil, gTup, tAndV, tOrV, tNotV, tAnd, tOr, tNot, tOp, tUn, tVar, tC, tB, tTest, tIf, tCons, tNil, tCB, tTup, tLst, tFld, sFld, sFldAug, rAdd, rSub, tSl, tPart, tNoPart, rI0, rI, rU, rEq, rNe, rSlS, rSlL, rIxL, rIxT, rIxS, tChain, tFn, tMt, tM1, tM0, tBM, rAppend, rIn, tIsN, tNotN, scal_ss, scal_ii, let_nil, let_one, fig_nil, fig_one, LenV_str, L2.start, cxOf, and_assoc, tJs, tFmt, put_at, lk_at, lk_script, lk_upcoming, lk_refuse, lk_skips, lk_expect, lk_word_of, lk_name_unlike, lk_number_to, lk_finish, sp0, sp1, sp2, sp3, sp4, sp5, -List.lookup_eq_none_iff, tDNewK]
  intro D hD
  obtain ⟨w1, w2, w3, w4⟩ := pen_new (o := .dK []) K1.rfl' hp hD
  refine tfor_list (a := q) (xs := txV ns) (fun R h => ⟨_, rfl, h⟩) (fun i σ H' => ∃ ps u3 u4, σ = [some (.ref c), some (.ref q), some (.ref D), u3, u4] ∧ K1 c H H' ∧ DictAt H' D (ns.take i) ps ∧ (∀ p ∈ ps, p.1 ≤ 1000 ∧ p.2 ≤ p.1) ∧ PenAt H' c l (n + 5 * i))
    ⟨[], none, none, rfl, w1, ⟨[], rfl, rfl, upd_same, fun i b p h => by simp at h⟩, List.forall_mem_nil _, w2⟩ (fun i σ H' _ h => ?_) (fun i x σ H' hi h => ?_) (fun σ H' h => ?_)
  · obtain ⟨_, _, _, _, k, _⟩ := h
    exact SqL.of (k _ _ hqc hql)
  · obtain ⟨ps, _, _, rfl, k, hd, hpl, hp2⟩ := h
    obtain ⟨t, ht, rfl⟩ : ∃ t, ns[i]? = some t ∧ x = .str (S t) := by
      unfold txV at hi
      rw [List.getElem?_map] at hi
      cases hx : ns[i]? with
      | none => rw [hx] at hi; cases hi
      | some t => rw [hx] at hi; cases hi; exact ⟨t, rfl, rfl⟩
    have hil := (List.getElem?_eq_some_iff.mp ht).1
    have hi3 := hO.hi
    simp [sDPut, tDGet, tDIn, tDNotIn, tRet, tRetN, tSeq, tIfS, tDrop, tNext, tNever, tBreak, tCont, tAsg, gName, gCons, gNil, gTup, tAndV, tOrV, tNotV, tAnd, tOr, tNot, tOp, tUn, tVar, tC, tB, tTest, tIf, tCons, tNil, tCB, tTup, tLst, tFld, sFld, sFldAug, rAdd, rSub, tSl, tPart, tNoPart, rI0, rI, rU, rEq, rNe, rSlS, rSlL, rIxL, rIxT, rIxS, tChain, tFn, tMt, tM1, tM0, tBM, rAppend, rIn, tIsN, tNotN, scal_ss, scal_ii, let_nil, let_one, fig_nil, fig_one, LenV_str, L2.start, cxOf, and_assoc, tJs, tFmt, put_at, lk_at, lk_script, lk_upcoming, lk_refuse, lk_skips, lk_expect, lk_word_of, lk_name_unlike, lk_number_to, lk_finish, sp0, sp1, sp2, sp3, sp4, sp5, -List.lookup_eq_none_iff]
    refine ⟨c, l, n + 5 * i, 6, rfl, rfl, hp2, by omega, by omega, by omega, fun d1 H1 hd1 k1 hp3 => ?_⟩
    refine ⟨c, l, n + 5 * i + 1, 1001, rfl, rfl, hp3, by omega, by omega, by omega, fun d2 H2 hd2 k2 hp4 => ?_⟩
    refine ⟨by decide, fun q1 hq1 => ?_⟩
    obtain ⟨g1, g2, g3, g4⟩ := pen_new (o := .lst [.int ((d1 : Nat) : Int), .int ((d2 : Nat) : Int), .int 1000]) (K1.trans k (K1.trans k1 k2)) hp4 hq1
    refine ⟨c, l, n + 5 * i + 1 + 1, 3, rfl, rfl, g2, by omega, by omega, by omega, fun d3 H3 hd3 k3 hp5 => ?_⟩
    refine ix_mem (xs := [.int ((d1 : Nat) : Int), .int ((d2 : Nat) : Int), .int 1000]) (k3 _ _ g4 upd_same) (by simpa using hd3) fun v hv => ?_
    obtain ⟨hi, rfl, hhi⟩ : ∃ hi : Nat, v = .int ((hi : Nat) : Int) ∧ hi ≤ 1000 := by
      simp at hv
      rcases hv with rfl | rfl | rfl
      · exact ⟨d1, rfl, by omega⟩
      · exact ⟨d2, rfl, by omega⟩
      · exact ⟨1000, rfl, by omega⟩
    refine ⟨_, rfl, c, l, n + 5 * i + 1 + 1 + 1, hi + 1, rfl, rfl, hp5, by omega, by omega, by omega, fun d4 H4 hd4 k4 hp6 => ?_⟩
    refine ⟨by decide, fun q2 hq2 => ?_⟩
    obtain ⟨f1, f2, f3, f4⟩ := pen_new (o := .lst [.int 0, .int ((hi : Nat) : Int), .int ((d4 : Nat) : Int)]) (K1.trans g1 (K1.trans k3 k4)) hp6 hq2
    refine ⟨c, l, n + 5 * i + 1 + 1 + 1 + 1, 3, rfl, rfl, f2, by omega, by omega, by omega, fun d5 H5 hd5 k5 hp7 => ?_⟩
    refine ix_mem (xs := [.int 0, .int ((hi : Nat) : Int), .int ((d4 : Nat) : Int)]) (k5 _ _ f4 upd_same) (by simpa using hd5) fun v hv => ?_
    obtain ⟨lo, rfl, hlo⟩ : ∃ lo : Nat, v = .int ((lo : Nat) : Int) ∧ lo ≤ hi := by
      simp at hv
      rcases hv with rfl | rfl | rfl
      · exact ⟨0, rfl, by omega⟩
      · exact ⟨hi, rfl, by omega⟩
      · exact ⟨d4, rfl, by omega⟩
    refine ⟨by decide, fun q3 hq3 => ?_⟩
    have kk : K1 c H' H5 := K1.trans k1 (K1.trans k2 (K1.trans (K1.of (Ex.new hq1)) (K1.trans k3 (K1.trans k4 (K1.trans (K1.of (Ex.new hq2)) k5)))))
    have hd5' := hd.k1 hp2 kk
    have e6 : Ex H5 (upd H5 q3 (.tup [.int ((hi : Nat) : Int), .int ((lo : Nat) : Int)])) := Ex.new hq3
    have hDq : D ≠ q3 := fun e => by
      obtain ⟨as2, _, _, h3, _⟩ := hd5'
      rw [e, hq3] at h3
      cases h3
    have hnin : t ∉ ns.take i := by
      intro hm
      obtain ⟨j, hj⟩ := List.mem_iff_getElem?.mp hm
      rw [List.getElem?_take] at hj
      split at hj
      · have := nd_ix hO.nd hj ht
        omega
      · cases hj
    obtain ⟨kvs, hkv, hkl, hput⟩ := DictAt.put (p := (hi, lo)) hDq hnin (hd5'.ex e6) upd_same
    have hnl2 : (ns.take i).length ≤ 3 := by rw [List.length_take]; omega
    have hk5 : K1 c H (upd H5 q3 (.tup [.int ((hi : Nat) : Int), .int ((lo : Nat) : Int)])) := K1.trans k (K1.trans kk (K1.of e6))
    refine ⟨_, DPut.k (k := Sum.inr (S t)) hkv (by rw [hkl, sizeLine_eq]; omega), K1.mut hk5 hD, ps ++ [(hi, lo)], ?_, ?_, ?_⟩
    · have h9 : ns.take (i + 1) = ns.take i ++ [t] := by
        obtain ⟨hi2, h8⟩ := List.getElem?_eq_some_iff.mp ht
        rw [← h8]
        exact List.take_succ_eq_append_getElem hi2
      rw [h9]
      exact hput
    · intro a b hab
      rcases List.mem_append.mp hab with hab | hab
      · exact hpl _ hab
      · have := List.mem_singleton.mp hab
        cases this
        exact ⟨hhi, hlo⟩
    · have hp8 : PenAt (upd H5 q3 (.tup [.int ((hi : Nat) : Int), .int ((lo : Nat) : Int)])) c l (n + 5 * (i + 1)) := (hp7.ex e6).le (by omega)
      have hDl : D ≠ l := fun e => by
        obtain ⟨_, _, _, _, _, h5, _⟩ := hp
        rw [← e, hD] at h5
        cases h5
      exact hp8.upd (hp.nec hD) hDl
  · obtain ⟨ps, _, _, rfl, k, hd, hpl, hp2⟩ := h
    have el : (txV ns).length = ns.length := by unfold txV; rw [List.length_map]
    rw [el] at hd hp2
    rw [List.take_length] at hd
    have hhi := hO.hi
    simp [sDPut, tDGet, tDIn, tDNotIn, tRet, tRetN, tSeq, tIfS, tDrop, tNext, tNever, tBreak, tCont, tAsg, gName, gCons, gNil, gTup, tAndV, tOrV, tNotV, tAnd, tOr, tNot, tOp, tUn, tVar, tC, tB, tTest, tIf, tCons, tNil, tCB, tTup, tLst, tFld, sFld, sFldAug, rAdd, rSub, tSl, tPart, tNoPart, rI0, rI, rU, rEq, rNe, rSlS, rSlL, rIxL, rIxT, rIxS, tChain, tFn, tMt, tM1, tM0, tBM, rAppend, rIn, tIsN, tNotN, scal_ss, scal_ii, let_nil, let_one, fig_nil, fig_one, LenV_str, L2.start, cxOf, and_assoc, tJs, tFmt, put_at, lk_at, lk_script, lk_upcoming, lk_refuse, lk_skips, lk_expect, lk_word_of, lk_name_unlike, lk_number_to, lk_finish, sp0, sp1, sp2, sp3, sp4, sp5, -List.lookup_eq_none_iff]
    exact hq D ps H' k hD (hp.nec hD) hd hpl (hp2.le (by omega))
theorem sums_le {B : Nat} : ∀ l : List (List Nat), (∀ y ∈ l, y.length ≤ B) → ((l.map S).map (·.length)).sum ≤ B * l.length
  | [], _ => by simp
  | y :: l, h => by
    have h1 := h y List.mem_cons_self
    have h2 := sums_le l fun y hy => h y (List.mem_cons_of_mem _ hy)
    simp only [List.map_cons, List.sum_cons, List.length_cons, S_len, Nat.mul_add, Nat.mul_one] at h2 ⊢
    omega
theorem line_le {n : List Nat} {p : Nat × Nat} (hn : n.length ≤ 8) (h1 : p.1 ≤ 1000) (h2 : p.2 ≤ p.1) : (lineOf n p).length ≤ 20 := by
  have w1 := numL_le (n := p.1) (by omega)
  have w2 := numL_le (n := p.2) (by omega)
  unfold lineOf
  simp
  omega
theorem DictAt.at_ {H : Hp} {D : Addr} {ns : List (List Nat)} {ps : List (Nat × Nat)} {i : Nat} {n : List Nat} {p : Nat × Nat} (hd : DictAt H D ns ps) (nd : ns.Nodup) (hn : ns[i]? = some n) (hp : ps[i]? = some p) :
    ∃ b, DGet H D (.str (S n)) (some (.ref b)) ∧ H b = some (.tup [.int ((p.1 : Nat) : Int), .int ((p.2 : Nat) : Int)]) := by
  obtain ⟨as, h1, h2, h3, h4⟩ := hd
  have hi := (List.getElem?_eq_some_iff.mp hn).1
  have hb : as[i]? = some (as[i]'(by omega)) := List.getElem?_eq_getElem (by omega)
  refine ⟨_, ?_, h4 i _ p hb hp⟩
  have g := DGet.k (k := Sum.inr (S n)) h3
  rw [valV_kvs nd hn hb] at g
  exact g
theorem DictAt.len {H : Hp} {D : Addr} {ns : List (List Nat)} {ps : List (Nat × Nat)} (hd : DictAt H D ns ps) : ps.length = ns.length := by
  obtain ⟨as, h1, h2, h3, h4⟩ := hd
  exact h2
theorem getTx {ns : List (List Nat)} {i : Nat} {x : V} (hi : (txV ns)[i]? = some x) : ∃ t, ns[i]? = some t ∧ x = .str (S t) := by
  unfold txV at hi
  rw [List.getElem?_map] at hi
  cases hx : ns[i]? with
  | none => rw [hx] at hi; cases hi
  | some t => rw [hx] at hi; cases hi; exact ⟨t, rfl, rfl⟩
theorem c_csp : Str.ofString ", " = S [44, 32] := rfl
theorem c_sp1 : Str.ofString " " = S [32] := rfl
theorem tx_len (ns : List (List Nat)) : (txV ns).length = ns.length := by unfold txV; rw [List.length_map]
theorem c_size : Str.ofString "size " = S (T "size ") := ofS _
theorem c_align : Str.ofString "align " = S (T "align ") := ofS _
def spFace (K : PySem.W.Frag) : Sp := sp2 fun a b H Q _ => ∃ (q D : Addr) (ns : List (List Nat)) (ps : List (Nat × Nat)), a = .ref q ∧ b = .ref D ∧ H q = some (.lst (txV ns)) ∧ DictAt H D ns ps ∧ KsOk ns ∧ (∀ p ∈ ps, p.1 ≤ 1000 ∧ p.2 ≤ p.1) ∧ ∀ H', Ex H H' → Q (.str (S (face ns ps))) H'
theorem sc__law_face : FnScope ["titles", "powers", "title"] ["titles", "powers"] (defScope s__law_face) := ⟨rfl, rfl, rfl, by decide +kernel, rfl, by decide +kernel, by decide +kernel⟩
theorem ok__law_face (z : Zk K mg base)   : Cal P w K mg base "_law_face" 1 ((spFace K)) := by
  obtain ⟨fd, F⟩ := z.d__law_face
  refine cal_of F z.g__law_face sc__law_face (fun _ _ _ _ _ _ us hl => match us, hl with | [_, _], _ => rfl) (fun vs H Q E h => by match vs, h with | [_, _], _ => rfl) (fun cdv A outer s H vs Q E hr h => ?_)
  have nd := sc__law_face.nd
  have hu : (cxOf (L2.CX P w) P w K mg base ["titles", "powers", "title"] "_law_face" (defScope s__law_face) (fAd K ("_law_face", none)) cdv A outer s H E).A.units + 64 < cLine := hr.units
  have hu0 := hr.units0
  have hu1 := hu_of hr
  match vs, h with
  | [a0, a1], h =>
  refine ⟨_, (pss_one (ps_ret (k_join (K := K) rfl pe_str (pe_lc rfl nd (k_pi_list (K := K) rfl (pv 0)) (blkOk_by (N := ["titles", "powers", "title"]) (sc := defScope s__law_face) (own := [("title", 2)]) (by decide +kernel)) (fun _ _ _ _ _ => (pg_name nd (i := 2) rfl (Or.inl rfl))) (fun _ _ _ _ _ => pts_nil) (fun _ _ _ _ _ => (k_join (K := K) rfl pe_str (pe_lst (pa_cons (pv 2) (pa_cons (pe_callTy call_str_int rfl z.b_str boot_str (pa_cons (pe_ix (k_ix_tup (K := K) rfl) (pe_dget (lt64 hu) (pv 1) (pv 2) (fun _ _ => rfl)) pe_int fun _ _ => rfl) pa_nil)) (pa_cons (pe_callTy call_str_int rfl z.b_str boot_str (pa_cons (pe_ix (k_ix_tup (K := K) rfl) (pe_dget (lt64 hu) (pv 1) (pv 2) (fun _ _ => rfl)) pe_int fun _ _ => rfl) pa_nil)) pa_nil)))))))))), ?_⟩
  obtain ⟨q, D, ns, ps, rfl, rfl, hql, hd, hO, hpl, hq⟩ := h
  have hlo := hO.lo
  have hhi := hO.hi
  have hpn := hd.len
  simp [sDPut, tDGet, tDIn, tDNotIn, tRet, tRetN, tSeq, tIfS, tDrop, tNext, tNever, tBreak, tCont, tAsg, gName, gCons, gNil, gTup, tAndV, tOrV, tNotV, tAnd, tOr, tNot, tOp, tUn, tVar, tC, tB, tTest, tIf, tCons, tNil, tCB, tTup, tLst, tFld, sFld, sFldAug, rAdd, rSub, tSl, tPart, tNoPart, rI0, rI, rU, rEq, rNe, rSlS, rSlL, rIxL, rIxT, rIxS, tChain, tFn, tMt, tM1, tM0, tBM, rAppend, rIn, tIsN, tNotN, scal_ss, scal_ii, let_nil, let_one, fig_nil, fig_one, LenV_str, L2.start, cxOf, and_assoc, tJs, tFmt, put_at, lk_at, lk_script, lk_upcoming, lk_refuse, lk_skips, lk_expect, lk_word_of, lk_name_unlike, lk_number_to, lk_finish, sp0, sp1, sp2, sp3, sp4, sp5, -List.lookup_eq_none_iff]
  refine lc_mapL (a := q) (xs := txV ns) (ys := ((ns.zip ps).map fun x => lineOf x.1 x.2).map fun x => .str (S x)) (fun R h => ⟨_, rfl, h⟩) monG_name monT_yes (by simp; omega) (by rw [tx_len]; simp; omega) (SqL.of hql) (fun i x y H2 R hi hy e2 hR => ?_) (fun L H2 e2 hL hLl => ?_)
  · obtain ⟨t, ht, rfl⟩ := getTx hi
    have hil := (List.getElem?_eq_some_iff.mp ht).1
    obtain ⟨p, hp⟩ : ∃ p, ps[i]? = some p := ⟨_, List.getElem?_eq_getElem (by omega)⟩
    have hz : (ns.zip ps)[i]? = some (t, p) := by
      rw [List.getElem?_zip_eq_some]
      exact ⟨ht, hp⟩
    rw [List.getElem?_map, List.getElem?_map, hz] at hy
    cases hy
    have hle := hpl p (List.mem_of_getElem? hp)
    have hnl := nameOk_len (hO.ok t (List.mem_of_getElem? ht))
    have g1 : (((p.1 : Nat) : Int).natAbs.log2 < 1920) := Nat.lt_of_le_of_lt (Nat.log2_le_self _) (by omega)
    have g2 : (((p.2 : Nat) : Int).natAbs.log2 < 1920) := Nat.lt_of_le_of_lt (Nat.log2_le_self _) (by omega)
    obtain ⟨b, hg, hb⟩ := (hd.ex e2).at_ hO.nd ht hp
    simp [sDPut, tDGet, tDIn, tDNotIn, tRet, tRetN, tSeq, tIfS, tDrop, tNext, tNever, tBreak, tCont, tAsg, gName, gCons, gNil, gTup, tAndV, tOrV, tNotV, tAnd, tOr, tNot, tOp, tUn, tVar, tC, tB, tTest, tIf, tCons, tNil, tCB, tTup, tLst, tFld, sFld, sFldAug, rAdd, rSub, tSl, tPart, tNoPart, rI0, rI, rU, rEq, rNe, rSlS, rSlL, rIxL, rIxT, rIxS, tChain, tFn, tMt, tM1, tM0, tBM, rAppend, rIn, tIsN, tNotN, scal_ss, scal_ii, let_nil, let_one, fig_nil, fig_one, LenV_str, L2.start, cxOf, and_assoc, tJs, tFmt, put_at, lk_at, lk_script, lk_upcoming, lk_refuse, lk_skips, lk_expect, lk_word_of, lk_name_unlike, lk_number_to, lk_finish, sp0, sp1, sp2, sp3, sp4, sp5, -List.lookup_eq_none_iff, LcTurn, tYes, wipe]
    refine ⟨_, hg, b, rfl, _, SqT.of hb, _, rfl, _, rfl, g1, _, hg, b, rfl, _, SqT.of hb, _, rfl, _, rfl, g2, by decide, fun p1 hp1 => ?_⟩
    rw [fmt_num, fmt_num]
    have w1 := numL_le (n := p.1) (by omega)
    have w2 := numL_le (n := p.2) (by omega)
    refine ⟨_, p1, [t, numL p.1, numL p.2].map S, rfl, rfl, Or.inl (SqL.of (by rw [upd_same]; rfl)), ?_, ?_⟩
    · have h1 := sums_le (B := 8) [t, numL p.1, numL p.2] (by
        intro y hy
        simp at hy
        rcases hy with rfl | rfl | rfl
        · omega
        · exact Nat.le_trans w1 (by omega)
        · exact Nat.le_trans w2 (by omega))
      have h3 : (Str.ofString " ").length = 1 := rfl
      rw [h3, List.length_map]
      simp only [List.length_cons, List.length_nil] at h1 ⊢
      omega
    · have e3 : Txt.join (S [32]) ([t, numL p.1, numL p.2].map S) = S (lineOf t p) := SX.join_S [32] [t, numL p.1, numL p.2]
      rw [c_sp1, e3]
      exact hR _ (Ex.new hp1)
  · have hm : ∀ y ∈ (ns.zip ps).map fun x => lineOf x.1 x.2, y.length ≤ 20 := by
      intro y hy
      obtain ⟨⟨n, p⟩, hx, rfl⟩ := List.mem_map.mp hy
      obtain ⟨hn, hp⟩ := List.of_mem_zip hx
      have hle := hpl p hp
      have hnl := nameOk_len (hO.ok n hn)
      exact line_le (n := n) (p := p) (by omega) hle.1 hle.2
    refine ⟨_, L, ((ns.zip ps).map fun x => lineOf x.1 x.2).map S, rfl, rfl, Or.inl (SqL.of (by rw [hLl, List.map_map, List.map_map, List.map_map]; rfl)), ?_, ?_⟩
    · have h1 := sums_le _ hm
      have h2 : ((ns.zip ps).map fun x => lineOf x.1 x.2).length ≤ 3 := by
        rw [List.length_map, List.length_zip]
        omega
      have h3 : (Str.ofString ", ").length = 2 := rfl
      rw [h3, List.length_map]
      omega
    · have e3 : Txt.join (S [44, 32]) (((ns.zip ps).map fun x => lineOf x.1 x.2).map S) = S (face ns ps) := SX.join_S [44, 32] _
      rw [c_csp, e3]
      exact hq _ e2
def spScales : Sp := sp1 fun a H Q _ => ∃ (q : Addr) (ns : List (List Nat)), a = .ref q ∧ H q = some (.lst (txV ns)) ∧ KsOk ns ∧ ∀ D H', Ex H H' → H D = none → H' D = some (.lst (txV (treeWords ns))) → Q (.ref D) H'
theorem sc__law_scales : FnScope ["titles", "found", "title"] ["titles"] (defScope s__law_scales) := ⟨rfl, rfl, rfl, by decide +kernel, rfl, by decide +kernel, by decide +kernel⟩
theorem ok__law_scales (z : Zk K mg base)   : Cal P w K mg base "_law_scales" 1 spScales := by
  obtain ⟨fd, F⟩ := z.d__law_scales
  refine cal_of F z.g__law_scales sc__law_scales (fun _ _ _ _ _ _ us hl => match us, hl with | [_], _ => rfl) (fun vs H Q E h => by match vs, h with | [_], _ => rfl) (fun cdv A outer s H vs Q E hr h => ?_)
  have nd := sc__law_scales.nd
  have hu : (cxOf (L2.CX P w) P w K mg base ["titles", "found", "title"] "_law_scales" (defScope s__law_scales) (fAd K ("_law_scales", none)) cdv A outer s H E).A.units + 64 < cLine := hr.units
  have hu0 := hr.units0
  have hu1 := hu_of hr
  match vs, h with
  | [a0], h =>
  refine ⟨_, (pss_cons (ps_set (i := 1) nd rfl (Or.inl rfl) (pe_lst (pa_cons pe_str pa_nil)))
      (pss_cons (ps_for (passes_of rfl) rfl (k_pi_list (K := K) rfl (pv 0)) (pg_name nd (i := 2) rfl (Or.inl rfl)) (pss_one (ps_set (i := 1) nd rfl (Or.inl rfl) (pe_op op_cat (pv 1) (pe_lst (pa_cons (pe_op op_add_str pe_str (pv 2)) (pa_cons (pe_op op_add_str pe_str (pv 2)) pa_nil)))))))
      (pss_one (ps_ret (pv 1))))), ?_⟩
  obtain ⟨q, ns, rfl, hql, hO, hq⟩ := h
  have hhi := hO.hi
  simp [sDPut, tDGet, tDIn, tDNotIn, tRet, tRetN, tSeq, tIfS, tDrop, tNext, tNever, tBreak, tCont, tAsg, gName, gCons, gNil, gTup, tAndV, tOrV, tNotV, tAnd, tOr, tNot, tOp, tUn, tVar, tC, tB, tTest, tIf, tCons, tNil, tCB, tTup, tLst, tFld, sFld, sFldAug, rAdd, rSub, tSl, tPart, tNoPart, rI0, rI, rU, rEq, rNe, rSlS, rSlL, rIxL, rIxT, rIxS, tChain, tFn, tMt, tM1, tM0, tBM, rAppend, rIn, tIsN, tNotN, scal_ss, scal_ii, let_nil, let_one, fig_nil, fig_one, LenV_str, L2.start, cxOf, and_assoc, tJs, tFmt, put_at, lk_at, lk_script, lk_upcoming, lk_refuse, lk_skips, lk_expect, lk_word_of, lk_name_unlike, lk_number_to, lk_finish, sp0, sp1, sp2, sp3, sp4, sp5, -List.lookup_eq_none_iff]
  refine ⟨by decide, fun p hp => ?_⟩
  have e1 : Ex H (upd H p (.lst [.str (Str.ofString "byte")])) := Ex.new hp
  refine tfor_list (a := q) (xs := txV ns) (fun R h => ⟨_, rfl, h⟩) (fun i σ H' => ∃ D u2, σ = [some (.ref q), some (.ref D), u2] ∧ Ex H H' ∧ H D = none ∧ H' D = some (.lst (txV (treeWords (ns.take i)))))
    ⟨p, none, rfl, e1, hp, by rw [upd_same, ofS]; rfl⟩ (fun i σ H' _ h => ?_) (fun i x σ H' hi h => ?_) (fun σ H' h => ?_)
  · obtain ⟨_, _, _, e, _⟩ := h
    exact SqL.of (e _ _ hql)
  · obtain ⟨D, _, rfl, e, hD, hd⟩ := h
    obtain ⟨t, ht, rfl⟩ := getTx hi
    have hnl := nameOk_len (hO.ok t (List.mem_of_getElem? ht))
    have l1 : (T "size ").length = 5 := rfl
    have l2 : (T "align ").length = 6 := rfl
    have hil := (List.getElem?_eq_some_iff.mp ht).1
    simp [sDPut, tDGet, tDIn, tDNotIn, tRet, tRetN, tSeq, tIfS, tDrop, tNext, tNever, tBreak, tCont, tAsg, gName, gCons, gNil, gTup, tAndV, tOrV, tNotV, tAnd, tOr, tNot, tOp, tUn, tVar, tC, tB, tTest, tIf, tCons, tNil, tCB, tTup, tLst, tFld, sFld, sFldAug, rAdd, rSub, tSl, tPart, tNoPart, rI0, rI, rU, rEq, rNe, rSlS, rSlL, rIxL, rIxT, rIxS, tChain, tFn, tMt, tM1, tM0, tBM, rAppend, rIn, tIsN, tNotN, scal_ss, scal_ii, let_nil, let_one, fig_nil, fig_one, LenV_str, L2.start, cxOf, and_assoc, tJs, tFmt, put_at, lk_at, lk_script, lk_upcoming, lk_refuse, lk_skips, lk_expect, lk_word_of, lk_name_unlike, lk_number_to, lk_finish, sp0, sp1, sp2, sp3, sp4, sp5, -List.lookup_eq_none_iff, c_size, c_align, S_app, S_len, sizeLine_eq, l1, l2]
    refine ⟨by omega, by omega, fun p2 hp2 => ?_⟩
    have e2 : Ex H' (upd H' p2 (.lst [.str (S (T "size " ++ t)), .str (S (T "align " ++ t))])) := Ex.new hp2
    refine ⟨D, p2, _, _, rfl, rfl, e2 _ _ hd, upd_same, ?_, fun p3 hp3 => ⟨p3, rfl, Ex.trans e (Ex.trans e2 (Ex.new hp3)), ?_, ?_⟩⟩
    · rw [tx_len, sizeLine_eq]
      unfold treeWords
      have h7 : (ns.take i).length ≤ 3 := by rw [List.length_take]; omega
      rw [List.length_cons, scalesOf_len]
      simp only [List.length_cons, List.length_nil]
      omega
    · exact Ex.free (Ex.trans e e2) hp3
    · rw [upd_same]
      have h9 : ns.take (i + 1) = ns.take i ++ [t] := by
        obtain ⟨hi2, h8⟩ := List.getElem?_eq_some_iff.mp ht
        rw [← h8]
        exact List.take_succ_eq_append_getElem hi2
      rw [h9]
      unfold txV treeWords scalesOf
      simp
  · obtain ⟨D, _, rfl, e, hD, hd⟩ := h
    rw [tx_len, List.take_length] at hd
    simp [sDPut, tDGet, tDIn, tDNotIn, tRet, tRetN, tSeq, tIfS, tDrop, tNext, tNever, tBreak, tCont, tAsg, gName, gCons, gNil, gTup, tAndV, tOrV, tNotV, tAnd, tOr, tNot, tOp, tUn, tVar, tC, tB, tTest, tIf, tCons, tNil, tCB, tTup, tLst, tFld, sFld, sFldAug, rAdd, rSub, tSl, tPart, tNoPart, rI0, rI, rU, rEq, rNe, rSlS, rSlL, rIxL, rIxT, rIxS, tChain, tFn, tMt, tM1, tM0, tBM, rAppend, rIn, tIsN, tNotN, scal_ss, scal_ii, let_nil, let_one, fig_nil, fig_one, LenV_str, L2.start, cxOf, and_assoc, tJs, tFmt, put_at, lk_at, lk_script, lk_upcoming, lk_refuse, lk_skips, lk_expect, lk_word_of, lk_name_unlike, lk_number_to, lk_finish, sp0, sp1, sp2, sp3, sp4, sp5, -List.lookup_eq_none_iff]
    exact hq D H' e hD hd
end
end Mp

set_option maxHeartbeats 8000000
/-! Kw6: == and != of trees -/
namespace Mp
open PySem PySem.Spec PyProof.Rows L2
def Tr.data : Tr → PyData
  | .leaf => .tuple [.str (S (T "leaf"))]
  | .ask one other b y n => .tuple [.str (S (T "ask")), .str (S one), .str (S other), .int b, y.data, n.data]
/-- the signs of the words are signs -/
def Tr.sgOk : Tr → Prop
  | .leaf => True
  | .ask one other _ y n => PyData.strOk (S one) = true ∧ PyData.strOk (S other) = true ∧ y.sgOk ∧ n.sgOk
theorem TrAt.dp {K : PySem.W.Frag} {H : Hp} : ∀ {t : Tr} {a : Addr}, TrAt H t a → Dp K H (.ref a) t.data
  | .leaf, a, h => .tup (SqT.of h) (.cons (.str _) .nil)
  | .ask one other b y n, a, h => by
    obtain ⟨p, q, h, hy, hn⟩ := h
    exact .tup (SqT.of h) (.cons (.str _) (.cons (.str _) (.cons (.str _) (.cons (.int _) (.cons hy.dp (.cons hn.dp .nil))))))
theorem Tr.lay : ∀ {t : Tr}, t.sgOk → t.data.canLay0 = true
  | .leaf, _ => by decide +kernel
  | .ask one other b y n, h => by
    have h1 := Tr.lay h.2.2.1
    have h2 := Tr.lay h.2.2.2
    have h3 : PyData.strOk (S (T "ask")) = true := by decide +kernel
    simp only [Tr.data, PyData.canLay0, PyData.canLayAll0, h3, h.1, h.2.1, h1, h2, Bool.and_true]
theorem Tr.dep : ∀ t : Tr, t.data.depth ≤ t.deep + 1
  | .leaf => by decide +kernel
  | .ask one other b y n => by
    have h1 := Tr.dep y
    have h2 := Tr.dep n
    simp only [Tr.data, PyData.depth, PyData.depthAll, Tr.deep]
    omega
theorem Tr.eqv : ∀ t : Tr, PyData.eqv t.data t.data = true
  | .leaf => by decide +kernel
  | .ask one other b y n => by
    simp only [Tr.data, PyData.eqv, PyData.eqvAll, Tr.eqv y, Tr.eqv n, beq_self_eq_true, Bool.and_true]
theorem Tr.eqvLeaf : ∀ t : Tr, PyData.eqv t.data (Tr.data .leaf) = decide (t = .leaf)
  | .leaf => by decide +kernel
  | .ask one other b y n => by
    have h : (S (T "ask") == S (T "leaf")) = false := by decide +kernel
    simp only [Tr.data, PyData.eqv, PyData.eqvAll, h, Bool.false_and]
    symm
    exact decide_eq_false nofun
/-- a tree compared with the same tree -/
def rNeTr : R2 := fun x y H Q => ∃ a b t, x = .ref a ∧ y = .ref b ∧ TrAt H t a ∧ TrAt H t b ∧ t.sgOk ∧ t.deep ≤ 150 ∧ Q (.bl false) H
theorem k_neTr {X : Cx} {k : Nat} (hr : Room k X.A) : OpR X (compareOp .NotEq) rNeTr := by
  intro pins s σ H x y v u Q I rx ry ⟨a, b, t, e1, e2, h1, h2, h3, h4, q⟩
  subst e1 e2
  obtain ⟨as, r1⟩ := Dp.reads I t.data _ v h1.dp rx
  obtain ⟨bs, r2⟩ := Dp.reads I t.data _ u h2.dp ry
  have hd := Tr.dep t
  have hu := hr.un
  refine SeqAt.compareNe_reads r1 r2 (Tr.lay h3) (Tr.lay h3) (by omega) ⟨.bl false, H, I, ?_, q⟩
  rw [Tr.eqv t]
  rfl
/-- tree == ('leaf',) -/
def rEqLeaf : R2 := fun x y H Q => ∃ a b t, x = .ref a ∧ y = .ref b ∧ TrAt H t a ∧ TrAt H .leaf b ∧ t.sgOk ∧ t.deep ≤ 150 ∧ Q (.bl (decide (t = .leaf))) H
theorem k_eqLeaf {X : Cx} {k : Nat} (hr : Room k X.A) : OpR X (compareOp .Eq) rEqLeaf := by
  intro pins s σ H x y v u Q I rx ry ⟨a, b, t, e1, e2, h1, h2, h3, h4, q⟩
  subst e1 e2
  obtain ⟨as, r1⟩ := Dp.reads I t.data _ v h1.dp rx
  obtain ⟨bs, r2⟩ := Dp.reads I (Tr.data .leaf) _ u h2.dp ry
  have hd := Tr.dep t
  have hu := hr.un
  refine SeqAt.compareEq_reads r1 r2 (Tr.lay h3) (Tr.lay (t := .leaf) trivial) (by omega) ⟨.bl (decide (t = .leaf)), H, I, ?_, q⟩
  rw [Tr.eqvLeaf t]
  rfl
end Mp

set_option maxHeartbeats 8000000
/-! Kl2: the law's trees -/
namespace Mp
open PySem PySem.Spec PyProof.Rows L2
open StX (tMakeR run_makeR pe_makeR)
open He (ga ma fAd)
section
variable {P : Program} {w : World} {K : PySem.W.Frag} {mg : Str → Option Value} {base : Heap}
def cost : Nat → Nat
  | 0 => 0
  | d + 1 => 6 + 2 * cost d
/-- a tree of the words -/
def TrOk (ws : List (List Nat)) : Tr → Prop
  | .leaf => True
  | .ask one other b y n => one ∈ ws ∧ other ∈ ws ∧ other ≠ one ∧ b.natAbs ≤ 2000 ∧ TrOk ws y ∧ TrOk ws n
def spTree (d : Nat) : Sp := sp3 fun a b e H Q _ => ∃ (c l q : Addr) (n : Nat) (ws : List (List Nat)), a = .ref c ∧ b = .ref q ∧ e = .int ((d : Nat) : Int) ∧ q ≠ c ∧ H q = some (.lst (txV ws)) ∧ ws.Nodup ∧ 2 ≤ ws.length ∧ ws.length ≤ 10 ∧ PenAt H c l n ∧ n + cost d < 1000000 ∧
  ∀ t x H', TrOk ws t → t.deep ≤ d → K1 c H H' → PenAt H' c l (n + cost d) → TrAt H' t x → Q (.ref x) H'
section
variable {m k : Nat}
theorem sc__law_tree : FnScope ["pen", "scales", "depth", "bound", "yes_so", "other", "at", "by"] ["pen", "scales", "depth"] (defScope s__law_tree) := ⟨rfl, rfl, rfl, by decide +kernel, rfl, by decide +kernel, by decide +kernel⟩
theorem ok__law_tree (z : Zk K mg base) (c__law_draw : Cal P w K mg base "_law_draw" 2 spDraw) (c__law_tree : Cal P w K mg base "_law_tree" k (trLess (fun m => spTree m) m)) (hk : 2 ≤ k) : Cal P w K mg base "_law_tree" (k + 1) ((spTree m)) := by
  obtain ⟨fd, F⟩ := z.d__law_tree
  refine cal_of F z.g__law_tree sc__law_tree (fun _ _ _ _ _ _ us hl => match us, hl with | [_, _, _], _ => rfl) (fun vs H Q E h => by match vs, h with | [_, _, _], _ => rfl) (fun cdv A outer s H vs Q E hr h => ?_)
  have nd := sc__law_tree.nd
  have hu : (cxOf (L2.CX P w) P w K mg base ["pen", "scales", "depth", "bound", "yes_so", "other", "at", "by"] "_law_tree" (defScope s__law_tree) (fAd K ("_law_tree", none)) cdv A outer s H E).A.units + 64 < cLine := hr.units
  have hu0 := hr.units0
  have hu1 := hu_of hr
  match vs, h with
  | [a0, a1, a2], h =>
  refine ⟨_, (pss_cons (ps_if (PW.pt (pw_or (pt_cmpR op_eq (pv 2) pe_int (nomark _)) (pw_or1 (pt_cmpR op_eq (pe_fn c__law_draw hr (passD (E := E)) (pa_cons (pv 0) (pa_cons pe_int pa_nil)) (by omega)) pe_int (nomark _))))) (pss_one (ps_ret (pe_tup (pa_cons pe_str pa_nil)))) pss_nil)
      (pss_cons (ps_par (i := 6) (j := 7) rfl nd rfl rfl (by decide) rfl rfl (pa_cons (pe_fn c__law_draw hr (passD (E := E)) (pa_cons (pv 0) (pa_cons (pe_callB call_lenH rfl z.b_len boot_len (pa_cons (pv 1) pa_nil)) pa_nil)) (by omega)) (pa_cons (pe_op op_add pe_int (pe_fn c__law_draw hr (passD (E := E)) (pa_cons (pv 0) (pa_cons (pe_op op_sub (pe_callB call_lenH rfl z.b_len boot_len (pa_cons (pv 1) pa_nil)) pe_int) pa_nil)) (by omega))) pa_nil)) (by first | rfl | with_unfolding_all rfl))
      (pss_cons (ps_set (i := 3) nd rfl (Or.inl rfl) (pe_ix ix_H (pe_lst (pa_cons (pe_op op_sub (pe_fn c__law_draw hr (passD (E := E)) (pa_cons (pv 0) (pa_cons pe_int pa_nil)) (by omega)) pe_int) (pa_cons (pe_op op_sub (pe_fn c__law_draw hr (passD (E := E)) (pa_cons (pv 0) (pa_cons pe_int pa_nil)) (by omega)) pe_int) (pa_cons pe_int (pa_cons (pe_op op_sub pe_int pe_int) pa_nil))))) (pe_fn c__law_draw hr (passD (E := E)) (pa_cons (pv 0) (pa_cons pe_int pa_nil)) (by omega)) fun _ _ => rfl))
      (pss_cons (ps_set (i := 4) nd rfl (Or.inl rfl) (pe_fn c__law_tree hr (passD (E := E)) (pa_cons (pv 0) (pa_cons (pv 1) (pa_cons (pe_op op_sub (pv 2) pe_int) pa_nil))) (by omega)))
      (pss_cons (ps_set (i := 5) nd rfl (Or.inl rfl) (pe_ix ix_H (pv 1) (pe_op op_mod (pe_callTy call_int1 rfl z.b_int boot_int (pa_cons (pe_op op_add (pv 6) (pv 7)) pa_nil)) (pe_callB call_lenH rfl z.b_len boot_len (pa_cons (pv 1) pa_nil))) fun _ _ => rfl))
      (pss_one (ps_ret (pe_tup (pa_cons pe_str (pa_cons (pe_ix ix_H (pv 1) (pv 6) fun _ _ => rfl) (pa_cons (pv 5) (pa_cons (pv 3) (pa_cons (pv 4) (pa_cons (pe_fn c__law_tree hr (passD (E := E)) (pa_cons (pv 0) (pa_cons (pv 1) (pa_cons (pe_op op_sub (pv 2) pe_int) pa_nil))) (by omega)) pa_nil)))))))))))))), ?_⟩
  obtain ⟨c, l, q, n, ws, rfl, rfl, rfl, hqc, hql, hnd, hw2, hw10, hp, hn, hq⟩ := h
  have leaf : ∀ (n2 : Nat) (H2 : Hp), n2 ≤ n + cost m → K1 c H H2 → PenAt H2 c l n2 → (1 ≤ sizeLine ∧ ∀ (p : Addr), H2 p = none → Q (.ref p) (upd H2 p (.tup [.str (Str.ofString "leaf")]))) := fun n2 H2 hn2 k2 hp2 => ⟨by decide, fun p hp3 => by
    obtain ⟨g1, g2, g3, g4⟩ := pen_new (o := .tup [.str (Str.ofString "leaf")]) k2 hp2 hp3
    exact hq .leaf p _ trivial (Nat.zero_le _) g1 (g2.le hn2) (by
      show upd H2 p _ p = some (.tup [.str (S (T "leaf"))])
      rw [upd_same, c_leaf])⟩
  simp [sDPut, tDGet, tDIn, tDNotIn, tRet, tRetN, tSeq, tIfS, tDrop, tNext, tNever, tBreak, tCont, tAsg, gName, gCons, gNil, gTup, tAndV, tOrV, tNotV, tAnd, tOr, tNot, tOp, tUn, tVar, tC, tB, tTest, tIf, tCons, tNil, tCB, tTup, tLst, tFld, sFld, sFldAug, rAdd, rSub, tSl, tPart, tNoPart, rI0, rI, rU, rEq, rNe, rSlS, rSlL, rIxL, rIxT, rIxS, tChain, tFn, tMt, tM1, tM0, tBM, rAppend, rIn, tIsN, tNotN, scal_ss, scal_ii, let_nil, let_one, fig_nil, fig_one, LenV_str, L2.start, cxOf, and_assoc, tJs, tFmt, put_at, lk_at, lk_script, lk_upcoming, lk_refuse, lk_skips, lk_expect, lk_word_of, lk_name_unlike, lk_number_to, lk_finish, sp0, sp1, sp2, sp3, sp4, sp5, -List.lookup_eq_none_iff, rLenH, tPar]
  cases m with
  | zero =>
    rw [if_pos rfl]
    exact leaf n H (Nat.le_add_right _ _) K1.rfl' hp
  | succ m =>
    have hcost : cost (m + 1) = 6 + 2 * cost m := rfl
    rw [if_neg (by omega)]
    refine ⟨c, l, n, 3, rfl, rfl, hp, by omega, by omega, by omega, fun d H1 hd k1 hp1 => ⟨rfl, ?_⟩⟩
    by_cases h0 : d = 0
    · rw [if_pos (by rw [h0]; rfl)]
      exact leaf (n + 1) H1 (by omega) k1 hp1
    · rw [if_neg (by simp; omega)]
      have len : (txV ws).length = ws.length := tx_len ws
      refine ⟨_, k1 _ _ hqc hql, c, l, n + 1, ws.length, rfl, by rw [len], hp1, by omega, by omega, by omega, fun at_ H2 hat k2 hp2 => ?_⟩
      refine ⟨_, (K1.trans k1 k2) _ _ hqc hql, c, l, n + 1 + 1, ws.length - 1, rfl, by rw [len]; congr 1; omega, hp2, by omega, by omega, by omega, fun by_ H3 hby k3 hp3 => ?_⟩
      refine ⟨_, rfl, c, l, n + 1 + 1 + 1, 4001, rfl, rfl, hp3, by omega, by omega, by omega, fun d4 H4 hd4 k4 hp4 => ?_⟩
      refine ⟨_, rfl, c, l, n + 1 + 1 + 1 + 1, 9, rfl, rfl, hp4, by omega, by omega, by omega, fun d5 H5 hd5 k5 hp5 => ⟨_, rfl, by decide, fun p hp6 => ?_⟩⟩
      have kk5 : K1 c H H5 := K1.trans k1 (K1.trans k2 (K1.trans k3 (K1.trans k4 k5)))
      obtain ⟨g1, g2, g3, g4⟩ := pen_new (o := .lst [.int ((d4 : Int) - 2000), .int ((d5 : Int) - 4), .int 2000, .int (-2000)]) kk5 hp5 hp6
      refine ⟨c, l, n + 1 + 1 + 1 + 1 + 1, 4, rfl, rfl, g2, by omega, by omega, by omega, fun d6 H6 hd6 k6 hp7 => ?_⟩
      refine ix_mem (xs := [.int ((d4 : Int) - 2000), .int ((d5 : Int) - 4), .int 2000, .int (-2000)]) (k6 _ _ g4 upd_same) (by simpa using hd6) fun v hv => ?_
      obtain ⟨b, rfl, hb⟩ : ∃ b : Int, v = .int b ∧ b.natAbs ≤ 2000 := by
        simp at hv
        rcases hv with rfl | rfl | rfl | rfl
        · exact ⟨_, rfl, by omega⟩
        · exact ⟨_, rfl, by omega⟩
        · exact ⟨_, rfl, by omega⟩
        · exact ⟨_, rfl, by omega⟩
      have kk6 := K1.trans g1 k6
      have em : ((m + 1 : Nat) : Int) - 1 = ((m : Nat) : Int) := by omega
      rw [em]
      show spTree m [.ref c, .ref q, .int ((m : Nat) : Int)] H6 _ E
      refine ⟨c, l, q, n + 6, ws, rfl, rfl, rfl, hqc, kk6 _ _ hqc hql, hnd, hw2, hw10, hp7.le (by omega), by omega, fun ty xa H7 hty hdy k7 hp8 hta => ?_⟩
      have kk7 := K1.trans kk6 k7
      refine ⟨_, rfl, _, kk7 _ _ hqc hql, by rw [len]; omega, ?_⟩
      have hix : ((at_ : Int) + (1 + (by_ : Int))) % (((txV ws).length : Nat) : Int) = (((at_ + (1 + by_)) % ws.length : Nat) : Int) := by
        rw [len, Int.natCast_emod]
        push_cast
        rfl
      rw [hix]
      have hjl : (at_ + (1 + by_)) % ws.length < ws.length := Nat.mod_lt _ (by omega)
      have hne : (at_ + (1 + by_)) % ws.length ≠ at_ := by
        by_cases hlt : at_ + (1 + by_) < ws.length
        · rw [Nat.mod_eq_of_lt hlt]; omega
        · rw [Nat.mod_eq_sub_mod (by omega), Nat.mod_eq_of_lt (by omega)]; omega
      have hat' : (txV ws)[at_]'(by rw [len]; exact hat) = .str (S ws[at_]) := by simp [txV]
      have hot' : (txV ws)[(at_ + (1 + by_)) % ws.length]'(by rw [len]; exact hjl) = .str (S ws[(at_ + (1 + by_)) % ws.length]) := by simp [txV]
      refine ⟨q, _, _, rfl, rfl, kk7 _ _ hqc hql, _, atI_nat (by rw [len]; exact hjl), q, _, _, rfl, rfl, kk7 _ _ hqc hql, _, atI_nat (by rw [len]; exact hat), ?_⟩
      rw [hat', hot']
      show spTree m [.ref c, .ref q, .int ((m : Nat) : Int)] H7 _ E
      refine ⟨c, l, q, n + 6 + cost m, ws, rfl, rfl, rfl, hqc, kk7 _ _ hqc hql, hnd, hw2, hw10, hp8, by omega, fun tn xb H8 htn hdn k8 hp9 htb => ?_⟩
      refine ⟨by decide, fun p2 hp10 => ?_⟩
      have kk8 := K1.trans kk7 k8
      obtain ⟨w1, w2, w3, w4⟩ := pen_new (o := .tup [.str (Str.ofString "ask"), .str (S ws[at_]), .str (S ws[(at_ + (1 + by_)) % ws.length]), .int b, .ref xa, .ref xb]) kk8 hp9 hp10
      have e9 : Ex H8 (upd H8 p2 (.tup [.str (Str.ofString "ask"), .str (S ws[at_]), .str (S ws[(at_ + (1 + by_)) % ws.length]), .int b, .ref xa, .ref xb])) := Ex.new hp10
      refine hq (.ask ws[at_] ws[(at_ + (1 + by_)) % ws.length] b ty tn) p2 _ ⟨List.getElem_mem _, List.getElem_mem _, ?_, hb, hty, htn⟩ ?_ w1 (w2.le (by omega)) ⟨xa, xb, ?_, ?_, ?_⟩
      · intro e
        exact hne ((List.getElem_inj hnd).mp e)
      · simp only [Tr.deep]
        omega
      · rw [upd_same, c_ask]
      · exact (hta.st (hp8.stb (K := K) k8)).ex e9
      · exact htb.ex e9
def spShown (d : Nat) (K : PySem.W.Frag) : Sp := sp1 fun a H Q _ => ∃ (t : Tr) (x : Addr), a = .ref x ∧ TrAt H t x ∧ t.deep ≤ d ∧ d ≤ 100 ∧ t.text.length ≤ 10000 ∧ t.intOk ∧ t.sgOk ∧ ∀ H', Ex H H' → Q (.str (S t.text)) H'
theorem sc__law_shown : FnScope ["tree", "head"] ["tree"] (defScope s__law_shown) := ⟨rfl, rfl, rfl, by decide +kernel, rfl, by decide +kernel, by decide +kernel⟩
theorem ok__law_shown (z : Zk K mg base)  (c__law_shown : Cal P w K mg base "_law_shown" k (trLess (fun m => spShown m K) m)) : Cal P w K mg base "_law_shown" (k + 1) ((spShown m K)) := by
  obtain ⟨fd, F⟩ := z.d__law_shown
  refine cal_of F z.g__law_shown sc__law_shown (fun _ _ _ _ _ _ us hl => match us, hl with | [_], _ => rfl) (fun vs H Q E h => by match vs, h with | [_], _ => rfl) (fun cdv A outer s H vs Q E hr h => ?_)
  have nd := sc__law_shown.nd
  have hu : (cxOf (L2.CX P w) P w K mg base ["tree", "head"] "_law_shown" (defScope s__law_shown) (fAd K ("_law_shown", none)) cdv A outer s H E).A.units + 64 < cLine := hr.units
  have hu0 := hr.units0
  have hu1 := hu_of hr
  match vs, h with
  | [a0], h =>
  refine ⟨_, (pss_cons (ps_if (pt_cmpR (k_eqLeaf hr) (pv 0) (pe_tup (pa_cons pe_str pa_nil)) (nomark _)) (pss_one (ps_ret pe_str)) pss_nil)
      (pss_cons (ps_set (i := 1) nd rfl (Or.inl rfl) (pe_op op_add_str (pe_op op_add_str (pe_op op_add_str (pe_op op_add_str (pe_op op_add_str pe_str (pe_ix (k_ix_tup (K := K) rfl) (pv 0) pe_int fun _ _ => rfl)) pe_str) (pe_ix (k_ix_tup (K := K) rfl) (pv 0) pe_int fun _ _ => rfl)) pe_str) (pe_callTy call_str_int rfl z.b_str boot_str (pa_cons (pe_ix (k_ix_tup (K := K) rfl) (pv 0) pe_int fun _ _ => rfl) pa_nil))))
      (pss_one (ps_ret (pe_op op_add_str (pe_op op_add_str (pe_op op_add_str (pe_op op_add_str (pe_op op_add_str (pv 1) pe_str) (pe_fn c__law_shown hr (passD (E := E)) (pa_cons (pe_ix (k_ix_tup (K := K) rfl) (pv 0) pe_int fun _ _ => rfl) pa_nil) (by omega))) pe_str) (pe_fn c__law_shown hr (passD (E := E)) (pa_cons (pe_ix (k_ix_tup (K := K) rfl) (pv 0) pe_int fun _ _ => rfl) pa_nil) (by omega))) pe_str))))), ?_⟩
  obtain ⟨t, x, rfl, ht, hd, hd2, hl, hi, hs, hq⟩ := h
  simp [sDPut, tDGet, tDIn, tDNotIn, tRet, tRetN, tSeq, tIfS, tDrop, tNext, tNever, tBreak, tCont, tAsg, gName, gCons, gNil, gTup, tAndV, tOrV, tNotV, tAnd, tOr, tNot, tOp, tUn, tVar, tC, tB, tTest, tIf, tCons, tNil, tCB, tTup, tLst, tFld, sFld, sFldAug, rAdd, rSub, tSl, tPart, tNoPart, rI0, rI, rU, rEq, rNe, rSlS, rSlL, rIxL, rIxT, rIxS, tChain, tFn, tMt, tM1, tM0, tBM, rAppend, rIn, tIsN, tNotN, scal_ss, scal_ii, let_nil, let_one, fig_nil, fig_one, LenV_str, L2.start, cxOf, and_assoc, tJs, tFmt, put_at, lk_at, lk_script, lk_upcoming, lk_refuse, lk_skips, lk_expect, lk_word_of, lk_name_unlike, lk_number_to, lk_finish, sp0, sp1, sp2, sp3, sp4, sp5, -List.lookup_eq_none_iff]
  refine ⟨by decide, fun p hp => ?_⟩
  have e1 : Ex H (upd H p (.tup [.str (Str.ofString "leaf")])) := Ex.new hp
  refine ⟨x, p, t, rfl, rfl, ht.ex e1, by show upd H p _ p = some (.tup [.str (S (T "leaf"))]); rw [upd_same, c_leaf], hs, by omega, ?_⟩
  cases t with
  | leaf =>
    refine Or.inr ⟨rfl, ?_⟩
    rw [c_leaf]
    exact hq _ e1
  | ask one other b y n =>
    have ht1 := ht.ex e1
    obtain ⟨pa, qa, h1, hy, hn⟩ := ht1
    refine Or.inl ⟨by rw [decide_eq_false nofun], ?_⟩
    cases m with
    | zero => simp [Tr.deep] at hd
    | succ m =>
      have hdd : y.deep ≤ m ∧ n.deep ≤ m := by
        simp only [Tr.deep] at hd
        omega
      have l1 : (T " - ").length = 3 := rfl
      have l2 : (T " <= ").length = 4 := rfl
      have l3 : (T " ? ").length = 3 := rfl
      have l4 : (T " : ").length = 3 := rfl
      have hl2 : one.length + (3 + (other.length + (4 + ((numI b).length + (3 + (y.text.length + (3 + (n.text.length + 1)))))))) + 1 ≤ 10000 := by
        simpa [Tr.text, l1, l2, l3, l4] using hl
      have hb : b.natAbs.log2 < 1920 := by
        have h1 := hi.1
        by_cases h0 : b.natAbs = 0
        · rw [h0]; decide
        · exact (Nat.log2_lt h0).mpr (Nat.lt_of_le_of_lt h1 (Nat.lt_of_lt_of_le (by decide : 2000 < 2 ^ 11) (Nat.pow_le_pow_right (by decide) (by decide))))
      rw [c_lb, c_dash, c_le, c_q, c_col, c_rb]
      refine ⟨_, SqT.of h1, _, rfl, _, rfl, by simp only [S_len, sizeLine_eq, List.length_cons, List.length_nil]; omega, by simp only [S_app, S_len, sizeLine_eq, List.length_append, List.length_cons, List.length_nil, l1]; omega,
        _, SqT.of h1, _, rfl, _, rfl, by simp only [S_app, S_len, sizeLine_eq, List.length_append, List.length_cons, List.length_nil, l1]; omega, by simp only [S_app, S_len, sizeLine_eq, List.length_append, List.length_cons, List.length_nil, l1, l2]; omega,
        _, SqT.of h1, _, rfl, _, rfl, hb, by simp only [fmt_int, S_app, S_len, sizeLine_eq, List.length_append, List.length_cons, List.length_nil, l1, l2]; omega, by simp only [fmt_int, S_app, S_len, sizeLine_eq, List.length_append, List.length_cons, List.length_nil, l1, l2, l3]; omega,
        _, SqT.of h1, _, rfl, ?_⟩
      show spShown m K [.ref pa] _ _ E
      refine ⟨y, pa, rfl, hy, hdd.1, by omega, by omega, hi.2.1, hs.2.2.1, fun H3 e3 => ?_⟩
      simp only [fmt_int, S_app, S_len, sizeLine_eq, List.length_append, List.length_cons, List.length_nil, l1, l2, l3, l4]
      refine ⟨_, rfl, by rw [S_len]; omega, by simp only [S_app, S_len, List.length_append, List.length_cons, List.length_nil, l1, l2, l3]; omega, _, SqT.of (e3 _ _ h1), _, rfl, ?_⟩
      show spShown m K [.ref qa] _ _ E
      refine ⟨n, qa, rfl, hn.ex e3, hdd.2, by omega, by omega, hi.2.2, hs.2.2.2, fun H4 e4 => ⟨_, rfl, by simp only [S_app, S_len, List.length_append, List.length_cons, List.length_nil, l1, l2, l3, l4]; omega, by simp only [S_app, S_len, List.length_append, List.length_cons, List.length_nil, l1, l2, l3, l4]; omega, ?_⟩⟩
      simp only [S_app]
      have e : [91] ++ one ++ T " - " ++ other ++ T " <= " ++ numI b ++ T " ? " ++ y.text ++ T " : " ++ n.text ++ [93] = (Tr.ask one other b y n).text := by
        simp [Tr.text]
      rw [e]
      exact hq H4 (Ex.trans e1 (Ex.trans e3 e4))
end
theorem tree_all (z : Zk K mg base) : ∀ m : Nat, Cal P w K mg base "_law_tree" (3 + m) (spTree m) := by
  have dr := ok__law_draw (P := P) (w := w) z
  obtain ⟨fd, F⟩ := z.d__law_tree
  intro m
  induction m with
  | zero => exact ok__law_tree (m := 0) (k := 2) z dr (cal_bare F z.g__law_tree fun vs H Q E h => h) (by omega)
  | succ m ih => exact ok__law_tree (m := m + 1) (k := 3 + m) z dr ih (by omega)
theorem shown_all (z : Zk K mg base) : ∀ m : Nat, Cal P w K mg base "_law_shown" (1 + m) (spShown m K) := by
  obtain ⟨fd, F⟩ := z.d__law_shown
  intro m
  induction m with
  | zero => exact ok__law_shown (m := 0) (k := 0) z (cal_bare F z.g__law_shown fun vs H Q E h => h)
  | succ m ih => exact ok__law_shown (m := m + 1) (k := 1 + m) z ih
theorem text_all (z : Zk K mg base) : ∀ m : Nat, Cal P w K mg base "tree_text" (1 + m) (spText m K) := by
  obtain ⟨fd, F⟩ := z.d_tree_text
  intro m
  induction m with
  | zero => exact ok_tree_text (m := 0) (k := 0) z (cal_bare F z.g_tree_text fun vs H Q E h => h)
  | succ m ih => exact ok_tree_text (m := m + 1) (k := 1 + m) z ih
end
end Mp

set_option maxHeartbeats 8000000
/-! N2: the plain law of trees: written and read, spoiled, cut -/
namespace Mp
theorem begins_pre {words : List (List Nat)} {w f : List Nat} (hw : w ∈ words) (h : f <+: w) : begins words f = true := by
  unfold begins
  rw [List.any_eq_true]
  exact ⟨w, hw, by rw [beq_iff_eq]; exact (List.prefix_iff_eq_take.mp h).symm⟩
theorem begins_not {words : List (List Nat)} {f : List Nat} (h : ∀ w ∈ words, ¬ f <+: w) : begins words f = false := by
  unfold begins
  rw [List.any_eq_false]
  intro w hw e
  have := eq_of_beq e
  exact h w hw (List.prefix_iff_eq_take.mpr this.symm)
theorem wordGo_run {words : List (List Nat)} {w : List Nat} (hw : w ∈ words) {rest : List Nat} : ∀ (g f : List Nat), (f ++ g) <+: w → (∀ x q, rest = x :: q → begins words ((f ++ g) ++ [x]) = false) → wordGo words f (g ++ rest) = if f ++ g ∈ words then .ok (f ++ g) rest else .bad rest
  | [], f, h, hs => by
    rw [List.append_nil] at h hs ⊢
    rw [List.nil_append]
    cases rest with
    | nil => rw [wordGo]
    | cons x q => rw [wordGo, if_neg (by rw [hs x q rfl]; simp)]
  | x :: g, f, h, hs => by
    have e : f ++ x :: g = (f ++ [x]) ++ g := by simp
    have hp : f ++ [x] <+: w := by
      rw [e] at h
      exact (List.prefix_append _ _).trans h
    show wordGo words f (x :: (g ++ rest)) = _
    rw [wordGo, if_pos (begins_pre hw hp), wordGo_run hw g (f ++ [x]) (by rw [← e]; exact h) (by rw [← e]; exact hs), ← e]
/-- words of the scales: letters and at most one space -/
structure WsP (ws : List (List Nat)) : Prop where
  sg : ∀ w ∈ ws, ∀ x ∈ w, isLet x = true ∨ x = 32
  sp : ∀ w ∈ ws, ∀ v ∈ ws, ¬ (w ++ [32]) <+: v
theorem WsP.filter {ws : List (List Nat)} (h : WsP ws) (p : List Nat → Bool) : WsP (ws.filter p) :=
  ⟨fun w hw => h.sg w (List.mem_filter.mp hw).1, fun w hw v hv => h.sp w (List.mem_filter.mp hw).1 v (List.mem_filter.mp hv).1⟩
/-- what may stand where a text was spoiled or cut -/
def OddS (t : List Nat) : Prop := ∀ x q, t = x :: q → isLet x = false ∧ isFig x = false ∧ x ∉ ([32, 45, 60, 61, 63, 58, 91, 93] : List Nat)
theorem OddS.noFig {t : List Nat} (h : OddS t) : NoFig t := fun x q e => (h x q e).2.1
theorem OddS.stop {ws : List (List Nat)} (hw : WsP ws) {t f : List Nat} (h : OddS t) : ∀ x q, t = x :: q → begins ws (f ++ [x]) = false := fun x q e => begins_not fun w hm hp => by
  have h1 := h x q e
  have hx : x ∈ w := hp.subset (List.mem_append_right _ List.mem_cons_self)
  rcases hw.sg w hm x hx with h2 | h2
  · rw [h1.1] at h2; cases h2
  · exact h1.2.2 (by rw [h2]; simp)
theorem word_ok {ws : List (List Nat)} (hw : WsP ws) {w rest : List Nat} (hm : w ∈ ws) : wordGo ws [] (w ++ 32 :: rest) = .ok w (32 :: rest) := by
  have := wordGo_run hm (rest := 32 :: rest) w [] (by rw [List.nil_append]; exact List.prefix_rfl) (fun x q e => by
    cases e
    rw [List.nil_append]
    exact begins_not fun v hv => hw.sp w hm v hv)
  rw [this, List.nil_append, if_pos hm]
theorem cut_word {β : Type} {ws : List (List Nat)} (hw : WsP ws) {w b t : List Nat} {i : Nat} {f : List Nat → List Nat → Res β} {P : Res β → Prop} (hm : w ∈ ws) (ht : OddS t) (hbad : P (.bad t)) (hpart : ∀ v, P (f v t)) (h : w.length < i → P (f w ((32 :: b).take (i - w.length) ++ t))) : P ((wordGo ws [] ((w ++ 32 :: b).take i ++ t)).bind f) := by
  rw [take_app]
  by_cases hi : i ≤ w.length
  · rw [if_pos hi, wordGo_run hm (w.take i) [] (by rw [List.nil_append]; exact List.take_prefix _ _) (OddS.stop hw ht)]
    split
    · exact hpart _
    · exact hbad
  · rw [if_neg hi, List.append_assoc]
    obtain ⟨j, hj⟩ : ∃ j, i - w.length = j + 1 := ⟨i - w.length - 1, by omega⟩
    have h2 := h (by omega)
    rw [hj, List.take_succ_cons, List.cons_append] at h2 ⊢
    rw [word_ok hw hm]
    exact h2
/-! ### whole numbers -/
theorem numL_head (n : Nat) : ∃ x q, numL n = x :: q ∧ x ≠ 45 := by
  cases e : numL n with
  | nil => exact absurd e (TL.numL_ne n)
  | cons x q =>
    have := TL.numL_digits n x (by rw [show TL.numL n = numL n from rfl, e]; simp)
    exact ⟨x, q, rfl, by omega⟩
theorem intGo_pos {most : Nat} {l : List Nat} (h : ∀ q, l ≠ 45 :: q) : intGo most l = (numGo 0 most 0 false l).bind fun n r => .ok ((n : Nat) : Int) r := by
  unfold intGo
  split
  · exact absurd rfl (h _)
  · rfl
theorem intGo_neg {most : Nat} {r : List Nat} : intGo most (45 :: r) = (numGo 1 most 0 false r).bind fun n r => .ok (-((n : Nat) : Int)) r := rfl
theorem int_ok {b : Int} {rest : List Nat} (hb : b.natAbs ≤ 2000) : intGo 2000 (numI b ++ 32 :: rest) = .ok b (32 :: rest) := by
  have hnf : NoFig (32 :: rest) := fun x q e => by cases e; rfl
  cases b with
  | ofNat n =>
    obtain ⟨x, q, e, hx⟩ := numL_head n
    show intGo 2000 (numL n ++ 32 :: rest) = _
    rw [intGo_pos (fun q2 e2 => by rw [e] at e2; cases e2; exact hx rfl), numGo_num (by omega) _ _ (by simpa using hb) (Or.inl rfl), numGo_stop hnf]
    rfl
  | negSucc m =>
    show intGo 2000 (45 :: (numL (m + 1) ++ 32 :: rest)) = _
    rw [intGo_neg, numGo_num (by omega) _ _ (by simpa using hb) (Or.inr (by omega)), numGo_stop hnf]
    rfl
theorem cut_int {β : Type} {b : Int} {d t : List Nat} {i : Nat} {f : Int → List Nat → Res β} {P : Res β → Prop} (hb : b.natAbs ≤ 2000) (ht : OddS t) (hbad : P (.bad t)) (hpart : ∀ v, P (f v t)) (h : (numI b).length < i → P (f b ((32 :: d).take (i - (numI b).length) ++ t))) :
    P ((intGo 2000 ((numI b ++ 32 :: d).take i ++ t)).bind f) := by
  by_cases hi : i ≤ (numI b).length
  · rw [take_app, if_pos hi]
    have tne : ∀ q, t ≠ 45 :: q := fun q e => (ht _ _ e).2.2 (by simp)
    cases b with
    | ofNat n =>
      show P ((intGo 2000 ((numL n).take i ++ t)).bind f)
      by_cases h0 : i = 0
      · subst h0
        rw [List.take_zero, List.nil_append, intGo_pos tne, numGo_none ht.noFig]
        exact hbad
      · obtain ⟨v, hv, e, _⟩ := numL_take n i (by omega)
        obtain ⟨x, q, e2, hx⟩ := numL_head v
        rw [e, intGo_pos (fun q2 e3 => by rw [e2] at e3; cases e3; exact hx rfl), numGo_num (by omega) _ _ (Nat.le_trans hv (show n ≤ 2000 by simpa using hb)) (Or.inl rfl), numGo_stop ht.noFig]
        exact hpart _
    | negSucc m =>
      show P ((intGo 2000 ((45 :: numL (m + 1)).take i ++ t)).bind f)
      cases i with
      | zero =>
        rw [List.take_zero, List.nil_append, intGo_pos tne, numGo_none ht.noFig]
        exact hbad
      | succ j =>
        rw [List.take_succ_cons, List.cons_append, intGo_neg]
        by_cases h0 : j = 0
        · subst h0
          rw [List.take_zero, List.nil_append, numGo_none ht.noFig]
          exact hbad
        · obtain ⟨v, hv, e, hv1⟩ := numL_take (m + 1) j (by omega)
          rw [e, numGo_num (by omega) _ _ (Nat.le_trans hv (show m + 1 ≤ 2000 by simpa using hb)) (Or.inr (hv1 (by omega))), numGo_stop ht.noFig]
          exact hpart _
  · rw [take_app, if_neg hi, List.append_assoc]
    obtain ⟨j, hj⟩ : ∃ j, i - (numI b).length = j + 1 := ⟨i - (numI b).length - 1, by omega⟩
    have h2 := h (by omega)
    rw [hj, List.take_succ_cons, List.cons_append] at h2 ⊢
    rw [int_ok hb]
    exact h2
/-! ### trees -/
theorem leaf_ok (r : List Nat) : readLeaf (T "leaf" ++ r) = .ok .leaf r := by
  unfold readLeaf
  rw [expects_app]
  rfl
theorem tr_leaf (ws : List (List Nat)) (m : Nat) (r : List Nat) : readTr ws m (T "leaf" ++ r) = .ok .leaf r := by
  cases m with
  | zero => exact leaf_ok r
  | succ m =>
    show readTr ws (m + 1) (108 :: (T "eaf" ++ r)) = _
    show (if (108 : Nat) = 91 then readAsk (readTr ws m) ws (T "eaf" ++ r) else readLeaf (108 :: (T "eaf" ++ r))) = _
    rw [if_neg (by decide)]
    exact leaf_ok r
theorem exp_dash (r : List Nat) : expects (T " - ") (32 :: 45 :: 32 :: r) = .ok () r := expects_app (T " - ") r
theorem exp_le (r : List Nat) : expects (T " <= ") (32 :: 60 :: 61 :: 32 :: r) = .ok () r := expects_app (T " <= ") r
theorem exp_q (r : List Nat) : expects (T " ? ") (32 :: 63 :: 32 :: r) = .ok () r := expects_app (T " ? ") r
theorem tr_ask (ws : List (List Nat)) (m : Nat) (r : List Nat) : readTr ws (m + 1) (91 :: r) = readAsk (readTr ws m) ws r := by
  show (if (91 : Nat) = 91 then readAsk (readTr ws m) ws r else readLeaf (91 :: r)) = _
  rw [if_pos rfl]
theorem tree_ok {ws : List (List Nat)} (hw : WsP ws) : ∀ (t : Tr) (m : Nat) (rest : List Nat), t.deep ≤ m → TrOk ws t → readTr ws m (t.text ++ rest) = .ok t rest
  | .leaf, m, rest, _, _ => tr_leaf ws m rest
  | .ask one other b y n, 0, rest, hd, _ => by simp [Tr.deep] at hd
  | .ask one other b y n, m + 1, rest, hd, ho => by
    obtain ⟨h1, h2, h3, h4, h5, h6⟩ := ho
    have hdd : y.deep ≤ m ∧ n.deep ≤ m := by
      simp only [Tr.deep] at hd
      omega
    have hf : other ∈ ws.filter fun x => x != one := List.mem_filter.mpr ⟨h2, by simpa using h3⟩
    have e : (Tr.ask one other b y n).text ++ rest = 91 :: (one ++ 32 :: (45 :: 32 :: (other ++ 32 :: (60 :: 61 :: 32 :: (numI b ++ 32 :: (63 :: 32 :: (y.text ++ (T " : " ++ (n.text ++ ([93] ++ rest)))))))))) := by
      simp [Tr.text]
      rfl
    rw [e]
    rw [tr_ask]
    unfold readAsk
    rw [word_ok hw h1, Res.ok_bind, exp_dash, Res.ok_bind, word_ok (hw.filter _) hf, Res.ok_bind, exp_le, Res.ok_bind, int_ok h4, Res.ok_bind, exp_q, Res.ok_bind, tree_ok hw y m _ hdd.1 h5, Res.ok_bind, expects_app, Res.ok_bind, tree_ok hw n m _ hdd.2 h6, Res.ok_bind, expects_app]
    rfl
theorem oddS_not {t : List Nat} (h : OddS t) {w : List Nat} (hw : ∀ x ∈ w, isLet x = true ∨ x ∈ ([32, 45, 60, 61, 63, 58, 91, 93] : List Nat)) : ∀ x q, t = x :: q → x ∉ w := fun x q e hm => by
  have h1 := h x q e
  rcases hw x hm with h2 | h2
  · rw [h1.1] at h2; cases h2
  · exact h1.2.2 h2
theorem cut_tree {β : Type} {rd : List Nat → Res Tr} {y : Tr} {b u : List Nat} {j : Nat} {f : Tr → List Nat → Res β} {P : Res β → Prop} (hok : ∀ rest, rd (y.text ++ rest) = .ok y rest) (hcut : ∀ i, i < y.text.length → rd (y.text.take i ++ u) = .bad u) (hbad : P (.bad u)) (h : y.text.length ≤ j → P (f y (b.take (j - y.text.length) ++ u))) : P ((rd ((y.text ++ b).take j ++ u)).bind f) := by
  rw [take_app]
  by_cases hj : j < y.text.length
  · rw [if_pos (by omega), hcut j hj]
    exact hbad
  · by_cases he : j = y.text.length
    · have h2 := h (by omega)
      rw [he, Nat.sub_self, List.take_zero, List.nil_append] at h2
      rw [if_pos (by omega), he, List.take_length, hok]
      exact h2
    · rw [if_neg (by omega), List.append_assoc, hok]
      exact h (by omega)
theorem tree_cut {ws : List (List Nat)} (hw : WsP ws) {u : List Nat} (hu : OddS u) : ∀ (t : Tr) (m i : Nat), t.deep ≤ m → TrOk ws t → i < t.text.length → readTr ws m (t.text.take i ++ u) = .bad u
  | .leaf, m, i, _, _, hi => by
    have hl : readLeaf ((T "leaf").take i ++ u) = .bad u := by
      unfold readLeaf
      rw [expects_cut (T "leaf") i u hi (oddS_not hu (by decide))]
      rfl
    show readTr ws m ((T "leaf").take i ++ u) = _
    cases m with
    | zero => exact hl
    | succ m =>
      cases e : (T "leaf").take i ++ u with
      | nil => rw [e] at hl; exact hl
      | cons x r =>
        rw [e] at hl
        show (if x = 91 then readAsk (readTr ws m) ws r else readLeaf (x :: r)) = _
        rw [if_neg, hl]
        intro hx
        subst hx
        cases i with
        | zero =>
          rw [List.take_zero, List.nil_append] at e
          exact (hu _ _ e).2.2 (by simp)
        | succ i => cases e
  | .ask one other b y n, 0, i, hd, _, _ => by simp [Tr.deep] at hd
  | .ask one other b y n, m + 1, 0, _, _, _ => by
    rw [List.take_zero, List.nil_append]
    cases u with
    | nil => rfl
    | cons x r =>
      show (if x = 91 then readAsk (readTr ws m) ws r else readLeaf (x :: r)) = _
      rw [if_neg (fun hx => (hu _ _ rfl).2.2 (by rw [hx]; simp))]
      unfold readLeaf
      have := expects_cut (T "leaf") 0 (x :: r) (by decide) (oddS_not hu (by decide))
      rw [List.take_zero, List.nil_append] at this
      rw [this]
      rfl
  | .ask one other b y n, m + 1, i + 1, hd, ho, hi => by
    obtain ⟨h1, h2, h3, h4, h5, h6⟩ := ho
    have hdd : y.deep ≤ m ∧ n.deep ≤ m := by
      simp only [Tr.deep] at hd
      omega
    have hf : other ∈ ws.filter fun x => x != one := List.mem_filter.mpr ⟨h2, by simpa using h3⟩
    have bad : ∀ (w : List Nat) {β : Type} (f : Unit → List Nat → Res β), w ≠ [] → (∀ x ∈ w, isLet x = true ∨ x ∈ ([32, 45, 60, 61, 63, 58, 91, 93] : List Nat)) → (expects w u).bind f = .bad u := fun w β f h0 hs => by
      have := expects_cut w 0 u (List.length_pos_iff.mpr h0) (oddS_not hu hs)
      rw [List.take_zero, List.nil_append] at this
      rw [this]
      rfl
    have e : (Tr.ask one other b y n).text = 91 :: (one ++ 32 :: (45 :: 32 :: (other ++ 32 :: (60 :: 61 :: 32 :: (numI b ++ 32 :: (63 :: 32 :: (y.text ++ (T " : " ++ (n.text ++ [93]))))))))) := by
      simp [Tr.text]
      rfl
    have hi2 : i < (one ++ 32 :: (45 :: 32 :: (other ++ 32 :: (60 :: 61 :: 32 :: (numI b ++ 32 :: (63 :: 32 :: (y.text ++ (T " : " ++ (n.text ++ [93]))))))))).length := by
      rw [e, List.length_cons] at hi
      omega
    rw [e, List.take_succ_cons, List.cons_append]
    rw [tr_ask]
    unfold readAsk
    refine cut_word (P := fun x => x = Res.bad u) hw h1 hu rfl (fun v => bad _ _ (by decide) (by decide)) fun j1 => ?_
    refine cut_expects (w := T " - ") (P := fun x => x = Res.bad u) (oddS_not hu (by decide)) rfl fun j2 => ?_
    refine cut_word (P := fun x => x = Res.bad u) (hw.filter _) hf hu rfl (fun v => bad _ _ (by decide) (by decide)) fun j3 => ?_
    refine cut_expects (w := T " <= ") (P := fun x => x = Res.bad u) (oddS_not hu (by decide)) rfl fun j4 => ?_
    refine cut_int (P := fun x => x = Res.bad u) h4 hu rfl (fun v => bad _ _ (by decide) (by decide)) fun j5 => ?_
    refine cut_expects (w := T " ? ") (P := fun x => x = Res.bad u) (oddS_not hu (by decide)) rfl fun j6 => ?_
    refine cut_tree (P := fun x => x = Res.bad u) (y := y) (fun rest => tree_ok hw y m rest hdd.1 h5) (fun i => tree_cut hw hu y m i hdd.1 h5) rfl fun j7 => ?_
    refine cut_expects (w := T " : ") (P := fun x => x = Res.bad u) (oddS_not hu (by decide)) rfl fun j8 => ?_
    refine cut_tree (P := fun x => x = Res.bad u) (y := n) (fun rest => tree_ok hw n m rest hdd.2 h6) (fun i => tree_cut hw hu n m i hdd.2 h6) rfl fun j9 => ?_
    have l1 : (T " - ").length = 3 := rfl
    have l2 : (T " <= ").length = 4 := rfl
    have l3 : (T " ? ").length = 3 := rfl
    have l4 : (T " : ").length = 3 := rfl
    simp only [List.length_append, List.length_cons, List.length_nil, l4] at hi2
    simp only [l1, l2, l3, l4] at j2 j4 j6 j7 j8 j9 ⊢
    have h0 : i - one.length - 3 - other.length - 4 - (numI b).length - 3 - y.text.length - 3 - n.text.length = 0 := by omega
    rw [h0, List.take_zero, List.nil_append]
    exact bad [93] _ (by decide) (by decide)
end Mp

set_option maxHeartbeats 8000000
/-! N3: the scales' words; trees read whole -/
namespace Mp
open PySem
theorem mem_words {ns : List (List Nat)} {w : List Nat} (h : w ∈ treeWords ns) : w = T "byte" ∨ ∃ n ∈ ns, w = T "size " ++ n ∨ w = T "align " ++ n := by
  unfold treeWords scalesOf at h
  rcases List.mem_cons.mp h with h | h
  · exact Or.inl h
  · obtain ⟨n, hn, h⟩ := List.mem_flatMap.mp h
    simp at h
    exact Or.inr ⟨n, hn, h⟩
theorem count_let : ∀ {n : List Nat}, n.all isLet = true → n.count 32 = 0
  | [], _ => rfl
  | x :: n, h => by
    rw [List.all_cons, Bool.and_eq_true] at h
    have hx : (x == 32) = false := by
      rw [beq_eq_false_iff_ne]
      intro e
      rw [e] at h
      exact absurd h.1 (by decide)
    rw [List.count_cons, count_let h.2, hx]
    rfl
theorem ws_words {ns : List (List Nat)} (hO : KsOk ns) : WsP (treeWords ns) := by
  have hlet : ∀ n ∈ ns, n.all isLet = true := fun n hn => nameOk_let (hO.ok n hn)
  have hsz : ∀ x ∈ T "size ", isLet x = true ∨ x = 32 := by decide
  have hal : ∀ x ∈ T "align ", isLet x = true ∨ x = 32 := by decide
  refine ⟨fun w hw x hx => ?_, fun w hw v hv hp => ?_⟩
  · rcases mem_words hw with rfl | ⟨n, hn, rfl | rfl⟩
    · exact Or.inl (by revert x; decide)
    · rcases List.mem_append.mp hx with hx | hx
      · exact hsz x hx
      · exact Or.inl (List.all_eq_true.mp (hlet n hn) x hx)
    · rcases List.mem_append.mp hx with hx | hx
      · exact hal x hx
      · exact Or.inl (List.all_eq_true.mp (hlet n hn) x hx)
  · have cv : v.count 32 ≤ 1 := by
      rcases mem_words hv with rfl | ⟨n, hn, rfl | rfl⟩
      · decide
      · rw [List.count_append, count_let (hlet n hn)]; decide
      · rw [List.count_append, count_let (hlet n hn)]; decide
    have cw : (w ++ [32]).count 32 ≤ v.count 32 := hp.sublist.count_le 32
    rcases mem_words hw with rfl | ⟨n, hn, rfl | rfl⟩
    · rcases mem_words hv with rfl | ⟨n, hn, rfl | rfl⟩
      · exact absurd hp (by decide)
      · obtain ⟨s, e⟩ := hp; cases e
      · obtain ⟨s, e⟩ := hp; cases e
    · rw [List.count_append, List.count_append] at cw
      have : (T "size ").count 32 = 1 := rfl
      have : ([32] : List Nat).count 32 = 1 := rfl
      omega
    · rw [List.count_append, List.count_append] at cw
      have : (T "align ").count 32 = 1 := rfl
      have : ([32] : List Nat).count 32 = 1 := rfl
      omega
theorem nd_scales : ∀ {ns : List (List Nat)}, ns.Nodup → (scalesOf ns).Nodup
  | [], _ => List.nodup_nil
  | n :: ns, h => by
    obtain ⟨h1, h2⟩ := List.nodup_cons.mp h
    have ih := nd_scales h2
    have hs : ∀ m, T "size " ++ m ∈ scalesOf ns → m ∈ ns := fun m hm => by
      unfold scalesOf at hm
      obtain ⟨k, hk, hm⟩ := List.mem_flatMap.mp hm
      simp only [List.mem_cons, List.not_mem_nil, or_false] at hm
      rcases hm with hm | hm
      · rw [List.append_cancel_left hm]; exact hk
      · cases hm
    have ha : ∀ m, T "align " ++ m ∈ scalesOf ns → m ∈ ns := fun m hm => by
      unfold scalesOf at hm
      obtain ⟨k, hk, hm⟩ := List.mem_flatMap.mp hm
      simp only [List.mem_cons, List.not_mem_nil, or_false] at hm
      rcases hm with hm | hm
      · cases hm
      · rw [List.append_cancel_left hm]; exact hk
    show ((T "size " ++ n) :: (T "align " ++ n) :: scalesOf ns).Nodup
    refine List.nodup_cons.mpr ⟨fun hm => ?_, List.nodup_cons.mpr ⟨fun hm => h1 (ha n hm), ih⟩⟩
    rcases List.mem_cons.mp hm with hm | hm
    · cases hm
    · exact h1 (hs n hm)
theorem nd_words {ns : List (List Nat)} (hO : KsOk ns) : (treeWords ns).Nodup := by
  refine List.nodup_cons.mpr ⟨fun hm => ?_, nd_scales hO.nd⟩
  unfold scalesOf at hm
  obtain ⟨n, hn, hm⟩ := List.mem_flatMap.mp hm
  simp only [List.mem_cons, List.not_mem_nil, or_false] at hm
  rcases hm with hm | hm <;> cases hm
theorem rt_ok {ns : List (List Nat)} (hO : KsOk ns) {t : Tr} (hd : t.deep ≤ 100) (ho : TrOk (treeWords ns) t) : readTree (treeWords ns) t.text = .ok t [] := by
  unfold readTree
  have h := tree_ok (ws_words hO) t 100 [] hd ho
  rw [List.append_nil] at h
  rw [h]
  rfl
theorem rt_more {ns : List (List Nat)} (hO : KsOk ns) {t : Tr} {u : List Nat} (hd : t.deep ≤ 100) (ho : TrOk (treeWords ns) t) (h0 : u ≠ []) : readTree (treeWords ns) (t.text ++ u) = .bad u := by
  unfold readTree
  rw [tree_ok (ws_words hO) t 100 u hd ho]
  cases u with
  | nil => exact absurd rfl h0
  | cons x u => rfl
theorem rt_cut {ns : List (List Nat)} (hO : KsOk ns) {t : Tr} {u : List Nat} {i : Nat} (hd : t.deep ≤ 100) (ho : TrOk (treeWords ns) t) (hu : OddS u) (hi : i < t.text.length) : readTree (treeWords ns) (t.text.take i ++ u) = .bad u := by
  unfold readTree
  rw [tree_cut (ws_words hO) hu t 100 i hd ho hi]
  rfl
theorem ok_int {ws : List (List Nat)} : ∀ {t : Tr}, TrOk ws t → t.intOk
  | .leaf, _ => trivial
  | .ask _ _ _ _ _, h => ⟨h.2.2.2.1, ok_int h.2.2.2.2.1, ok_int h.2.2.2.2.2⟩
theorem word_sg {ns : List (List Nat)} (hO : KsOk ns) {w : List Nat} (hw : w ∈ treeWords ns) : PyData.strOk (S w) = true := by
  have h := (ws_words hO).sg w hw
  unfold PyData.strOk
  rw [Array.all_eq_true']
  intro x hx
  have hx : x ∈ w := by simpa [S] using hx
  rcases h x hx with h | h
  · unfold isLet at h
    simp at h ⊢
    omega
  · subst h
    decide
theorem ok_sg {ns : List (List Nat)} (hO : KsOk ns) : ∀ {t : Tr}, TrOk (treeWords ns) t → t.sgOk
  | .leaf, _ => trivial
  | .ask _ _ _ _ _, h => ⟨word_sg hO h.1, word_sg hO h.2.1, ok_sg hO h.2.2.2.2.1, ok_sg hO h.2.2.2.2.2⟩
end Mp

set_option maxHeartbeats 8000000
/-! N4: the table of wrong texts of machines, plain -/
namespace Mp
/-- w is refused at n -/
def BadM (ns : List (List Nat)) (w : List Nat) (n : Nat) : Prop := ∃ r, readMach ns w = .bad r ∧ w.length - r.length = n
def expTail (r : List Nat) : Res (Nat × Nat) := (numGo 0 1000 0 false r).bind fun s r => (expects [32] r).bind fun _ r => (numGo 0 s 0 false r).bind fun a r => .ok (s, a) r
theorem mach_pre {f : List Nat} {ns : List (List Nat)} {X : List Nat} : readMach (f :: ns) (f ++ 32 :: X) = ((expTail X).bind fun p r => (readExps ns true r).bind fun ps r => .ok (p :: ps) r).bind fun ps r => match r with
    | [] => .ok ps []
    | _ => .bad r := by
  unfold readMach
  rw [readExps]
  show (Res.bind ((expPart f (f ++ 32 :: X)).bind _) _) = _
  unfold expPart
  have e : f ++ 32 :: X = (f ++ [32]) ++ X := by simp
  rw [e, expects_app]
  rfl
theorem row_in {f X r : List Nat} {ns : List (List Nat)} {n : Nat} (h : expTail X = .bad r) (hl : r.length ≤ X.length) (hn : X.length - r.length + 1 = n) : BadM (f :: ns) (f ++ 32 :: X) (f.length + n) := by
  refine ⟨r, ?_, ?_⟩
  · rw [mach_pre, h]
    rfl
  · simp
    omega
theorem row_on {f X r : List Nat} {ns : List (List Nat)} {p : Nat × Nat} {n : Nat} (h : expTail X = .ok p r) (h0 : r ≠ []) (h1 : expects [44, 32] r = .bad r) (hl : r.length ≤ X.length) (hn : X.length - r.length + 1 = n) : BadM (f :: ns) (f ++ 32 :: X) (f.length + n) := by
  refine ⟨r, ?_, ?_⟩
  · rw [mach_pre, h, Res.ok_bind]
    cases ns with
    | nil =>
      show (match r with | [] => _ | _ => _) = _
      cases r with
      | nil => exact absurd rfl h0
      | cons x r => rfl
    | cons m ns =>
      rw [readExps, if_pos rfl, h1]
      rfl
  · simp
    omega
theorem row_two {f m X r r2 : List Nat} {ns : List (List Nat)} {p : Nat × Nat} {n : Nat} (h : expTail X = .ok p r) (h1 : expects [44, 32] r = .bad r2) (hl : r2.length ≤ X.length) (hn : X.length - r2.length + 1 = n) : BadM (f :: m :: ns) (f ++ 32 :: X) (f.length + n) := by
  refine ⟨r2, ?_, ?_⟩
  · rw [mach_pre, h, Res.ok_bind, readExps, if_pos rfl, h1]
    rfl
  · simp
    omega
theorem row_self {f : List Nat} {ns : List (List Nat)} : BadM (f :: ns) f f.length := by
  refine ⟨[], ?_, by simp⟩
  unfold readMach
  rw [readExps]
  show (Res.bind ((expPart f f).bind _) _) = _
  unfold expPart
  have h := expects_cut (f ++ [32]) f.length [] (by simp) (fun x q e => by cases e)
  rw [List.take_left, List.append_nil] at h
  rw [h]
  rfl
theorem row_off {f t : List Nat} {ns : List (List Nat)} (hf : f ≠ []) (ht : ∀ x q, t = x :: q → x ∉ f ++ [32] ∨ f.head? ≠ some x) : BadM (f :: ns) t 0 := by
  obtain ⟨y, g, rfl⟩ : ∃ y g, f = y :: g := by
    cases f with
    | nil => exact absurd rfl hf
    | cons y g => exact ⟨y, g, rfl⟩
  refine ⟨t, ?_, by simp⟩
  unfold readMach
  rw [readExps]
  show (Res.bind ((expPart (y :: g) t).bind _) _) = _
  unfold expPart
  have h : expects ((y :: g) ++ [32]) t = .bad t := by
    show (expect y t).bind _ = _
    cases t with
    | nil => rfl
    | cons x q =>
      rw [expect, if_neg, Res.bind]
      intro e
      rcases ht x q rfl with h | h
      · exact h (by rw [e]; simp)
      · exact h (by rw [e]; rfl)
  rw [h]
  rfl
/-- the rows: what is wrong, where -/
theorem wrong_rows {f : List Nat} {ns : List (List Nat)} : BadM (f :: ns) (f ++ T " 2 3") (f.length + 3) ∧ BadM (f :: ns) (f ++ T " 1001 0") (f.length + 4) ∧ BadM (f :: ns) (f ++ T " 01 0") (f.length + 2) ∧ BadM (f :: ns) f f.length ∧
    BadM (f :: ns) (f ++ T " 7 8") (f.length + 3) ∧ BadM (f :: ns) (f ++ T " 12 13") (f.length + 5) ∧ BadM (f :: ns) (f ++ T "  1 0") (f.length + 1) ∧ BadM (f :: ns) (f ++ T " -1 0") (f.length + 1) :=
  ⟨row_in (X := T "2 3") (r := T "3") rfl (by decide) rfl, row_in (X := T "1001 0") (r := T "1 0") rfl (by decide) rfl, row_in (X := T "01 0") (r := T "1 0") rfl (by decide) rfl, row_self,
    row_in (X := T "7 8") (r := T "8") rfl (by decide) rfl, row_on (X := T "12 13") (r := T "3") (p := (12, 1)) rfl (by decide) rfl (by decide) rfl, row_in (X := T " 1 0") (r := T " 1 0") rfl (by decide) rfl, row_in (X := T "-1 0") (r := T "-1 0") rfl (by decide) rfl⟩
theorem wrong_two {f m : List Nat} {ns : List (List Nat)} : BadM (f :: m :: ns) (f ++ T " 1 0") (f.length + 4) ∧ BadM (f :: m :: ns) (f ++ T " 1 0,") (f.length + 5) ∧ BadM (f :: m :: ns) (f ++ (T " 1 0 " ++ m)) (f.length + 4) :=
  ⟨row_two (X := T "1 0") (r := []) (r2 := []) (p := (1, 0)) rfl rfl (by decide) rfl, row_two (X := T "1 0,") (r := T ",") (r2 := []) (p := (1, 0)) rfl rfl (by decide) rfl,
    row_two (X := T "1 0 " ++ m) (r := 32 :: m) (r2 := 32 :: m) (p := (1, 0)) rfl rfl (by simp [show (T "1 0 ").length = 4 from rfl]; omega) (by simp [show (T "1 0 ").length = 4 from rfl]; omega)⟩
theorem wrong_off {f : List Nat} {ns : List (List Nat)} (hf : nameOk f = true) : BadM (f :: ns) [] 0 ∧ BadM (f :: ns) (32 :: f) 0 := by
  have hl := nameOk_let hf
  have h1 := (nameOk_le hf).1
  have h0 : f ≠ [] := fun e => by rw [e] at h1; simp at h1
  refine ⟨row_off h0 fun x q e => (by cases e), row_off h0 fun x q e => Or.inr ?_⟩
  cases e
  intro e2
  have := List.mem_of_head? e2
  have h3 := List.all_eq_true.mp hl 32 this
  exact absurd h3 (by decide)
end Mp

set_option maxHeartbeats 8000000
/-! N5: the table of wrong texts of trees, plain -/
namespace Mp
/-- w is refused at n -/
def BadTr (ns : List (List Nat)) (w : List Nat) (n : Nat) : Prop := ∃ r, readTree (treeWords ns) w = .bad r ∧ w.length - r.length = n
theorem badTr_of {ns : List (List Nat)} {w r : List Nat} (h : readTr (treeWords ns) 100 w = .bad r) : BadTr ns w (w.length - r.length) := by
  refine ⟨r, ?_, rfl⟩
  unfold readTree
  rw [h]
  rfl
theorem byte_in (ns : List (List Nat)) : T "byte" ∈ treeWords ns := List.mem_cons_self
theorem begins_l {ns : List (List Nat)} {x : Nat} (hx : x ≠ 98 ∧ x ≠ 115 ∧ x ≠ 97) (p : List Nat → Bool) : begins ((treeWords ns).filter p) [x] = false := begins_not fun w hw hp => by
  rcases mem_words (List.mem_filter.mp hw).1 with rfl | ⟨n, hn, rfl | rfl⟩
  · obtain ⟨s, e⟩ := hp; cases e; exact hx.1 rfl
  · obtain ⟨s, e⟩ := hp; cases e; exact hx.2.1 rfl
  · obtain ⟨s, e⟩ := hp; cases e; exact hx.2.2 rfl
theorem nil_not {ns : List (List Nat)} (p : List Nat → Bool) : [] ∉ (treeWords ns).filter p := fun h => by
  rcases mem_words (List.mem_filter.mp h).1 with e | ⟨n, hn, e | e⟩ <;> cases e
theorem filt_true (l : List (List Nat)) : l.filter (fun _ => true) = l := by simp
theorem rows_const {ns : List (List Nat)} (hO : KsOk ns) : BadTr ns [] 0 ∧ BadTr ns (T "leaf ") 4 ∧ BadTr ns (T "lea") 3 ∧ BadTr ns (T "[byte - byte <= 0 ? leaf : leaf]") 8 ∧ BadTr ns (T "[leaf]") 1 ∧ BadTr ns (T "[byte") 5 := by
  have hw := ws_words hO
  refine ⟨⟨[], rfl, rfl⟩, ⟨[32], ?_, rfl⟩, ⟨[], rfl, rfl⟩, ?_, ?_, ?_⟩
  · unfold readTree
    have := tr_leaf (treeWords ns) 100 [32]
    rw [show T "leaf " = T "leaf" ++ [32] from rfl, this]
    rfl
  · have h : readTr (treeWords ns) 100 (T "[byte - byte <= 0 ? leaf : leaf]") = .bad (T "byte <= 0 ? leaf : leaf]") := by
      rw [show T "[byte - byte <= 0 ? leaf : leaf]" = 91 :: (T "byte" ++ 32 :: (45 :: 32 :: T "byte <= 0 ? leaf : leaf]")) from rfl, tr_ask]
      unfold readAsk
      rw [word_ok hw (byte_in ns), Res.ok_bind, exp_dash, Res.ok_bind]
      have hb : begins ((treeWords ns).filter fun x => x != T "byte") [98] = false := begins_not fun w hw hp => by
        obtain ⟨h1, h2⟩ := List.mem_filter.mp hw
        rcases mem_words h1 with rfl | ⟨n, hn, rfl | rfl⟩
        · simp at h2
        · obtain ⟨s, e⟩ := hp; cases e
        · obtain ⟨s, e⟩ := hp; cases e
      show (wordGo _ [] (98 :: T "yte <= 0 ? leaf : leaf]")).bind _ = _
      rw [wordGo, List.nil_append, if_neg (by rw [hb]; simp), if_neg (nil_not _)]
      rfl
    exact badTr_of h
  · have h : readTr (treeWords ns) 100 (T "[leaf]") = .bad (T "leaf]") := by
      rw [show T "[leaf]" = 91 :: 108 :: T "eaf]" from rfl, tr_ask]
      unfold readAsk
      have hb := begins_l (ns := ns) (x := 108) (by decide) (fun _ => true)
      have h0 := nil_not (ns := ns) (fun _ => true)
      rw [filt_true] at hb h0
      rw [wordGo, List.nil_append, if_neg (by rw [hb]; simp), if_neg h0]
      rfl
    exact badTr_of h
  · have h : readTr (treeWords ns) 100 (T "[byte") = .bad [] := by
      rw [show T "[byte" = 91 :: (T "byte" ++ []) from rfl, tr_ask]
      unfold readAsk
      rw [wordGo_run (byte_in ns) (T "byte") [] List.prefix_rfl (fun x q e => by cases e), List.nil_append, if_pos (byte_in ns)]
      rfl
    exact badTr_of h
def headW (f : List Nat) : List Nat := T "[byte - size " ++ (f ++ T " <= ")
/-- what follows such a head -/
def tailGo (ws : List (List Nat)) (r : List Nat) : Res Unit := (intGo 2000 r).bind fun _ r => (expects (T " ? ") r).bind fun _ r => (readTr ws 99 r).bind fun _ r => (expects (T " : ") r).bind fun _ r => (readTr ws 99 r).bind fun _ r => (expects [93] r).bind fun _ r => .ok () r
theorem head_go {f : List Nat} {ms : List (List Nat)} (hO : KsOk (f :: ms)) {X r : List Nat} (h : tailGo (treeWords (f :: ms)) X = .bad r) : readTr (treeWords (f :: ms)) 100 (headW f ++ X) = .bad r := by
  have hw := ws_words hO
  have hs : T "size " ++ f ∈ (treeWords (f :: ms)).filter fun x => x != T "byte" := List.mem_filter.mpr ⟨by unfold treeWords scalesOf; simp, bne_iff_ne.mpr (fun e => by cases e)⟩
  have e : headW f ++ X = 91 :: (T "byte" ++ 32 :: (45 :: 32 :: ((T "size " ++ f) ++ 32 :: (60 :: 61 :: 32 :: X)))) := by
    unfold headW
    simp
    rfl
  rw [e, tr_ask]
  unfold readAsk
  rw [word_ok hw (byte_in _), Res.ok_bind, exp_dash, Res.ok_bind, word_ok (hw.filter _) hs, Res.ok_bind, exp_le, Res.ok_bind]
  unfold tailGo at h
  cases h1 : intGo 2000 X with
  | bad q => rw [h1] at h; cases h; rfl
  | ok b q =>
    rw [h1, Res.ok_bind] at h
    rw [Res.ok_bind]
    cases h2 : expects (T " ? ") q with
    | bad q => rw [h2] at h; cases h; rfl
    | ok _ q2 =>
      rw [h2, Res.ok_bind] at h
      rw [Res.ok_bind]
      cases h3 : readTr (treeWords (f :: ms)) 99 q2 with
      | bad q => rw [h3] at h; cases h; rfl
      | ok y q3 =>
        rw [h3, Res.ok_bind] at h
        rw [Res.ok_bind]
        cases h4 : expects (T " : ") q3 with
        | bad q => rw [h4] at h; cases h; rfl
        | ok _ q4 =>
          rw [h4, Res.ok_bind] at h
          rw [Res.ok_bind]
          cases h5 : readTr (treeWords (f :: ms)) 99 q4 with
          | bad q => rw [h5] at h; cases h; rfl
          | ok n q5 =>
            rw [h5, Res.ok_bind] at h
            rw [Res.ok_bind]
            cases h6 : expects [93] q5 with
            | bad q => rw [h6] at h; cases h; rfl
            | ok _ q6 => rw [h6] at h; cases h
theorem head_row {f : List Nat} {ms : List (List Nat)} (hO : KsOk (f :: ms)) {X r : List Nat} {n : Nat} (h : tailGo (treeWords (f :: ms)) X = .bad r) (hl : r.length ≤ X.length) (hn : X.length - r.length = n) : BadTr (f :: ms) (headW f ++ X) ((headW f).length + n) := by
  have := badTr_of (head_go hO h)
  rw [List.length_append] at this
  rwa [show (headW f).length + X.length - r.length = (headW f).length + n by omega] at this
theorem rows_head {f : List Nat} {ms : List (List Nat)} (hO : KsOk (f :: ms)) : BadTr (f :: ms) (headW f ++ T "2001 ? leaf : leaf]") ((headW f).length + 3) ∧ BadTr (f :: ms) (headW f ++ T "-0 ? leaf : leaf]") ((headW f).length + 1) ∧ BadTr (f :: ms) (headW f ++ T "-2001 ? leaf : leaf]") ((headW f).length + 4) ∧
    BadTr (f :: ms) (headW f ++ T "01 ? leaf : leaf]") ((headW f).length + 1) ∧ BadTr (f :: ms) (headW f ++ T "0 ? leaf, leaf]") ((headW f).length + 8) ∧ BadTr (f :: ms) (headW f ++ T "0 ? leaf : leaf") ((headW f).length + 15) ∧ BadTr (f :: ms) (headW f ++ T "0 ? leaf]") ((headW f).length + 8) := by
  have lf : ∀ (ws : List (List Nat)) (X q : List Nat) , intGo 2000 X = .ok 0 (T " ? leaf" ++ q) → tailGo ws X = (expects (T " : ") q).bind fun _ r => (readTr ws 99 r).bind fun _ r => (expects [93] r).bind fun _ r => .ok () r := fun ws X q h => by
    unfold tailGo
    rw [h, Res.ok_bind, show T " ? leaf" ++ q = 32 :: 63 :: 32 :: (T "leaf" ++ q) from rfl, exp_q, Res.ok_bind, tr_leaf, Res.ok_bind]
  refine ⟨head_row hO (r := T "1 ? leaf : leaf]") rfl (by decide) rfl, head_row hO (r := T "0 ? leaf : leaf]") rfl (by decide) rfl, head_row hO (r := T "1 ? leaf : leaf]") rfl (by decide) rfl, head_row hO (r := T "1 ? leaf : leaf]") rfl (by decide) rfl,
    head_row hO (r := T ", leaf]") (by rw [lf _ _ (T ", leaf]") rfl]; rfl) (by decide) rfl, head_row hO (r := []) ?_ (by decide) rfl, head_row hO (r := T "]") (by rw [lf _ _ (T "]") rfl]; rfl) (by decide) rfl⟩
  rw [lf _ _ (T " : leaf") rfl, show T " : leaf" = T " : " ++ (T "leaf" ++ []) from rfl, expects_app, Res.ok_bind, tr_leaf, Res.ok_bind]
  rfl
end Mp

set_option maxHeartbeats 8000000
/-! Kw7: text * number -/
namespace Mp
open PySem PySem.Spec PyProof.Rows L2
theorem foldl_arr (a : Array Nat) : ∀ (n : Nat) (acc : Array Nat), ((List.replicate n a).foldl (· ++ ·) acc).toList = acc.toList ++ (List.replicate n a.toList).flatten
  | 0, acc => by simp
  | n + 1, acc => by
    rw [List.replicate_succ, List.foldl_cons, foldl_arr a n, List.replicate_succ, List.flatten_cons]
    simp
theorem rep_nil : ∀ n : Nat, (List.replicate n ([] : List Nat)).flatten = []
  | 0 => rfl
  | n + 1 => by rw [List.replicate_succ, List.flatten_cons, rep_nil n]; rfl
theorem mul_S (a : List Nat) (n : Nat) : Txt.mul (S a) ((n : Nat) : Int) = S (List.replicate n a).flatten := by
  unfold Txt.mul
  by_cases h0 : n = 0
  · subst h0
    rfl
  · rw [if_neg (by omega)]
    split
    · rename_i h
      rw [Bool.or_eq_true] at h
      rcases h with h | h
      · have : n = 1 := by
          have := eq_of_beq h
          omega
        subst this
        simp
      · have h := eq_of_beq h
        rw [S_len] at h
        have : a = [] := List.eq_nil_of_length_eq_zero h
        subst this
        rw [rep_nil]
    · show ({ cps := _ } : Str) = { cps := _ }
      congr 1
      apply Array.toList_inj.mp
      rw [foldl_arr, Int.toNat_natCast]
      simp [S]
def rMulN : R2 := fun x y H Q => ∃ (a : List Nat) (n : Nat), x = .str (S a) ∧ y = .int ((n : Nat) : Int) ∧ a.length ≤ 1000 ∧ n ≤ 1000 ∧ Q (.str (S (List.replicate n a).flatten)) H
theorem op_mulStrN {X : Cx} : OpR X (binaryOp .Mult) rMulN := by
  intro pins s σ H x y v u Q I rx ry h
  obtain ⟨a, n, rfl, rfl, h0, h1, q⟩ := h
  obtain ⟨t, rfl⟩ := rx
  obtain ⟨t2, rfl⟩ := ry
  refine SB.mul ⟨?_, fun e1 e2 => ?_, fun e1 e2 => ?_⟩ (fun t' k => ⟨.str (Txt.mul (S a) ((n : Nat) : Int)), H, I.tok k, ⟨t', rfl⟩, by rw [mul_S]; exact q⟩)
  · have e1 : decide (((n : Nat) : Int) < -(2 ^ 63 : Int)) = false := decide_eq_false (by omega)
    have e2 : decide (((n : Nat) : Int) ≥ 2 ^ 63) = false := decide_eq_false (by omega)
    rw [e1, e2]
    rfl
  · rw [S_len]
    have h2 : (1 : Int) ≤ (n : Int) := by omega
    have h3 : (1000 : Int) ≤ (2 ^ 63 - 1) / (n : Int) := (Int.le_ediv_iff_mul_le (by omega)).mpr (by omega)
    omega
  · rw [S_len, Int.toNat_natCast]
    have : a.length * n ≤ 1000 * 1000 := Nat.mul_le_mul h0 h1
    show decide (a.length * n > sizeLine) = false
    exact decide_eq_false (by rw [sizeLine_eq]; omega)
end Mp

set_option maxHeartbeats 8000000
/-! Kl3: the law's full and deep trees -/
namespace Mp
open PySem PySem.Spec PyProof.Rows L2
open StX (tMakeR run_makeR pe_makeR)
open He (ga ma fAd)
section
variable {P : Program} {w : World} {K : PySem.W.Frag} {mg : Str → Option Value} {base : Heap}
def fullT : Nat → Tr
  | 0 => .leaf
  | d + 1 => .ask (T "size k") (T "align k") ((d + 1 : Nat) : Int) (fullT d) (fullT d)
def deepNo : Nat → Tr
  | 0 => .leaf
  | d + 1 => .ask (T "align k") (T "size k") 0 .leaf (deepNo d)
def deepYes (t : List Nat) : Nat → Tr
  | 0 => .leaf
  | d + 1 => .ask (T "align " ++ t) (T "size " ++ t) 0 (deepYes t d) .leaf
theorem leaf_new {H : Hp} {p : Addr} (hp : H p = none) : Ex H (upd H p (.tup [.str (Str.ofString "leaf")])) ∧ TrAt (upd H p (.tup [.str (Str.ofString "leaf")])) .leaf p :=
  ⟨Ex.new hp, by show upd H p _ p = some (.tup [.str (S (T "leaf"))]); rw [upd_same, c_leaf]⟩
def spFull (m : Nat) : Sp := sp1 fun a H Q _ => a = .int ((m : Nat) : Int) ∧ ∀ x H', Ex H H' → TrAt H' (fullT m) x → Q (.ref x) H'
section
variable {m k : Nat}
theorem sc__law_full : FnScope ["depth"] ["depth"] (defScope s__law_full) := ⟨rfl, rfl, rfl, by decide +kernel, rfl, by decide +kernel, by decide +kernel⟩
theorem ok__law_full (z : Zk K mg base)  (c__law_full : Cal P w K mg base "_law_full" k (trLess (fun m => spFull m) m)) : Cal P w K mg base "_law_full" (k + 1) ((spFull m)) := by
  obtain ⟨fd, F⟩ := z.d__law_full
  refine cal_of F z.g__law_full sc__law_full (fun _ _ _ _ _ _ us hl => match us, hl with | [_], _ => rfl) (fun vs H Q E h => by match vs, h with | [_], _ => rfl) (fun cdv A outer s H vs Q E hr h => ?_)
  have nd := sc__law_full.nd
  have hu : (cxOf (L2.CX P w) P w K mg base ["depth"] "_law_full" (defScope s__law_full) (fAd K ("_law_full", none)) cdv A outer s H E).A.units + 64 < cLine := hr.units
  have hu0 := hr.units0
  have hu1 := hu_of hr
  match vs, h with
  | [a0], h =>
  refine ⟨_, (pss_cons (ps_if (pt_cmpR op_eq (pv 0) pe_int (nomark _)) (pss_one (ps_ret (pe_tup (pa_cons pe_str pa_nil)))) pss_nil)
      (pss_one (ps_ret (pe_tup (pa_cons pe_str (pa_cons pe_str (pa_cons pe_str (pa_cons (pv 0) (pa_cons (pe_fn c__law_full hr (passD (E := E)) (pa_cons (pe_op op_sub (pv 0) pe_int) pa_nil) (by omega)) (pa_cons (pe_fn c__law_full hr (passD (E := E)) (pa_cons (pe_op op_sub (pv 0) pe_int) pa_nil) (by omega)) pa_nil)))))))))), ?_⟩
  obtain ⟨rfl, hq⟩ := h
  simp [sDPut, tDGet, tDIn, tDNotIn, tRet, tRetN, tSeq, tIfS, tDrop, tNext, tNever, tBreak, tCont, tAsg, gName, gCons, gNil, gTup, tAndV, tOrV, tNotV, tAnd, tOr, tNot, tOp, tUn, tVar, tC, tB, tTest, tIf, tCons, tNil, tCB, tTup, tLst, tFld, sFld, sFldAug, rAdd, rSub, tSl, tPart, tNoPart, rI0, rI, rU, rEq, rNe, rSlS, rSlL, rIxL, rIxT, rIxS, tChain, tFn, tMt, tM1, tM0, tBM, rAppend, rIn, tIsN, tNotN, scal_ss, scal_ii, let_nil, let_one, fig_nil, fig_one, LenV_str, L2.start, cxOf, and_assoc, tJs, tFmt, put_at, lk_at, lk_script, lk_upcoming, lk_refuse, lk_skips, lk_expect, lk_word_of, lk_name_unlike, lk_number_to, lk_finish, sp0, sp1, sp2, sp3, sp4, sp5, -List.lookup_eq_none_iff]
  cases m with
  | zero =>
    rw [if_pos rfl]
    exact ⟨by decide, fun p hp => hq p _ (leaf_new hp).1 (leaf_new hp).2⟩
  | succ m =>
    rw [if_neg (by omega)]
    have em : ((m + 1 : Nat) : Int) - 1 = ((m : Nat) : Int) := by omega
    rw [em]
    show spFull m [.int ((m : Nat) : Int)] H _ E
    refine ⟨rfl, fun x H1 e1 h1 => ?_⟩
    show spFull m [.int ((m : Nat) : Int)] H1 _ E
    refine ⟨rfl, fun y H2 e2 h2 => ⟨by decide, fun p hp => ?_⟩⟩
    have e3 : Ex H2 (upd H2 p (.tup [.str (Str.ofString "ask"), .str (Str.ofString "size k"), .str (Str.ofString "align k"), .int (((m + 1 : Nat)) : Int), .ref x, .ref y])) := Ex.new hp
    refine hq p _ (Ex.trans e1 (Ex.trans e2 e3)) ⟨x, y, ?_, (h1.ex e2).ex e3, h2.ex e3⟩
    rw [upd_same, ofS, ofS, ofS]
end
theorem full_all (z : Zk K mg base) : ∀ m : Nat, Cal P w K mg base "_law_full" (1 + m) (spFull m) := by
  obtain ⟨fd, F⟩ := z.d__law_full
  intro m
  induction m with
  | zero => exact ok__law_full (m := 0) (k := 0) z (cal_bare F z.g__law_full fun vs H Q E h => h)
  | succ m ih => exact ok__law_full (m := m + 1) (k := 1 + m) z ih
def spDeepNo : Sp := sp1 fun a H Q _ => ∃ m : Nat, a = .int ((m : Nat) : Int) ∧ m ≤ 1000 ∧ ∀ x H', Ex H H' → TrAt H' (deepNo m) x → Q (.ref x) H'
theorem sc__law_deep_no : FnScope ["many", "tree", "turn"] ["many"] (defScope s__law_deep_no) := ⟨rfl, rfl, rfl, by decide +kernel, rfl, by decide +kernel, by decide +kernel⟩
theorem ok__law_deep_no (z : Zk K mg base)   : Cal P w K mg base "_law_deep_no" 1 spDeepNo := by
  obtain ⟨fd, F⟩ := z.d__law_deep_no
  refine cal_of F z.g__law_deep_no sc__law_deep_no (fun _ _ _ _ _ _ us hl => match us, hl with | [_], _ => rfl) (fun vs H Q E h => by match vs, h with | [_], _ => rfl) (fun cdv A outer s H vs Q E hr h => ?_)
  have nd := sc__law_deep_no.nd
  have hu : (cxOf (L2.CX P w) P w K mg base ["many", "tree", "turn"] "_law_deep_no" (defScope s__law_deep_no) (fAd K ("_law_deep_no", none)) cdv A outer s H E).A.units + 64 < cLine := hr.units
  have hu0 := hr.units0
  have hu1 := hu_of hr
  match vs, h with
  | [a0], h =>
  refine ⟨_, (pss_cons (ps_set (i := 1) nd rfl (Or.inl rfl) (pe_tup (pa_cons pe_str pa_nil)))
      (pss_cons (ps_for (passes_of rfl) rfl (pi_range1 rfl z.b_range (pa_cons (pv 0) pa_nil)) (pg_name nd (i := 2) rfl (Or.inl rfl)) (pss_one (ps_set (i := 1) nd rfl (Or.inl rfl) (pe_tup (pa_cons pe_str (pa_cons pe_str (pa_cons pe_str (pa_cons pe_int (pa_cons (pe_tup (pa_cons pe_str pa_nil)) (pa_cons (pv 1) pa_nil))))))))))
      (pss_one (ps_ret (pv 1))))), ?_⟩
  obtain ⟨m, rfl, hm, hq⟩ := h
  simp [sDPut, tDGet, tDIn, tDNotIn, tRet, tRetN, tSeq, tIfS, tDrop, tNext, tNever, tBreak, tCont, tAsg, gName, gCons, gNil, gTup, tAndV, tOrV, tNotV, tAnd, tOr, tNot, tOp, tUn, tVar, tC, tB, tTest, tIf, tCons, tNil, tCB, tTup, tLst, tFld, sFld, sFldAug, rAdd, rSub, tSl, tPart, tNoPart, rI0, rI, rU, rEq, rNe, rSlS, rSlL, rIxL, rIxT, rIxS, tChain, tFn, tMt, tM1, tM0, tBM, rAppend, rIn, tIsN, tNotN, scal_ss, scal_ii, let_nil, let_one, fig_nil, fig_one, LenV_str, L2.start, cxOf, and_assoc, tJs, tFmt, put_at, lk_at, lk_script, lk_upcoming, lk_refuse, lk_skips, lk_expect, lk_word_of, lk_name_unlike, lk_number_to, lk_finish, sp0, sp1, sp2, sp3, sp4, sp5, -List.lookup_eq_none_iff]
  refine ⟨by decide, fun p hp => ?_⟩
  obtain ⟨e1, t1⟩ := leaf_new hp
  refine tfor_rng (m := m) (fun R h => ⟨_, rfl, h⟩) (by omega) (fun i σ H' => ∃ x u2, σ = [some (.int ((m : Nat) : Int)), some (.ref x), u2] ∧ Ex H H' ∧ TrAt H' (deepNo i) x) ⟨p, none, rfl, e1, t1⟩ (fun i σ H' hi h => ?_) (fun σ H' h => ?_)
  · obtain ⟨x, _, rfl, e, ht⟩ := h
    simp [sDPut, tDGet, tDIn, tDNotIn, tRet, tRetN, tSeq, tIfS, tDrop, tNext, tNever, tBreak, tCont, tAsg, gName, gCons, gNil, gTup, tAndV, tOrV, tNotV, tAnd, tOr, tNot, tOp, tUn, tVar, tC, tB, tTest, tIf, tCons, tNil, tCB, tTup, tLst, tFld, sFld, sFldAug, rAdd, rSub, tSl, tPart, tNoPart, rI0, rI, rU, rEq, rNe, rSlS, rSlL, rIxL, rIxT, rIxS, tChain, tFn, tMt, tM1, tM0, tBM, rAppend, rIn, tIsN, tNotN, scal_ss, scal_ii, let_nil, let_one, fig_nil, fig_one, LenV_str, L2.start, cxOf, and_assoc, tJs, tFmt, put_at, lk_at, lk_script, lk_upcoming, lk_refuse, lk_skips, lk_expect, lk_word_of, lk_name_unlike, lk_number_to, lk_finish, sp0, sp1, sp2, sp3, sp4, sp5, -List.lookup_eq_none_iff]
    refine ⟨by decide, fun q hq2 => ⟨by decide, fun y hy => ?_⟩⟩
    obtain ⟨e2, t2⟩ := leaf_new hq2
    have e3 : Ex (upd H' q (.tup [.str (Str.ofString "leaf")])) (upd (upd H' q (.tup [.str (Str.ofString "leaf")])) y (.tup [.str (Str.ofString "ask"), .str (Str.ofString "align k"), .str (Str.ofString "size k"), .int 0, .ref q, .ref x])) := Ex.new hy
    refine ⟨Ex.trans e (Ex.trans e2 e3), q, x, ?_, t2.ex e3, (ht.ex e2).ex e3⟩
    rw [upd_same, ofS, ofS, ofS]
  · obtain ⟨x, _, rfl, e, ht⟩ := h
    simp [sDPut, tDGet, tDIn, tDNotIn, tRet, tRetN, tSeq, tIfS, tDrop, tNext, tNever, tBreak, tCont, tAsg, gName, gCons, gNil, gTup, tAndV, tOrV, tNotV, tAnd, tOr, tNot, tOp, tUn, tVar, tC, tB, tTest, tIf, tCons, tNil, tCB, tTup, tLst, tFld, sFld, sFldAug, rAdd, rSub, tSl, tPart, tNoPart, rI0, rI, rU, rEq, rNe, rSlS, rSlL, rIxL, rIxT, rIxS, tChain, tFn, tMt, tM1, tM0, tBM, rAppend, rIn, tIsN, tNotN, scal_ss, scal_ii, let_nil, let_one, fig_nil, fig_one, LenV_str, L2.start, cxOf, and_assoc, tJs, tFmt, put_at, lk_at, lk_script, lk_upcoming, lk_refuse, lk_skips, lk_expect, lk_word_of, lk_name_unlike, lk_number_to, lk_finish, sp0, sp1, sp2, sp3, sp4, sp5, -List.lookup_eq_none_iff]
    exact hq x H' e ht
def headD (t : List Nat) : List Nat := T "[align " ++ (t ++ (T " - size " ++ (t ++ T " <= 0 ? ")))
def spDeep : Sp := sp2 fun a b H Q _ => ∃ (t : List Nat) (m : Nat), a = .str (S t) ∧ b = .int ((m : Nat) : Int) ∧ 1 ≤ m ∧ m ≤ 110 ∧ t.length ≤ 8 ∧ ∀ p x H', Ex H H' → TrAt H' (deepYes t m) x → H' p = some (.tup [.str (S ((List.replicate m (headD t)).flatten ++ (T "leaf" ++ (List.replicate m (T " : leaf]")).flatten))), .ref x, .int ((((headD t).length * (m - 1) : Nat)) : Int)]) → Q (.ref p) H'
theorem sc__law_deep : FnScope ["title", "many", "head", "tree", "turn"] ["title", "many"] (defScope s__law_deep) := ⟨rfl, rfl, rfl, by decide +kernel, rfl, by decide +kernel, by decide +kernel⟩
theorem ok__law_deep (z : Zk K mg base)   : Cal P w K mg base "_law_deep" 1 spDeep := by
  obtain ⟨fd, F⟩ := z.d__law_deep
  refine cal_of F z.g__law_deep sc__law_deep (fun _ _ _ _ _ _ us hl => match us, hl with | [_, _], _ => rfl) (fun vs H Q E h => by match vs, h with | [_, _], _ => rfl) (fun cdv A outer s H vs Q E hr h => ?_)
  have nd := sc__law_deep.nd
  have hu : (cxOf (L2.CX P w) P w K mg base ["title", "many", "head", "tree", "turn"] "_law_deep" (defScope s__law_deep) (fAd K ("_law_deep", none)) cdv A outer s H E).A.units + 64 < cLine := hr.units
  have hu0 := hr.units0
  have hu1 := hu_of hr
  match vs, h with
  | [a0, a1], h =>
  refine ⟨_, (pss_cons (ps_set (i := 2) nd rfl (Or.inl rfl) (pe_op op_add_str (pe_op op_add_str (pe_op op_add_str (pe_op op_add_str pe_str (pv 0)) pe_str) (pv 0)) pe_str))
      (pss_cons (ps_set (i := 3) nd rfl (Or.inl rfl) (pe_tup (pa_cons pe_str pa_nil)))
      (pss_cons (ps_for (passes_of rfl) rfl (pi_range1 rfl z.b_range (pa_cons (pv 1) pa_nil)) (pg_name nd (i := 4) rfl (Or.inl rfl)) (pss_one (ps_set (i := 3) nd rfl (Or.inl rfl) (pe_tup (pa_cons pe_str (pa_cons (pe_op op_add_str pe_str (pv 0)) (pa_cons (pe_op op_add_str pe_str (pv 0)) (pa_cons pe_int (pa_cons (pv 3) (pa_cons (pe_tup (pa_cons pe_str pa_nil)) pa_nil))))))))))
      (pss_one (ps_ret (pe_tup (pa_cons (pe_op op_add_str (pe_op op_add_str (pe_op op_mulStrN (pv 2) (pv 1)) pe_str) (pe_op op_mulStrN pe_str (pv 1))) (pa_cons (pv 3) (pa_cons (pe_op op_mul (pe_callB (k_len (K := K) rfl) rfl z.b_len boot_len (pa_cons (pv 2) pa_nil)) (pe_op op_sub (pv 1) pe_int)) pa_nil))))))))), ?_⟩
  obtain ⟨t, m, rfl, rfl, hm1, hm, htl, hq⟩ := h
  have l1 : (T "[align ").length = 7 := rfl
  have l2 : (T " - size ").length = 8 := rfl
  have l3 : (T " <= 0 ? ").length = 8 := rfl
  have l4 : (T "align ").length = 6 := rfl
  have l5 : (T "size ").length = 5 := rfl
  have l6 : (T " : leaf]").length = 8 := rfl
  have l7 : (T "leaf").length = 4 := rfl
  have hh : S (T "[align ") ++ S t ++ S (T " - size ") ++ S t ++ S (T " <= 0 ? ") = S (headD t) := by
    simp only [S_app]
    unfold headD
    simp
  have hhl : (headD t).length = 23 + 2 * t.length := by
    unfold headD
    simp only [List.length_append, l1, l2, l3]
    omega
  simp [sDPut, tDGet, tDIn, tDNotIn, tRet, tRetN, tSeq, tIfS, tDrop, tNext, tNever, tBreak, tCont, tAsg, gName, gCons, gNil, gTup, tAndV, tOrV, tNotV, tAnd, tOr, tNot, tOp, tUn, tVar, tC, tB, tTest, tIf, tCons, tNil, tCB, tTup, tLst, tFld, sFld, sFldAug, rAdd, rSub, tSl, tPart, tNoPart, rI0, rI, rU, rEq, rNe, rSlS, rSlL, rIxL, rIxT, rIxS, tChain, tFn, tMt, tM1, tM0, tBM, rAppend, rIn, tIsN, tNotN, scal_ss, scal_ii, let_nil, let_one, fig_nil, fig_one, LenV_str, L2.start, cxOf, and_assoc, tJs, tFmt, put_at, lk_at, lk_script, lk_upcoming, lk_refuse, lk_skips, lk_expect, lk_word_of, lk_name_unlike, lk_number_to, lk_finish, sp0, sp1, sp2, sp3, sp4, sp5, -List.lookup_eq_none_iff]
  rw [ofS "[align ", ofS " - size ", ofS " <= 0 ? ", hh]
  simp only [S_app, S_len, List.length_append, l1, l2, l3, sizeLine_eq]
  refine ⟨by omega, by omega, by omega, by omega, by omega, fun p hp => ?_⟩
  obtain ⟨e1, t1⟩ := leaf_new hp
  refine tfor_rng (m := m) (fun R h => ⟨_, rfl, h⟩) (by omega) (fun i σ H' => ∃ x u2, σ = [some (.str (S t)), some (.int ((m : Nat) : Int)), some (.str (S (headD t))), some (.ref x), u2] ∧ Ex H H' ∧ TrAt H' (deepYes t i) x) ⟨p, none, rfl, e1, t1⟩ (fun i σ H' hi h => ?_) (fun σ H' h => ?_)
  · obtain ⟨x, _, rfl, e, ht⟩ := h
    simp [sDPut, tDGet, tDIn, tDNotIn, tRet, tRetN, tSeq, tIfS, tDrop, tNext, tNever, tBreak, tCont, tAsg, gName, gCons, gNil, gTup, tAndV, tOrV, tNotV, tAnd, tOr, tNot, tOp, tUn, tVar, tC, tB, tTest, tIf, tCons, tNil, tCB, tTup, tLst, tFld, sFld, sFldAug, rAdd, rSub, tSl, tPart, tNoPart, rI0, rI, rU, rEq, rNe, rSlS, rSlL, rIxL, rIxT, rIxS, tChain, tFn, tMt, tM1, tM0, tBM, rAppend, rIn, tIsN, tNotN, scal_ss, scal_ii, let_nil, let_one, fig_nil, fig_one, LenV_str, L2.start, cxOf, and_assoc, tJs, tFmt, put_at, lk_at, lk_script, lk_upcoming, lk_refuse, lk_skips, lk_expect, lk_word_of, lk_name_unlike, lk_number_to, lk_finish, sp0, sp1, sp2, sp3, sp4, sp5, -List.lookup_eq_none_iff]
    rw [ofS "align ", ofS "size ", S_app, S_app]
    simp only [S_len, l4, l5, sizeLine_eq]
    refine ⟨by omega, by omega, by omega, fun q hq2 => ⟨by omega, fun y hy => ?_⟩⟩
    obtain ⟨e2, t2⟩ := leaf_new hq2
    have e3 : Ex (upd H' q (.tup [.str (Str.ofString "leaf")])) (upd (upd H' q (.tup [.str (Str.ofString "leaf")])) y (.tup [.str (Str.ofString "ask"), .str (S (T "align " ++ t)), .str (S (T "size " ++ t)), .int 0, .ref x, .ref q])) := Ex.new hy
    refine ⟨Ex.trans e (Ex.trans e2 e3), x, q, ?_, (ht.ex e2).ex e3, t2.ex e3⟩
    rw [upd_same, ofS "ask"]
  · obtain ⟨x, _, rfl, e, ht⟩ := h
    simp [sDPut, tDGet, tDIn, tDNotIn, tRet, tRetN, tSeq, tIfS, tDrop, tNext, tNever, tBreak, tCont, tAsg, gName, gCons, gNil, gTup, tAndV, tOrV, tNotV, tAnd, tOr, tNot, tOp, tUn, tVar, tC, tB, tTest, tIf, tCons, tNil, tCB, tTup, tLst, tFld, sFld, sFldAug, rAdd, rSub, tSl, tPart, tNoPart, rI0, rI, rU, rEq, rNe, rSlS, rSlL, rIxL, rIxT, rIxS, tChain, tFn, tMt, tM1, tM0, tBM, rAppend, rIn, tIsN, tNotN, scal_ss, scal_ii, let_nil, let_one, fig_nil, fig_one, LenV_str, L2.start, cxOf, and_assoc, tJs, tFmt, put_at, lk_at, lk_script, lk_upcoming, lk_refuse, lk_skips, lk_expect, lk_word_of, lk_name_unlike, lk_number_to, lk_finish, sp0, sp1, sp2, sp3, sp4, sp5, -List.lookup_eq_none_iff, rMulN]
    have f1 : ∀ (a : List Nat) (n : Nat), (List.replicate n a).flatten.length = n * a.length := fun a n => by simp
    have b1 : m * (headD t).length ≤ 110 * 39 := Nat.mul_le_mul hm (by omega)
    refine ⟨headD t, rfl, m, rfl, by omega, by omega, ?_, T " : leaf]", ofS _, m, rfl, by rw [l6]; omega, by omega, ?_, ?_, ?_, by decide, fun p2 hp2 => ?_⟩
    · rw [ofS "leaf", S_len, S_len, f1, l7]
      omega
    · rw [ofS "leaf", S_app, S_len, S_len, List.length_append, f1, f1, l6, l7]
      omega
    · rw [S_len, sizeLine_eq]
      omega
    · rw [S_len]
      exact Or.inl ⟨by omega, by omega⟩
    · have e4 := Ex.new (o := .tup [.str (S (List.replicate m (headD t)).flatten ++ Str.ofString "leaf" ++ S (List.replicate m (T " : leaf]")).flatten), .ref x, .int ((((S (headD t)).length : Nat) : Int) * ((m : Int) - 1))]) hp2
      refine hq p2 x _ (Ex.trans e e4) (ht.ex e4) ?_
      rw [upd_same, ofS "leaf", S_app, S_app, S_len]
      have e5 : (((headD t).length : Nat) : Int) * ((m : Int) - 1) = (((headD t).length * (m - 1) : Nat) : Int) := by
        rw [show (m : Int) - 1 = ((m - 1 : Nat) : Int) by omega]
        push_cast
        rfl
      rw [e5, List.append_assoc]
end
end Mp

set_option maxHeartbeats 8000000
/-! Kw8: a display of pairs (text, number) whose parts are read without a new thing -/
namespace Mp
open PySem PySem.Spec PyProof.Rows L2
def PureV (t : TE) (σ : L2.St) (H : Hp) (v : V) : Prop := ∀ H' (R : VK), Ex H H' → R v H' → t σ H' R
theorem PureV.ex {t : TE} {σ : L2.St} {H H' : Hp} {v : V} (h : PureV t σ H v) (e : Ex H H') : PureV t σ H' v := fun H2 R e2 r => h H2 R (Ex.trans e e2) r
def PuresV (σ : L2.St) (H : Hp) : List (TE × TE) → List (List Nat × Nat) → Prop
  | [], [] => True
  | t :: ts, r :: rs => PureV t.1 σ H (.str (S r.1)) ∧ PureV t.2 σ H (.int ((r.2 : Nat) : Int)) ∧ PuresV σ H ts rs
  | _, _ => False
theorem PuresV.ex {σ : L2.St} {H H' : Hp} (e : Ex H H') : ∀ {ts : List (TE × TE)} {rs : List (List Nat × Nat)}, PuresV σ H ts rs → PuresV σ H' ts rs
  | [], [], _ => trivial
  | t :: ts, r :: rs, h => ⟨h.1.ex e, h.2.1.ex e, PuresV.ex e h.2.2⟩
  | [], r :: rs, h => h
  | t :: ts, [], h => h
def RowsV : List (List Nat × Nat) → Hp → List V → Prop
  | [], _, xs => xs = []
  | r :: rs, H, xs => ∃ q ys, xs = .ref q :: ys ∧ H q = some (.tup [.str (S r.1), .int ((r.2 : Nat) : Int)]) ∧ RowsV rs H ys
def tRowsA2 (ts : List (TE × TE)) : TA := fun σ H Q => ∃ rs, PuresV σ H ts rs ∧ ∀ xs H', Ex H H' → RowsV rs H' xs → Q xs H'
theorem RowsV.len {H : Hp} : ∀ {rs : List (List Nat × Nat)} {xs : List V}, RowsV rs H xs → xs.length = rs.length
  | [], xs, h => by
    have h : xs = [] := h
    subst h
    rfl
  | r :: rs, xs, h => by
    obtain ⟨q, ys, rfl, h1, h2⟩ := h
    rw [List.length_cons, List.length_cons, RowsV.len h2]
theorem RowsV.ex {H H' : Hp} (e : Ex H H') : ∀ {rs : List (List Nat × Nat)} {xs : List V}, RowsV rs H xs → RowsV rs H' xs
  | [], xs, h => h
  | r :: rs, xs, h => by
    obtain ⟨q, ys, e1, h1, h2⟩ := h
    exact ⟨q, ys, e1, e _ _ h1, RowsV.ex e h2⟩
def tRows2 (ts : List (TE × TE)) : TE := fun σ H Q => ∃ rs, PuresV σ H ts rs ∧ rs.length ≤ 1000 ∧ ∀ l xs H', Ex H H' → H l = none → H' l = some (.lst xs) → RowsV rs H' xs → Q (.ref l) H'
section
variable {X : Cx} {e1 e2 : Expr} {es : List Expr} {t1 t2 : TE} {ts : List (TE × TE)} {pos : Pos} {x1 : Nat}
theorem pa_rowN2 : PA X [] (tRowsA2 []) := ⟨fun pos pins s σ H Q I h => by
  obtain ⟨rs, hp, h⟩ := h
  cases rs with
  | nil => exact (pa_nil (X := X)).run pos pins s σ H Q I (h [] H Ex.rfl' rfl)
  | cons r rs => exact False.elim hp⟩
theorem pa_row2 (h1 : PE X e1 t1) (h2 : PE X e2 t2) (h : PA X es (tRowsA2 ts)) (hs1 : starEach [e1, e2] X.env = (false, eval e1 X.env) :: starEach [e2] X.env := by rfl) (hs2 : starEach [e2] X.env = (false, eval e2 X.env) :: starEach [] X.env := by rfl) : PA X (.Tuple [e1, e2] x1 pos :: es) (tRowsA2 ((t1, t2) :: ts)) :=
  ⟨fun pos' pins s σ H Q I hq => by
    obtain ⟨rs, hp, hq⟩ := hq
    cases rs with
    | nil => exact False.elim hp
    | cons r rs =>
      refine (pa_cons (pe_tup (pa_cons h1 (pa_cons h2 pa_nil hs2) hs1)) h).run pos' pins s σ H Q I ?_
      refine hp.1 H _ Ex.rfl' ?_
      refine hp.2.1 H _ Ex.rfl' ?_
      refine ⟨by show 2 ≤ sizeLine; rw [sizeLine_eq]; omega, fun p hp2 => ⟨rs, hp.2.2.ex (Ex.new hp2), fun xs H' e hr => ?_⟩⟩
      exact hq (.ref p :: xs) H' (Ex.trans (Ex.new hp2) e) ⟨p, xs, rfl, e _ _ upd_same, hr⟩⟩
theorem pe_rows2 (h : PA X es (tRowsA2 ts)) : PE X (.List es pos) (tRows2 ts) :=
  ⟨fun pins s σ H Q I hq => by
    obtain ⟨rs, hp, hl, hq⟩ := hq
    refine (pe_lst h).run pins s σ H Q I ⟨rs, hp, fun xs H' e hr => ⟨by rw [hr.len, sizeLine_eq]; omega, fun l hl2 => ?_⟩⟩
    exact hq l xs _ (Ex.trans e (Ex.new hl2)) (Ex.free e hl2) upd_same (hr.ex (Ex.new hl2))⟩
end
/-- a row that is wrong, by B -/
def RowIn (B : List Nat → Nat → Prop) (H : Hp) (x : V) : Prop := ∃ (q : Addr) (w : List Nat) (n : Nat), x = .ref q ∧ H q = some (.tup [.str (S w), .int ((n : Nat) : Int)]) ∧ B w n
theorem RowIn.ex {B : List Nat → Nat → Prop} {H H' : Hp} {x : V} (e : Ex H H') (h : RowIn B H x) : RowIn B H' x := by
  obtain ⟨q, w, n, e1, h1, h2⟩ := h
  exact ⟨q, w, n, e1, e _ _ h1, h2⟩
theorem rowsV_in {B : List Nat → Nat → Prop} {H : Hp} : ∀ {rs : List (List Nat × Nat)} {xs : List V}, RowsV rs H xs → (∀ r ∈ rs, B r.1 r.2) → ∀ x ∈ xs, RowIn B H x
  | [], xs, h, _, x, hx => by
    have h : xs = [] := h
    rw [h] at hx
    cases hx
  | r :: rs, xs, h, ha, x, hx => by
    obtain ⟨q, ys, rfl, h1, h2⟩ := h
    rcases List.mem_cons.mp hx with rfl | hx
    · exact ⟨q, r.1, r.2, rfl, h1, ha r List.mem_cons_self⟩
    · exact rowsV_in h2 (fun r hr => ha r (List.mem_cons_of_mem _ hr)) x hx
def RowsAt (B : List Nat → Nat → Prop) (H : Hp) (x : V) (n : Nat) : Prop := ∃ l xs, x = .ref l ∧ H l = some (.lst xs) ∧ xs ≠ [] ∧ xs.length ≤ n ∧ ∀ x ∈ xs, RowIn B H x
theorem RowsAt.ex {B : List Nat → Nat → Prop} {H H' : Hp} {x : V} {n : Nat} (e : Ex H H') (h : RowsAt B H x n) : RowsAt B H' x n := by
  obtain ⟨l, xs, e1, h1, h2, h3, h4⟩ := h
  exact ⟨l, xs, e1, e _ _ h1, h2, h3, fun x hx => (h4 x hx).ex e⟩
theorem RowsAt.of {B : List Nat → Nat → Prop} {H' : Hp} {l : Addr} {xs : List V} {rs : List (List Nat × Nat)} {n : Nat} (hl : H' l = some (.lst xs)) (h : RowsV rs H' xs) (hr : ∀ r ∈ rs, B r.1 r.2) (h0 : rs ≠ []) (hn : rs.length ≤ n) : RowsAt B H' (.ref l) n :=
  ⟨l, xs, rfl, hl, fun e => by
    have := h.len
    rw [e] at this
    exact h0 (List.eq_nil_of_length_eq_zero this.symm), by rw [h.len]; exact hn, rowsV_in h hr⟩
/-- rows + [..] -/
theorem rows_cat {B : List Nat → Nat → Prop} {H H' : Hp} {x : V} {n m : Nat} {l : Addr} {ys : List V} {rs : List (List Nat × Nat)} {R : VK} (hr : RowsAt B H x n) (e : Ex H H') (hl : H' l = some (.lst ys)) (hv : RowsV rs H' ys) (hy : ∀ r ∈ rs, B r.1 r.2) (hm : rs.length ≤ m) (hn : n + m ≤ 1000)
    (hq : ∀ p H2, Ex H H2 → H p = none → RowsAt B H2 (.ref p) (n + m) → R (.ref p) H2) : rCat x (.ref l) H' R := by
  obtain ⟨a, xs, rfl, h1, h2, h3, h4⟩ := hr.ex e
  have hyl := hv.len
  refine ⟨a, l, xs, ys, rfl, rfl, h1, hl, by rw [sizeLine_eq]; omega, fun p hp => hq p _ (Ex.trans e (Ex.new hp)) (Ex.free e hp) ⟨p, xs ++ ys, rfl, upd_same, ?_, by rw [List.length_append]; omega, fun z hz => ?_⟩⟩
  · intro e2
    exact h2 (List.append_eq_nil_iff.mp e2).1
  · rcases List.mem_append.mp hz with hz | hz
    · exact (h4 z hz).ex (Ex.new hp)
    · exact (rowsV_in hv hy z hz).ex (Ex.new hp)
end Mp

set_option maxHeartbeats 8000000
/-! Kl4: the law's tables of wrong texts -/
namespace Mp
open PySem PySem.Spec PyProof.Rows L2
open StX (tMakeR run_makeR pe_makeR)
open He (ga ma fAd)
section
variable {P : Program} {w : World} {K : PySem.W.Frag} {mg : Str → Option Value} {base : Heap}
theorem pu_fc {σ : L2.St} {H : Hp} {i : Nat} {f : List Nat} {z : String} (hi : σ[i]? = some (some (.str (S f)))) (hl : f.length ≤ 100) (hz : (T z).length ≤ 100) :
    PureV (tOp (fun x y H Q => ∃ i, x = V.str i ∧ ∃ x, y = V.str x ∧ i.length + x.length ≤ sizeLine ∧ Q (V.str (i ++ x)) H) (tVar i) (tC (V.str (Str.ofString z)))) σ H (.str (S (f ++ T z))) := by
  intro H' R e h
  refine ⟨_, hi, _, rfl, _, rfl, ?_, ?_⟩
  · rw [ofS, S_len, S_len, sizeLine_eq]
    omega
  · rw [ofS, S_app]
    exact h
theorem pu_nc {σ : L2.St} {H : Hp} {i : Nat} {n c : Nat} (hi : σ[i]? = some (some (.int ((n : Nat) : Int)))) :
    PureV (tOp (rI0 fun i j => V.int (i + j)) (tVar i) (tC (V.int ((c : Nat) : Int)))) σ H (.int ((n + c : Nat) : Int)) := by
  intro H' R e h
  refine ⟨_, hi, _, _, rfl, rfl, ?_⟩
  show R (V.int (((n : Nat) : Int) + ((c : Nat) : Int))) H'
  rw [show ((n : Nat) : Int) + ((c : Nat) : Int) = ((n + c : Nat) : Int) by omega]
  exact h
theorem pu_v {σ : L2.St} {H : Hp} {i : Nat} {v : V} (hi : σ[i]? = some (some v)) : PureV (tVar i) σ H v := fun H' R e h => ⟨_, hi, h⟩
theorem pu_c {σ : L2.St} {H : Hp} {v : V} : PureV (tC v) σ H v := fun H' R e h => h
theorem at0 {f : List Nat} {ms : List (List Nat)} : atI (txV (f :: ms)) 0 = some (.str (S f)) := atI_nat (xs := txV (f :: ms)) (j := 0) (by simp [txV])
theorem at1 {f m : List Nat} {ms : List (List Nat)} : atI (txV (f :: m :: ms)) 1 = some (.str (S m)) := atI_nat (xs := txV (f :: m :: ms)) (j := 1) (by simp [txV])
def BadM2 (ns : List (List Nat)) (w : List Nat) (n : Nat) : Prop := BadM ns w n ∧ w.length ≤ 1000
theorem len_fc {f u : List Nat} (h : f.length ≤ 100) (hs : u.length ≤ 100) : (f ++ u).length ≤ 1000 := by
  rw [List.length_append]
  omega
def spWrongM : Sp := sp1 fun a H Q _ => ∃ (q : Addr) (ns : List (List Nat)), a = .ref q ∧ H q = some (.lst (txV ns)) ∧ KsOk ns ∧ ∀ D H', Ex H H' → H D = none → RowsAt (BadM2 ns) H' (.ref D) 20 → Q (.ref D) H'
theorem sc__law_wrong_machines : FnScope ["titles", "rows", "first", "many"] ["titles"] (defScope s__law_wrong_machines) := ⟨rfl, rfl, rfl, by decide +kernel, rfl, by decide +kernel, by decide +kernel⟩
theorem ok__law_wrong_machines (z : Zk K mg base)   : Cal P w K mg base "_law_wrong_machines" 1 spWrongM := by
  obtain ⟨fd, F⟩ := z.d__law_wrong_machines
  refine cal_of F z.g__law_wrong_machines sc__law_wrong_machines (fun _ _ _ _ _ _ us hl => match us, hl with | [_], _ => rfl) (fun vs H Q E h => by match vs, h with | [_], _ => rfl) (fun cdv A outer s H vs Q E hr h => ?_)
  have nd := sc__law_wrong_machines.nd
  have hu : (cxOf (L2.CX P w) P w K mg base ["titles", "rows", "first", "many"] "_law_wrong_machines" (defScope s__law_wrong_machines) (fAd K ("_law_wrong_machines", none)) cdv A outer s H E).A.units + 64 < cLine := hr.units
  have hu0 := hr.units0
  have hu1 := hu_of hr
  match vs, h with
  | [a0], h =>
  refine ⟨_, (pss_cons (ps_par (i := 2) (j := 3) rfl nd rfl rfl (by decide) rfl rfl (pa_cons (pe_ix ix_H (pv 0) pe_int fun _ _ => rfl) (pa_cons (pe_callB (k_len (K := K) rfl) rfl z.b_len boot_len (pa_cons (pe_ix ix_H (pv 0) pe_int fun _ _ => rfl) pa_nil)) pa_nil)) (by first | rfl | with_unfolding_all rfl))
      (pss_cons (ps_set (i := 1) nd rfl (Or.inl rfl) (pe_rows2 (pa_row2 (pe_op op_add_str (pv 2) pe_str) (pe_op op_add (pv 3) pe_int) (pa_row2 (pe_op op_add_str (pv 2) pe_str) (pe_op op_add (pv 3) pe_int) (pa_row2 (pe_op op_add_str (pv 2) pe_str) (pe_op op_add (pv 3) pe_int) (pa_row2 (pv 2) (pv 3) pa_rowN2))))))
      (pss_cons (ps_set (i := 1) nd rfl (Or.inl rfl) (pe_op op_cat (pv 1) (pe_rows2 (pa_row2 (pe_op op_add_str (pv 2) pe_str) (pe_op op_add (pv 3) pe_int) (pa_row2 (pe_op op_add_str (pv 2) pe_str) (pe_op op_add (pv 3) pe_int) (pa_row2 (pe_op op_add_str (pv 2) pe_str) (pe_op op_add (pv 3) pe_int) (pa_row2 pe_str pe_int pa_rowN2)))))))
      (pss_cons (ps_if (pt_cmpR op_gt (pe_callB call_lenH rfl z.b_len boot_len (pa_cons (pv 0) pa_nil)) pe_int (nomark _)) (pss_one (ps_set (i := 1) nd rfl (Or.inl rfl) (pe_op op_cat (pv 1) (pe_rows2 (pa_row2 (pe_op op_add_str (pv 2) pe_str) (pe_op op_add (pv 3) pe_int) (pa_row2 (pe_op op_add_str (pv 2) pe_str) (pe_op op_add (pv 3) pe_int) (pa_row2 (pe_op op_add_str (pe_op op_add_str (pv 2) pe_str) (pe_ix ix_H (pv 0) pe_int fun _ _ => rfl)) (pe_op op_add (pv 3) pe_int) pa_rowN2))))))) pss_nil)
      (pss_one (ps_ret (pe_op op_cat (pv 1) (pe_rows2 (pa_row2 (pe_op op_add_str pe_str (pv 2)) pe_int (pa_row2 (pe_op op_add_str (pv 2) pe_str) (pe_op op_add (pv 3) pe_int) pa_rowN2)))))))))), ?_⟩
  obtain ⟨q, ns, rfl, hql, hO, hq⟩ := h
  obtain ⟨f, ms, rfl⟩ : ∃ f ms, ns = f :: ms := by
    cases ns with
    | nil => exact absurd hO.lo (by decide)
    | cons f ms => exact ⟨f, ms, rfl⟩
  have hfl := nameOk_len (hO.ok f List.mem_cons_self)
  obtain ⟨r1, r2, r3, r4, r5, r6, r7, r8⟩ := wrong_rows (f := f) (ns := ms)
  obtain ⟨o1, o2⟩ := wrong_off (f := f) (ns := ms) (hO.ok f List.mem_cons_self)
  simp [sDPut, tDGet, tDIn, tDNotIn, tRet, tRetN, tSeq, tIfS, tDrop, tNext, tNever, tBreak, tCont, tAsg, gName, gCons, gNil, gTup, tAndV, tOrV, tNotV, tAnd, tOr, tNot, tOp, tUn, tVar, tC, tB, tTest, tIf, tCons, tNil, tCB, tTup, tLst, tFld, sFld, sFldAug, rAdd, rSub, tSl, tPart, tNoPart, rI0, rI, rU, rEq, rNe, rSlS, rSlL, rIxL, rIxT, rIxS, tChain, tFn, tMt, tM1, tM0, tBM, rAppend, rIn, tIsN, tNotN, scal_ss, scal_ii, let_nil, let_one, fig_nil, fig_one, LenV_str, L2.start, cxOf, and_assoc, tJs, tFmt, put_at, lk_at, lk_script, lk_upcoming, lk_refuse, lk_skips, lk_expect, lk_word_of, lk_name_unlike, lk_number_to, lk_finish, sp0, sp1, sp2, sp3, sp4, sp5, -List.lookup_eq_none_iff, tPar, rLenH, rIxH, tRows2]
  refine ⟨_, hql, _, at0, _, hql, _, at0, f.length, ⟨by rw [S_len, sizeLine_eq]; omega, by rw [S_len]⟩, ?_⟩
  refine ⟨[(f ++ T " 2 3", f.length + 3), (f ++ T " 1001 0", f.length + 4), (f ++ T " 01 0", f.length + 2), (f, f.length)],
    ⟨pu_fc rfl (by omega) (by decide), pu_nc rfl, pu_fc rfl (by omega) (by decide), pu_nc rfl, pu_fc rfl (by omega) (by decide), pu_nc rfl, pu_v rfl, pu_v rfl, trivial⟩, by simp, fun l0 xs0 H0 e0 hl0 hx0 hv0 => ?_⟩
  have R0 : RowsAt (BadM2 (f :: ms)) H0 (.ref l0) 4 := RowsAt.of hx0 hv0 (by
    intro r hr
    simp only [List.mem_cons, List.not_mem_nil, or_false] at hr
    rcases hr with rfl | rfl | rfl | rfl
    · exact ⟨r1, len_fc (by omega) (by decide)⟩
    · exact ⟨r2, len_fc (by omega) (by decide)⟩
    · exact ⟨r3, len_fc (by omega) (by decide)⟩
    · exact ⟨r4, show f.length ≤ 1000 by omega⟩) (by simp) (by simp)
  refine ⟨[(f ++ T " 7 8", f.length + 3), (f ++ T " 12 13", f.length + 5), (f ++ T "  1 0", f.length + 1), ([], 0)],
    ⟨pu_fc rfl (by omega) (by decide), pu_nc rfl, pu_fc rfl (by omega) (by decide), pu_nc rfl, pu_fc rfl (by omega) (by decide), pu_nc rfl, pu_c, pu_c, trivial⟩, by simp, fun l1 xs1 H1 e1 hl1 hx1 hv1 => ?_⟩
  refine rows_cat (m := 4) R0 e1 hx1 hv1 (by
    intro r hr
    simp only [List.mem_cons, List.not_mem_nil, or_false] at hr
    rcases hr with rfl | rfl | rfl | rfl
    · exact ⟨r5, len_fc (by omega) (by decide)⟩
    · exact ⟨r6, len_fc (by omega) (by decide)⟩
    · exact ⟨r7, len_fc (by omega) (by decide)⟩
    · exact ⟨o1, by decide⟩) (by simp) (by omega) fun p2 H2 e2 hp2 R2 => ?_
  have eH2 : Ex H H2 := Ex.trans e0 e2
  have fin : ∀ (n : Nat) (p3 : Addr) (H3 : Hp), n ≤ 15 → RowsAt (BadM2 (f :: ms)) H3 (.ref p3) n → Ex H H3 → ∃ rs, PuresV [some (.ref q), some (.ref p3), some (.str (S f)), some (.int ((f.length : Nat) : Int))] H3
      [(tOp (fun x y H Q => ∃ i, x = V.str i ∧ ∃ x, y = V.str x ∧ i.length + x.length ≤ sizeLine ∧ Q (V.str (i ++ x)) H) (tC (V.str (Str.ofString " "))) (tVar 2), tC (V.int 0)),
       (tOp (fun x y H Q => ∃ i, x = V.str i ∧ ∃ x, y = V.str x ∧ i.length + x.length ≤ sizeLine ∧ Q (V.str (i ++ x)) H) (tVar 2) (tC (V.str (Str.ofString " -1 0"))), tOp (rI0 fun i j => V.int (i + j)) (tVar 3) (tC (V.int 1)))] rs ∧ rs.length ≤ 1000 ∧
      ∀ (l : Addr) (xs : List V) (H' : Hp), Ex H3 H' → H3 l = none → H' l = some (.lst xs) → RowsV rs H' xs → rCat (.ref p3) (.ref l) H' Q := fun n p3 H3 hn R3 e3 => by
    refine ⟨[(32 :: f, 0), (f ++ T " -1 0", f.length + 1)], ⟨?_, pu_c, pu_fc rfl (by omega) (by decide), pu_nc rfl, trivial⟩, by simp, fun l xs H' e4 hl4 hx4 hv4 => ?_⟩
    · intro H5 R e5 h5
      refine ⟨_, rfl, _, rfl, _, rfl, ?_, ?_⟩
      · rw [c_sp1, S_len, S_len, sizeLine_eq]
        simp
        omega
      · rw [c_sp1, S_app]
        exact h5
    · refine rows_cat (m := 2) R3 e4 hx4 hv4 (by
        intro r hr
        simp only [List.mem_cons, List.not_mem_nil, or_false] at hr
        rcases hr with rfl | rfl
        · exact ⟨o2, by show (32 :: f).length ≤ 1000; rw [List.length_cons]; omega⟩
        · exact ⟨r8, len_fc (by omega) (by decide)⟩) (by simp) (by omega) fun p5 H5 e5 hp5 R5 => ?_
      exact hq p5 H5 (Ex.trans e3 e5) (Ex.free e3 hp5) (by
        obtain ⟨l, xs, g1, g2, g3, g4, g5⟩ := R5
        exact ⟨l, xs, g1, g2, g3, by omega, g5⟩)
  refine ⟨_, eH2 _ _ hql, ?_⟩
  cases ms with
  | nil =>
    rw [if_neg (by simp [txV])]
    exact fin 8 p2 H2 (by omega) R2 eH2
  | cons m ms =>
    rw [if_pos (by simp [txV]; omega)]
    obtain ⟨t1, t2, t3⟩ := wrong_two (f := f) (m := m) (ns := ms)
    have hml := nameOk_len (hO.ok m (List.mem_cons_of_mem _ List.mem_cons_self))
    refine ⟨[(f ++ T " 1 0", f.length + 4), (f ++ T " 1 0,", f.length + 5), (f ++ (T " 1 0 " ++ m), f.length + 4)],
      ⟨pu_fc rfl (by omega) (by decide), pu_nc rfl, pu_fc rfl (by omega) (by decide), pu_nc rfl, ?_, pu_nc rfl, trivial⟩, by simp, fun l3 xs3 H3 e3 hl3 hx3 hv3 => ?_⟩
    · intro H5 R e5 h5
      refine ⟨_, rfl, _, rfl, _, rfl, ?_, ?_⟩
      · rw [ofS, S_len, S_len, sizeLine_eq]
        have : (T " 1 0 ").length = 5 := rfl
        omega
      · refine ⟨_, rfl, q, _, _, rfl, rfl, e5 _ _ (eH2 _ _ hql), .str (S m), at1, _, rfl, _, rfl, ?_, ?_⟩
        · rw [ofS, S_app, S_len, S_len, sizeLine_eq, List.length_append]
          have : (T " 1 0 ").length = 5 := rfl
          omega
        · rw [ofS, S_app, S_app, List.append_assoc]
          exact h5
    · refine rows_cat (m := 3) R2 e3 hx3 hv3 (by
        intro r hr
        simp only [List.mem_cons, List.not_mem_nil, or_false] at hr
        rcases hr with rfl | rfl | rfl
        · exact ⟨t1, len_fc (by omega) (by decide)⟩
        · exact ⟨t2, len_fc (by omega) (by decide)⟩
        · exact ⟨t3, by show (f ++ (T " 1 0 " ++ m)).length ≤ 1000; rw [List.length_append, List.length_append]; have : (T " 1 0 ").length = 5 := rfl; omega⟩) (by simp) (by omega) fun p4 H4 e4 hp4 R4 => ?_
      exact fin 11 p4 H4 (by omega) R4 (Ex.trans eH2 e4)
end
end Mp

set_option maxHeartbeats 8000000
/-! Kl5: the longest common beginning -/
namespace Mp
open PySem PySem.Spec PyProof.Rows L2
open StX (tMakeR run_makeR pe_makeR)
open He (ga ma fAd)
section
variable {P : Program} {w : World} {K : PySem.W.Frag} {mg : Str → Option Value} {base : Heap}
theorem cut_preG {l : List Nat} {k : Nat} : cutS (S l) none (some ((k : Nat) : Int)) = S (l.take k) := by
  unfold cutS
  rw [HT.sIx_nat, HT.sIx_none, S_len, S_cps]
  show S ((l.drop 0).take (min k l.length - 0)) = _
  rw [List.drop_zero, Nat.sub_zero]
  congr 1
  by_cases h : k ≤ l.length
  · rw [Nat.min_eq_left h]
  · rw [Nat.min_eq_right (by omega), List.take_of_length_le (Nat.le_refl _), List.take_of_length_le (by omega)]
def IsCommon (f : List Nat) (ws : List (List Nat)) (c : Nat) : Prop := (c = 0 ∨ ∃ w ∈ ws, c ≤ w.length ∧ w.take c = f.take c) ∧ ∀ w ∈ ws, ∀ k, k ≤ w.length → w.take k = f.take k → k ≤ c
def spCommon : Sp := sp2 fun a b H Q _ => ∃ (f : List Nat) (q : Addr) (ws : List (List Nat)), a = .str (S f) ∧ b = .ref q ∧ H q = some (.lst (txV ws)) ∧ ws.length ≤ 10 ∧ (∀ x ∈ ws, x.length ≤ 20) ∧ f.length ≤ 1000 ∧ ∀ c, IsCommon f ws c → Q (.int ((c : Nat) : Int)) H
theorem sc__law_common : FnScope ["face", "words", "found", "word", "k"] ["face", "words"] (defScope s__law_common) := ⟨rfl, rfl, rfl, by decide +kernel, rfl, by decide +kernel, by decide +kernel⟩
theorem ok__law_common (z : Zk K mg base)   : Cal P w K mg base "_law_common" 1 spCommon := by
  obtain ⟨fd, F⟩ := z.d__law_common
  refine cal_of F z.g__law_common sc__law_common (fun _ _ _ _ _ _ us hl => match us, hl with | [_, _], _ => rfl) (fun vs H Q E h => by match vs, h with | [_, _], _ => rfl) (fun cdv A outer s H vs Q E hr h => ?_)
  have nd := sc__law_common.nd
  have hu : (cxOf (L2.CX P w) P w K mg base ["face", "words", "found", "word", "k"] "_law_common" (defScope s__law_common) (fAd K ("_law_common", none)) cdv A outer s H E).A.units + 64 < cLine := hr.units
  have hu0 := hr.units0
  have hu1 := hu_of hr
  match vs, h with
  | [a0, a1], h =>
  refine ⟨_, (pss_cons (ps_set (i := 2) nd rfl (Or.inl rfl) pe_int)
      (pss_cons (ps_for (passes_of rfl) rfl (k_pi_list (K := K) rfl (pv 1)) (pg_name nd (i := 3) rfl (Or.inl rfl)) (pss_one (ps_for (passes_of rfl) rfl (pi_range1 rfl z.b_range (pa_cons (pe_op op_add (pe_callB (k_len (K := K) rfl) rfl z.b_len boot_len (pa_cons (pv 3) pa_nil)) pe_int) pa_nil)) (pg_name nd (i := 4) rfl (Or.inl rfl)) (pss_one (ps_if (pt_cmpR op_eq (pe_slice sl_str (pv 3) po_none (po_some (pv 4))) (pe_slice sl_str (pv 0) po_none (po_some (pv 4))) (nomark _)) (pss_one (ps_set (i := 2) nd rfl (Or.inl rfl) (pe_callB (call_max2 rfl) rfl z.b_max boot_max (pa_cons (pe_callTy call_int1 rfl z.b_int boot_int (pa_cons (pv 2) pa_nil)) (pa_cons (pe_callTy call_int1 rfl z.b_int boot_int (pa_cons (pv 4) pa_nil)) pa_nil))))) pss_nil)))))
      (pss_one (ps_ret (pv 2))))), ?_⟩
  obtain ⟨f, q, ws, rfl, rfl, hql, hw10, hw20, hfl, hq⟩ := h
  simp [sDPut, tDGet, tDIn, tDNotIn, tRet, tRetN, tSeq, tIfS, tDrop, tNext, tNever, tBreak, tCont, tAsg, gName, gCons, gNil, gTup, tAndV, tOrV, tNotV, tAnd, tOr, tNot, tOp, tUn, tVar, tC, tB, tTest, tIf, tCons, tNil, tCB, tTup, tLst, tFld, sFld, sFldAug, rAdd, rSub, tSl, tPart, tNoPart, rI0, rI, rU, rEq, rNe, rSlS, rSlL, rIxL, rIxT, rIxS, tChain, tFn, tMt, tM1, tM0, tBM, rAppend, rIn, tIsN, tNotN, scal_ss, scal_ii, let_nil, let_one, fig_nil, fig_one, LenV_str, L2.start, cxOf, and_assoc, tJs, tFmt, put_at, lk_at, lk_script, lk_upcoming, lk_refuse, lk_skips, lk_expect, lk_word_of, lk_name_unlike, lk_number_to, lk_finish, sp0, sp1, sp2, sp3, sp4, sp5, -List.lookup_eq_none_iff]
  refine tfor_list (a := q) (xs := txV ws) (fun R h => ⟨_, rfl, h⟩) (fun i σ H' => ∃ c u3 u4, H' = H ∧ σ = [some (.str (S f)), some (.ref q), some (.int ((c : Nat) : Int)), u3, u4] ∧ IsCommon f (ws.take i) c)
    ⟨0, none, none, rfl, rfl, Or.inl rfl, fun w hw => by simp at hw⟩ (fun i σ H' _ h => ?_) (fun i x σ H' hi h => ?_) (fun σ H' h => ?_)
  · obtain ⟨_, _, _, rfl, _⟩ := h
    exact SqL.of hql
  · obtain ⟨c, _, _, rfl, rfl, hc⟩ := h
    obtain ⟨w, hw, rfl⟩ := getTx hi
    have hwl := hw20 w (List.mem_of_getElem? hw)
    have h9 : ws.take (i + 1) = ws.take i ++ [w] := by
      obtain ⟨hi2, h8⟩ := List.getElem?_eq_some_iff.mp hw
      rw [← h8]
      exact List.take_succ_eq_append_getElem hi2
    simp [sDPut, tDGet, tDIn, tDNotIn, tRet, tRetN, tSeq, tIfS, tDrop, tNext, tNever, tBreak, tCont, tAsg, gName, gCons, gNil, gTup, tAndV, tOrV, tNotV, tAnd, tOr, tNot, tOp, tUn, tVar, tC, tB, tTest, tIf, tCons, tNil, tCB, tTup, tLst, tFld, sFld, sFldAug, rAdd, rSub, tSl, tPart, tNoPart, rI0, rI, rU, rEq, rNe, rSlS, rSlL, rIxL, rIxT, rIxS, tChain, tFn, tMt, tM1, tM0, tBM, rAppend, rIn, tIsN, tNotN, scal_ss, scal_ii, let_nil, let_one, fig_nil, fig_one, LenV_str, L2.start, cxOf, and_assoc, tJs, tFmt, put_at, lk_at, lk_script, lk_upcoming, lk_refuse, lk_skips, lk_expect, lk_word_of, lk_name_unlike, lk_number_to, lk_finish, sp0, sp1, sp2, sp3, sp4, sp5, -List.lookup_eq_none_iff]
    refine tfor_rng (m := w.length + 1) (fun R h => ⟨_, rfl, _, rfl, w.length, ⟨by rw [S_len, sizeLine_eq]; omega, by rw [S_len]⟩, _, _, rfl, rfl, h⟩) (by omega) (fun j σ H2 => ∃ c u4, H2 = H' ∧ σ = [some (.str (S f)), some (.ref q), some (.int ((c : Nat) : Int)), some (.str (S w)), u4] ∧ (c = 0 ∨ ∃ v ∈ ws.take (i + 1), c ≤ v.length ∧ v.take c = f.take c) ∧ (∀ v ∈ ws.take i, ∀ k, k ≤ v.length → v.take k = f.take k → k ≤ c) ∧ ∀ k, k < j → w.take k = f.take k → k ≤ c)
      ⟨c, _, rfl, rfl, ?_, hc.2, fun k hk => absurd hk (Nat.not_lt_zero _)⟩ (fun j σ H2 hj h => ?_) (fun σ H2 h => ?_)
    · rcases hc.1 with h0 | ⟨v, hv, h1⟩
      · exact Or.inl h0
      · exact Or.inr ⟨v, by rw [h9]; exact List.mem_append_left _ hv, h1⟩
    · obtain ⟨c, _, rfl, rfl, g1, g2, g3⟩ := h
      simp [sDPut, tDGet, tDIn, tDNotIn, tRet, tRetN, tSeq, tIfS, tDrop, tNext, tNever, tBreak, tCont, tAsg, gName, gCons, gNil, gTup, tAndV, tOrV, tNotV, tAnd, tOr, tNot, tOp, tUn, tVar, tC, tB, tTest, tIf, tCons, tNil, tCB, tTup, tLst, tFld, sFld, sFldAug, rAdd, rSub, tSl, tPart, tNoPart, rI0, rI, rU, rEq, rNe, rSlS, rSlL, rIxL, rIxT, rIxS, tChain, tFn, tMt, tM1, tM0, tBM, rAppend, rIn, tIsN, tNotN, scal_ss, scal_ii, let_nil, let_one, fig_nil, fig_one, LenV_str, L2.start, cxOf, and_assoc, tJs, tFmt, put_at, lk_at, lk_script, lk_upcoming, lk_refuse, lk_skips, lk_expect, lk_word_of, lk_name_unlike, lk_number_to, lk_finish, sp0, sp1, sp2, sp3, sp4, sp5, -List.lookup_eq_none_iff]
      rw [cut_preG, cut_preG]
      refine ⟨by rw [S_len, sizeLine_eq]; omega, by rw [S_len, sizeLine_eq]; omega, ?_⟩
      by_cases he : w.take j = f.take j
      · rw [if_pos (congrArg S he)]
        by_cases hcj : c < j
        · rw [if_pos hcj]
          refine ⟨j, rfl, Or.inr ⟨w, by rw [h9]; exact List.mem_append_right _ List.mem_cons_self, by omega, he⟩, fun v hv k hk e => ?_, fun k hk e => by omega⟩
          have := g2 v hv k hk e
          omega
        · rw [if_neg hcj]
          refine ⟨c, rfl, g1, g2, fun k hk e => ?_⟩
          by_cases hkj : k = j
          · omega
          · exact g3 k (by omega) e
      · rw [if_neg (fun h => he (S_inj.mp h))]
        refine ⟨c, rfl, g1, g2, fun k hk e => ?_⟩
        by_cases hkj : k = j
        · rw [hkj] at e
          exact absurd e he
        · exact g3 k (by omega) e
    · obtain ⟨c, _, rfl, rfl, g1, g2, g3⟩ := h
      simp [sDPut, tDGet, tDIn, tDNotIn, tRet, tRetN, tSeq, tIfS, tDrop, tNext, tNever, tBreak, tCont, tAsg, gName, gCons, gNil, gTup, tAndV, tOrV, tNotV, tAnd, tOr, tNot, tOp, tUn, tVar, tC, tB, tTest, tIf, tCons, tNil, tCB, tTup, tLst, tFld, sFld, sFldAug, rAdd, rSub, tSl, tPart, tNoPart, rI0, rI, rU, rEq, rNe, rSlS, rSlL, rIxL, rIxT, rIxS, tChain, tFn, tMt, tM1, tM0, tBM, rAppend, rIn, tIsN, tNotN, scal_ss, scal_ii, let_nil, let_one, fig_nil, fig_one, LenV_str, L2.start, cxOf, and_assoc, tJs, tFmt, put_at, lk_at, lk_script, lk_upcoming, lk_refuse, lk_skips, lk_expect, lk_word_of, lk_name_unlike, lk_number_to, lk_finish, sp0, sp1, sp2, sp3, sp4, sp5, -List.lookup_eq_none_iff]
      refine ⟨c, rfl, g1, fun v hv k hk e => ?_⟩
      rw [h9] at hv
      rcases List.mem_append.mp hv with hv | hv
      · exact g2 v hv k hk e
      · have := List.mem_singleton.mp hv
        subst this
        exact g3 k (by omega) e
  · obtain ⟨c, _, _, rfl, rfl, hc⟩ := h
    rw [tx_len, List.take_length] at hc
    simp [sDPut, tDGet, tDIn, tDNotIn, tRet, tRetN, tSeq, tIfS, tDrop, tNext, tNever, tBreak, tCont, tAsg, gName, gCons, gNil, gTup, tAndV, tOrV, tNotV, tAnd, tOr, tNot, tOp, tUn, tVar, tC, tB, tTest, tIf, tCons, tNil, tCB, tTup, tLst, tFld, sFld, sFldAug, rAdd, rSub, tSl, tPart, tNoPart, rI0, rI, rU, rEq, rNe, rSlS, rSlL, rIxL, rIxT, rIxS, tChain, tFn, tMt, tM1, tM0, tBM, rAppend, rIn, tIsN, tNotN, scal_ss, scal_ii, let_nil, let_one, fig_nil, fig_one, LenV_str, L2.start, cxOf, and_assoc, tJs, tFmt, put_at, lk_at, lk_script, lk_upcoming, lk_refuse, lk_skips, lk_expect, lk_word_of, lk_name_unlike, lk_number_to, lk_finish, sp0, sp1, sp2, sp3, sp4, sp5, -List.lookup_eq_none_iff]
    exact hq c hc
end
end Mp

set_option maxHeartbeats 8000000
/-! N6: the row whose second word stops at the longest common beginning -/
namespace Mp
def againT (f : List Nat) : List Nat := T "size " ++ (f ++ T " <= 0 ? leaf : leaf]")
theorem common_le {a : List Nat} {ws : List (List Nat)} {c : Nat} (h : IsCommon a ws c) : c ≤ a.length := by
  rcases h.1 with h0 | ⟨w, hw, h1, h2⟩
  · omega
  · have := congrArg List.length h2
    rw [List.length_take, List.length_take] at this
    omega
theorem wordGo_common {a : List Nat} {ws : List (List Nat)} {c : Nat} (hc : IsCommon a ws c) (h0 : ws ≠ []) : wordGo ws [] a = if a.take c ∈ ws then .ok (a.take c) (a.drop c) else .bad (a.drop c) := by
  obtain ⟨w, hw, hp⟩ : ∃ w ∈ ws, a.take c <+: w := by
    rcases hc.1 with rfl | ⟨w, hw, h1, h2⟩
    · cases ws with
      | nil => exact absurd rfl h0
      | cons w ws => exact ⟨w, List.mem_cons_self, by rw [List.take_zero]; exact List.nil_prefix⟩
    · exact ⟨w, hw, by rw [← h2]; exact List.take_prefix _ _⟩
  have h := wordGo_run hw (rest := a.drop c) (a.take c) [] (by rw [List.nil_append]; exact hp) (fun x q e => by
    rw [List.nil_append]
    refine begins_not fun v hv hpv => ?_
    have hlen : (a.take c ++ [x]).length = c + 1 := by
      rw [List.length_append, List.length_take, Nat.min_eq_left (common_le hc)]
      rfl
    have ht : a.take (c + 1) = a.take c ++ [x] := by
      have h1 : a = a.take c ++ (x :: q) := by rw [← e, List.take_append_drop]
      have h2 : (a.take c).length = c := by rw [List.length_take, Nat.min_eq_left (common_le hc)]
      have h3 : a.take (c + 1) = (a.take c ++ (x :: q)).take (c + 1) := congrArg (List.take (c + 1)) h1
      rw [h3, List.take_append, h2, List.take_of_length_le (by omega)]
      have : c + 1 - c = 1 := by omega
      rw [this]
      rfl
    have hv2 : v.take (c + 1) = a.take (c + 1) := by
      rw [ht]
      have := List.prefix_iff_eq_take.mp hpv
      rw [hlen] at this
      exact this.symm
    have hvl : c + 1 ≤ v.length := by
      have := hpv.length_le
      rwa [hlen] at this
    have := hc.2 v hv (c + 1) hvl hv2
    omega)
  rw [List.nil_append, List.take_append_drop] at h
  exact h
theorem row_common {f : List Nat} {ms : List (List Nat)} (hO : KsOk (f :: ms)) {c : Nat} (hc : IsCommon (againT f) ((treeWords (f :: ms)).filter fun x => x != T "size " ++ f) c) : BadTr (f :: ms) (T "[size " ++ (f ++ (T " - " ++ againT f))) (9 + f.length + c) := by
  have hw := ws_words hO
  have hlet : ∀ n ∈ (f :: ms), n.all isLet = true := fun n hn => nameOk_let (hO.ok n hn)
  have hs : T "size " ++ f ∈ treeWords (f :: ms) := by unfold treeWords scalesOf; simp
  have hb : T "byte" ∈ (treeWords (f :: ms)).filter fun x => x != T "size " ++ f := List.mem_filter.mpr ⟨byte_in _, bne_iff_ne.mpr (fun e => by cases e)⟩
  have hl := common_le hc
  have hg := wordGo_common hc (fun e => by rw [e] at hb; cases hb)
  have key : ((wordGo ((treeWords (f :: ms)).filter fun x => x != T "size " ++ f) [] (againT f)).bind fun other r => (expects (T " <= ") r).bind fun _ r =>
      (intGo 2000 r).bind fun b r => (expects (T " ? ") r).bind fun _ r => (readTr (treeWords (f :: ms)) 99 r).bind fun y r => (expects (T " : ") r).bind fun _ r => (readTr (treeWords (f :: ms)) 99 r).bind fun n r => (expects [93] r).bind fun _ r => .ok (Tr.ask (T "size " ++ f) other b y n) r) = .bad ((againT f).drop c) := by
    rw [hg]
    split
    · rename_i hin
      rw [Res.ok_bind]
      obtain ⟨h1, h2⟩ := List.mem_filter.mp hin
      have h2 := bne_iff_ne.mp h2
      have hpre : (againT f).take c <+: againT f := List.take_prefix _ _
      have hex : expects (T " <= ") ((againT f).drop c) = .bad ((againT f).drop c) := by
        rcases mem_words h1 with e | ⟨n, hn, e | e⟩
        · rw [e] at hpre
          obtain ⟨s, e2⟩ := hpre
          cases e2
        · rw [e] at hpre h2
          unfold againT at hpre
          have hpn : n <+: f ++ T " <= 0 ? leaf : leaf]" := List.prefix_append_right_inj _ |>.mp hpre
          have hpf : f <+: f ++ T " <= 0 ? leaf : leaf]" := List.prefix_append _ _
          have hnf : n ≠ f := fun e3 => h2 (by rw [e3])
          by_cases hle : n.length ≤ f.length
          · have hnp : n <+: f := List.prefix_of_prefix_length_le hpn hpf hle
            obtain ⟨s, hs2⟩ := hnp
            cases s with
            | nil => exact absurd (by rw [← hs2, List.append_nil]) hnf
            | cons y s =>
              have hy : isLet y = true := List.all_eq_true.mp (hlet f List.mem_cons_self) y (by rw [← hs2]; simp)
              have hcl : c = 5 + n.length := by
                have := congrArg List.length e
                rw [List.length_take, List.length_append, Nat.min_eq_left hl] at this
                exact this
              have hd : (againT f).drop c = y :: (s ++ T " <= 0 ? leaf : leaf]") := by
                have e5 : againT f = (T "size " ++ n) ++ (y :: (s ++ T " <= 0 ? leaf : leaf]")) := by
                  unfold againT
                  rw [← hs2]
                  simp
                rw [e5, hcl]
                exact List.drop_left' (by rw [List.length_append]; rfl)
              rw [hd]
              show (expect 32 (y :: _)).bind _ = _
              rw [expect, if_neg (fun e6 => by rw [e6] at hy; exact absurd hy (by decide))]
              rfl
          · have hfp : f ++ [32] <+: n := List.prefix_of_prefix_length_le (l₃ := f ++ T " <= 0 ? leaf : leaf]") ⟨T "<= 0 ? leaf : leaf]", by simp; rfl⟩ hpn (by simp; omega)
            have h32 : 32 ∈ n := hfp.subset (by simp)
            have := List.all_eq_true.mp (hlet n hn) 32 h32
            exact absurd this (by decide)
        · rw [e] at hpre
          obtain ⟨s, e2⟩ := hpre
          cases e2
      rw [hex]
      rfl
    · rfl
  have hr : readTr (treeWords (f :: ms)) 100 (T "[size " ++ (f ++ (T " - " ++ againT f))) = .bad ((againT f).drop c) := by
    have e : T "[size " ++ (f ++ (T " - " ++ againT f)) = 91 :: ((T "size " ++ f) ++ 32 :: (45 :: 32 :: againT f)) := by
      simp
      rfl
    rw [e, tr_ask]
    unfold readAsk
    rw [word_ok hw hs, Res.ok_bind, exp_dash, Res.ok_bind]
    exact key
  have := badTr_of hr
  have l1 : (T "[size ").length = 6 := rfl
  have l2 : (T " - ").length = 3 := rfl
  have e : (T "[size " ++ (f ++ (T " - " ++ againT f))).length - ((againT f).drop c).length = 9 + f.length + c := by
    rw [List.length_append, List.length_append, List.length_append, List.length_drop, l1, l2]
    omega
  rwa [e] at this
end Mp

set_option maxHeartbeats 8000000
/-! Kl6: the law's table of wrong texts of trees -/
namespace Mp
open PySem PySem.Spec PyProof.Rows L2
open StX (tMakeR run_makeR pe_makeR)
open He (ga ma fAd)
section
variable {P : Program} {w : World} {K : PySem.W.Frag} {mg : Str → Option Value} {base : Heap}
theorem rows_push {B : List Nat → Nat → Prop} {H : Hp} {l t : Addr} {xs : List V} {n m : Nat} {w : List Nat} (hr : RowsAt B H (.ref l) n) (hl : H l = some (.lst xs)) (ht : H t = some (.tup [.str (S w), .int ((m : Nat) : Int)])) (hb : B w m) : RowsAt B (upd H l (.lst (xs ++ [.ref t]))) (.ref l) (n + 1) := by
  obtain ⟨l', ys, e, h1, h2, h3, h4⟩ := hr
  cases e
  rw [hl] at h1
  cases h1
  have ne : ∀ {q : Addr} {zs : List V}, H q = some (.tup zs) → q ≠ l := fun h z => by rw [z, hl] at h; cases h
  refine ⟨l, xs ++ [.ref t], rfl, upd_same, by simp, by rw [List.length_append]; simp; omega, fun x hx => ?_⟩
  rcases List.mem_append.mp hx with hx | hx
  · obtain ⟨q, w2, n2, e1, g1, g2⟩ := h4 x hx
    exact ⟨q, w2, n2, e1, by rw [upd_ne (ne g1)]; exact g1, g2⟩
  · have := List.mem_singleton.mp hx
    subst this
    exact ⟨t, w, m, rfl, by rw [upd_ne (ne ht)]; exact ht, hb⟩
theorem pu_len {σ : L2.St} {H : Hp} {i : Nat} {f : List Nat} {c : Nat} (hi : σ[i]? = some (some (.str (S f)))) (hl : f.length ≤ 100) :
    PureV (tOp (rI0 fun i j => V.int (i + j)) (tCB (fun xs H Q => ∃ x, xs = [x] ∧ ∃ n, LenV K x H n ∧ Q (V.int ↑n) H) (tCons (tVar i) tNil)) (tC (V.int ((c : Nat) : Int)))) σ H (.int ((f.length + c : Nat) : Int)) := by
  intro H' R e h
  refine ⟨_, hi, _, rfl, f.length, ⟨by rw [S_len, sizeLine_eq]; omega, by rw [S_len]⟩, _, _, rfl, rfl, ?_⟩
  show R (V.int (((f.length : Nat) : Int) + ((c : Nat) : Int))) H'
  rw [show ((f.length : Nat) : Int) + ((c : Nat) : Int) = ((f.length + c : Nat) : Int) by omega]
  exact h
theorem pu_str {σ : L2.St} {H : Hp} {z : String} : PureV (tC (V.str (Str.ofString z))) σ H (.str (S (T z))) := fun H' R e h => by
  show R (V.str (Str.ofString z)) H'
  rw [ofS]
  exact h
theorem greatest (p : Nat → Prop) (h0 : p 0) : ∀ n, ∃ j, j ≤ n ∧ p j ∧ ∀ k, k ≤ n → p k → k ≤ j
  | 0 => ⟨0, Nat.le_refl _, h0, fun k hk _ => hk⟩
  | n + 1 => by
    by_cases h : p (n + 1)
    · exact ⟨n + 1, Nat.le_refl _, h, fun k hk _ => hk⟩
    · obtain ⟨j, h1, h2, h3⟩ := greatest p h0 n
      refine ⟨j, by omega, h2, fun k hk hp => ?_⟩
      by_cases e : k = n + 1
      · rw [e] at hp; exact absurd hp h
      · exact h3 k (by omega) hp
theorem common_ex (f : List Nat) : ∀ ws : List (List Nat), ∃ c, IsCommon f ws c
  | [] => ⟨0, Or.inl rfl, fun w hw => by cases hw⟩
  | w :: ws => by
    obtain ⟨c, h1, h2⟩ := common_ex f ws
    obtain ⟨j, g1, g2, g3⟩ := greatest (fun k => w.take k = f.take k) rfl w.length
    by_cases h : c ≤ j
    · refine ⟨j, Or.inr ⟨w, List.mem_cons_self, g1, g2⟩, fun v hv k hk e => ?_⟩
      rcases List.mem_cons.mp hv with rfl | hv
      · exact g3 k hk e
      · have := h2 v hv k hk e
        omega
    · refine ⟨c, h1.elim Or.inl fun ⟨v, hv, h3⟩ => Or.inr ⟨v, List.mem_cons_of_mem _ hv, h3⟩, fun v hv k hk e => ?_⟩
      rcases List.mem_cons.mp hv with rfl | hv
      · have := g3 k hk e
        omega
      · exact h2 v hv k hk e
theorem common_le2 {f : List Nat} {ws : List (List Nat)} {c d : Nat} (h : IsCommon f ws c) (g : IsCommon f ws d) : c ≤ d := by
  rcases h.1 with rfl | ⟨w, hw, h1, h2⟩
  · exact Nat.zero_le _
  · exact g.2 w hw c h1 h2
theorem lc_filtC {xs : List V} {g : TG} {tt : TT} {te tl : TE} {vs : List Nat} {σ : L2.St} {H : Hp} {Q : VK} (p : V → Bool) (Pb : Addr → Hp → Prop) (ht : ∀ R : V → Hp → Prop, (∀ a H1, Pb a H1 → R (.ref a) H1) → tl σ H R) (hz : xs.length ≤ 16777215) (hl : ∀ a H1, Pb a H1 → SqL K H1 a xs)
    (hs : ∀ (x : V) (H' : Hp) (R : V → Hp → Prop) (R0 : Hp → Prop), x ∈ xs → (p x = true → R x H') → (p x = false → R0 H') → g x (wipe σ vs) H' fun σ2 H2 => wipe σ2 vs = wipe σ vs ∧ tt σ2 H2 fun b H3 => if b = true then te σ2 H3 R else R0 H3)
    (hq : ∀ a H1, Pb a H1 → ∀ D H', Ex H1 H' → H1 D = none → H' D = some (.lst (xs.filter p)) → Q (.ref D) H') : tLc (iList K tl) g tt te vs σ H Q := by
  refine ht _ fun a H1 hb => ?_
  exact lc_filtL (K := K) (tl := fun _ H Q => Q (.ref a) H) p (fun R h => h) hz (hl a H1 hb) (fun x H' R R0 hx _ h1 h2 => hs x H' R R0 hx h1 h2) (hq a H1 hb)
def BadTr2 (ns : List (List Nat)) (w : List Nat) (n : Nat) : Prop := BadTr ns w n ∧ w.length ≤ 1000
def spWrongT : Sp := sp1 fun a H Q _ => ∃ (q : Addr) (ns : List (List Nat)), a = .ref q ∧ H q = some (.lst (txV ns)) ∧ KsOk ns ∧ ∀ D H', Ex H H' → H D = none → RowsAt (BadTr2 ns) H' (.ref D) 20 → Q (.ref D) H'
theorem sc__law_wrong_trees : FnScope ["titles", "title", "head", "rows", "again", "some", "scale"] ["titles"] (defScope s__law_wrong_trees) := ⟨rfl, rfl, rfl, by decide +kernel, rfl, by decide +kernel, by decide +kernel⟩
theorem ok__law_wrong_trees (z : Zk K mg base) (c__law_scales : Cal P w K mg base "_law_scales" 1 spScales) (c__law_common : Cal P w K mg base "_law_common" 1 spCommon)  : Cal P w K mg base "_law_wrong_trees" 2 spWrongT := by
  obtain ⟨fd, F⟩ := z.d__law_wrong_trees
  refine cal_of F z.g__law_wrong_trees sc__law_wrong_trees (fun _ _ _ _ _ _ us hl => match us, hl with | [_], _ => rfl) (fun vs H Q E h => by match vs, h with | [_], _ => rfl) (fun cdv A outer s H vs Q E hr h => ?_)
  have nd := sc__law_wrong_trees.nd
  have hu : (cxOf (L2.CX P w) P w K mg base ["titles", "title", "head", "rows", "again", "some", "scale"] "_law_wrong_trees" (defScope s__law_wrong_trees) (fAd K ("_law_wrong_trees", none)) cdv A outer s H E).A.units + 64 < cLine := hr.units
  have hu0 := hr.units0
  have hu1 := hu_of hr
  match vs, h with
  | [a0], h =>
  refine ⟨_, (pss_cons (ps_set (i := 1) nd rfl (Or.inr rfl) (pe_ix ix_H (pv 0) pe_int fun _ _ => rfl))
      (pss_cons (ps_set (i := 2) nd rfl (Or.inl rfl) (pe_op op_add_str (pe_op op_add_str pe_str (pv 1)) pe_str))
      (pss_cons (ps_set (i := 3) nd rfl (Or.inl rfl) (pe_rows2 (pa_row2 pe_str pe_int (pa_row2 pe_str pe_int (pa_row2 pe_str pe_int (pa_row2 pe_str pe_int (pa_row2 pe_str pe_int (pa_row2 pe_str pe_int pa_rowN2))))))))
      (pss_cons (ps_set (i := 3) nd rfl (Or.inl rfl) (pe_op op_cat (pv 3) (pe_rows2 (pa_row2 (pe_op op_add_str (pv 2) pe_str) (pe_op op_add (pe_callB (k_len (K := K) rfl) rfl z.b_len boot_len (pa_cons (pv 2) pa_nil)) pe_int) (pa_row2 (pe_op op_add_str (pv 2) pe_str) (pe_op op_add (pe_callB (k_len (K := K) rfl) rfl z.b_len boot_len (pa_cons (pv 2) pa_nil)) pe_int) pa_rowN2)))))
      (pss_cons (ps_expr (k_append (K := K) rfl (pv 3) (pe_tup (pa_cons (pe_op op_add_str (pv 2) pe_str) (pa_cons (pe_op op_add (pe_callB (k_len (K := K) rfl) rfl z.b_len boot_len (pa_cons (pv 2) pa_nil)) pe_int) pa_nil)))))
      (pss_cons (ps_set (i := 3) nd rfl (Or.inl rfl) (pe_op op_cat (pv 3) (pe_rows2 (pa_row2 (pe_op op_add_str (pv 2) pe_str) (pe_op op_add (pe_callB (k_len (K := K) rfl) rfl z.b_len boot_len (pa_cons (pv 2) pa_nil)) pe_int) (pa_row2 (pe_op op_add_str (pv 2) pe_str) (pe_op op_add (pe_callB (k_len (K := K) rfl) rfl z.b_len boot_len (pa_cons (pv 2) pa_nil)) pe_int) pa_rowN2)))))
      (pss_cons (ps_set (i := 3) nd rfl (Or.inl rfl) (pe_op op_cat (pv 3) (pe_rows2 (pa_row2 (pe_op op_add_str (pv 2) pe_str) (pe_op op_add (pe_callB (k_len (K := K) rfl) rfl z.b_len boot_len (pa_cons (pv 2) pa_nil)) pe_int) (pa_row2 (pe_op op_add_str (pv 2) pe_str) (pe_op op_add (pe_callB (k_len (K := K) rfl) rfl z.b_len boot_len (pa_cons (pv 2) pa_nil)) pe_int) pa_rowN2)))))
      (pss_cons (ps_set (i := 4) nd rfl (Or.inl rfl) (pe_op op_add_str (pe_op op_add_str pe_str (pv 1)) pe_str))
      (pss_cons (ps_setLc (i := 5) rfl nd rfl rfl (sw_true rfl rfl rfl rfl) (k_pi_list (K := K) rfl (pe_fn c__law_scales hr (passD (E := E)) (pa_cons (pv 0) pa_nil))) (blkOk_by (N := ["titles", "title", "head", "rows", "again", "some", "scale"]) (sc := defScope s__law_wrong_trees) (own := [("scale", 6)]) (by decide +kernel)) (fun _ _ _ _ _ => (pg_name nd (i := 6) rfl (Or.inl rfl))) (fun _ _ _ _ _ => (pts_one (pt_cmpR op_ne (pv 6) (pe_op op_add_str pe_str (pv 1)) (nomark _)))) (fun _ _ _ _ _ => (pv 6)))
      (pss_one (ps_ret (pe_op op_cat (pv 3) (pe_rows2 (pa_row2 (pe_op op_add_str (pe_op op_add_str (pe_op op_add_str pe_str (pv 1)) pe_str) (pv 4)) (pe_op op_add (pe_op op_add pe_int (pe_callB (k_len (K := K) rfl) rfl z.b_len boot_len (pa_cons (pv 1) pa_nil))) (pe_fn c__law_common hr (passD (E := E)) (pa_cons (pv 4) (pa_cons (pv 5) pa_nil)))) pa_rowN2)))))))))))))), ?_⟩
  obtain ⟨q, ns, rfl, hql, hO, hq⟩ := h
  obtain ⟨f, ms, rfl⟩ : ∃ f ms, ns = f :: ms := by
    cases ns with
    | nil => exact absurd hO.lo (by decide)
    | cons f ms => exact ⟨f, ms, rfl⟩
  have hfl := nameOk_len (hO.ok f List.mem_cons_self)
  obtain ⟨a1, a2, a3, a4, a5, a6⟩ := rows_const hO
  obtain ⟨b1, b2, b3, b4, b5, b6, b7⟩ := rows_head hO
  have hhl : (headW f).length = 17 + f.length := by
    unfold headW
    rw [List.length_append, List.length_append]
    have l1 : (T "[byte - size ").length = 13 := rfl
    have l2 : (T " <= ").length = 4 := rfl
    omega
  have hhe : Str.ofString "[byte - size " ++ S f ++ Str.ofString " <= " = S (headW f) := by
    rw [ofS, ofS, S_app, S_app]
    unfold headW
    simp
  simp [sDPut, tDGet, tDIn, tDNotIn, tRet, tRetN, tSeq, tIfS, tDrop, tNext, tNever, tBreak, tCont, tAsg, gName, gCons, gNil, gTup, tAndV, tOrV, tNotV, tAnd, tOr, tNot, tOp, tUn, tVar, tC, tB, tTest, tIf, tCons, tNil, tCB, tTup, tLst, tFld, sFld, sFldAug, rAdd, rSub, tSl, tPart, tNoPart, rI0, rI, rU, rEq, rNe, rSlS, rSlL, rIxL, rIxT, rIxS, tChain, tFn, tMt, tM1, tM0, tBM, rAppend, rIn, tIsN, tNotN, scal_ss, scal_ii, let_nil, let_one, fig_nil, fig_one, LenV_str, L2.start, cxOf, and_assoc, tJs, tFmt, put_at, lk_at, lk_script, lk_upcoming, lk_refuse, lk_skips, lk_expect, lk_word_of, lk_name_unlike, lk_number_to, lk_finish, sp0, sp1, sp2, sp3, sp4, sp5, -List.lookup_eq_none_iff, rIxH, tRows2]
  refine ⟨_, hql, _, at0, _, rfl, by rw [ofS, S_len, S_len, sizeLine_eq, show (T "[byte - size ").length = 13 from rfl]; omega, by rw [ofS, ofS, S_app, S_len, S_len, sizeLine_eq, List.length_append, show (T "[byte - size ").length = 13 from rfl, show (T " <= ").length = 4 from rfl]; omega, ?_⟩
  rw [hhe]
  refine ⟨[([], 0), (T "leaf ", 4), (T "lea", 3), (T "[byte - byte <= 0 ? leaf : leaf]", 8), (T "[leaf]", 1), (T "[byte", 5)], ⟨pu_str, pu_c, pu_str, pu_c, pu_str, pu_c, pu_str, pu_c, pu_str, pu_c, pu_str, pu_c, trivial⟩, by simp, fun l0 xs0 H0 e0 hl0 hx0 hv0 => ?_⟩
  have R0 : RowsAt (BadTr2 (f :: ms)) H0 (.ref l0) 6 := RowsAt.of hx0 hv0 (by
    intro r hr
    simp only [List.mem_cons, List.not_mem_nil, or_false] at hr
    rcases hr with rfl | rfl | rfl | rfl | rfl | rfl
    · exact ⟨a1, by decide⟩
    · exact ⟨a2, by decide⟩
    · exact ⟨a3, by decide⟩
    · exact ⟨a4, by decide⟩
    · exact ⟨a5, by decide⟩
    · exact ⟨a6, by decide⟩) (by simp) (by simp)
  refine ⟨[(headW f ++ T "2001 ? leaf : leaf]", (headW f).length + 3), (headW f ++ T "-0 ? leaf : leaf]", (headW f).length + 1)], ⟨pu_fc rfl (by omega) (by decide), pu_len rfl (by omega), pu_fc rfl (by omega) (by decide), pu_len rfl (by omega), trivial⟩, by simp, fun l1 xs1 H1 e1 hl1 hx1 hv1 => ?_⟩
  refine rows_cat (m := 2) R0 e1 hx1 hv1 (by
    intro r hr
    simp only [List.mem_cons, List.not_mem_nil, or_false] at hr
    rcases hr with rfl | rfl
    · exact ⟨b1, len_fc (by omega) (by decide)⟩
    · exact ⟨b2, len_fc (by omega) (by decide)⟩) (by simp) (by omega) fun p2 H2 e2 hp2 R2 => ?_
  obtain ⟨pl, xs2, ee, hl2, hne2, hlen2, hin2⟩ := id R2
  cases ee
  have hpd : H p2 = none := Ex.free e0 hp2
  refine ⟨Or.inl ⟨rfl, _, SqL.of hl2⟩, by rw [ofS, S_len, S_len, sizeLine_eq, show (T "-2001 ? leaf : leaf]").length = 20 from rfl]; omega, by rw [S_len, sizeLine_eq]; omega, by decide, fun t ht => ?_⟩
  have e3 : Ex H2 (upd H2 t (.tup [.str (S (headW f) ++ Str.ofString "-2001 ? leaf : leaf]"), .int ((((S (headW f)).length : Nat) : Int) + 4)])) := Ex.new ht
  have eP : Ex H (upd (upd H2 t (.tup [.str (S (headW f) ++ Str.ofString "-2001 ? leaf : leaf]"), .int ((((S (headW f)).length : Nat) : Int) + 4)])) p2 (.lst (xs2 ++ [.ref t]))) := Ex.mut (Ex.trans e0 (Ex.trans e2 e3)) hpd
  have RP := rows_push (m := (headW f).length + 4) (R2.ex e3) (e3 _ _ hl2) (by
    rw [upd_same, ofS, S_app, S_len]
    rfl) ⟨b3, len_fc (by omega) (by decide)⟩
  refine ⟨p2, rfl, xs2, e3 _ _ hl2, by rw [sizeLine_eq]; omega, [(headW f ++ T "01 ? leaf : leaf]", (headW f).length + 1), (headW f ++ T "0 ? leaf, leaf]", (headW f).length + 8)], ⟨pu_fc rfl (by omega) (by decide), pu_len rfl (by omega), pu_fc rfl (by omega) (by decide), pu_len rfl (by omega), trivial⟩, by simp, fun l4 xs4 H4 e4 hl4 hx4 hv4 => ?_⟩
  refine rows_cat (m := 2) RP e4 hx4 hv4 (by
    intro r hr
    simp only [List.mem_cons, List.not_mem_nil, or_false] at hr
    rcases hr with rfl | rfl
    · exact ⟨b4, len_fc (by omega) (by decide)⟩
    · exact ⟨b5, len_fc (by omega) (by decide)⟩) (by simp) (by omega) fun p5 H5 e5 hp5 R5 => ?_
  refine ⟨[(headW f ++ T "0 ? leaf : leaf", (headW f).length + 15), (headW f ++ T "0 ? leaf]", (headW f).length + 8)], ⟨pu_fc rfl (by omega) (by decide), pu_len rfl (by omega), pu_fc rfl (by omega) (by decide), pu_len rfl (by omega), trivial⟩, by simp, fun l6 xs6 H6 e6 hl6 hx6 hv6 => ?_⟩
  refine rows_cat (m := 2) R5 e6 hx6 hv6 (by
    intro r hr
    simp only [List.mem_cons, List.not_mem_nil, or_false] at hr
    rcases hr with rfl | rfl
    · exact ⟨b6, len_fc (by omega) (by decide)⟩
    · exact ⟨b7, len_fc (by omega) (by decide)⟩) (by simp) (by omega) fun p7 H7 e7 hp7 R7 => ?_
  have eH7 : Ex H H7 := Ex.trans eP (Ex.trans e5 e7)
  have hag : Str.ofString "size " ++ S f ++ Str.ofString " <= 0 ? leaf : leaf]" = S (againT f) := by
    rw [ofS, ofS, S_app, S_app]
    unfold againT
    simp
  have l5 : (T "size ").length = 5 := rfl
  have l6 : (T " <= 0 ? leaf : leaf]").length = 20 := rfl
  have l7 : (T "[size ").length = 6 := rfl
  have l8 : (T " - ").length = 3 := rfl
  have hal : (againT f).length = 25 + f.length := by
    unfold againT
    rw [List.length_append, List.length_append]
    omega
  refine ⟨_, rfl, by rw [ofS, S_len, S_len, sizeLine_eq]; omega, by rw [ofS, ofS, S_app, S_len, S_len, sizeLine_eq, List.length_append]; omega, ?_⟩
  rw [hag]
  refine lc_filtC (K := K) (xs := txV (treeWords (f :: ms))) (fun v => !decide (v = .str (S (T "size " ++ f)))) (fun a H1 => Ex H7 H1 ∧ H1 a = some (.lst (txV (treeWords (f :: ms))))) (fun R hR => ⟨_, rfl, q, f :: ms, rfl, eH7 _ _ hql, hO, fun D H8 e8 _ hDl => hR D H8 ⟨e8, hDl⟩⟩) ?_ (fun a H1 hb => SqL.of hb.2) (fun x H' R R0 hx hR hR0 => ?_) (fun a H1 hb D H' e9 hD hDl => ?_)
  · have h3 := hO.hi
    rw [tx_len]
    unfold treeWords
    rw [List.length_cons, scalesOf_len]
    omega
  · obtain ⟨n, hn, rfl⟩ := List.mem_map.mp hx
    rw [ofS] at *
    simp [sDPut, tDGet, tDIn, tDNotIn, tRet, tRetN, tSeq, tIfS, tDrop, tNext, tNever, tBreak, tCont, tAsg, gName, gCons, gNil, gTup, tAndV, tOrV, tNotV, tAnd, tOr, tNot, tOp, tUn, tVar, tC, tB, tTest, tIf, tCons, tNil, tCB, tTup, tLst, tFld, sFld, sFldAug, rAdd, rSub, tSl, tPart, tNoPart, rI0, rI, rU, rEq, rNe, rSlS, rSlL, rIxL, rIxT, rIxS, tChain, tFn, tMt, tM1, tM0, tBM, rAppend, rIn, tIsN, tNotN, scal_ss, scal_ii, let_nil, let_one, fig_nil, fig_one, LenV_str, L2.start, cxOf, and_assoc, tJs, tFmt, put_at, lk_at, lk_script, lk_upcoming, lk_refuse, lk_skips, lk_expect, lk_word_of, lk_name_unlike, lk_number_to, lk_finish, sp0, sp1, sp2, sp3, sp4, sp5, -List.lookup_eq_none_iff, wipe, S_inj] at hR hR0 ⊢
    refine ⟨by rw [S_len, S_len, sizeLine_eq]; omega, ?_⟩
    by_cases hno : n = T "size " ++ f
    · exact Or.inl ⟨by rw [S_app, hno], hR0 hno⟩
    · exact Or.inr ⟨fun e => hno (S_inj.mp (by rw [e, S_app])), hR hno⟩
  · have hfl2 : (txV (treeWords (f :: ms))).filter (fun v => !decide (v = .str (S (T "size " ++ f)))) = txV ((treeWords (f :: ms)).filter fun x => x != T "size " ++ f) := by
      unfold txV
      rw [List.filter_map]
      congr 1
      apply List.filter_congr
      intro x _
      simp only [Function.comp, V.str.injEq, S_inj, bne]
      by_cases h : x = T "size " ++ f
      · simp [h]
      · simp [h]
    rw [hfl2] at hDl
    have wo := words_ok hO
    obtain ⟨c, hc⟩ := common_ex (againT f) ((treeWords (f :: ms)).filter fun x => x != T "size " ++ f)
    have hbr := row_common hO hc
    refine ⟨[(T "[size " ++ (f ++ (T " - " ++ againT f)), 9 + f.length + c)], ⟨?_, ?_, trivial⟩, by simp, fun l xs H' e10 hl10 hx10 hv10 => ?_⟩
    · intro H' R e10 h10
      refine ⟨_, rfl, _, rfl, _, rfl, ?_, _, rfl, _, rfl, ?_, _, rfl, _, rfl, _, rfl, ?_, ?_⟩
      · rw [ofS, S_len, S_len, sizeLine_eq]; omega
      · rw [ofS, ofS, S_app, S_len, S_len, sizeLine_eq, List.length_append]; omega
      · rw [ofS, ofS, S_app, S_app, S_len, S_len, sizeLine_eq, List.length_append, List.length_append]; omega
      · rw [ofS, ofS, S_app, S_app, S_app, List.append_assoc, List.append_assoc]
        exact h10
    · intro H' R e10 h10
      have hfl3 : ((treeWords (f :: ms)).filter fun x => x != T "size " ++ f).length ≤ 10 := Nat.le_trans (List.length_filter_le _ _) wo.1
      refine ⟨_, rfl, _, rfl, f.length, ⟨by rw [S_len, sizeLine_eq]; omega, by rw [S_len]⟩, _, _, rfl, rfl, _, rfl, _, rfl, againT f, D, _, rfl, rfl, e10 _ _ hDl, hfl3, fun x hx => wo.2 x (List.mem_filter.mp hx).1, by omega, fun d hd => ⟨_, _, rfl, rfl, ?_⟩⟩
      have hcd : d = c := Nat.le_antisymm (common_le2 hd hc) (common_le2 hc hd)
      subst hcd
      show R (V.int ((9 + ((f.length : Nat) : Int)) + ((d : Nat) : Int))) H'
      rw [show (9 + ((f.length : Nat) : Int)) + ((d : Nat) : Int) = ((9 + f.length + d : Nat) : Int) by omega]
      exact h10
    · refine rows_cat (m := 1) R7 (Ex.trans hb.1 (Ex.trans e9 e10)) hx10 hv10 (by
        intro r hr
        simp only [List.mem_cons, List.not_mem_nil, or_false] at hr
        subst hr
        exact ⟨hbr, by show (T "[size " ++ (f ++ (T " - " ++ againT f))).length ≤ 1000; rw [List.length_append, List.length_append, List.length_append]; omega⟩) (by simp) (by omega) fun pz Hz ez hpz Rz => ?_
      refine hq pz Hz (Ex.trans eH7 ez) (Ex.free eH7 hpz) ?_
      obtain ⟨l', xs', g1, g2, g3, g4, g5⟩ := Rz
      exact ⟨l', xs', g1, g2, g3, by omega, g5⟩
end
end Mp

set_option maxHeartbeats 8000000
/-! Kx8: readings of tuples that lie in the heap as they are -/
namespace Mp
open PySem PySem.Spec PyProof.Rows L2
section
variable {X : Cx}
def rIxHT : R2 := fun x y H Q => ∃ p xs i, x = .ref p ∧ y = .int i ∧ H p = some (.tup xs) ∧ ∃ v, atI xs i = some v ∧ Q v H
theorem ix_HT : IxR X rIxHT := by
  intro value slice pins s σ H x y v u Q I rx ry h
  obtain ⟨p, xs, i, e1, e2, h1, c, h2, q⟩ := h
  exact ix_tup value slice pins s σ H x y v u Q I rx ry ⟨p, xs, i, c, e1, e2, SqT.of h1, h2, q⟩
end
end Mp

set_option maxHeartbeats 8000000
/-! Kx9: a caught error that is kept behind its suite: held in the heap as a thing; isinstance and fields of it -/
namespace Mp
open PySem PySem.Spec PyProof.Rows L2
/-- at a: an error of the class cls, with its dict -/
def exk (a : Addr) (cls : Value) (d : Option Addr) : HO := .ext fun h => ∃ oe : Obj, h.get? a = some oe ∧ Zc cls d oe ∧ ∃ vs, oe.data = .fields vs
theorem exk_ok {P : Program} {w : World} {H : Hp} {h : Heap} {a : Addr} {cls : Value} {d : Option Addr} {oe : Obj} {vs : Array Value} (he : h.get? a = some oe) (hz : Zc cls d oe) (hf : oe.data = .fields vs) : ObjOk P w H h a (exk a cls d) :=
  ⟨⟨oe, he, hz, vs, hf⟩, ⟨_, he⟩, fun h1 h2 ⟨o, e, r⟩ k => ⟨o, k _ e, r⟩⟩
theorem exk_at {P : Program} {w : World} {H : Hp} {h : Heap} {a : Addr} {cls : Value} {d : Option Addr} (hok : HOk P w H h) (he : H a = some (exk a cls d)) : ∃ oe : Obj, h.get? a = some oe ∧ Zc cls d oe ∧ ∃ vs, oe.data = .fields vs := by
  have x : ObjOk P w H h a (.ext fun h => ∃ oe : Obj, h.get? a = some oe ∧ Zc cls d oe ∧ ∃ vs, oe.data = .fields vs) := hok a _ he
  exact x.1
def dropS (D : Ends) (i : Nat) : Ends := { nx := fun σ' H' => D.nx (σ'.set i none) H', rt := D.rt, bk := fun σ' H' => D.bk (σ'.set i none) H', ct := fun σ' H' => D.ct (σ'.set i none) H' }
/-- what the clause wishes of an error of the body -/
def wKeep (K : PySem.W.Frag) (c : Value) (i L : Nat) (ts : TS) (Wout : WX) (D : Ends) : WX := fun cls d σ H => σ.length = L →
  ∃ b, PySem.W.exmOne K cls c = some b ∧ (b = true → ∀ a, H a = none → ts (dropS D i) (σ.set i (some (.ref a))) (upd H a (exk a cls d))) ∧ (b = false → Wout cls d σ H)
section
variable {X : Cx} {pins : List (Addr × Obj)} {σ : L2.St} {H : Hp} {s : Shared}
theorem inv_out0 {a : Addr} {pn' : List (Addr × Obj)} (I : Inv (X.suite a (X.pn ++ pins)) pn' σ H s) (ok : X.Ok) : Inv X pins σ H s :=
  ⟨ok, I.os, I.bare, I.base, I.loc, I.cell, I.free, I.freeC, fun p hp => I.pin p (List.mem_append_left _ hp), I.hok, I.len⟩
theorem inv_in0 {a : Addr} (I : Inv X pins σ H s) : Inv (X.suite a (X.pn ++ pins)) [] σ H s :=
  ⟨I.ok.suite _ _, I.os, I.bare, I.base, I.loc, I.cell, I.free, I.freeC, fun p hp => I.pin p (by rw [List.append_nil] at hp; exact hp), I.hok, I.len⟩
/-- an error that lies in the heap and was not there at the entry is told from now on -/
theorem inv_tell {a : Addr} {cls : Value} {d : Option Addr} {oe : Obj} {vs : Array Value} (I : Inv X pins σ H s) (he : s.heap.get? a = some oe) (hz : Zc cls d oe) (hf : oe.data = .fields vs) (na : H a = none) (n0 : ∀ o, X.s_0.heap.get? a = some o → a ∈ X.ex) (nL : a ≠ X.env.locals)
    (np : ∀ p ∈ X.pn ++ pins, p.1 ≠ a) : Inv X pins σ (upd H a (exk a cls d)) s where
  ok := I.ok
  os := I.os
  bare := I.bare
  base := {
    keep := I.base.keep
    slot := I.base.slot
    free := fun b o e n hx => by
      have hb : b ≠ a := fun z => by
        rw [z] at e hx
        exact hx (n0 o e)
      rw [upd_ne hb]
      exact I.base.free b o e n hx
    there := I.base.there
    tups := fun b xs e => by
      have q := I.base.tups b xs e
      rw [upd_ne (ne_of_none q na)]
      exact q
    frzs := fun b o u e => by
      have q := I.base.frzs b o u e
      rw [upd_ne (ne_of_none q na)]
      exact q
    tbls := fun b ps e => by
      obtain ⟨m, q⟩ := I.base.tbls b ps e
      refine ⟨m, ?_⟩
      rw [upd_ne (ne_of_none q na)]
      exact q }
  loc := I.loc
  cell := I.cell
  free := by
    rw [upd_ne (fun z => nL z.symm)]
    exact I.free
  freeC := fun x c e => by
    have hc : c ≠ a := fun z => by
      obtain ⟨v, o, ho, hd⟩ := I.cell x c e
      rw [z, he] at ho
      cases ho
      rw [hf] at hd
      cases hd
    rw [upd_ne hc]
    exact I.freeC x c e
  pin := fun p hp => by
    obtain ⟨h1, h2, h3⟩ := I.pin p hp
    refine ⟨h1, ?_, h3⟩
    rw [upd_ne (np p hp)]
    exact h2
  hok := HOk.laidN I.hok (fun _ _ q => q) na (exk_ok he hz hf)
  len := I.len
end
section
variable {X : Cx} {x n : Str} {c : Value} {i : Nat} {body suite : List Stmt} {b₀ : Stmt} {np pos pos' : Pos} {tb : WX → TS} {ts : TS} {Wout : WX}
theorem ps_try_keep (hs : X.stack = X.env :: X.outer) (hf : X.env.frame = some X.env.locals) (hex : X.ex = []) (hN : X.N.Nodup) (hi : X.N[i]? = some n) (hln : X.env.kindOf n = some .local) (hc : Names X x c) (tk : Takes X Wout)
    (hb : ∀ (W : WX) (pn : List (Addr × Obj)) (xe : Value → Shared → Prop), Takes (X.tr pn xe) W → PassesOwn (model X.prog X.w) X.A X.env xe → PSs (X.tr pn xe) body (tb W))
    (hsu : ∀ (a : Addr) (pn : List (Addr × Obj)), PSs (X.suite a pn) (b₀ :: suite) ts) :
    PS X (.Try body [.ExceptHandler (some (.Name x np)) (some n) (b₀ :: suite) pos'] [] [] pos) (fun D σ H => tb (wKeep X.K c i X.N.length ts Wout D) D σ H) := by
  refine ⟨fun pins s σ H D I h => ?_⟩
  have ok := I.ok
  have hfr : X.A.frames = some (X.env :: X.outer) := by rw [ok.frames, hs]
  have hloc : Loc X.env.scope n := .inl hln
  refine wpAny_Try_except ?_
  have hbody := (hb (wKeep X.K c i X.N.length ts Wout D) (X.pn ++ pins) (fun e s₁ => wpAny (model X.prog X.w) X.A (noteFrame e X.env) (fun _ s₂ => wpAny (model X.prog X.w) X.A (setFlight e none) (fun _ s₃ =>
    wpAny (model X.prog X.w) X.A (handleBy e X.env [.ExceptHandler (some (.Name x np)) (some n) (b₀ :: suite) pos']) (L2.SP X pins D) X.xe s₃) X.xe s₂) X.xe s₁) (fun u s' xx => ?_) PassesOwn.looking).run [] s σ H D (I.toTry _) h
  · refine wpAny_mono hbody (fun f s1 hsp => ?_) (fun e s1 he => he)
    cases f with
    | next =>
      obtain ⟨σ', H', J', q⟩ := hsp
      exact wpAny_execs_nil ⟨σ', H', J'.ofTry ok, q⟩
    | brk =>
      obtain ⟨σ', H', J', q⟩ := hsp
      exact ⟨σ', H', J'.ofTry ok, q⟩
    | cont =>
      obtain ⟨σ', H', J', q⟩ := hsp
      exact ⟨σ', H', J'.ofTry ok, q⟩
    | ret u =>
      obtain ⟨v, σ', H', J', r, q⟩ := hsp
      exact ⟨v, σ', H', J'.ofTry ok, r, q⟩
  · obtain ⟨a, B, sI, pins', σ', H', cls, d, rfl, J', nb, up, sky, na, os, ag, hw⟩ := xx
    obtain ⟨b, hb1, hyes, hno⟩ := hw J'.len
    have J : Inv X pins σ' H' sI := J'.ofTry ok
    have skyX : Sky B (X.env :: X.outer) a (Zc cls d) X.env.locals s'.heap := by rw [← hs]; exact sky
    show wpAny (model X.prog X.w) X.A (noteFrame (.ref a) X.env) _ _ _
    refine Sky.land Zc.steady hfr hf skyX fun h3 fl3 up3 => ?_
    have J3 : Inv X pins σ' H' { s' with heap := h3 } := J.landed nb fl3.1 (up.trans up3) os ag
    obtain ⟨oe3, vs3, he3, hz3, hd3⟩ := fl3.there
    have nfr : a ∉ frs (X.env :: X.outer) := fun hm => by
      obtain ⟨_, o', e', hnf⟩ := fl3.2.2.1.mem hm
      rw [he3] at e'
      cases e'
      exact hnf _ hd3
    have nfs : a ∉ frs X.stack := by rw [hs]; exact nfr
    have nL : a ≠ X.env.locals := fun z => nfr (List.mem_filterMap.mpr ⟨X.env, List.mem_cons_self, by rw [hf, z]⟩)
    have nB : ∀ o, sI.heap.get? a = some o → False := fun o e => by
      have q := nb a o e nfs
      rw [fl3.2.1] at q
      cases q
    have n0 : ∀ o, X.s_0.heap.get? a = some o → a ∈ X.ex := fun o e => by
      by_cases hx : a ∈ X.ex
      · exact hx
      · obtain ⟨o', e'⟩ := J.base.there a o e hx
        exact (nB o' e').elim
    have npn : ∀ p ∈ X.pn ++ pins, p.1 ≠ a := fun p hp z => by
      obtain ⟨h1, _⟩ := J.pin p hp
      rw [z] at h1
      exact nB _ h1
    have S3 := inv_in0 (a := a) J3
    refine wpAny_handleBy_cons (codeAny_handlers_test ?_) (by intro q; cases q)
    have LT : PySem.W.Looks (model X.prog X.w) h3 (typeOf (.ref a)) cls := fun A Q E s k q => wpAny_typeOf_ref (k _ _ he3) (by rw [hz3.1]; exact q)
    have LM := PySem.W.exm_one (M := model X.prog X.w) (J3.kIn) LT hb1
    have test : ∀ {Q : Value → Shared → Prop} {E : Value → Shared → Prop}, Q c { s' with heap := h3 } → wpAny (model X.prog X.w) (X.A.mark (some (.ref a))) (eval (.Name x np) X.env) Q E { s' with heap := h3 } := fun {Q E} q => by
      obtain ⟨hg, hdbg, hm | ⟨hm, hv, hnn⟩⟩ := hc
      · exact ld_glob (X := X.suite a (X.pn ++ pins)) S3 hg hm q hdbg
      · exact ld_blt (X := X.suite a (X.pn ++ pins)) S3 hg hm hv q hnn hdbg
    refine test (LM.here ?_)
    cases b with
    | true =>
      refine codeAny_handlers_suite_as ?_
      refine HandSPX.lands_againZ fl3 fun h4 fl4 up4 => ?_
      have J4 : Inv X pins σ' H' { s' with heap := h4 } := J.landed nb fl4.1 ((up.trans up3).trans up4) os ag
      obtain ⟨oe4, vs4, he4, hz4, hd4⟩ := fl4.there
      have S4 := inv_in0 (a := a) (inv_tell J4 he4 hz4 hd4 na n0 nL npn)
      refine store_ok (X := X.suite a (X.pn ++ pins)) (v := .ref a) S4 hN hi hloc rfl (fun s5 S5 => ?_) (.inr hln)
      refine wpAny_mono ((hsu a (X.pn ++ pins)).run [] s5 _ _ _ S5 (hyes rfl a na)) (fun f s6 hsp => ?_) (fun _ _ z => False.elim z)
      have finish : ∀ {σ6 : L2.St} {H6 : Hp} {Q : Shared → Prop}, Inv (X.suite a (X.pn ++ pins)) [] σ6 H6 s6 → (∀ s7, Inv X pins (σ6.set i none) H6 s7 → Q s7) →
          wpAny (model X.prog X.w) X.A (do bindName X.env n .none; unbindBehindTheSuite X.env n pos') (fun _ s7 => Q s7) X.xe s6 := fun S6 hq => gone_ok (inv_out0 S6 ok) hN hi hln hq
      cases f with
      | next =>
        obtain ⟨σ6, H6, S6, q6⟩ := hsp
        exact finish S6 fun s7 J7 => ⟨_, _, J7, q6⟩
      | brk =>
        obtain ⟨σ6, H6, S6, q6⟩ := hsp
        exact finish S6 fun s7 J7 => ⟨_, _, J7, q6⟩
      | cont =>
        obtain ⟨σ6, H6, S6, q6⟩ := hsp
        exact finish S6 fun s7 J7 => ⟨_, _, J7, q6⟩
      | ret u =>
        obtain ⟨v6, σ6, H6, S6, r6, q6⟩ := hsp
        exact finish S6 fun s7 J7 => ⟨_, _, _, J7, r6, q6⟩
    | false =>
      show wpAny _ X.A (handleBy (.ref a) X.env []) _ _ _
      refine wpAny_handleBy_nil ?_
      obtain ⟨k1, k2, k3, oe, vs, T, oT, ts', he, hz, hd, h1, hr⟩ := id fl3
      unfold PySem.passOn
      refine wpAny_bind (wpAny_field he hd h1 ?_)
      rw [if_neg (show ¬ ((Value.ref T == Value.none) = true) from by simp)]
      have out : wpAny (model X.prog X.w) X.A (setFlight (.ref a) X.env.frame) (fun _ s4 => wpAny (model X.prog X.w) X.A (throw (.ref a) : Sem Flow) (L2.SP X pins D) X.xe s4) X.xe { s' with heap := h3 } := by
        rw [hf]
        refine HandSPX.setFlight_upZ fl3 fun h4 hh4 up4 => wpAny_throw (tk _ _ ?_)
        exact ⟨a, B, sI, pins, σ', H', cls, d, rfl, J, nb, (up.trans up3).trans up4, .inr (.inr (by rw [hs]; exact hh4)), na, os, ag, hno rfl⟩
      first
        | exact wpAny_bind (wpAny_pure (wpAny_bind out))
        | exact wpAny_bind out
end
/-! ### asking it -/
/-- what the class at D must say -/
structure EkC (K : PySem.W.Frag) (D : Addr) : Prop where
  cl : (PySem.W.clsIn K D).isSome = true
  ga : PySem.W.findIn K (.ref D) "__getattribute__" = some (some (.builtin "BaseException.__getattribute__"))
  gg : PySem.W.findIn K (.ref D) "__getattr__" = some none
  sb : PySem.W.subIn K (.ref D) (.type "BaseException") = some true
  hd : PySem.W.hasDictIn K D = true
  ca : PySem.W.findIn K (.ref D) "__class__" = some (some (.builtin "object.__class__"))
  sn : PySem.W.specialIn K (.builtin "object.__class__") "__get__" = some (some (.builtin "getset_descriptor.__get__"))
  tk : PySem.W.takesIn K (.builtin "object.__class__") = some true
  mo : PySem.W.mroIn K D (.type "object") = some true
theorem EkC.kit {K : PySem.W.Frag} {D x : Addr} {ox : Obj} {od : Option Obj} (C : EkC K D) : PySem.W.KitX K (.ref x) (.ref D) (fun h => PySem.W.InstAt h x ox D od) := PySem.W.kitx_exc C.cl C.ga C.gg C.sb C.ca C.sn C.tk C.mo
section
variable {X : Cx} {pins : List (Addr × Obj)} {σ : L2.St} {H : Hp} {s : Shared}
theorem exk_inst {a D dd : Addr} {fs : List (Str × V)} (I : Inv X pins σ H s) (he : H a = some (exk a (.ref D) (some dd))) (hd : H dd = some (.xd fs)) :
    ∃ oe od mA, PySem.W.InstAt s.heap a oe D (some od) ∧ (∀ f, RelO (fs.lookup f) (mA f)) ∧ s.heap.Ns1 dd mA ∧ s.heap.get? dd = some od := by
  obtain ⟨oe, ha, hz, vs, hv⟩ := exk_at I.hok he
  have hx : ObjOk X.prog X.w H s.heap dd (.xd fs) := I.hok dd _ hd
  obtain ⟨mA, hns, hr⟩ := hx
  obtain ⟨od, es, ep, ho, hrest⟩ := id hns
  exact ⟨oe, od, mA, ⟨ha, hz.1, by unfold PySem.W.notCls; rw [hv] <;> rfl, by rw [hz.2]; exact ho⟩, hr, hns, ho⟩
/-- isinstance(e, C), e an error that was kept -/
def rIsK (K : PySem.W.Frag) (D : Addr) : List V → Hp → VK → Prop := fun xs H Q => ∃ (a dd : Addr) (fs : List (Str × V)) (c : V) (cv : Value) (b : Bool), xs = [.ref a, c] ∧ H a = some (exk a (.ref D) (some dd)) ∧ H dd = some (.xd fs) ∧ (∀ u, RelV c u → u = cv) ∧ PySem.W.kitOne K (.ref D) cv = some b ∧ Q (.bl b) H
theorem call_isK {D : Addr} (C : EkC X.K D) : CallR X (.builtin "isinstance") (rIsK X.K D) := by
  intro pins s σ H xs us Q I r h
  obtain ⟨a, dd, fs, c, cv, b, rfl, he, hd, hcv, e, q⟩ := h
  cases r with
  | cons rx rr =>
    cases rr with
    | cons rt rr =>
      cases rr
      cases rx
      have ec := hcv _ rt
      subst ec
      obtain ⟨oe, od, mA, J, _⟩ := exk_inst I he hd
      exact PySem.W.kia_one C.kit I.kIn J e (fun z => nomatch z) fun tk => ⟨.bl b, H, I.kept (t' := tk) fun _ _ z => z, rfl, q⟩
/-- e.f of an error that was kept -/
def tFldK (D : Addr) (f : Str) (te : TE) : TE := fun σ H Q => te σ H fun x H1 => ∃ (a dd : Addr) (fs : List (Str × V)) (v : V), x = .ref a ∧ H1 a = some (exk a (.ref D) (some dd)) ∧ H1 dd = some (.xd fs) ∧ fs.lookup f = some v ∧ Q v H1
theorem pe_fldK {D : Addr} {e : Expr} {te : TE} {pos : Pos} {n : Str} (T : EkC X.K D) (hno : PySem.W.findIn X.K (.ref D) n = some none) (he : PE X e te) (hb : attributeBase e n X.env (eval e X.env) = eval e X.env := by rfl) : PE X (.Attribute e n pos) (tFldK D n te) := by
  refine ⟨fun pins s σ H Q I h => ?_⟩
  refine attr_of hb (thn (he.run pins s σ H _ I h) fun u s1 hh => ?_)
  obtain ⟨x, H1, I1, rx, a, dd, fs, v, ex, ha, hd, l, q⟩ := hh
  subst ex
  obtain rfl : u = Value.ref a := rx
  obtain ⟨oe, od, mA, J, hr, hns, ho⟩ := exk_inst I1 ha hd
  obtain ⟨od2, ho2, hl⟩ := lookIn_ns hns
  rw [ho] at ho2
  cases ho2
  obtain ⟨u, hu, ru⟩ := RelO.some_of (v := v) (o := mA n) (by rw [← l]; exact hr n)
  exact HandSPX.exc_get I1.kIn J T.ga T.gg T.sb (PySem.W.findObj_own T.hd hno rfl (by rw [hl, hu])) (handed_of ru) ⟨v, H1, I1.tok _, ru, q⟩
end
end Mp

set_option maxHeartbeats 8000000
/-! Kz3: _law_heard called with a lambda -/
namespace Mp
open PySem PySem.Spec PyProof.Rows L2
open StX (tMakeR run_makeR pe_makeR)
open He (ga ma fAd)
open LamX (ExtN Tabs TabS TabB tLam LamS GivesTo CodeO lamEnv lamCx)
/-- what the head says of errors that are asked -/
structure Zx (K : PySem.W.Frag) : Prop where
  ek : EkC K (ga K "BadText")
  em : PySem.W.exmOne K (.ref (ga K "BadText")) (.ref (ga K "PadError")) = some true
  kb : PySem.W.kitOne K (.ref (ga K "BadText")) (.ref (ga K "BadText")) = some true
/-! ### a def whose code object is told -/
section
variable {P : Program} {w : World} {K : PySem.W.Frag} {mg : Str → Option Value} {base : Heap} {n x qual : Str} {params : Arguments} {body : List Stmt} {scope : Scope} {p : He.Defn} {fd : FuncData} {N ps : List Str} {k : Nat} {sp : Sp}
theorem fnr_ofC (F : FunD K n qual params body scope [] [] (fAd K p) fd) (S : FnScope N ps scope) (hb : BindN qual n params body scope ps) (len : ∀ vs H Q E, sp vs H Q E → vs.length = ps.length)
    (hbody : ∀ (A : Around) (outer : List Env) (s : Shared) (H : Hp) (vs : List V) (Q : VK) (E : XK), Room k (A.deeper (envOfC qual scope s.heap.objs.size (fAd K p) (.ref (He.codeOf K p)))) → sp vs H Q E →
      ∃ t, PSs (cxOf (L2.CX P w) P w K mg base N qual scope (fAd K p) (.ref (He.codeOf K p)) A outer s H E) body t ∧ t { nx := fun _ H' => Q .non H', rt := Q } (L2.start N vs) H) : FnR P w K mg base (L2.CX P w) (k + 1) (fAd K p) sp := by
  have b : Binds K fd ps [] := F.bindsN hb
  obtain ⟨oc, od, dV, kV, doc, pm, an, cdv, ct, osl, rfl, lk, hcd, _, _⟩ := F.ex
  obtain ⟨c, rfl⟩ := He.codeIn_ref hcd
  have hc : He.codeOf K p = c := He.codeOf_eq lk rfl
  subst hc
  have G : FnOk P w K mg base (L2.CX P w) (k + 1) (fAd K p) _ ps sp := fn_of lk hcd S len hbody
  refine (G.raw b .nil).imp fun vs H Q E h => ?_
  show sp (vs ++ []) H Q E
  rw [List.append_nil]
  exact h
theorem cal_ofC (F : FunD K n qual params body scope [] [] (fAd K p) fd) (hm : mg x = some (.ref (fAd K p))) (S : FnScope N ps scope) (hb : BindN qual n params body scope ps) (len : ∀ vs H Q E, sp vs H Q E → vs.length = ps.length)
    (hbody : ∀ (A : Around) (outer : List Env) (s : Shared) (H : Hp) (vs : List V) (Q : VK) (E : XK), Room k (A.deeper (envOfC qual scope s.heap.objs.size (fAd K p) (.ref (He.codeOf K p)))) → sp vs H Q E →
      ∃ t, PSs (cxOf (L2.CX P w) P w K mg base N qual scope (fAd K p) (.ref (He.codeOf K p)) A outer s H E) body t ∧ t { nx := fun _ H' => Q .non H', rt := Q } (L2.start N vs) H) : Cal P w K mg base x (k + 1) sp :=
  ⟨_, fnr_ofC F S hb len hbody, hm, F.kp⟩
end
/-! ### _law_heard -/
/-- what _law_heard makes of what the deed does -/
def THeard (K : PySem.W.Frag) : (XK → Hp → VK → Prop) → Hp → VK → Prop := fun tl H Q =>
  tl (fun cls d H' => ∃ dd n, cls = .ref (ga K "BadText") ∧ d = some dd ∧ H' dd = some (.xd [("at", .int n)]) ∧ ∀ H2, Ex H' H2 → Q (.int n) H2) H (fun _ H' => Q .non H')
section
variable {X : Cx}
theorem sc_heard : FnScope ["deed", "caught", "error"] ["deed"] (defScope s__law_heard) := ⟨rfl, rfl, rfl, by decide +kernel, rfl, by decide +kernel, by decide +kernel⟩
theorem set_slots {σ : L2.St} {x : V} (h : σ.length = 3) : ∃ a, ((σ.set 2 (some x)).set 1 (some x)).set 2 none = [a, some x, none] := by
  match σ, h with
  | [a, b, c], _ => exact ⟨a, rfl⟩
theorem deed_body {Y : Cx} {W : WX} {a : Str} {p1 p2 p3 : Pos} {f c' : Addr} {q : Str} {tl : XK → Hp → VK → Prop}
    (act : ∀ (E : XK) (p1 p2 : Pos), (∀ cls d σ' H', E cls d H' → W cls d σ' H') → PE Y (.Call (.Name a p1) [] [] p2) (fun σZ HZ Q => σZ[0]? = some (some (.ref f)) ∧ HZ c' = some (CodeO c' q) ∧ tl E HZ Q)) :
    PSs Y [.Expr (.Call (.Name a p1) [] [] p2) p3] (fun D σ H => ∃ Ech : XK, (∀ cls d σ' H', Ech cls d H' → W cls d σ' H') ∧ σ[0]? = some (some (.ref f)) ∧ H c' = some (CodeO c' q) ∧ tl Ech H (fun _ H' => D.nx σ H')) := by
  refine ⟨fun pins s' σ H' D I h' => ?_⟩
  obtain ⟨Ech, hW, h1, h2, h3⟩ := h'
  exact (pss_one (ps_expr (act Ech p1 p2 hW))).run pins s' σ H' D I ⟨h1, h2, h3⟩
theorem heard_gives {K : PySem.W.Frag} (hK : X.K = K) (z : Zk X.K X.mg X.base) (zx : Zx X.K) {q : Str} {cdg : Value} : GivesTo X ["deed", "caught", "error"] "_law_heard" (defScope s__law_heard) (fAd X.K ("_law_heard", none)) cdg (defBody s__law_heard) "deed" q (THeard X.K) := by
  intro f c' s H Q tl act hc h
  subst hK
  have nd := sc_heard.nd
  refine ⟨_, pss_cons (ps_set (i := 1) nd rfl (Or.inl rfl) pe_non) (pss_cons
    (ps_try_keep (X := (cxOf C8.CX0 X.prog X.w X.K X.mg X.base ["deed", "caught", "error"] "_law_heard" (defScope s__law_heard) (fAd X.K ("_law_heard", none)) cdg X.A X.stack s H C8.E0).nox) (i := 2) (c := .ref (ga X.K "PadError"))
      (tb := fun W D σ H => ∃ Ech : XK, (∀ cls d σ' H', Ech cls d H' → W cls d σ' H') ∧ σ[0]? = some (some (.ref f)) ∧ H c' = some (CodeO c' q) ∧ tl Ech H (fun _ H' => D.nx σ H'))
      rfl rfl rfl nd rfl rfl ⟨rfl, by decide, .inl z.g_PadError⟩ LamX.takes0 (fun W pn xe tk _ => ?_) (fun a pn => pss_one (ps_set (i := 1) nd rfl (Or.inl rfl) (pv 2))))
    (pss_cons (ps_if (pt_cmpR op_isN (pv 1) pe_non (nomark _)) (pss_one (ps_ret pe_non)) pss_nil)
      (pss_one (ps_ret (pe_ifExp (pt_val (pe_callB (call_isK zx.ek) rfl z.b_isinstance boot_isinstance (pa_cons (pv 1) (pa_cons (pe_gref z.g_BadText) pa_nil)))) (pe_fldK zx.ek z.xn_BadText (pv 1)) pe_str))))), ?_⟩
  · exact deed_body (tl := tl) fun E p1 p2 hW => act W pn xe E p1 p2 tk hW
  · simp [tRet, tRetN, tSeq, tIfS, tDrop, tNext, tNever, tBreak, tCont, tAsg, gName, gCons, gNil, gTup, tAndV, tOrV, tNotV, tAnd, tOr, tNot, tOp, tUn, tVar, tC, tB, tTest, tIf, tCons, tNil, tCB, tTup, tLst, tFld, sFld, sFldAug, rAdd, rSub, tSl, tPart, tNoPart, rI0, rI, rU, rEq, rNe, rSlS, rSlL, rIxL, rIxT, rIxS, tChain, tFn, tMt, tM1, tM0, tBM, rAppend, rIn, tIsN, tNotN, scal_ss, scal_ii, let_nil, let_one, fig_nil, fig_one, LenV_str, L2.start, cxOf, and_assoc, tJs, tFmt, put_at, lk_at, lk_script, lk_upcoming, lk_refuse, lk_skips, lk_expect, lk_word_of, lk_name_unlike, lk_number_to, lk_finish, sp0, sp1, sp2, sp3, sp4, sp5, -List.lookup_eq_none_iff]
    refine ⟨_, fun cls d σ' H' hE hL => ?_, hc, h⟩
    obtain ⟨dd, n, rfl, rfl, hd, hq⟩ := hE
    refine ⟨true, zx.em, fun _ a ha => ?_, fun q => nomatch q⟩
    have hne : dd ≠ a := fun e => by
      rw [e, ha] at hd
      cases hd
    match σ', hL with
    | [x0, x1, x2], _ =>
    simp [tRet, tRetN, tSeq, tIfS, tDrop, tNext, tNever, tBreak, tCont, tAsg, gName, gCons, gNil, gTup, tAndV, tOrV, tNotV, tAnd, tOr, tNot, tOp, tUn, tVar, tC, tB, tTest, tIf, tCons, tNil, tCB, tTup, tLst, tFld, sFld, sFldAug, rAdd, rSub, tSl, tPart, tNoPart, rI0, rI, rU, rEq, rNe, rSlS, rSlL, rIxL, rIxT, rIxS, tChain, tFn, tMt, tM1, tM0, tBM, rAppend, rIn, tIsN, tNotN, scal_ss, scal_ii, let_nil, let_one, fig_nil, fig_one, LenV_str, L2.start, cxOf, and_assoc, tJs, tFmt, put_at, lk_at, lk_script, lk_upcoming, lk_refuse, lk_skips, lk_expect, lk_word_of, lk_name_unlike, lk_number_to, lk_finish, sp0, sp1, sp2, sp3, sp4, sp5, -List.lookup_eq_none_iff, dropS, rIsK, tFldK, tIf, tB, tCB]
    have hd2 : upd H' a (exk a (.ref (ga X.K "BadText")) (some dd)) dd = some (.xd [("at", .int n)]) := by rw [upd_ne hne]; exact hd
    refine ⟨dd, upd_same, ⟨_, hd2⟩, _, fun u e => e, Or.inr ⟨zx.kb, dd, upd_same, _, hd2, _, rfl, hq _ (Ex.new ha)⟩⟩
/-- _law_heard(lambda: ..) -/
theorem pe_heard {K : PySem.W.Frag} {T : List (Addr × Str)} {c P : Addr} {k k0 : Nat} {params : Arguments} {body : Expr} {scope : Scope} {t : XK → TE} {p lpos pos : Pos} (hK : X.K = K) (z : Zk X.K X.mg X.base) (zx : Zx X.K)
    (TB : TabB X.base X.mg c P) (hcode : X.env.code = .ref c) (hmT : (P, X.env.qual ++ "<lambda>") ∈ T) (hu : ∀ p ∈ T, p.1 = P → p.2 = X.env.qual ++ "<lambda>") (hr : Room k0 X.A) (hk : k + 2 ≤ k0) (L : LamS X.env.scope scope)
    (hbody : ∀ (A : Around) (outer : List Env) (s : Shared) (H : Hp) (E : XK) (f c' : Addr), Room k (A.deeper (lamEnv X scope s.heap.objs.size f c')) → PE (lamCx X A outer s H E scope f c') body (t E))
    (hg : Gl X "_law_heard" := by rfl) (hdef : defaultsOf params X.env = ([], []) := by rfl)
    (hbind : ∀ (q : Str) (cl : List (Str × Addr)) (pm cv ctv : Value), bindArgs (PySem.W.kla_fn "<lambda>" q params body scope cl pm cv ctv) ⟨[], []⟩ = pure [] := by intro _ _ _ _ _; rfl) :
    PE X (.Call (.Name "_law_heard" p) [.Lambda params body scope lpos] [] pos) (tLam T (THeard K) t) := by
  subst hK
  obtain ⟨fd, F⟩ := z.d__law_heard
  have b : Binds X.K fd ["deed"] [] := F.bindsN fun _ _ _ _ _ _ us hl => match us, hl with | [_], _ => rfl
  obtain ⟨oc, od, dV, kV, doc, pm, an, cdv, ct, osl, rfl, lk, hcd, _, _⟩ := F.ex
  exact LamX.pe_lamcall (a := "deed") (Ng := ["deed", "caught", "error"]) hg z.g__law_heard F.kp lk hcd b sc_heard rfl (Or.inl rfl) (heard_gives rfl z zx) TB hcode hmT hu (hr.mono hk) L hdef hbind hbody
end
end Mp

set_option maxHeartbeats 8000000
/-! N7: full and deep trees, plain -/
namespace Mp
theorem size_in {f : List Nat} {ms : List (List Nat)} : T "size " ++ f ∈ treeWords (f :: ms) := by unfold treeWords scalesOf; simp
theorem align_in {f : List Nat} {ms : List (List Nat)} : T "align " ++ f ∈ treeWords (f :: ms) := by unfold treeWords scalesOf; simp
theorem size_ne (f g : List Nat) : T "size " ++ f ≠ T "align " ++ g := fun e => by cases e
theorem ok_full : ∀ d, d ≤ 2000 → TrOk (treeWords [T "k"]) (fullT d)
  | 0, _ => trivial
  | d + 1, h => ⟨size_in (f := T "k"), align_in (f := T "k"), fun e => size_ne _ _ e.symm, (by show (((d + 1 : Nat)) : Int).natAbs ≤ 2000; omega), ok_full d (by omega), ok_full d (by omega)⟩
theorem deep_full : ∀ d, (fullT d).deep = d
  | 0 => rfl
  | d + 1 => by
    show max (fullT d).deep (fullT d).deep + 1 = d + 1
    rw [deep_full d, Nat.max_self]
theorem ok_no : ∀ m, TrOk (treeWords [T "k"]) (deepNo m)
  | 0 => trivial
  | m + 1 => ⟨align_in (f := T "k"), size_in (f := T "k"), size_ne _ _, by decide, trivial, ok_no m⟩
theorem deep_no : ∀ m, (deepNo m).deep = m
  | 0 => rfl
  | m + 1 => by
    show max 0 (deepNo m).deep + 1 = m + 1
    rw [deep_no m]
    omega
theorem ok_yes (t : List Nat) : ∀ m, TrOk (treeWords [t]) (deepYes t m)
  | 0 => trivial
  | m + 1 => ⟨align_in, size_in, size_ne _ _, by decide, ok_yes t m, trivial⟩
theorem deep_yes (t : List Nat) : ∀ m, (deepYes t m).deep = m
  | 0 => rfl
  | m + 1 => by
    show max (deepYes t m).deep 0 + 1 = m + 1
    rw [deep_yes t m]
    omega
theorem rep_succ_end (n : Nat) (a : List Nat) : (List.replicate (n + 1) a).flatten = (List.replicate n a).flatten ++ a := by
  induction n with
  | zero => simp
  | succ n ih =>
    have h1 : (List.replicate (n + 1 + 1) a).flatten = a ++ (List.replicate (n + 1) a).flatten := by rw [List.replicate_succ, List.flatten_cons]
    have h2 : (List.replicate (n + 1) a).flatten = a ++ (List.replicate n a).flatten := by rw [List.replicate_succ, List.flatten_cons]
    rw [h1, ih, ← List.append_assoc, ← h2, ih]
theorem text_yes (t : List Nat) : ∀ m, (deepYes t m).text = (List.replicate m (headD t)).flatten ++ (T "leaf" ++ (List.replicate m (T " : leaf]")).flatten)
  | 0 => by simp [deepYes, Tr.text]
  | m + 1 => by
    rw [List.replicate_succ, List.flatten_cons, rep_succ_end]
    have e : (deepYes t (m + 1)).text = headD t ++ ((deepYes t m).text ++ T " : leaf]") := by
      show 91 :: ((T "align " ++ t) ++ (T " - " ++ ((T "size " ++ t) ++ (T " <= " ++ (numI 0 ++ (T " ? " ++ ((deepYes t m).text ++ (T " : " ++ (T "leaf" ++ [93]))))))))) = _
      have h0 : numI 0 = [48] := TL.numL_lt (by decide)
      rw [h0]
      unfold headD
      simp
      rfl
    rw [e, text_yes t m]
    simp
end Mp

set_option maxHeartbeats 8000000
/-! N8: trees too deep are refused where the room ends -/
namespace Mp
theorem numI_zero : numI 0 = [48] := TL.numL_lt (by decide)
theorem yes_step {t r q : List Nat} {m : Nat} (hO : KsOk [t]) (h : readTr (treeWords [t]) m r = .bad q) : readTr (treeWords [t]) (m + 1) (headD t ++ r) = .bad q := by
  have hw := ws_words hO
  have hf : T "size " ++ t ∈ (treeWords [t]).filter fun x => x != T "align " ++ t := List.mem_filter.mpr ⟨size_in, bne_iff_ne.mpr (size_ne _ _)⟩
  have e : headD t ++ r = 91 :: ((T "align " ++ t) ++ 32 :: (45 :: 32 :: ((T "size " ++ t) ++ 32 :: (60 :: 61 :: 32 :: (numI 0 ++ 32 :: (63 :: 32 :: r)))))) := by
    rw [numI_zero]
    unfold headD
    simp
    rfl
  rw [e, tr_ask]
  unfold readAsk
  rw [word_ok hw align_in, Res.ok_bind, exp_dash, Res.ok_bind, word_ok (hw.filter _) hf, Res.ok_bind, exp_le, Res.ok_bind, int_ok (by decide), Res.ok_bind, exp_q, Res.ok_bind, h]
  rfl
theorem yes_deep {t X : List Nat} (hO : KsOk [t]) : ∀ m, readTr (treeWords [t]) m ((List.replicate m (headD t)).flatten ++ 91 :: X) = .bad (91 :: X)
  | 0 => rfl
  | m + 1 => by
    have e : (List.replicate (m + 1) (headD t)).flatten ++ 91 :: X = headD t ++ ((List.replicate m (headD t)).flatten ++ 91 :: X) := by
      rw [List.replicate_succ, List.flatten_cons, List.append_assoc]
    rw [e]
    exact yes_step hO (yes_deep hO m)
theorem rep_len (a : List Nat) : ∀ n : Nat, (List.replicate n a).flatten.length = n * a.length
  | 0 => by simp
  | n + 1 => by
    rw [List.replicate_succ, List.flatten_cons, List.length_append, rep_len a n, Nat.succ_mul, Nat.add_comm]
/-- the tree of 101 -/
theorem yes_101 {t : List Nat} (hO : KsOk [t]) : ∃ r, readTree (treeWords [t]) (deepYes t 101).text = .bad r ∧ (deepYes t 101).text.length - r.length = (headD t).length * 100 := by
  have e : (deepYes t 101).text = (List.replicate 100 (headD t)).flatten ++ 91 :: ((headD t).drop 1 ++ (T "leaf" ++ (List.replicate 101 (T " : leaf]")).flatten)) := by
    rw [text_yes, rep_succ_end 100 (headD t), List.append_assoc]
    rfl
  refine ⟨91 :: ((headD t).drop 1 ++ (T "leaf" ++ (List.replicate 101 (T " : leaf]")).flatten)), ?_, ?_⟩
  · rw [e]
    unfold readTree
    rw [yes_deep hO 100]
    rfl
  · rw [e, List.length_append, Nat.add_sub_cancel, rep_len, Nat.mul_comm]
def headN : List Nat := T "[align k - size k <= 0 ? leaf : "
theorem no_step {r q : List Nat} {m : Nat} (hO : KsOk [T "k"]) (h : readTr (treeWords [T "k"]) m r = .bad q) : readTr (treeWords [T "k"]) (m + 1) (headN ++ r) = .bad q := by
  have hw := ws_words hO
  have hf : T "size k" ∈ (treeWords [T "k"]).filter fun x => x != T "align k" := List.mem_filter.mpr ⟨size_in (f := T "k"), by decide⟩
  have e : headN ++ r = 91 :: (T "align k" ++ 32 :: (45 :: 32 :: (T "size k" ++ 32 :: (60 :: 61 :: 32 :: (numI 0 ++ 32 :: (63 :: 32 :: (T "leaf" ++ (T " : " ++ r)))))))) := by
    rw [numI_zero]
    rfl
  rw [e, tr_ask]
  unfold readAsk
  rw [word_ok hw (show T "align k" ∈ treeWords [T "k"] from align_in (f := T "k")), Res.ok_bind, exp_dash, Res.ok_bind, word_ok (hw.filter _) hf, Res.ok_bind, exp_le, Res.ok_bind, int_ok (by decide), Res.ok_bind, exp_q, Res.ok_bind, tr_leaf, Res.ok_bind, expects_app, Res.ok_bind, h]
  rfl
theorem no_deep {X : List Nat} (hO : KsOk [T "k"]) : ∀ m, readTr (treeWords [T "k"]) m ((List.replicate m headN).flatten ++ 91 :: X) = .bad (91 :: X)
  | 0 => rfl
  | m + 1 => by
    have e : (List.replicate (m + 1) headN).flatten ++ 91 :: X = headN ++ ((List.replicate m headN).flatten ++ 91 :: X) := by
      rw [List.replicate_succ, List.flatten_cons, List.append_assoc]
    rw [e]
    exact no_step hO (no_deep hO m)
theorem text_no : ∀ m, (deepNo m).text = (List.replicate m headN).flatten ++ (T "leaf" ++ List.replicate m 93)
  | 0 => by simp [deepNo, Tr.text]
  | m + 1 => by
    have e : (deepNo (m + 1)).text = headN ++ ((deepNo m).text ++ [93]) := by
      show 91 :: (T "align k" ++ (T " - " ++ (T "size k" ++ (T " <= " ++ (numI 0 ++ (T " ? " ++ (T "leaf" ++ (T " : " ++ ((deepNo m).text ++ [93]))))))))) = _
      rw [numI_zero]
      rfl
    rw [e, text_no m, List.replicate_succ, List.flatten_cons, List.replicate_succ']
    simp
theorem no_101 (hO : KsOk [T "k"]) : ∃ r, readTree (treeWords [T "k"]) (deepNo 101).text = .bad r ∧ (deepNo 101).text.length - r.length = 100 * headN.length := by
  have e : (deepNo 101).text = (List.replicate 100 headN).flatten ++ 91 :: (headN.drop 1 ++ (T "leaf" ++ List.replicate 101 93)) := by
    rw [text_no, rep_succ_end 100 headN, List.append_assoc]
    rfl
  refine ⟨91 :: (headN.drop 1 ++ (T "leaf" ++ List.replicate 101 93)), ?_, ?_⟩
  · rw [e]
    unfold readTree
    rw [no_deep hO 100]
    rfl
  · rw [e, List.length_append, Nat.add_sub_cancel, rep_len]
end Mp

set_option maxHeartbeats 8000000
/-! Kl7: odd things are refused -/
namespace Mp
open PySem PySem.Spec PyProof.Rows L2
open StX (tMakeR run_makeR pe_makeR)
open He (ga ma fAd)
open LamX (ExtN Tabs TabS TabB tLam LamS GivesTo CodeO lamEnv lamCx)
section
variable {K : PySem.W.Frag}
/-- the wish of an error that _law_heard has -/
def hWish (K : PySem.W.Frag) (Q : VK) : XK := fun cls d H' => ∃ dd n, cls = .ref (ga K "BadText") ∧ d = some dd ∧ H' dd = some (.xd [("at", .int n)]) ∧ ∀ H2, Ex H' H2 → Q (.int n) H2
theorem badx_wish {H : Hp} {n : Nat} {Q : VK} (hq : ∀ H2, Ex H H2 → Q (.int (n : Nat)) H2) : BadX K (hWish K Q) H n := fun d H' e hd => ⟨d, _, rfl, rfl, hd, fun H2 e2 => hq H2 (Ex.trans e e2)⟩
theorem heard_of {tl : XK → Hp → VK → Prop} {H : Hp} {Q : VK} (h : tl (hWish K Q) H fun _ H' => Q .non H') : THeard K tl H Q := h
theorem KdsAt.xn {H H' : Hp} {ns : List (List Nat)} {as : List Addr} (e : ExtN H H') (h : KdsAt K H ns as) : KdsAt K H' ns as :=
  ⟨h.1, fun i n b hn hb => by
    obtain ⟨dx, t, h⟩ := h.2 i n b hn hb
    exact ⟨dx, t, e _ _ h (fun _ z => nomatch z)⟩⟩
end
abbrev qO : Str := (envOfC "_law_odd_right" (defScope s__law_odd_right) 0 0 .none).qual ++ "<lambda>"
section
variable {P : Program} {w : World} {K : PySem.W.Frag} {mg : Str → Option Value} {base : Heap}
def spOdd (K : PySem.W.Frag) (T : List (Addr × Str)) : Sp := sp2 fun a b H Q _ => ∃ (ka : Addr) (ns : List (List Nat)) (as : List Addr), b = .ref ka ∧ H ka = some (.lst (as.map V.ref)) ∧ KdsAt K H ns as ∧ KsOk ns ∧ (∀ H', ExtN H H' → ∃ ty, TyX K H' a ty ∧ PySem.W.kitOne K ty (.type "str") = some false) ∧ Tabs T H ∧
  ∀ H', ExtN H H' → Tabs T H' → Q (.bl true) H'
theorem sc__law_odd_right : FnScope ["odd", "some"] ["odd", "some"] (defScope s__law_odd_right) := ⟨rfl, rfl, rfl, by decide +kernel, rfl, by decide +kernel, by decide +kernel⟩
theorem ok__law_odd_right (z : Zk K mg base)  (zx : Zx K) {T : List (Addr × Str)} {PB : Addr} (TB : TabB base mg (He.codeOf K ("_law_odd_right", none)) PB) (hTm : (PB, qO) ∈ T) (hTu : ∀ p ∈ T, p.1 = PB → p.2 = qO) (c_read_tree : Cal P w K mg base "read_tree" 108 (spReadTree K)) (c_read_machine : Cal P w K mg base "read_machine" 8 (spRead K)) : Cal P w K mg base "_law_odd_right" 113 ((spOdd K T)) := by
  obtain ⟨fd, F⟩ := z.d__law_odd_right
  refine cal_ofC F z.g__law_odd_right sc__law_odd_right (fun _ _ _ _ _ _ us hl => match us, hl with | [_, _], _ => rfl) (fun vs H Q E h => by match vs, h with | [_, _], _ => rfl) (fun A outer s H vs Q E hr h => ?_)
  have nd := sc__law_odd_right.nd
  have hu : (cxOf (L2.CX P w) P w K mg base ["odd", "some"] "_law_odd_right" (defScope s__law_odd_right) (fAd K ("_law_odd_right", none)) (.ref (He.codeOf K ("_law_odd_right", none))) A outer s H E).A.units + 64 < cLine := hr.units
  have hu0 := hr.units0
  have hu1 := hu_of hr
  match vs, h with
  | [a0, a1], h =>
  refine ⟨_, (pss_cons (ps_if (pt_cmpR op_ne (pe_heard (k := 110) (K := K) rfl z zx TB rfl hTm hTu hr (by omega) (LamX.lamS_by (sc := defScope s__law_odd_right) (by decide +kernel)) (fun A outer s H E f c2 hr => (pe_fn c_read_tree hr (passD (E := E)) (pa_cons (pv 0) (pa_cons (pv 1) pa_nil)) (by omega)))) pe_int (nomark _)) (pss_one (ps_ret pe_bl)) pss_nil)
      (pss_one (ps_ret (pe_cmpR op_eq (pe_heard (k := 110) (K := K) rfl z zx TB rfl hTm hTu hr (by omega) (LamX.lamS_by (sc := defScope s__law_odd_right) (by decide +kernel)) (fun A outer s H E f c2 hr => (pe_fn c_read_machine hr (passD (E := E)) (pa_cons (pv 0) (pa_cons (pv 1) pa_nil)) (by omega)))) pe_int (nomark _))))), ?_⟩
  obtain ⟨ka, ns, as, rfl, hka, hK, hO, hty, hT, hq⟩ := h
  simp [sDPut, tDGet, tDIn, tDNotIn, tRet, tRetN, tSeq, tIfS, tDrop, tNext, tNever, tBreak, tCont, tAsg, gName, gCons, gNil, gTup, tAndV, tOrV, tNotV, tAnd, tOr, tNot, tOp, tUn, tVar, tC, tB, tTest, tIf, tCons, tNil, tCB, tTup, tLst, tFld, sFld, sFldAug, rAdd, rSub, tSl, tPart, tNoPart, rI0, rI, rU, rEq, rNe, rSlS, rSlL, rIxL, rIxT, rIxS, tChain, tFn, tMt, tM1, tM0, tBM, rAppend, rIn, tIsN, tNotN, scal_ss, scal_ii, let_nil, let_one, fig_nil, fig_one, LenV_str, L2.start, cxOf, and_assoc, tJs, tFmt, put_at, lk_at, lk_script, lk_upcoming, lk_refuse, lk_skips, lk_expect, lk_word_of, lk_name_unlike, lk_number_to, lk_finish, sp0, sp1, sp2, sp3, sp4, sp5, -List.lookup_eq_none_iff, tLam]
  refine ⟨hT, fun H1 x1 t1 => heard_of ?_⟩
  obtain ⟨ty, h1, h2⟩ := hty H1 x1
  refine ⟨ka, ns, as, rfl, Or.inl (x1 _ _ hka (fun _ z => nomatch z)), hK.xn x1, hO, Or.inr ⟨ty, h1, h2, badx_wish (n := 0) fun H2 e2 => ⟨rfl, Or.inl ⟨rfl, t1.ext e2, fun H3 x3 t3 => heard_of ?_⟩⟩⟩⟩
  have x13 : ExtN H H3 := ExtN.trans x1 (ExtN.trans (ExtN.of e2) x3)
  obtain ⟨ty3, h3, h4⟩ := hty H3 x13
  exact ⟨ka, ns, as, rfl, x13 _ _ hka (fun _ z => nomatch z), hK.xn x13, hO, Or.inr ⟨ty3, h3, h4, badx_wish (n := 0) fun H4 e4 => ⟨rfl, hq H4 (ExtN.trans x13 (ExtN.of e4)) (t3.ext e4)⟩⟩⟩
end
end Mp

set_option maxHeartbeats 8000000
/-! Kw9: Kind.__init__ called without times -/
namespace Mp
open PySem PySem.Spec PyProof.Rows L2
open StX (tMakeR run_makeR pe_makeR)
open He (ga ma fAd)
section
variable {P : Program} {w : World} {K : PySem.W.Frag} {mg : Str → Option Value} {base : Heap} {n qual : Str} {params : Arguments} {body : List Stmt} {scope : Scope} {f D : Addr} {N ps : List Str} {k : Nat} {sp : Sp}
abbrev BindX1d (qual : Str) (n : Str) (params : Arguments) (body : List Stmt) (scope : Scope) (ps : List Str) : Prop :=
  ∀ (cc T : Addr) (kV doc pm : Value) (an : Option Addr) (cdv ct : Value) (us its : List Value), us.length + 1 = ps.length → its.length = 1 →
    ∃ k, bindArgs (PySem.W.fnX n qual params body scope [("__class__", cc)] (.ref T) kV doc pm an cdv ct) ⟨us, []⟩ = seqItems? (.ref T) >>= k ∧ k (some its.toArray) = pure (ps.zip (us ++ its))
theorem fnr_ofS1d {sup : SupG P K} {dv : V} (F : SupD P K D n qual params body scope [dv] f) (S : ScS N ps scope) (hself : ∃ ar : Arg, (params.posonlyargs ++ params.args).head? = some ar ∧ ar.arg = "self") (hD : ∃ cdD, PySem.W.clsIn K D = some cdD)
    (hb : BindX1d qual n params body scope ps) (len : ∀ vs H Q E, sp vs H Q E → vs.length = ps.length) (hbody : BodS P w K mg base D qual scope body f N k sp) : FnR P w K mg base (L2.CX P w) (k + 1) f (fun vs H Q E => sp (vs ++ [dv]) H Q E) := by
  obtain ⟨oc, od, dV, kV, doc, pm, an, cda, cc, ct, osl, lk, hcd, hd, hcode, hcell⟩ := F.ex
  rcases hd with ⟨h, _⟩ | ⟨_, T, o, its, nn, rfl, lT, oT, rv⟩
  · cases h
  have hC : SupC P K D f cc (.ref cda) := by
    obtain ⟨ar, h1, h2⟩ := hself
    obtain ⟨ccl, cdd, vs, ccs, tf, h3, h4⟩ := hcode
    exact ⟨⟨_, _, _, _, ar, lk, h1, h2⟩, ⟨cda, ccl, cdd, vs, ccs, tf, rfl, h3, h4⟩, hcell, hD, sup.nosup, sup.top, sup.opq⟩
  have hcc : ∃ (cl : Value) (cld : Option Addr) (v : Option Value) (csl : Array (Option Value)), K.lookup cc = some ⟨cl, cld, .cell v, csl⟩ := by
    obtain ⟨cl, cld, csl, h⟩ := hcell
    exact ⟨cl, cld, _, csl, h⟩
  have G := fn_ofS (P := P) (w := w) (mg := mg) (base := base) lk hcd S hcc len fun A outer s H vs Q E hr h => hbody (.ref cda) cc A outer s H vs Q E hC hr h
  have b : Binds K (PySem.W.fnX n qual params body scope [("__class__", cc)] (.ref T) kV doc pm an (.ref cda) ct) ps its := by
    intro s us X hl
    have h1 := rv.length.symm
    rw [List.length_append, h1] at hl
    obtain ⟨kk, e1, e2⟩ := hb cc T kV doc pm an (.ref cda) ct us its hl h1
    refine BindsTo.of_looks fun M => ?_
    rw [e1]
    refine looks_items X lT oT ?_
    rw [e2]
    exact PySem.W.Looks.now
  exact G.raw b rv
end
section
variable {P : Program} {w : World} {K : PySem.W.Frag} {mg : Str → Option Value} {base : Heap}
theorem okd_Kind___init__ (z : Zk K mg base) (y : Zs P K) (c_is_name : Cal P w K mg base "is_name" 1 (sp_is_name K)) (c_is_between : Cal P w K mg base "is_between" 2 (sp_is_between K))  : FnR P w K mg base (L2.CX P w) 3 (fAd K ("Kind", some "__init__")) (fun vs H Q E => spKind K (vs ++ [.int 1]) H Q E) := by
  refine fnr_ofS1d (sup := y.sup) y.s_Kind___init__ sc_Kind___init__ ⟨_, rfl, rfl⟩ y.cd_Kind (fun _ _ _ _ _ _ _ _ us its hl hl1 => match us, its, hl, hl1 with | [_, _], [_], _, _ => ⟨_, rfl, rfl⟩) (fun vs H Q E h => by match vs, h with | [_, _, _], _ => rfl) (fun cd cc A outer s H vs Q E hT hr h => ?_)
  have nd := sc_Kind___init__.nd
  have hu0 := hr.units0
  match vs, h with
  | [a0, a1, a2], h =>
  refine ⟨_, (psa_cons (ps_if (pt_not (pt_val (pe_fn c_is_name hr (passD (E := E)) (pa_cons (pv 1) pa_nil)))) (pss_one ps_never) pss_nil)
      (psa_cons (ps_if (pt_not (pt_val (pe_fn c_is_between hr (passD (E := E)) (pa_cons (pv 2) (pa_cons pe_int (pa_cons (pe_gint z.v_MOST_TIMES) pa_nil)))))) (pss_one ps_never) pss_nil)
      (psa_sup (k := 1) hT rfl rfl rfl rfl rfl hr (passD (E := E)) (pa_cons pe_int pa_nil)
      (psa_of (pss_cons (ks_fld (K := K) rfl (pv 0) (pv 1))
      (pss_one (ks_fld (K := K) rfl (pv 0) (pv 2))))) (by omega)))), ?_⟩
  obtain ⟨x, dx, n, t, rfl, rfl, rfl, hx, hn, ht1, ht2, hq⟩ := h
  have hl := nameOk_len hn
  simp [tRet, tRetN, tSeq, tIfS, tDrop, tNext, tNever, tBreak, tCont, tAsg, gName, gCons, gNil, gTup, tAndV, tOrV, tNotV, tAnd, tOr, tNot, tOp, tUn, tVar, tC, tB, tTest, tIf, tCons, tNil, tCB, tTup, tLst, tFld, sFld, sFldAug, rAdd, rSub, tSl, tPart, tNoPart, rI0, rI, rU, rEq, rNe, rSlS, rSlL, rIxL, rIxT, rIxS, tChain, tFn, tMt, tM1, tM0, tBM, rAppend, rIn, tIsN, tNotN, scal_ss, scal_ii, let_nil, let_one, fig_nil, fig_one, LenV_str, L2.start, cxOf, and_assoc, tJs, tFmt, put_at, lk_at, lk_script, lk_upcoming, lk_refuse, lk_skips, lk_expect, lk_word_of, lk_name_unlike, lk_number_to, lk_finish, sp0, sp1, sp2, sp3, sp4, sp5, -List.lookup_eq_none_iff]
  refine ⟨n, rfl, by omega, fun H1 e => ⟨by rw [hn], ?_⟩⟩
  refine ⟨_, _, _, rfl, rfl, rfl, ⟨by simp; omega, ?_⟩⟩
  have hx1 := e _ _ hx
  simp only [tSup]
  refine ⟨x, _, dx, _, _, _, rfl, hx1, y.sm_Kind_Kind, ok_Part___init__ z, ?_⟩
  simp [tRet, tRetN, tSeq, tIfS, tDrop, tNext, tNever, tBreak, tCont, tAsg, gName, gCons, gNil, gTup, tAndV, tOrV, tNotV, tAnd, tOr, tNot, tOp, tUn, tVar, tC, tB, tTest, tIf, tCons, tNil, tCB, tTup, tLst, tFld, sFld, sFldAug, rAdd, rSub, tSl, tPart, tNoPart, rI0, rI, rU, rEq, rNe, rSlS, rSlL, rIxL, rIxT, rIxS, tChain, tFn, tMt, tM1, tM0, tBM, rAppend, rIn, tIsN, tNotN, scal_ss, scal_ii, let_nil, let_one, fig_nil, fig_one, LenV_str, L2.start, cxOf, and_assoc, tJs, tFmt, put_at, lk_at, lk_script, lk_upcoming, lk_refuse, lk_skips, lk_expect, lk_word_of, lk_name_unlike, lk_number_to, lk_finish, sp0, sp1, sp2, sp3, sp4, sp5, -List.lookup_eq_none_iff]
  refine ⟨_, _, dx, 0, rfl, rfl, hx1, z.cls_Kind, z.na_Kind_depth, by omega, ?_⟩
  simp [tRet, tRetN, tSeq, tIfS, tDrop, tNext, tNever, tBreak, tCont, tAsg, gName, gCons, gNil, gTup, tAndV, tOrV, tNotV, tAnd, tOr, tNot, tOp, tUn, tVar, tC, tB, tTest, tIf, tCons, tNil, tCB, tTup, tLst, tFld, sFld, sFldAug, rAdd, rSub, tSl, tPart, tNoPart, rI0, rI, rU, rEq, rNe, rSlS, rSlL, rIxL, rIxT, rIxS, tChain, tFn, tMt, tM1, tM0, tBM, rAppend, rIn, tIsN, tNotN, scal_ss, scal_ii, let_nil, let_one, fig_nil, fig_one, LenV_str, L2.start, cxOf, and_assoc, tJs, tFmt, put_at, lk_at, lk_script, lk_upcoming, lk_refuse, lk_skips, lk_expect, lk_word_of, lk_name_unlike, lk_number_to, lk_finish, sp0, sp1, sp2, sp3, sp4, sp5, -List.lookup_eq_none_iff, upd_same, z.cls_Kind, z.na_Kind_name, z.na_Kind_times, put_name, put_times, upd_upd]
  exact hq _ (K1.trans (K1.of e) K1.upd) ⟨dx, upd_same⟩
end
end Mp

set_option maxHeartbeats 8000000
/-! N9: how long the texts of trees are -/
namespace Mp
theorem KNames.ks {ns ks : List (List Nat)} (h : KNames ns ks) : KsOk ks := ⟨h.nd, h.ok, h.ne, h.le⟩
theorem numI_le : ∀ {b : Int}, b.natAbs ≤ 2000 → (numI b).length ≤ 5
  | .ofNat n, h => Nat.le_succ_of_le (numL_le (show n ≤ 2000 from h))
  | .negSucc m, h => by
    show (45 :: numL (m + 1)).length ≤ 5
    have := numL_le (show m + 1 ≤ 2000 from h)
    simp
    omega
theorem word_le {ns : List (List Nat)} (hO : KsOk ns) {w : List Nat} (h : w ∈ treeWords ns) : w.length ≤ 20 := (words_ok hO).2 w h
theorem text_le {ns : List (List Nat)} (hO : KsOk ns) : ∀ {t : Tr}, TrOk (treeWords ns) t → t.text.length + 60 ≤ 64 * 2 ^ t.deep
  | .leaf, _ => by decide
  | .ask one other b y n, h => by
    obtain ⟨h1, h2, h3, h4, h5, h6⟩ := h
    have l1 := word_le hO h1
    have l2 := word_le hO h2
    have l3 := numI_le h4
    have l5 := text_le hO h5
    have l6 := text_le hO h6
    have m1 : 2 ^ y.deep ≤ 2 ^ max y.deep n.deep := Nat.pow_le_pow_right (by decide) (Nat.le_max_left _ _)
    have m2 : 2 ^ n.deep ≤ 2 ^ max y.deep n.deep := Nat.pow_le_pow_right (by decide) (Nat.le_max_right _ _)
    have e : (Tr.ask one other b y n).deep = max y.deep n.deep + 1 := rfl
    rw [e, Nat.pow_succ]
    have e2 : (Tr.ask one other b y n).text = 91 :: (one ++ (T " - " ++ (other ++ (T " <= " ++ (numI b ++ (T " ? " ++ (y.text ++ (T " : " ++ (n.text ++ [93]))))))))) := rfl
    rw [e2]
    have c1 : (T " - ").length = 3 := rfl
    have c2 : (T " <= ").length = 4 := rfl
    have c3 : (T " ? ").length = 3 := rfl
    have c4 : (T " : ").length = 3 := rfl
    simp only [List.length_cons, List.length_append, List.length_nil, c1, c2, c3, c4]
    omega
theorem text_pos : ∀ t : Tr, 4 ≤ t.text.length
  | .leaf => by decide
  | .ask one other b y n => by
    have e2 : (Tr.ask one other b y n).text = 91 :: (one ++ (T " - " ++ (other ++ (T " <= " ++ (numI b ++ (T " ? " ++ (y.text ++ (T " : " ++ (n.text ++ [93]))))))))) := rfl
    have c1 : (T " - ").length = 3 := rfl
    rw [e2]
    simp only [List.length_cons, List.length_append, c1]
    omega
theorem len_no (m : Nat) : (deepNo m).text.length = m * 33 + 4 := by
  have c : headN.length = 32 := rfl
  have c4 : (T "leaf").length = 4 := rfl
  rw [text_no, List.length_append, List.length_append, List.length_replicate, rep_len, c, c4]
  omega
theorem len_yes (t : List Nat) (m : Nat) : (deepYes t m).text.length = m * (2 * t.length + 31) + 4 := by
  have c1 : (T "[align ").length = 7 := rfl
  have c2 : (T " - size ").length = 8 := rfl
  have c3 : (T " <= 0 ? ").length = 8 := rfl
  have c4 : (T "leaf").length = 4 := rfl
  have c5 : (T " : leaf]").length = 8 := rfl
  have c : (headD t).length = 2 * t.length + 23 := by
    unfold headD
    simp only [List.length_append, c1, c2, c3]
    omega
  rw [text_yes, List.length_append, List.length_append, rep_len, rep_len, c, c4, c5]
  have h1 : m * (2 * t.length + 31) = m * (2 * t.length + 23) + m * 8 := by rw [← Nat.mul_add]
  omega
theorem full_ok : ∀ d, d ≤ 7 → (fullT d).text.length ≤ 10000 := fun d h => by
  have h1 := text_le (ns := [T "k"]) ⟨by decide, by decide, by decide, by decide⟩ (ok_full d (by omega))
  rw [deep_full] at h1
  have h2 : 2 ^ d ≤ 2 ^ 7 := Nat.pow_le_pow_right (by decide) h
  omega
end Mp

set_option maxHeartbeats 8000000
/-! Kl8: great trees -/
namespace Mp
open PySem PySem.Spec PyProof.Rows L2
open StX (tMakeR run_makeR pe_makeR)
open He (ga ma fAd)
open LamX (ExtN Tabs TabS TabB tLam LamS GivesTo CodeO lamEnv lamCx)
abbrev qG : Str := (envOfC "_law_great_right" (defScope s__law_great_right) 0 0 .none).qual ++ "<lambda>"
section
variable {P : Program} {w : World} {K : PySem.W.Frag} {mg : Str → Option Value} {base : Heap}
def spKind1 (K : PySem.W.Frag) : Sp := fun vs H Q E => spKind K (vs ++ [.int 1]) H Q E
theorem tfor_tupD {g : TG} {tb : TS} {D : Ends} {σ : L2.St} {H : Hp} {te : TE} (Pb : Addr → List V → Hp → Prop) (ht : ∀ R : V → Hp → Prop, (∀ a xs H1, Pb a xs H1 → R (.ref a) H1) → te σ H R) (Pv : Addr → List V → Nat → L2.St → Hp → Prop) (h0 : ∀ a xs H1, Pb a xs H1 → Pv a xs 0 σ H1)
    (hl : ∀ a xs i σ H, Pv a xs i σ H → SqT K H a xs)
    (hs : ∀ (a : Addr) (xs : List V) (i : Nat) (x : V) (σ : L2.St) (H : Hp), xs[i]? = some x → Pv a xs i σ H → g x σ H fun σ2 H2 => tb { D with nx := Pv a xs (i + 1), ct := Pv a xs (i + 1), bk := D.nx } σ2 H2)
    (hd : ∀ a xs σ H, Pv a xs xs.length σ H → D.nx σ H) : tFor (iTup K te) g tb D σ H :=
  ht _ fun a xs H1 hb => tfor_tup (te := fun _ H Q => Q (.ref a) H) (xs := xs) (fun R h => h) (Pv a xs) (h0 a xs H1 hb) (fun i σ H _ h => hl a xs i σ H h) (hs a xs) (hd a xs)
def spGreat (Tt : List (Addr × Str)) : Sp := fun vs H Q _ => vs = [] ∧ Tabs Tt H ∧ ∀ H', ExtN H H' → Tabs Tt H' → Q (.bl true) H'
theorem sc__law_great_right : FnScope ["some", "tree", "spot"] [] (defScope s__law_great_right) := ⟨rfl, rfl, rfl, by decide +kernel, rfl, by decide +kernel, by decide +kernel⟩
theorem ok__law_great_right (z : Zk K mg base)  (zx : Zx K) {Tt : List (Addr × Str)} {PB : Addr} (TB : TabB base mg (He.codeOf K ("_law_great_right", none)) PB) (hTm : (PB, qG) ∈ Tt) (hTu : ∀ p ∈ Tt, p.1 = PB → p.2 = qG) (ap : Apart K) (c_read_tree : Cal P w K mg base "read_tree" 108 (spReadTree K)) (c_tree_text : Cal P w K mg base "tree_text" 102 (spText 101 K)) (c__law_full : Cal P w K mg base "_law_full" 8 (spFull 7)) (c__law_deep_no : Cal P w K mg base "_law_deep_no" 1 spDeepNo) (k_Kind1 : Cmk P w K mg base "Kind" (ga K "Kind") 3 (spKind1 K)) : Cal P w K mg base "_law_great_right" 115 ((spGreat Tt)) := by
  obtain ⟨fd, F⟩ := z.d__law_great_right
  refine cal_ofC F z.g__law_great_right sc__law_great_right (fun _ _ _ _ _ _ us hl => match us, hl with | [], _ => rfl) (fun vs H Q E h => by match vs, h with | [], _ => rfl) (fun A outer s H vs Q E hr h => ?_)
  have nd := sc__law_great_right.nd
  have hu : (cxOf (L2.CX P w) P w K mg base ["some", "tree", "spot"] "_law_great_right" (defScope s__law_great_right) (fAd K ("_law_great_right", none)) (.ref (He.codeOf K ("_law_great_right", none))) A outer s H E).A.units + 64 < cLine := hr.units
  have hu0 := hr.units0
  have hu1 := hu_of hr
  match vs, h with
  | [], h =>
  refine ⟨_, (pss_cons (ps_set (i := 0) nd rfl (Or.inr rfl) (pe_lst (pa_cons (pe_mk k_Kind1 hr (passD (E := E)) (pa_cons pe_str pa_nil) (by omega)) pa_nil)))
      (pss_cons (ps_for (passes_of rfl) rfl (k_pi_tup (K := K) rfl (pe_tup (pa_cons (pe_fn c__law_full hr (passD (E := E)) (pa_cons pe_int pa_nil) (by omega)) (pa_cons (pe_fn c__law_deep_no hr (passD (E := E)) (pa_cons pe_int pa_nil) (by omega)) pa_nil)))) (pg_name nd (i := 1) rfl (Or.inl rfl)) (pss_one (ps_if (pt_cmpR (k_neTr hr) (pe_fn c_read_tree hr (passD (E := E)) (pa_cons (pe_fn c_tree_text hr (passD (E := E)) (pa_cons (pv 1) pa_nil) (by omega)) (pa_cons (pv 0) pa_nil)) (by omega)) (pv 1) (nomark _)) (pss_one (ps_ret pe_bl)) pss_nil)))
      (pss_cons (ps_set (i := 2) nd rfl (Or.inl rfl) (pe_op op_mul pe_int (pe_callB (k_len (K := K) rfl) rfl z.b_len boot_len (pa_cons pe_str pa_nil))))
      (pss_one (ps_ret (pe_cmpR op_eq (pe_heard (k := 112) (K := K) rfl z zx TB rfl hTm hTu hr (by omega) (LamX.lamS_by (sc := defScope s__law_great_right) (by decide +kernel)) (fun A outer s H E f c2 hr => (pe_fn c_read_tree hr (passD (E := E)) (pa_cons (pe_fn c_tree_text hr (passD (E := E)) (pa_cons (pe_fn c__law_deep_no hr (passD (E := E)) (pa_cons pe_int pa_nil) (by omega)) pa_nil) (by omega)) (pa_cons (pv 0) pa_nil)) (by omega)))) (pv 2) (nomark _))))))), ?_⟩
  obtain ⟨_, hT, hq⟩ := h
  simp [sDPut, tDGet, tDIn, tDNotIn, tRet, tRetN, tSeq, tIfS, tDrop, tNext, tNever, tBreak, tCont, tAsg, gName, gCons, gNil, gTup, tAndV, tOrV, tNotV, tAnd, tOr, tNot, tOp, tUn, tVar, tC, tB, tTest, tIf, tCons, tNil, tCB, tTup, tLst, tFld, sFld, sFldAug, rAdd, rSub, tSl, tPart, tNoPart, rI0, rI, rU, rEq, rNe, rSlS, rSlL, rIxL, rIxT, rIxS, tChain, tFn, tMt, tM1, tM0, tBM, rAppend, rIn, tIsN, tNotN, scal_ss, scal_ii, let_nil, let_one, fig_nil, fig_one, LenV_str, L2.start, cxOf, and_assoc, tJs, tFmt, put_at, lk_at, lk_script, lk_upcoming, lk_refuse, lk_skips, lk_expect, lk_word_of, lk_name_unlike, lk_number_to, lk_finish, sp0, sp1, sp2, sp3, sp4, sp5, -List.lookup_eq_none_iff, tLam, tMakeR]
  intro x dx hx hdx hxd
  show spKind K [V.ref x, V.str (Str.ofString "k"), V.int 1] _ _ _
  refine ⟨x, dx, T "k", 1, rfl, by rw [← ofS], rfl, upd_same, by decide, by decide, by decide, fun H1 k1 hp1 => ⟨rfl, by rw [sizeLine_eq]; omega, fun p hp => ?_⟩⟩
  have e1 : Ex H H1 := made_ex hx hdx k1
  have e2 : Ex H1 (upd H1 p (.lst [V.ref x])) := Ex.new hp
  have hK1 : KdsAt K H1 [T "k"] [x] := ⟨rfl, fun i n b hn hb => by
    match i, hn, hb with
    | 0, hn, hb =>
      have h1 : T "k" = n := by simpa using hn
      have h2 : x = b := by simpa using hb
      subst h1 h2
      obtain ⟨d, h⟩ := hp1
      exact ⟨d, 1, h⟩⟩
  have hK2 := hK1.st ap (Stb.of e2)
  have hO : KsOk [T "k"] := ⟨by decide, by decide, by decide, by decide⟩
  have step : ∀ (b : Addr) (t : Tr) (H' : Hp), TrAt H' t b → t.deep ≤ 100 → TrOk (treeWords [T "k"]) t → t.text.length ≤ 10000 → Ex (upd H1 p (.lst [V.ref x])) H' → ∀ R : VK, (∀ H'', Ex H' H'' → R (.bl false) H'') →
      spText 101 K [.ref b] H' (fun v H1 => spReadTree K [v, .ref p] H1 (fun v2 H2 => rNeTr v2 (.ref b) H2 R) E) E :=
    fun b t H' ht hd ho hl e R hR => ⟨t, b, rfl, ht, by omega, hl, ok_int ho, p, [T "k"], [x], rfl, Or.inl (e _ _ upd_same), hK2.st ap (Stb.of e), hO, Or.inl ⟨t.text, rfl, hl, by
      unfold EndsXT
      rw [rt_ok hO hd ho]
      exact fun a2 H2 e2 t2 => ⟨a2, b, t, rfl, rfl, t2, ht.ex e2, ok_sg hO ho, by omega, hR H2 e2⟩⟩⟩
  refine tfor_tupD (K := K) (fun a xs H' => ∃ x1 x2, xs = [.ref x1, .ref x2] ∧ H' a = some (.tup xs) ∧ TrAt H' (fullT 7) x1 ∧ TrAt H' (deepNo 100) x2 ∧ Ex (upd H1 p (.lst [V.ref x])) H') (fun R hR => ?_)
    (fun a xs i σ H' => (∃ x1 x2, xs = [.ref x1, .ref x2] ∧ H' a = some (.tup xs) ∧ TrAt H' (fullT 7) x1 ∧ TrAt H' (deepNo 100) x2) ∧ (∃ u1, σ = [some (.ref p), u1, none]) ∧ Ex (upd H1 p (.lst [V.ref x])) H') (fun a xs H' h => ?_) (fun a xs i σ H' h => ?_) (fun a xs i y σ H' hy h => ?_) (fun a xs σ H' h => ?_)
  · simp [sDPut, tDGet, tDIn, tDNotIn, tRet, tRetN, tSeq, tIfS, tDrop, tNext, tNever, tBreak, tCont, tAsg, gName, gCons, gNil, gTup, tAndV, tOrV, tNotV, tAnd, tOr, tNot, tOp, tUn, tVar, tC, tB, tTest, tIf, tCons, tNil, tCB, tTup, tLst, tFld, sFld, sFldAug, rAdd, rSub, tSl, tPart, tNoPart, rI0, rI, rU, rEq, rNe, rSlS, rSlL, rIxL, rIxT, rIxS, tChain, tFn, tMt, tM1, tM0, tBM, rAppend, rIn, tIsN, tNotN, scal_ss, scal_ii, let_nil, let_one, fig_nil, fig_one, LenV_str, L2.start, cxOf, and_assoc, tJs, tFmt, put_at, lk_at, lk_script, lk_upcoming, lk_refuse, lk_skips, lk_expect, lk_word_of, lk_name_unlike, lk_number_to, lk_finish, sp0, sp1, sp2, sp3, sp4, sp5, -List.lookup_eq_none_iff]
    refine ⟨rfl, fun x1 H2 e3 t1 => ⟨100, rfl, by decide, fun x2 H3 e4 t2 => ⟨by rw [sizeLine_eq]; omega, fun q hq2 => ?_⟩⟩⟩
    have e5 := Ex.new (o := .tup [.ref x1, .ref x2]) hq2
    exact hR q _ _ ⟨x1, x2, rfl, upd_same, (t1.ex e4).ex e5, t2.ex e5, Ex.trans e3 (Ex.trans e4 e5)⟩
  · obtain ⟨x1, x2, rfl, h1, h2, h3, h4⟩ := h
    exact ⟨⟨x1, x2, rfl, h1, h2, h3⟩, ⟨none, rfl⟩, h4⟩
  · obtain ⟨⟨x1, x2, rfl, h1, _⟩, _⟩ := h
    exact SqT.of h1
  · obtain ⟨⟨x1, x2, rfl, h1, h2, h3⟩, ⟨u1, rfl⟩, e3⟩ := h
    simp [sDPut, tDGet, tDIn, tDNotIn, tRet, tRetN, tSeq, tIfS, tDrop, tNext, tNever, tBreak, tCont, tAsg, gName, gCons, gNil, gTup, tAndV, tOrV, tNotV, tAnd, tOr, tNot, tOp, tUn, tVar, tC, tB, tTest, tIf, tCons, tNil, tCB, tTup, tLst, tFld, sFld, sFldAug, rAdd, rSub, tSl, tPart, tNoPart, rI0, rI, rU, rEq, rNe, rSlS, rSlL, rIxL, rIxT, rIxS, tChain, tFn, tMt, tM1, tM0, tBM, rAppend, rIn, tIsN, tNotN, scal_ss, scal_ii, let_nil, let_one, fig_nil, fig_one, LenV_str, L2.start, cxOf, and_assoc, tJs, tFmt, put_at, lk_at, lk_script, lk_upcoming, lk_refuse, lk_skips, lk_expect, lk_word_of, lk_name_unlike, lk_number_to, lk_finish, sp0, sp1, sp2, sp3, sp4, sp5, -List.lookup_eq_none_iff]
    match i, hy with
    | 0, hy =>
      have ey : V.ref x1 = y := by simpa using hy
      subst ey
      exact step x1 (fullT 7) H' h2 (by rw [deep_full]; omega) (ok_full 7 (by omega)) (full_ok 7 (by omega)) e3 _ fun H'' e4 => Or.inl ⟨rfl, e4 _ _ h1, h2.ex e4, h3.ex e4, Ex.trans e3 e4⟩
    | 1, hy =>
      have ey : V.ref x2 = y := by simpa using hy
      subst ey
      exact step x2 (deepNo 100) H' h3 (by rw [deep_no]; omega) (ok_no 100) (by rw [len_no]; omega) e3 _ fun H'' e4 => Or.inl ⟨rfl, e4 _ _ h1, h2.ex e4, h3.ex e4, Ex.trans e3 e4⟩
  · obtain ⟨⟨x1, x2, rfl, h1, h2, h3⟩, ⟨u1, rfl⟩, e3⟩ := h
    simp [sDPut, tDGet, tDIn, tDNotIn, tRet, tRetN, tSeq, tIfS, tDrop, tNext, tNever, tBreak, tCont, tAsg, gName, gCons, gNil, gTup, tAndV, tOrV, tNotV, tAnd, tOr, tNot, tOp, tUn, tVar, tC, tB, tTest, tIf, tCons, tNil, tCB, tTup, tLst, tFld, sFld, sFldAug, rAdd, rSub, tSl, tPart, tNoPart, rI0, rI, rU, rEq, rNe, rSlS, rSlL, rIxL, rIxT, rIxS, tChain, tFn, tMt, tM1, tM0, tBM, rAppend, rIn, tIsN, tNotN, scal_ss, scal_ii, let_nil, let_one, fig_nil, fig_one, LenV_str, L2.start, cxOf, and_assoc, tJs, tFmt, put_at, lk_at, lk_script, lk_upcoming, lk_refuse, lk_skips, lk_expect, lk_word_of, lk_name_unlike, lk_number_to, lk_finish, sp0, sp1, sp2, sp3, sp4, sp5, -List.lookup_eq_none_iff]
    have el : (Str.ofString "[align k - size k <= 0 ? leaf : ").length = 32 := by rw [ofS, S_len]; rfl
    rw [el]
    have eH : Ex H H' := Ex.trans e1 (Ex.trans e2 e3)
    refine ⟨by rw [sizeLine_eq]; omega, Or.inl ⟨by decide, by decide⟩, hT.ext eH, fun H2 x2 t2 => heard_of ?_⟩
    refine ⟨101, rfl, by decide, fun d H3 e4 td => ⟨deepNo 101, d, rfl, td, Nat.le_of_eq (deep_no 101), by rw [len_no]; omega, ok_int (ok_no 101), .ref p, rfl, p, [T "k"], [x], rfl, Or.inl (e4 _ _ (x2 _ _ (e3 _ _ upd_same) (fun _ z => nomatch z))), ((hK2.st ap (Stb.of e3)).xn x2).st ap (Stb.of e4), hO, Or.inl ⟨_, rfl, by rw [len_no]; omega, ?_⟩⟩⟩
    obtain ⟨r, g1, g2⟩ := no_101 hO
    unfold EndsXT
    rw [g1]
    refine badx_wish fun H4 e5 => ?_
    rw [g2]
    exact ⟨rfl, hq H4 (ExtN.trans (ExtN.of eH) (ExtN.trans x2 (ExtN.of (Ex.trans e4 e5)))) (t2.ext (Ex.trans e4 e5))⟩
end
end Mp

set_option maxHeartbeats 8000000
/-! Kb1: a lambda with a parameter, handed to a def and called there: its object and its captured cell are told in the heap -/
namespace Mp
open PySem PySem.Spec PyProof.Rows L2
open LamX (ExtN Tabs TabS TabB LamS CodeO lamEnv lamCx)
open NdefX (NF CellsAt NScope startF ncx inv_startN envF)
/-- the very object o stands at c, and is not written -/
abbrev Lent (c : Addr) (o : Obj) : HO := .frz o (.own c)
section
variable {P : Program} {w : World} {H H2 : Hp} {h h2 B : Heap} {c : Addr} {o : Obj} {u : HO} {fs : List Addr}
theorem hok_del (x : HOk P w H h) (hc : H c = some (.frz o u)) : HOk P w (delH H c) h := fun b v e => by
  by_cases hb : b = c
  · rw [hb, delH_same] at e
    cases e
  · rw [delH_ne hb] at e
    refine (x b v e).stay (fun _ _ _ q => q) (fun d q => ?_) fun d xs q => ?_
    · rw [delH_ne (fun z => by rw [z, hc] at q; cases q)]
      exact q
    · rw [delH_ne (fun z => by rw [z, hc] at q; cases q)]
      exact q
theorem hok_lend (x : HOk P w H h) (hc : H c = none) (ho : h.get? c = some o) : HOk P w (upd H c (Lent c o)) h := x.laidN (fun _ _ q => q) hc ⟨ho, ⟨o, ho⟩⟩
theorem un_lent (un : Un fs [] (upd H c (Lent c o)) H2 h h2) (hc : H c = none) (ho : h.get? c = some o) (hok : HOk P w H2 h2) : Un fs [] H (delH H2 c) h h2 where
  keep := fun b ob q n hb hx => by
    by_cases e : b = c
    · subst e
      rw [ho] at q
      cases q
      exact (hok _ _ (un.frzs _ _ _ upd_same)).1
    · exact un.keep b ob q (by rw [upd_ne e]; exact n) hb hx
  slot := fun b ob q n hb hx => by
    by_cases e : b = c
    · subst e
      rw [ho] at q
      cases q
      exact ⟨o.slots, (hok _ _ (un.frzs _ _ _ upd_same)).1⟩
    · exact un.slot b ob q (by rw [upd_ne e]; exact n) hb hx
  free := fun b ob q n hx => by
    by_cases e : b = c
    · rw [e, delH_same]
    · rw [delH_ne e]
      exact un.free b ob q (by rw [upd_ne e]; exact n) hx
  there := un.there
  tups := fun b xs q => by
    have e : b ≠ c := ne_of_none q hc
    rw [delH_ne e]
    exact un.tups b xs (by rw [upd_ne e]; exact q)
  frzs := fun b ob xs q => by
    have e : b ≠ c := ne_of_none q hc
    rw [delH_ne e]
    exact un.frzs b ob xs (by rw [upd_ne e]; exact q)
  tbls := fun b ps q => by
    have e : b ≠ c := ne_of_none q hc
    rw [delH_ne e]
    exact un.tbls b ps (by rw [upd_ne e]; exact q)
theorem un_took (un : Un fs [] (delH H c) H2 h h2) (hc : H c = some (.frz o u)) : Un fs [] H (upd H2 c (.frz o u)) h h2 where
  keep := fun b ob q n hb hx => un.keep b ob q (by rw [delH_ne (Ne.symm (ne_of_none hc n))]; exact n) hb hx
  slot := fun b ob q n hb hx => un.slot b ob q (by rw [delH_ne (Ne.symm (ne_of_none hc n))]; exact n) hb hx
  free := fun b ob q n hx => by
    have e : b ≠ c := Ne.symm (ne_of_none hc n)
    rw [upd_ne e]
    exact un.free b ob q (by rw [delH_ne e]; exact n) hx
  there := un.there
  tups := fun b xs q => by
    have e : b ≠ c := fun z => by rw [z, hc] at q; cases q
    rw [upd_ne e]
    exact un.tups b xs (by rw [delH_ne e]; exact q)
  frzs := fun b ob xs q => by
    by_cases e : b = c
    · subst e
      rw [hc] at q
      cases q
      exact upd_same
    · rw [upd_ne e]
      exact un.frzs b ob xs (by rw [delH_ne e]; exact q)
  tbls := fun b ps q => by
    have e : b ≠ c := fun z => by rw [z, hc] at q; cases q
    rw [upd_ne e]
    exact un.tbls b ps (by rw [delH_ne e]; exact q)
theorem ub_took (un : UB fs (delH H c) H2 h B h2) (hc : H c = some (.frz o u)) : UB fs H (upd H2 c (.frz o u)) h B h2 where
  keep := fun b ob q n hb => un.keep b ob q (by rw [delH_ne (Ne.symm (ne_of_none hc n))]; exact n) hb
  slot := un.slot
  free := fun b ob q n => by
    have e : b ≠ c := Ne.symm (ne_of_none hc n)
    rw [upd_ne e]
    exact un.free b ob q (by rw [delH_ne e]; exact n)
  there := un.there
  tups := fun b xs q => by
    have e : b ≠ c := fun z => by rw [z, hc] at q; cases q
    rw [upd_ne e]
    exact un.tups b xs (by rw [delH_ne e]; exact q)
  frzs := fun b ob xs q => by
    by_cases e : b = c
    · subst e
      rw [hc] at q
      cases q
      exact upd_same
    · rw [upd_ne e]
      exact un.frzs b ob xs (by rw [delH_ne e]; exact q)
  tbls := fun b ps q => by
    have e : b ≠ c := fun z => by rw [z, hc] at q; cases q
    rw [upd_ne e]
    exact un.tbls b ps (by rw [delH_ne e]; exact q)
/-- a call that ran without the lent object ends so with it -/
theorem cr_took {outer : List Env} {s s' : Shared} {Q : VK} {E : XK} {r : Result} (hc : H c = some (Lent c o)) (hf : c ∉ frs outer) (ho : s.heap.get? c = some o)
    (h : CR (L2.CX P w) outer P w (delH H c) s (fun v H2 => H2 c = none → Q v (upd H2 c (Lent c o))) (fun cls d H2 => H2 c = none → E cls d (upd H2 c (Lent c o))) r s') : CR (L2.CX P w) outer P w H s Q E r s' := by
  cases r with
  | error e =>
    obtain ⟨a, B, H', cls, d, e1, fly, hok, ub, na, os, bare, q⟩ := h
    have n2 : H' c = none := ub.free c o ho delH_same
    have hB : B.get? c = some o := ub.keep c o ho delH_same hf
    have ne : a ≠ c := fun z => by
      have := fly.2.1
      rw [z, hB] at this
      cases this
    exact ⟨a, B, upd H' c (Lent c o), cls, d, e1, fly, hok_lend hok n2 hB, ub_took ub hc, by rw [upd_ne ne]; exact na, os, bare, q n2⟩
  | ok fl =>
    cases fl with
    | ret v =>
      obtain ⟨x, H', os, bare, un, hok, rv, q⟩ := h
      have n2 : H' c = none := un.free c o ho delH_same (by simp)
      exact ⟨x, upd H' c (Lent c o), os, bare, un_took un hc, hok_lend hok n2 (un.keep c o ho delH_same hf (by simp)), rv, q n2⟩
    | next => exact False.elim h
    | brk => exact False.elim h
    | cont => exact False.elim h
end
/-! ### what a callable thing does with a text -/
structure RdOk (P : Program) (w : World) (K : PySem.W.Frag) (mg : Str → Option Value) (base : Heap) (k : Nat) (f : Addr) (W : Hp → Prop) (tl : List Nat → XK → Hp → VK → Prop) : Prop where
  at_ : ∀ (H : Hp) (h : Heap), W H → HOk P w H h → PySem.W.FnAt f h
  run : ∀ (A : Around) (outer : List Env) (s : Shared) (H : Hp) (l : List Nat) (t : Tok) (Q : VK) (E : XK), Room k A → Env0 P w K mg base A outer s H → W H → l.length ≤ 10000 → tl l E H Q →
    codeAny (model P w) A (.call (.ref f) ⟨[.str (S l) t], []⟩) (CR (L2.CX P w) outer P w H s Q E) s
theorem RdOk.imp {P : Program} {w : World} {K : PySem.W.Frag} {mg : Str → Option Value} {base : Heap} {j k : Nat} {f : Addr} {W W' : Hp → Prop} {tl tl' : List Nat → XK → Hp → VK → Prop} (R : RdOk P w K mg base j f W tl) (hk : j ≤ k) (hW : ∀ H, W' H → W H)
    (h : ∀ l E H Q, W' H → l.length ≤ 10000 → tl' l E H Q → tl l E H Q) : RdOk P w K mg base k f W' tl' :=
  ⟨fun H g x => R.at_ H g (hW H x), fun A outer s H l t Q E hr e0 x hl q => R.run A outer s H l t Q E (hr.mono hk) e0 (hW H x) hl (h l E H Q x hl q)⟩
def tRd (i : Nat) (f : Addr) (W : Hp → Prop) (tl : List Nat → XK → Hp → VK → Prop) (E : XK) (t : TA) : TE := fun σ H Q => σ[i]? = some (some (.ref f)) ∧ W H ∧ t σ H fun vs H1 => ∃ l, vs = [.str (S l)] ∧ l.length ≤ 10000 ∧ W H1 ∧ tl l E H1 Q
section
variable {X : Cx} {k j i : Nat} {f : Addr} {W : Hp → Prop} {tl : List Nat → XK → Hp → VK → Prop} {E : XK} {t : TA} {x : Str} {e : Expr} {es : List Expr} {p pos : Pos}
theorem run_rd {pins : List (Addr × Obj)} {σ : L2.St} {H : Hp} {s : Shared} {Q : VK} {us : List Value} {l : List Nat} (R : RdOk X.prog X.w X.K X.mg X.base k f W tl) (hr : Room j X.A) (hk : k ≤ j) (hx : Passes (L2.CX X.prog X.w) X E) (I : Inv X pins σ H s)
    (r : Vals [.str (S l)] us) (hl : l.length ≤ 10000) (hw : W H) (q : tl l E H Q) : wpAny (model X.prog X.w) X.A (call (.ref f) us) (EP X pins σ Q) X.xe s := by
  obtain ⟨u, rfl, t, rfl⟩ := r.one
  refine wpAny_call (codeAny_mono (R.run X.A X.stack s H l t Q E (hr.mono hk) I.env0 hw hl q) fun r s' hq => ?_)
  cases r with
  | error e => exact hx pins σ H s e s' I hq
  | ok fl =>
    cases fl with
    | ret u => exact I.after hq
    | next => exact False.elim hq
    | brk => exact False.elim hq
    | cont => exact False.elim hq
theorem pe_callRd (R : RdOk X.prog X.w X.K X.mg X.base k f W tl) (hr : Room j X.A) (hk : k ≤ j) (hx : Passes (L2.CX X.prog X.w) X E) (hN : X.N[i]? = some x) (hv : Vis X.env.scope x) (ha : PA X (e :: es) t)
    (hd : (x == ("__debug__" : Str)) = false := by decide) (hcd : (x == ("__classdict__" : Str)) = false := by decide)
    (he : starEach (e :: es) X.env = (false, eval e X.env) :: starEach es X.env := by rfl) (hpl : (backTo pos (starEach es X.env)).any (·.1) = false := by rfl) :
    PE X (.Call (.Name x p) (e :: es) [] pos) (tRd i f W tl E t) := by
  refine ⟨fun pins s σ H Q I h => ?_⟩
  obtain ⟨h1, h2, h3⟩ := h
  refine wpAny_Call_Name_kw (thn ((pe_var (pos := p) hN hv hd hcd).run pins s σ H (fun v H1 => v = .ref f ∧ H1 = H) I ⟨.ref f, h1, rfl, rfl⟩) fun u s1 ⟨v, H1, I1, r1, q1⟩ => ?_)
  obtain ⟨ev, eH⟩ := q1
  subst ev
  rw [eH] at I1
  obtain rfl : u = Value.ref f := r1
  refine PySem.W.callWith_F (first := []) (R.at_ H _ h2 I1.hok) (thn (ha.run pos pins s1 σ H _ I1 h3) fun us s2 ⟨vs, H2, I2, r, l, ev, hl, hw, q⟩ => ⟨R.at_ H2 _ hw I2.hok, ?_⟩) he hpl
  show wpAny _ _ (call (.ref f) us) _ _ _
  rw [ev] at r
  exact run_rd R hr hk hx I2 r hl hw q
end
/-! ### the lambda by its body -/
abbrev LObj (F : NF) (e : Expr) (pm ctv : Value) : Obj := PySem.W.kla_obj F.name F.qual F.params e F.scope F.cl pm F.c ctv
section
variable {P : Program} {w : World} {K : PySem.W.Frag} {mg : Str → Option Value} {base : Heap} {k : Nat} {f c ka : Addr} {F : NF} {e : Expr} {pm ctv : Value} {o : Obj} {x y : Str} {t : XK → TE}
theorem lam_rd (S1 : NScope [x, y] [x] [y] F.scope) (hbind : ∀ (pm ctv u : Value), bindArgs (PySem.W.kla_fn F.name F.qual F.params e F.scope F.cl pm (.ref F.c) ctv) ⟨[u], []⟩ = pure [(x, u)]) (hcl : F.cl = [(y, c)]) (ho : o.data = .cell (some (.ref ka)))
    (hbody : ∀ (A : Around) (outer : List Env) (s : Shared) (H : Hp) (E : XK), Room k (A.deeper (envF F f s.heap.objs.size)) → PE (ncx (L2.CX P w) P w K mg base [x, y] F f A outer s H E) e (t E)) :
    RdOk P w K mg base (k + 1) f (fun H => H f = some (Lent f (LObj F e pm ctv)) ∧ H F.c = some (CodeO F.c F.qual) ∧ H c = some (Lent c o))
      (fun l E H Q => t (fun cls d H2 => H2 c = none → E cls d (upd H2 c (Lent c o))) [some (.str (S l)), some (.ref ka)] (delH H c) (fun v H2 => H2 c = none → Q v (upd H2 c (Lent c o)))) := by
  refine ⟨fun H h hw hok => ⟨_, none, _, #[], (hok _ _ hw.1).1⟩, fun A outer s H l tk Q E hr e0 hw hl h => ?_⟩
  obtain ⟨hf, hco, hcell⟩ := hw
  have ho1 : s.heap.get? c = some o := (e0.hok c _ hcell).1
  have hof : s.heap.get? f = some (LObj F e pm ctv) := (e0.hok f _ hf).1
  have hcf : c ∉ frs outer := fun z => by
    have := e0.frf c z
    rw [hcell] at this
    cases this
  have nd : ∀ {b : Addr}, H b = none → delH H c b = none := fun {b} n => by
    rw [delH_ne (Ne.symm (ne_of_none hcell n))]
    exact n
  have e1 : Env0 P w K mg base A outer s (delH H c) := ⟨e0.frames, e0.mod, fun b ob q => ⟨(e0.bs b ob q).1, nd (e0.bs b ob q).2⟩, e0.bsz, e0.funs, fun b hb => nd (e0.frf b hb), hok_del e0.hok hcell, e0.bare⟩
  have lim : s.heap.NoLimit := e0.mod.nolimit.keeps fun b ob q => (e0.bs b ob q).1
  refine codeAny_mono ?_ fun r s' hq => cr_took hcell hcf ho1 hq
  refine PySem.W.kla_callFunE hr.depth hof rfl S1.co S1.gen rfl (NdefX.codeO_at e0.hok hco) ?_
  rw [hbind]
  refine wpAny_pure (wpAny_newFunctionEnv S1.nocell (fun z hz => ?_) (fun h₁ hns hsb => ⟨lim.fresh _ hsb, ?_⟩) S1.kind)
  · have e2 : z = (x, Value.str (S l) tk) := by simpa using hz
    rw [e2]
    exact S1.par x (by simp)
  show codeAny _ _ (.expr e (envF F f s.heap.objs.size)) _ _
  have kp : ∀ b ob, s.heap.get? b = some ob → h₁.get? b = some ob := fun b ob q => hsb.extBut b ob (Nat.ne_of_lt (Heap.lt_size q)) (Heap.get?_push_of_some _ q)
  have C : CellsAt F.cl [y] [some (.ref ka)] s.heap (delH H c) := by
    rw [hcl]
    refine ⟨rfl, fun z d q => ?_, fun a b d q1 q2 => ?_, fun i z hz => ?_⟩
    · have hz := PySem.mem_of_lookup q
      have hz2 : (z, d) = (y, c) := by simpa using hz
      cases hz2
      exact ⟨delH_same, _, o, ho1, ho⟩
    · have h1 := PySem.mem_of_lookup q1
      have h2 := PySem.mem_of_lookup q2
      have h3 : (a, d) = (y, c) := by simpa using h1
      have h4 : (b, d) = (y, c) := by simpa using h2
      cases h3
      cases h4
      rfl
    · match i, hz with
      | 0, hz =>
        have e3 : y = z := by simpa using hz
        subst e3
        refine ⟨c, by simp, fun v hv => ?_⟩
        have e4 : V.ref ka = v := by simpa using hv
        subst e4
        exact ⟨.ref ka, rfl, o, ho1, ho⟩
  have J : Inv (ncx (L2.CX P w) P w K mg base [x, y] F f A outer s (delH H c) (fun cls d H2 => H2 c = none → E cls d (upd H2 c (Lent c o)))) [] (startF [x, y] [.str (S l)] [some (.ref ka)]) (delH H c) { s with heap := h₁, toks := s.toks + [(x, Value.str (S l) tk)].length } :=
    inv_startN (us := [.str (S l) tk]) S1 hr.hd e1 rfl (.cons ⟨tk, rfl⟩ .nil) C hns kp
  refine PySem.W.kla_codeExpr (wpAny_mono ((hbody _ _ s (delH H c) _ (hr.deeper _)).run [] _ _ (delH H c) _ J h) (fun v s' hq => ?_) fun e s' hq => hq)
  obtain ⟨w', H', J', rv, q⟩ := hq
  exact ⟨w', H', J'.os, J'.bare, J'.base, J'.hok, rv, q⟩
end
end Mp

set_option maxHeartbeats 8000000
/-! Kb2: the making of a lambda that is handed on; a call to which the cell of a name is lent -/
namespace Mp
open PySem PySem.Spec PyProof.Rows L2
open LamX (ExtN Tabs TabS TabB LamS CodeO lamEnv lamCx inv_table codeO_ne among_app)
open NdefX (NF)
theorem tabs_more {T : List (Addr × Str)} {H : Hp} {P c' : Addr} {q : Str} {ps : Array Value} {pos : Pos} (hT : Tabs T H) (hP : H P = some (.tbl ps)) (hu : ∀ p ∈ T, p.1 = P → p.2 = q) (nC : H c' = none) :
    ExtN H (upd (upd H P (.tbl (ps ++ #[rawInt pos.line, rawInt pos.col, .ref c']))) c' (CodeO c' q)) ∧ Tabs T (upd (upd H P (.tbl (ps ++ #[rawInt pos.line, rawInt pos.col, .ref c']))) c' (CodeO c' q)) := by
  have hE : ExtN H (upd (upd H P (.tbl (ps ++ #[rawInt pos.line, rawInt pos.col, .ref c']))) c' (CodeO c' q)) := fun b o h n => by
    have n1 : b ≠ c' := ne_of_none h nC
    have n2 : b ≠ P := fun z => by
      rw [z, hP] at h
      exact n ps (Option.some.inj h).symm
    rw [upd_ne n1, upd_ne n2]
    exact h
  refine ⟨hE, fun p hp => ?_⟩
  obtain ⟨qs, a1, a2, a3⟩ := hT p hp
  have n1 : p.1 ≠ c' := ne_of_none a1 nC
  by_cases hb : p.1 = P
  · rw [hb, hP] at a1
    cases a1
    have el : (ps ++ #[rawInt pos.line, rawInt pos.col, Value.ref c']).toList = ps.toList ++ [rawInt pos.line, rawInt pos.col, .ref c'] := by simp
    refine ⟨_, by rw [upd_ne n1, hb, upd_same], by rw [el]; exact PySem.TriplesOk_snoc _ _ _ _ a2, fun p' cv h => ?_⟩
    rw [el] at h
    rcases among_app _ a2 h with z | z
    · obtain ⟨d, e1, e2⟩ := a3 p' cv z
      exact ⟨d, e1, hE _ _ e2 codeO_ne⟩
    · exact ⟨c', z, by rw [hu p hp hb]; exact upd_same⟩
  · refine ⟨qs, by rw [upd_ne n1, upd_ne hb]; exact a1, a2, fun p' cv h => ?_⟩
    obtain ⟨d, e1, e2⟩ := a3 p' cv h
    exact ⟨d, e1, hE _ _ e2 codeO_ne⟩
/-- a lambda as a value -/
def tLamV (T : List (Addr × Str)) (F : Addr → NF) (e : Expr) : TE := fun σ H Q => Tabs T H ∧ ∀ f c' pm ctv H1, ExtN H H1 → Tabs T H1 → H f = none → H1 f = some (Lent f (LObj (F c') e pm ctv)) → H1 c' = some (CodeO c' (F c').qual) → Q (.ref f) H1
section
variable {X : Cx} {T : List (Addr × Str)} {c P : Addr} {params : Arguments} {e : Expr} {scope : Scope} {lpos : Pos}
abbrev lamF (X : Cx) (params : Arguments) (scope : Scope) (cl : List (Str × Addr)) : Addr → NF := fun c' => ⟨"<lambda>", X.env.qual ++ "<lambda>", params, [], scope, cl, c'⟩
theorem pe_lamV {cl : List (Str × Addr)} (TB : TabB X.base X.mg c P) (hcode : X.env.code = .ref c) (hm : (P, X.env.qual ++ "<lambda>") ∈ T) (hu : ∀ p ∈ T, p.1 = P → p.2 = X.env.qual ++ "<lambda>")
    (hfr : ∀ y ∈ scope.names, y.2 = .free → X.env.scope.names.lookup y.1 = some .cell ∨ X.env.scope.names.lookup y.1 = some .free) (hcl : cloFrom X.env.cells scope.names [] = cl) (hdef : defaultsOf params X.env = ([], []) := by rfl) :
    PE X (.Lambda params e scope lpos) (tLamV T (lamF X params scope cl) e) := by
  subst hcl
  refine ⟨fun pins s σ H Q I h => ?_⟩
  obtain ⟨hT, h⟩ := h
  have hfree : ∀ y ∈ scope.names, y.2 = .free → ∃ c, X.env.cells.lookup y.1 = some c := fun y hy z => I.ok.has _ (hfr y hy z)
  obtain ⟨ps, hP, ht, ha⟩ := id (hT _ hm)
  refine PySem.W.kla_eval hdef ?_
  have bP := TB.bm.keeps I.bk
  have hP' : s.heap.get? P = some { cls := .none, data := .fields ps } := I.hok P _ hP
  cases hc : codeAmong lpos ps.toList with
  | some cv =>
    obtain ⟨c', ec, hco⟩ := ha lpos cv hc
    subst ec
    refine PySem.W.kla_makeFunctionHit (mg := X.mg) (ps := ps) (closure_ok hfree) I.ok.glob (I.mod.glob.keeps I.bk) hcode (TB.code.keeps I.bk) hP' ht hc bP fun ctv h' tk hx hsz => ?_
    have nf : H h'.objs.size = none := I.hok.fresh hsz
    have ef : (h'.push (LObj (lamF X params scope (cloFrom X.env.cells scope.names []) c') e ((X.mg "__name__").getD .none) ctv)).get? h'.objs.size = some (LObj (lamF X params scope (cloFrom X.env.cells scope.names []) c') e ((X.mg "__name__").getD .none) ctv) := Heap.get?_push_size _ rfl
    have I1 := I.laid (t' := tk) (a := h'.objs.size) (o := Lent h'.objs.size (LObj (lamF X params scope (cloFrom X.env.cells scope.names []) c') e ((X.mg "__name__").getD .none) ctv)) (fun b u q => Heap.get?_push_of_some _ (hx b u q)) hsz ⟨ef, ⟨_, ef⟩⟩
    have ex := Ex.new (o := Lent h'.objs.size (LObj (lamF X params scope (cloFrom X.env.cells scope.names []) c') e ((X.mg "__name__").getD .none) ctv)) nf
    exact ⟨.ref h'.objs.size, _, I1, rfl, h _ c' _ ctv _ (ExtN.of ex) (hT.ext ex) nf upd_same (ex _ _ hco)⟩
  | none =>
    refine PySem.W.kla_makeFunction (mg := X.mg) (ps := ps) (closure_ok hfree) I.ok.glob (I.mod.glob.keeps I.bk) hcode (TB.code.keeps I.bk) hP' ht hc TB.gP bP fun c' ctv h' tk hx hge hlt hrec htb => ?_
    obtain ⟨c2, oc, vs, t, e2, hoc, hd, hv⟩ := hrec
    cases e2
    have nC : H c' = none := I.hok.fresh hge
    have I1 := inv_table (t' := tk) (more := #[rawInt lpos.line, rawInt lpos.col, .ref c']) (h' := h') I hP (fun b o n q => hx b o n q) htb hge ⟨oc, vs, t, hoc, hd, hv⟩
    obtain ⟨hE, hT1⟩ := tabs_more (pos := lpos) hT hP hu nC
    have nf := I1.hok.fresh (Nat.le_refl h'.objs.size)
    have ef : (h'.push (LObj (lamF X params scope (cloFrom X.env.cells scope.names []) c') e ((X.mg "__name__").getD .none) ctv)).get? h'.objs.size = some (LObj (lamF X params scope (cloFrom X.env.cells scope.names []) c') e ((X.mg "__name__").getD .none) ctv) := Heap.get?_push_size _ rfl
    have I2 := I1.laid (t' := tk) (a := h'.objs.size) (o := Lent h'.objs.size (LObj (lamF X params scope (cloFrom X.env.cells scope.names []) c') e ((X.mg "__name__").getD .none) ctv)) (fun b u q => Heap.get?_push_of_some _ q) (Nat.le_refl _) ⟨ef, ⟨_, ef⟩⟩
    have ex := Ex.new (o := Lent h'.objs.size (LObj (lamF X params scope (cloFrom X.env.cells scope.names []) c') e ((X.mg "__name__").getD .none) ctv)) nf
    have nf0 : H h'.objs.size = none := I.hok.fresh (Nat.le_trans hge (Nat.le_of_lt hlt))
    exact ⟨.ref h'.objs.size, _, I2, rfl, h _ c' _ ctv _ (ExtN.trans hE (ExtN.of ex)) (hT1.ext ex) nf0 upd_same (ex _ _ upd_same)⟩
end
/-! ### a call to which the cell of y is lent -/
def tFnC (cc : Addr) (j : Nat) (sp : Sp) (t : TA) : TE := fun σ H Q => t σ H fun vs H1 => ∃ v, σ[j]? = some (some v) ∧ ∀ (oc : Obj) (u : Value), RelV v u → oc.data = .cell (some u) → H1 cc = none → sp vs (upd H1 cc (Lent cc oc)) (fun x H2 => Q x (delH H2 cc)) fun _ _ _ => False
section
variable {X : Cx} {x y : Str} {k k0 j : Nat} {sp : Sp} {cc : Addr} {e : Expr} {es : List Expr} {t : TA} {p pos : Pos}
theorem pe_fnC (F : Cal X.prog X.w X.K X.mg X.base x k sp) (hr : Room k0 X.A) (ha : PA X (e :: es) t) (hk : k ≤ k0) (hN : X.N[j]? = some y) (hky : X.env.scope.names.lookup y = some .cell) (hfn : X.fn y = true) (hcc : X.env.cells.lookup y = some cc) (hg : Gl X x := by rfl)
    (hdb : (x == ("__debug__" : Str)) = false := by decide) (he : starEach (e :: es) X.env = (false, eval e X.env) :: starEach es X.env := by rfl) (hpl : (backTo pos (starEach es X.env)).any (·.1) = false := by rfl) :
    PE X (.Call (.Name x p) (e :: es) [] pos) (tFnC cc j sp t) := by
  obtain ⟨f, G, hm, kp⟩ := F.ex
  refine ⟨fun pins s σ H Q I h => ?_⟩
  refine wpAny_Call_Name_kw (ld_glob I hg hm ?_ hdb)
  refine PySem.W.callWith_K (h₀ := X.base) I.ok.mod.kin kp (thn (ha.run pos pins s σ H _ I h) fun us s1 ⟨vs, H1, I1, r, v, hv, q⟩ => ⟨I1.kIn, ?_⟩) he hpl
  obtain ⟨m, hn, hl⟩ := id I1.loc
  obtain ⟨u, ru, look⟩ := hl j y v hN hv (Or.inr (Or.inl hky))
  have hnc : H1 cc = none := I1.freeC y cc hcc
  rcases look with ⟨z, _⟩ | ⟨_, c2, e2, oc, ho, hd⟩
  · have z2 : X.env.scope.names.lookup y = some .local := z
    rw [hky] at z2
    cases z2
  · rw [hcc] at e2
    cases e2
    have hge : X.s_0.heap.objs.size ≤ cc := I1.ok.cab y cc hfn hcc
    have e0 := I1.env0
    have nfs : cc ∉ frs X.stack := fun z => by
      rcases List.mem_cons.mp (I1.stkSub cc z) with z | z
      · exact I1.cne y cc hcc z
      · obtain ⟨_, ob, hob, _⟩ := I1.ok.funs.mem z
        exact Nat.lt_irrefl _ (Nat.lt_of_lt_of_le (Heap.lt_size hob) hge)
    have e1 : Env0 X.prog X.w X.K X.mg X.base X.A X.stack s1 (upd H1 cc (Lent cc oc)) := ⟨e0.frames, e0.mod, fun b ob q => ⟨(e0.bs b ob q).1, by
        rw [upd_ne (fun z => ?_)]
        · exact (e0.bs b ob q).2
        · rw [z] at q
          exact Nat.lt_irrefl _ (Nat.lt_of_lt_of_le (Heap.lt_size q) (Nat.le_trans I1.ok.bsz hge))⟩, e0.bsz, e0.funs, fun b hb => by
        rw [upd_ne (fun z => nfs (by rw [← z]; exact hb))]
        exact e0.frf b hb, hok_lend e0.hok hnc ho, e0.bare⟩
    refine wpAny_call (codeAny_mono (G X.A X.stack s1 _ us vs _ _ (hr.mono hk) e1 r (q oc u ru hd hnc)) fun r s' hq => ?_)
    cases r with
    | error e =>
      obtain ⟨_, _, _, _, _, _, _, _, _, _, _, _, z⟩ := hq
      exact z.elim
    | ok fl =>
      cases fl with
      | ret u =>
        obtain ⟨v', H', os, bare, un, hok, rv, q'⟩ := hq
        exact I1.after ⟨v', delH H' cc, os, bare, un_lent un hnc ho hok, hok_del hok (un.frzs _ _ _ upd_same), rv, q'⟩
      | next => exact False.elim hq
      | brk => exact False.elim hq
      | cont => exact False.elim hq
end
end Mp

set_option maxHeartbeats 8000000
/-! Kl9: texts bent at a place, read by what is handed over -/
namespace Mp
open PySem PySem.Spec PyProof.Rows L2
open StX (tMakeR run_makeR pe_makeR)
open He (ga ma fAd)
open LamX (ExtN Tabs TabS TabB tLam LamS GivesTo CodeO lamEnv lamCx)
/-- all stays but the pen and tables of code objects -/
def K3 (c : Addr) (H H' : Hp) : Prop := ∀ a o, a ≠ c → (∀ ps, o ≠ .tbl ps) → H a = some o → H' a = some o
section
variable {c : Addr} {H H' H2 : Hp}
theorem K3.rfl' : K3 c H H := fun _ _ _ _ h => h
theorem K3.k1 (k : K1 c H H') : K3 c H H' := fun a o n _ h => k a o n h
theorem K3.ex (k : Ex H H') : K3 c H H' := fun a o _ _ h => k a o h
theorem K3.ext (k : ExtN H H') : K3 c H H' := fun a o _ n h => k a o h n
theorem K3.trans (a : K3 c H H') (b : K3 c H' H2) : K3 c H H2 := fun x o n m h => b x o n m (a x o n m h)
theorem PenAt.ext {l : Addr} {n : Nat} (h : PenAt H c l n) (k : ExtN H H') : PenAt H' c l n := by
  obtain ⟨ns, a, w, h1, h2, h3, h4⟩ := h
  exact ⟨ns, a, w, k _ _ h1 (fun _ z => nomatch z), h2, k _ _ h3 (fun _ z => nomatch z), h4⟩
theorem Tabs.k1 {Tt : List (Addr × Str)} {l : Addr} {n : Nat} (hp : PenAt H c l n) (k : K1 c H H') (t : Tabs Tt H) : Tabs Tt H' := fun p hpT => by
  obtain ⟨ps, h1, h2, h3⟩ := t p hpT
  obtain ⟨_, _, _, q1, _⟩ := hp
  refine ⟨ps, k _ _ (fun e => ?_) h1, h2, fun pos cv hc => ?_⟩
  · rw [e, q1] at h1
    cases h1
  · obtain ⟨d, e1, e2⟩ := h3 pos cv hc
    refine ⟨d, e1, k _ _ (fun e => ?_) e2⟩
    rw [e, q1] at e2
    cases e2
end
/-- what lasts while texts are bent -/
structure Bst (W : Hp → Prop) (Tt : List (Addr × Str)) (c l : Addr) (H0 H : Hp) (m : Nat) : Prop where
  pen : PenAt H c l m
  w : W H
  tab : Tabs Tt H
  k3 : K3 c H0 H
section
variable {W : Hp → Prop} {Tt : List (Addr × Str)} {c l : Addr} {H0 H H' : Hp} {m m' : Nat}
theorem Bst.k1 (b : Bst W Tt c l H0 H m) (st : ∀ H H', K3 c H H' → W H → W H') (k : K1 c H H') (hp : PenAt H' c l m') : Bst W Tt c l H0 H' m' := ⟨hp, st _ _ (K3.k1 k) b.w, Tabs.k1 b.pen k b.tab, K3.trans b.k3 (K3.k1 k)⟩
theorem Bst.ex (b : Bst W Tt c l H0 H m) (st : ∀ H H', K3 c H H' → W H → W H') (k : Ex H H') : Bst W Tt c l H0 H' m := ⟨b.pen.ex k, st _ _ (K3.ex k) b.w, b.tab.ext k, K3.trans b.k3 (K3.ex k)⟩
theorem Bst.lam (b : Bst W Tt c l H0 H m) (st : ∀ H H', K3 c H H' → W H → W H') (k : ExtN H H') (t : Tabs Tt H') : Bst W Tt c l H0 H' m := ⟨b.pen.ext k, st _ _ (K3.ext k) b.w, t, K3.trans b.k3 (K3.ext k)⟩
end
abbrev qB : Str := (envOfC "_law_bent_right" (defScope s__law_bent_right) 0 0 .none).qual ++ "<lambda>"
section
variable {P : Program} {w : World} {K : PySem.W.Frag} {mg : Str → Option Value} {base : Heap}
/-- a right text and its bent ones -/
structure Bends (K : PySem.W.Frag) (W : Hp → Prop) (tl : List Nat → XK → Hp → VK → Prop) (fl : List Nat) (last : Nat) : Prop where
  bad : ∃ bd : List Nat → Nat → Prop, (∀ l n H Q N, bd l n → W H → l.length ≤ 10000 → (∀ H2, Ex H H2 → Q (.int (n : Nat)) H2) → tl l (hWish K Q) H N) ∧
    (∀ i x, i < fl.length → x ∈ [33, 65, 35, 64, 95, 126, 47, 59, 123, 42] → bd (fl.take i ++ [x] ++ fl.drop (i + 1)) i) ∧ (∀ y, y ∈ [33, 32, 93, 65, 58] → bd (fl ++ [y]) fl.length) ∧ (∀ i, i ≤ last → bd (fl.take i) i)
def spBent (P : Program) (w : World) (K : PySem.W.Frag) (mg : Str → Option Value) (base : Heap) (Tt : List (Addr × Str)) : Sp := sp4 fun a b d e H Q _ => ∃ (c l f : Addr) (n last : Nat) (fl : List Nat) (W : Hp → Prop) (tl : List Nat → XK → Hp → VK → Prop),
  a = .ref c ∧ b = .str (S fl) ∧ d = .ref f ∧ e = .int (last : Nat) ∧ PenAt H c l n ∧ n + 10 < 1000000 ∧ fl.length ≤ 5000 ∧ 1 ≤ fl.length ∧ last ≤ fl.length ∧ RdOk P w K mg base 110 f W tl ∧ W H ∧ (∀ H H', K3 c H H' → W H → W H') ∧ Tabs Tt H ∧ Bends K W tl fl last ∧
  ∀ H', K3 c H H' → PenAt H' c l (n + 4) → Tabs Tt H' → Q (.bl true) H'
theorem sc__law_bent_right : FnScope ["pen", "face", "read", "last", "at", "sign", "spot"] ["pen", "face", "read", "last"] (defScope s__law_bent_right) := ⟨rfl, rfl, rfl, by decide +kernel, rfl, by decide +kernel, by decide +kernel⟩
theorem ok__law_bent_right (z : Zk K mg base) (c__law_draw : Cal P w K mg base "_law_draw" 2 spDraw) (c__law_pick : Cal P w K mg base "_law_pick" 3 spPick) (zx : Zx K) {Tt : List (Addr × Str)} {PB : Addr} (TB : TabB base mg (He.codeOf K ("_law_bent_right", none)) PB) (hTm : (PB, qB) ∈ Tt) (hTu : ∀ p ∈ Tt, p.1 = PB → p.2 = qB) : Cal P w K mg base "_law_bent_right" 113 ((spBent P w K mg base Tt)) := by
  obtain ⟨fd, F⟩ := z.d__law_bent_right
  refine cal_ofC F z.g__law_bent_right sc__law_bent_right (fun _ _ _ _ _ _ us hl => match us, hl with | [_, _, _, _], _ => rfl) (fun vs H Q E h => by match vs, h with | [_, _, _, _], _ => rfl) (fun A outer s H vs Q E hr h => ?_)
  have nd := sc__law_bent_right.nd
  have hu : (cxOf (L2.CX P w) P w K mg base ["pen", "face", "read", "last", "at", "sign", "spot"] "_law_bent_right" (defScope s__law_bent_right) (fAd K ("_law_bent_right", none)) (.ref (He.codeOf K ("_law_bent_right", none))) A outer s H E).A.units + 64 < cLine := hr.units
  have hu0 := hr.units0
  have hu1 := hu_of hr
  match vs, h with
  | [a0, a1, a2, a3], h =>
  obtain ⟨c, l, f, n, last, fl, W, tl, rfl, rfl, rfl, rfl, hp, hn, hl, hpos, hla, hR, hW, hst, hT, hB, hq⟩ := h
  refine ⟨_, (pss_cons (ps_set (i := 4) nd rfl (Or.inr rfl) (pe_fn c__law_draw hr (passD (E := E)) (pa_cons (pv 0) (pa_cons (pe_callB (k_len (K := K) rfl) rfl z.b_len boot_len (pa_cons (pv 1) pa_nil)) pa_nil)) (by omega)))
      (pss_cons (ps_set (i := 5) nd rfl (Or.inr rfl) (pe_fn c__law_pick hr (passD (E := E)) (pa_cons (pv 0) (pa_cons (pe_lst (pa_cons pe_str (pa_cons pe_str (pa_cons pe_str (pa_cons pe_str (pa_cons pe_str (pa_cons pe_str (pa_cons pe_str (pa_cons pe_str (pa_cons pe_str (pa_cons pe_str pa_nil))))))))))) pa_nil)) (by omega)))
      (pss_cons (ps_if (pt_cmpR op_ne (pe_heard (k := 110) (K := K) rfl z zx TB rfl hTm hTu hr (by omega) (LamX.lamS_by (sc := defScope s__law_bent_right) (by decide +kernel)) (fun A outer s H E f c2 hr => (pe_callRd (i := 2) hR hr (by omega) (passD (E := E)) rfl (Or.inr (Or.inr rfl)) (pa_cons (pe_op op_add_str (pe_op op_add_str (pe_slice sl_str (pv 1) po_none (po_some (pv 4))) (pv 5)) (pe_slice sl_str (pv 1) (po_some (pe_op op_add (pv 4) pe_int)) po_none)) pa_nil)))) (pv 4) (nomark _)) (pss_one (ps_ret pe_bl)) pss_nil)
      (pss_cons (ps_if (pt_cmpR op_ne (pe_heard (k := 110) (K := K) rfl z zx TB rfl hTm hTu hr (by omega) (LamX.lamS_by (sc := defScope s__law_bent_right) (by decide +kernel)) (fun A outer s H E f c2 hr => (pe_callRd (i := 2) hR hr (by omega) (passD (E := E)) rfl (Or.inr (Or.inr rfl)) (pa_cons (pe_op op_add_str (pv 1) (pe_fn c__law_pick hr (passD (E := E)) (pa_cons (pv 0) (pa_cons (pe_lst (pa_cons pe_str (pa_cons pe_str (pa_cons pe_str (pa_cons pe_str (pa_cons pe_str pa_nil)))))) pa_nil)) (by omega))) pa_nil)))) (pe_callB (k_len (K := K) rfl) rfl z.b_len boot_len (pa_cons (pv 1) pa_nil)) (nomark _)) (pss_one (ps_ret pe_bl)) pss_nil)
      (pss_cons (ps_set (i := 6) nd rfl (Or.inr rfl) (pe_fn c__law_draw hr (passD (E := E)) (pa_cons (pv 0) (pa_cons (pe_op op_add (pv 3) pe_int) pa_nil)) (by omega)))
      (pss_one (ps_ret (pe_cmpR op_eq (pe_heard (k := 110) (K := K) rfl z zx TB rfl hTm hTu hr (by omega) (LamX.lamS_by (sc := defScope s__law_bent_right) (by decide +kernel)) (fun A outer s H E f c2 hr => (pe_callRd (i := 2) hR hr (by omega) (passD (E := E)) rfl (Or.inr (Or.inr rfl)) (pa_cons (pe_slice sl_str (pv 1) po_none (po_some (pv 6))) pa_nil)))) (pv 6) (nomark _))))))))), ?_⟩
  simp [sDPut, tDGet, tDIn, tDNotIn, tRet, tRetN, tSeq, tIfS, tDrop, tNext, tNever, tBreak, tCont, tAsg, gName, gCons, gNil, gTup, tAndV, tOrV, tNotV, tAnd, tOr, tNot, tOp, tUn, tVar, tC, tB, tTest, tIf, tCons, tNil, tCB, tTup, tLst, tFld, sFld, sFldAug, rAdd, rSub, tSl, tPart, tNoPart, rI0, rI, rU, rEq, rNe, rSlS, rSlL, rIxL, rIxT, rIxS, tChain, tFn, tMt, tM1, tM0, tBM, rAppend, rIn, tIsN, tNotN, scal_ss, scal_ii, let_nil, let_one, fig_nil, fig_one, LenV_str, L2.start, cxOf, and_assoc, tJs, tFmt, put_at, lk_at, lk_script, lk_upcoming, lk_refuse, lk_skips, lk_expect, lk_word_of, lk_name_unlike, lk_number_to, lk_finish, sp0, sp1, sp2, sp3, sp4, sp5, -List.lookup_eq_none_iff, tLam]
  have b0 : Bst W Tt c l H H n := ⟨hp, hW, hT, K3.rfl'⟩
  obtain ⟨bd, hbd, f1, f2, f3⟩ := hB.bad
  have hS : ∀ t : List Nat, (S t).length = t.length := S_len
  refine ⟨by rw [hS, sizeLine_eq]; omega, c, l, n, fl.length, rfl, by rw [hS], b0.pen, by omega, by omega, by omega, fun at_ H1 hat k1 hp1 => ?_⟩
  have b1 := b0.k1 hst k1 hp1
  refine ⟨by rw [sizeLine_eq]; omega, fun q1 hq1 => ?_⟩
  have b2 := b1.ex hst (Ex.new (o := .lst [.str (Str.ofString "!"), .str (Str.ofString "A"), .str (Str.ofString "#"), .str (Str.ofString "@"), .str (Str.ofString "_"), .str (Str.ofString "~"), .str (Str.ofString "/"), .str (Str.ofString ";"), .str (Str.ofString "{"), .str (Str.ofString "*")]) hq1)
  refine ⟨c, l, n + 1, rfl, b2.pen, by omega, Or.inl ⟨q1, _, rfl, hp1.nec hq1, upd_same, by simp, by simp, fun v H2 hv k2 hp2 => ?_⟩⟩
  obtain ⟨x, rfl, hx⟩ : ∃ x, v = .str (S [x]) ∧ x ∈ [33, 65, 35, 64, 95, 126, 47, 59, 123, 42] := by
    simp only [List.mem_cons, List.not_mem_nil, or_false] at hv
    rcases hv with rfl | rfl | rfl | rfl | rfl | rfl | rfl | rfl | rfl | rfl
    · exact ⟨33, rfl, by decide⟩
    · exact ⟨65, rfl, by decide⟩
    · exact ⟨35, rfl, by decide⟩
    · exact ⟨64, rfl, by decide⟩
    · exact ⟨95, rfl, by decide⟩
    · exact ⟨126, rfl, by decide⟩
    · exact ⟨47, rfl, by decide⟩
    · exact ⟨59, rfl, by decide⟩
    · exact ⟨123, rfl, by decide⟩
    · exact ⟨42, rfl, by decide⟩
  have b3 := b2.k1 hst k2 hp2
  have ei : ((at_ : Nat) : Int) + 1 = ((at_ + 1 : Nat) : Int) := by omega
  refine ⟨b3.tab, fun H3 x3 t3 => heard_of ?_⟩
  have b4 := b3.lam hst x3 t3
  refine ⟨rfl, b4.w, ?_⟩
  simp [sDPut, tDGet, tDIn, tDNotIn, tRet, tRetN, tSeq, tIfS, tDrop, tNext, tNever, tBreak, tCont, tAsg, gName, gCons, gNil, gTup, tAndV, tOrV, tNotV, tAnd, tOr, tNot, tOp, tUn, tVar, tC, tB, tTest, tIf, tCons, tNil, tCB, tTup, tLst, tFld, sFld, sFldAug, rAdd, rSub, tSl, tPart, tNoPart, rI0, rI, rU, rEq, rNe, rSlS, rSlL, rIxL, rIxT, rIxS, tChain, tFn, tMt, tM1, tM0, tBM, rAppend, rIn, tIsN, tNotN, scal_ss, scal_ii, let_nil, let_one, fig_nil, fig_one, LenV_str, L2.start, cxOf, and_assoc, tJs, tFmt, put_at, lk_at, lk_script, lk_upcoming, lk_refuse, lk_skips, lk_expect, lk_word_of, lk_name_unlike, lk_number_to, lk_finish, sp0, sp1, sp2, sp3, sp4, sp5, -List.lookup_eq_none_iff]
  rw [ei, cut_pre (by omega), cut_suf (by omega), S_app, S_app]
  simp only [hS, sizeLine_eq, List.length_append, List.length_take, List.length_drop]
  refine ⟨by omega, by simp; omega, by omega, by simp; omega, fl.take at_ ++ [x] ++ fl.drop (at_ + 1), rfl, by simp; omega, b4.w, hbd _ at_ _ _ _ (f1 at_ x hat hx) b4.w (by simp; omega) fun H4 e4 => ⟨rfl, Or.inl ⟨rfl, ?_⟩⟩⟩
  have b5 := b4.ex hst e4
  refine ⟨b5.tab, fun H5 x5 t5 => heard_of ?_⟩
  have b6 := b5.lam hst x5 t5
  refine ⟨rfl, b6.w, ?_⟩
  simp [sDPut, tDGet, tDIn, tDNotIn, tRet, tRetN, tSeq, tIfS, tDrop, tNext, tNever, tBreak, tCont, tAsg, gName, gCons, gNil, gTup, tAndV, tOrV, tNotV, tAnd, tOr, tNot, tOp, tUn, tVar, tC, tB, tTest, tIf, tCons, tNil, tCB, tTup, tLst, tFld, sFld, sFldAug, rAdd, rSub, tSl, tPart, tNoPart, rI0, rI, rU, rEq, rNe, rSlS, rSlL, rIxL, rIxT, rIxS, tChain, tFn, tMt, tM1, tM0, tBM, rAppend, rIn, tIsN, tNotN, scal_ss, scal_ii, let_nil, let_one, fig_nil, fig_one, LenV_str, L2.start, cxOf, and_assoc, tJs, tFmt, put_at, lk_at, lk_script, lk_upcoming, lk_refuse, lk_skips, lk_expect, lk_word_of, lk_name_unlike, lk_number_to, lk_finish, sp0, sp1, sp2, sp3, sp4, sp5, -List.lookup_eq_none_iff]
  refine ⟨by rw [sizeLine_eq]; omega, fun q2 hq2 => ?_⟩
  have b8 := b6.ex hst (Ex.new (o := .lst [.str (Str.ofString "!"), .str (Str.ofString " "), .str (Str.ofString "]"), .str (Str.ofString "A"), .str (Str.ofString ":")]) hq2)
  refine ⟨c, l, _, rfl, b8.pen, by omega, Or.inl ⟨q2, _, rfl, b6.pen.nec hq2, upd_same, by simp, by simp, fun v2 H8 hv2 k8 hp8 => ?_⟩⟩
  obtain ⟨y, rfl, hy⟩ : ∃ y, v2 = .str (S [y]) ∧ y ∈ [33, 32, 93, 65, 58] := by
    simp only [List.mem_cons, List.not_mem_nil, or_false] at hv2
    rcases hv2 with rfl | rfl | rfl | rfl | rfl
    · exact ⟨33, rfl, by decide⟩
    · exact ⟨32, rfl, by decide⟩
    · exact ⟨93, rfl, by decide⟩
    · exact ⟨65, rfl, by decide⟩
    · exact ⟨58, rfl, by decide⟩
  have b9 := b8.k1 hst k8 hp8
  refine ⟨S [y], rfl, by rw [hS, hS]; simp; omega, fl ++ [y], by rw [S_app], by simp; omega, b9.w, hbd _ fl.length _ _ _ (f2 y hy) b9.w (by simp; omega) fun H10 e10 => ⟨by omega, rfl, Or.inl ⟨rfl, ?_⟩⟩⟩
  have b11 := b9.ex hst e10
  refine ⟨c, l, _, last + 1, rfl, by rw [Int.natCast_add]; rfl, b11.pen, by omega, by omega, by omega, fun spot H11 hsp k11 hp11 => ?_⟩
  have b12 := b11.k1 hst k11 hp11
  refine ⟨b12.tab, fun H12 x12 t12 => heard_of ?_⟩
  have b13 := b12.lam hst x12 t12
  refine ⟨rfl, b13.w, ?_⟩
  simp [sDPut, tDGet, tDIn, tDNotIn, tRet, tRetN, tSeq, tIfS, tDrop, tNext, tNever, tBreak, tCont, tAsg, gName, gCons, gNil, gTup, tAndV, tOrV, tNotV, tAnd, tOr, tNot, tOp, tUn, tVar, tC, tB, tTest, tIf, tCons, tNil, tCB, tTup, tLst, tFld, sFld, sFldAug, rAdd, rSub, tSl, tPart, tNoPart, rI0, rI, rU, rEq, rNe, rSlS, rSlL, rIxL, rIxT, rIxS, tChain, tFn, tMt, tM1, tM0, tBM, rAppend, rIn, tIsN, tNotN, scal_ss, scal_ii, let_nil, let_one, fig_nil, fig_one, LenV_str, L2.start, cxOf, and_assoc, tJs, tFmt, put_at, lk_at, lk_script, lk_upcoming, lk_refuse, lk_skips, lk_expect, lk_word_of, lk_name_unlike, lk_number_to, lk_finish, sp0, sp1, sp2, sp3, sp4, sp5, -List.lookup_eq_none_iff]
  rw [cut_pre (by omega)]
  refine ⟨by rw [hS, sizeLine_eq]; omega, fl.take spot, rfl, by simp; omega, b13.w, hbd _ spot _ _ _ (f3 spot (by omega)) b13.w (by simp; omega) fun H14 e14 => ⟨rfl, ?_⟩⟩
  have b14 := b13.ex hst e14
  simp only [decide_true]
  exact hq _ b14.k3 (b14.pen.le (by omega)) b14.tab
end
end Mp

set_option maxHeartbeats 8000000
/-! Kb3: repr of a tree, where nothing else is being shown -/
namespace Mp
open PySem PySem.Spec PyProof.Rows L2
theorem sg_cps {l : List Nat} (h : PyData.strOk (S l) = true) : ∀ c ∈ (S l).cps.toList, c < 16 ^ 8 := fun c hc => by
  unfold PyData.strOk at h
  rw [Array.all_eq_true'] at h
  have := h c (Array.mem_toList_iff.mp hc)
  have h2 : c < 0x110000 := by simpa using this
  omega
theorem shown_int (b : Int) : PyData.shown (.int b) = S (numI b) := by
  show Str.ofString (toString b) = _
  rw [← fmt_int]
  rfl
theorem showable_int {b : Int} (h : b.natAbs ≤ 2000) : PyData.showable (.int b) = true := by
  have h1 : b.natAbs.log2 ≤ 11 := by
    by_cases h0 : b.natAbs = 0
    · rw [h0]; decide
    · have := (Nat.log2_lt (n := b.natAbs) (k := 12) h0).mpr (by omega)
      omega
  show decide (b.natAbs.log2 < 1920) = true
  exact decide_eq_true (by omega)
theorem Tr.showable : ∀ {t : Tr}, t.intOk → t.data.showable = true
  | .leaf, _ => rfl
  | .ask one other b y n, h => by
    have h1 := Tr.showable h.2.1
    have h2 := Tr.showable h.2.2
    have h3 := showable_int h.1
    simp only [Tr.data, PyData.showable, PyData.showableAll, h1, h2, Bool.and_true] at h3 ⊢
    exact h3
theorem Tr.noDict : ∀ t : Tr, t.data.hasDict = false
  | .leaf => rfl
  | .ask one other b y n => by
    have h1 := Tr.noDict y
    have h2 := Tr.noDict n
    simp only [Tr.data, PyData.hasDict, PyData.hasDictAll, h1, h2, Bool.or_false]
theorem repr_le {l : List Nat} (h : PyData.strOk (S l) = true) (hl : l.length ≤ 20) : (reprText (S l)).length ≤ 202 := by
  have := StrLaws.reprText_len (S l) (sg_cps h)
  rw [S_len] at this
  omega
theorem shown_le {ws : List (List Nat)} (hw : ∀ x ∈ ws, x.length ≤ 20) : ∀ {t : Tr}, TrOk ws t → t.sgOk → t.data.shown.length + 700 ≤ 1000 * 2 ^ t.deep
  | .leaf, _, _ => by
    have h1 := repr_le (l := T "leaf") (by decide +kernel) (by decide)
    have h2 := PySem.fmt_text [reprText (S (T "leaf"))]
    simp only [piled_cons, piled_nil] at h2
    show (tupleText [reprText (S (T "leaf"))]).length + 700 ≤ 1000 * 2 ^ 0
    omega
  | .ask one other b y n, h, g => by
    obtain ⟨h1, h2, h3, h4, h5, h6⟩ := h
    obtain ⟨g1, g2, g3, g4⟩ := g
    have l0 := repr_le (l := T "ask") (by decide +kernel) (by decide)
    have l1 := repr_le g1 (hw _ h1)
    have l2 := repr_le g2 (hw _ h2)
    have l3 := numI_le h4
    have l5 := shown_le hw h5 g3
    have l6 := shown_le hw h6 g4
    have m1 : 2 ^ y.deep ≤ 2 ^ max y.deep n.deep := Nat.pow_le_pow_right (by decide) (Nat.le_max_left _ _)
    have m2 : 2 ^ n.deep ≤ 2 ^ max y.deep n.deep := Nat.pow_le_pow_right (by decide) (Nat.le_max_right _ _)
    have e : (Tr.ask one other b y n).deep = max y.deep n.deep + 1 := rfl
    rw [e, Nat.pow_succ]
    have e2 : (Tr.ask one other b y n).data.shown = tupleText [reprText (S (T "ask")), reprText (S one), reprText (S other), PyData.shown (.int b), y.data.shown, n.data.shown] := rfl
    rw [e2]
    have h2 := PySem.fmt_text [reprText (S (T "ask")), reprText (S one), reprText (S other), PyData.shown (.int b), y.data.shown, n.data.shown]
    simp only [piled_cons, piled_nil] at h2
    rw [shown_int, S_len] at h2
    rw [shown_int]
    omega
/-- repr of a tree -/
def rRepr : List V → Hp → VK → Prop := fun xs H Q => ∃ a t, xs = [.ref a] ∧ TrAt H t a ∧ t.intOk ∧ t.deep ≤ 100 ∧ t.data.shown.length ≤ sizeLine ∧ Q (.str t.data.shown) H
theorem call_repr {X : Cx} {k : Nat} (hr : Room k X.A) (hg : X.A.guards = some []) : CallR X (.builtin "repr") rRepr := by
  intro pins s σ H xs us Q I r h
  obtain ⟨a, t, rfl, ht, hi, hd, hz, q⟩ := h
  obtain ⟨u, rfl, ru⟩ := r.one
  obtain rfl : u = Value.ref a := ru
  obtain ⟨as, rd⟩ := Dp.reads I t.data _ _ ht.dp (show RelV (.ref a) (.ref a) from rfl)
  have hdp := Tr.dep t
  have hu := hr.un
  refine repr_of_reads' rd (Tr.showable hi) (PyData.noDict_hsm (Tr.noDict t)) hg (by omega) (fun _ _ e => e) (fun h' u tk kp => ?_) hz
  exact ⟨.str t.data.shown, H, I.kept kp, ⟨u, rfl⟩, q⟩
theorem boot_repr : bootBuiltins "repr" = some (.builtin "repr") := by first | rfl | decide +kernel | with_unfolding_all rfl
end Mp

set_option maxHeartbeats 8000000
/-! Kb5: the two lambdas of the law: what they read, and their bent texts -/
namespace Mp
open PySem PySem.Spec PyProof.Rows L2
open He (ga ma fAd)
open LamX (ExtN Tabs TabS TabB CodeO)
open NdefX (NF NScope ncx envF)
section
variable {P : Program} {w : World} {K : PySem.W.Frag} {mg : Str → Option Value} {base : Heap}
/-- what a lambda of the law leans on -/
structure WK (K : PySem.W.Frag) (cp f ci cc ka : Addr) (q : Str) (lo oc : Obj) (ns : List (List Nat)) (as : List Addr) (H : Hp) : Prop where
  lam : H f = some (Lent f lo)
  code : H ci = some (CodeO ci q)
  cell : H cc = some (Lent cc oc)
  lst : H ka = some (.lst (as.map V.ref))
  kds : KdsAt K H ns as
  n1 : f ≠ cp
  n2 : ci ≠ cp
  n3 : cc ≠ cp
  n4 : ka ≠ cp
  n5 : ∀ b ∈ as, b ≠ cp
theorem codeO_ext {c : Addr} {q : Str} : ∀ ps, CodeO c q ≠ .tbl ps := fun ps => LamX.codeO_ne ps
theorem KdsAt.k3 {cp : Addr} {H H' : Hp} {ns : List (List Nat)} {as : List Addr} (h : KdsAt K H ns as) (n : ∀ b ∈ as, b ≠ cp) (k : K3 cp H H') : KdsAt K H' ns as :=
  ⟨h.1, fun i m b hm hb => by
    obtain ⟨dx, t, e⟩ := h.2 i m b hm hb
    exact ⟨dx, t, k _ _ (n b (List.mem_of_getElem? hb)) (fun _ z => nomatch z) e⟩⟩
theorem WK.k3 {cp f ci cc ka : Addr} {q : Str} {lo oc : Obj} {ns : List (List Nat)} {as : List Addr} {H H' : Hp} (k : K3 cp H H') (h : WK K cp f ci cc ka q lo oc ns as H) : WK K cp f ci cc ka q lo oc ns as H' :=
  ⟨k _ _ h.n1 (fun _ z => nomatch z) h.lam, k _ _ h.n2 codeO_ext h.code, k _ _ h.n3 (fun _ z => nomatch z) h.cell, k _ _ h.n4 (fun _ z => nomatch z) h.lst, h.kds.k3 h.n5 k, h.n1, h.n2, h.n3, h.n4, h.n5⟩
theorem ex_lent {H H' : Hp} {c : Addr} {o : Obj} (hc : H c = some (Lent c o)) (e : Ex (delH H c) H') : Ex H (upd H' c (Lent c o)) := fun b u h => by
  by_cases hb : b = c
  · subst hb
    rw [hc] at h
    cases h
    exact upd_same
  · rw [upd_ne hb]
    exact e b u (by rw [delH_ne hb]; exact h)
theorem badx_lent {H : Hp} {c : Addr} {o : Obj} {n : Nat} {Q : VK} (hc : H c = some (Lent c o)) (hq : ∀ H2, Ex H H2 → Q (.int (n : Nat)) H2) : BadX K (fun cls d H2 => H2 c = none → hWish K Q cls d (upd H2 c (Lent c o))) (delH H c) n := fun d H' e hd hn => by
  have ne : d ≠ c := fun z => by
    rw [z, hn] at hd
    cases hd
  exact ⟨d, _, rfl, rfl, by rw [upd_ne ne]; exact hd, fun H2 e2 => hq H2 (Ex.trans (ex_lent hc e) e2)⟩
theorem WK.lst' {cp f ci cc ka : Addr} {q : Str} {lo oc : Obj} {ns : List (List Nat)} {as : List Addr} {H : Hp} (h : WK K cp f ci cc ka q lo oc ns as H) : delH H cc ka = some (.lst (as.map V.ref)) ∧ KdsAt K (delH H cc) ns as := by
  refine ⟨?_, h.kds.1, fun i m b hm hb => ?_⟩
  · rw [delH_ne (fun z => ?_)]
    · exact h.lst
    · have := h.lst
      rw [z, h.cell] at this
      cases this
  · obtain ⟨dx, t, e⟩ := h.kds.2 i m b hm hb
    refine ⟨dx, t, ?_⟩
    rw [delH_ne (fun z => ?_)]
    · exact e
    · rw [z, h.cell] at e
      cases e
/-- the lambda's own names -/
structure LamN (F : NF) (y : Str) : Prop where
  sc : NScope ["one", "some"] ["one"] ["some"] F.scope
  gl : F.scope.names.lookup y = some .globalImplicit
def tlM (K : PySem.W.Frag) (cc ka : Addr) (oc : Obj) : List Nat → XK → Hp → VK → Prop := fun l E H Q =>
  spRead K [.str (S l), .ref ka] (delH H cc) (fun v H2 => H2 cc = none → Q v (upd H2 cc (Lent cc oc))) (fun cls d H2 => H2 cc = none → E cls d (upd H2 cc (Lent cc oc)))
theorem rd_mach (c_read_machine : Cal P w K mg base "read_machine" 8 (spRead K)) {F : NF} {cp f cc ka : Addr} {oc : Obj} {ns : List (List Nat)} {as : List Addr} {pm ctv : Value} {p1 p2 p3 p4 : Pos} (L : LamN F "read_machine") (hcl : F.cl = [(("some" : Str), cc)]) (ho : oc.data = .cell (some (.ref ka)))
    (hb : ∀ (pm ctv u : Value), bindArgs (PySem.W.kla_fn F.name F.qual F.params (.Call (.Name "read_machine" p1) [.Name "one" p2, .Name "some" p3] [] p4) F.scope F.cl pm (.ref F.c) ctv) ⟨[u], []⟩ = pure [(("one" : Str), u)]) :
    RdOk P w K mg base 110 f (WK K cp f F.c cc ka F.qual (LObj F (.Call (.Name "read_machine" p1) [.Name "one" p2, .Name "some" p3] [] p4) pm ctv) oc ns as) (tlM K cc ka oc) := by
  refine RdOk.imp (j := 9) (lam_rd (k := 8) (f := f) (c := cc) (ka := ka) (F := F) (o := oc) (x := "one") (y := "some") (pm := pm) (ctv := ctv) (t := fun E => tFn (spRead K) E (tCons (tVar 0) (tCons (tVar 1) tNil))) L.sc hb hcl ho fun A outer s H E hr => ?_) (by omega) (fun H h => ⟨h.lam, h.code, h.cell⟩) fun l E H Q _ _ h => ?_
  · exact pe_fn c_read_machine hr (passD (E := E)) (pa_cons (pe_var (i := 0) rfl (Or.inl (L.sc.par _ (by simp)))) (pa_cons (pe_var (i := 1) rfl (Or.inr (Or.inr (L.sc.frk _ (by simp))))) pa_nil)) (by omega) (hg := L.gl)
  · exact ⟨_, rfl, _, rfl, h⟩
/-! ### the bent texts of machines -/
theorem tail_le : ∀ {ns : List (List Nat)} {ps : List (Nat × Nat)} {b : Bool}, ps.length = ns.length → tailLen ps ≤ (expsText b ns ps).length
  | [], [], _, _ => Nat.zero_le _
  | n :: ns, [p], b, h => by
    unfold expsText tailLen
    simp
    omega
  | n :: ns, p :: p2 :: ps, b, h => by
    have := tail_le (ns := ns) (ps := p2 :: ps) (b := true) (by simpa using h)
    unfold expsText
    rw [show tailLen (p :: p2 :: ps) = tailLen (p2 :: ps) from rfl]
    simp only [List.length_append]
    omega
theorem bends_mach {cp f ci cc ka : Addr} {q : Str} {lo oc : Obj} {ns : List (List Nat)} {as : List Addr} {ps : List (Nat × Nat)} (hO : KsOk ns) (hl : ps.length = ns.length) (hp : psOk ps) :
    Bends K (WK K cp f ci cc ka q lo oc ns as) (tlM K cc ka oc) (face ns ps) ((face ns ps).length - tailLen ps) := by
  have hn : ns ≠ [] := fun e => by
    have := hO.lo
    rw [e] at this
    simp at this
  have hw : ∀ n ∈ ns, n.all isLet = true := fun n h => nameOk_let (hO.ok n h)
  refine ⟨BadM ns, fun l n H Q N hb hW hl2 hq => ?_, fun i x hi hx => ?_, fun y hy => ?_, fun i hi => ?_⟩
  · obtain ⟨h1, h2⟩ := hW.lst'
    refine ⟨ka, ns, as, rfl, h1, h2, hO, Or.inl ⟨l, rfl, hl2, ?_⟩⟩
    obtain ⟨r, g1, g2⟩ := hb
    rw [g1]
    show BadX K _ _ (l.length - r.length)
    rw [g2]
    exact badx_lent hW.cell hq
  · refine ⟨[x] ++ (face ns ps).drop (i + 1), ?_, ?_⟩
    · rw [List.append_assoc]
      refine mach_bent hl hn hw hp (fun y q e => ?_) (by simp)
      have e1 : x = y := (List.cons.inj e).1
      subst e1
      simp only [List.mem_cons, List.not_mem_nil, or_false] at hx
      rcases hx with rfl | rfl | rfl | rfl | rfl | rfl | rfl | rfl | rfl | rfl <;> decide
    · simp
      omega
  · refine ⟨[y], mach_more hl hn hp (fun z q e => ?_) (by simp), by simp⟩
    have e1 : y = z := (List.cons.inj e).1
    subst e1
    simp only [List.mem_cons, List.not_mem_nil, or_false] at hy
    rcases hy with rfl | rfl | rfl | rfl | rfl <;> decide
  · have ht : tailLen ps ≤ (face ns ps).length := by
      rw [face_eq hl hn]
      exact tail_le hl
    refine ⟨[], mach_less hl hn hw hp (by omega), ?_⟩
    simp
    omega
/-! ### trees -/
def tlT (K : PySem.W.Frag) (cc : Addr) (oc : Obj) (as : List Addr) : List Nat → XK → Hp → VK → Prop := fun l E H Q =>
  ∀ p, delH H cc p = none → spReadTree K [.str (S l), .ref p] (upd (delH H cc) p (.tup (as.map V.ref))) (fun v H2 => H2 cc = none → Q v (upd H2 cc (Lent cc oc))) (fun cls d H2 => H2 cc = none → E cls d (upd H2 cc (Lent cc oc)))
theorem rd_tree (z : Zk K mg base) (c_read_tree : Cal P w K mg base "read_tree" 108 (spReadTree K)) {F : NF} {cp f cc ka : Addr} {oc : Obj} {ns : List (List Nat)} {as : List Addr} {pm ctv : Value} {p1 p2 p3 p4 p5 p6 : Pos} (L : LamN F "read_tree") (gl2 : F.scope.names.lookup ("tuple" : Str) = some .globalImplicit) (hcl : F.cl = [(("some" : Str), cc)]) (ho : oc.data = .cell (some (.ref ka)))
    (hb : ∀ (pm ctv u : Value), bindArgs (PySem.W.kla_fn F.name F.qual F.params (.Call (.Name "read_tree" p1) [.Name "one" p2, .Call (.Name "tuple" p3) [.Name "some" p4] [] p5] [] p6) F.scope F.cl pm (.ref F.c) ctv) ⟨[u], []⟩ = pure [(("one" : Str), u)]) :
    RdOk P w K mg base 110 f (WK K cp f F.c cc ka F.qual (LObj F (.Call (.Name "read_tree" p1) [.Name "one" p2, .Call (.Name "tuple" p3) [.Name "some" p4] [] p5] [] p6) pm ctv) oc ns as) (tlT K cc oc as) := by
  refine RdOk.imp (j := 109) (lam_rd (k := 108) (f := f) (c := cc) (ka := ka) (F := F) (o := oc) (x := "one") (y := "some") (pm := pm) (ctv := ctv) (t := fun E => tFn (spReadTree K) E (tCons (tVar 0) (tCons (tCB (fun xs H Q => ∃ p ys, xs = [.ref p] ∧ ((SqL K H p ys ∧ ∀ l, H l = none → Q (.ref l) (upd H l (.tup ys))) ∨ (SqT K H p ys ∧ Q (.ref p) H))) (tCons (tVar 1) tNil)) tNil))) L.sc hb hcl ho fun A outer s H E hr => ?_) (by omega) (fun H h => ⟨h.lam, h.code, h.cell⟩) fun l E H Q hW _ h => ?_
  · exact pe_fn c_read_tree hr (passD (E := E)) (pa_cons (pe_var (i := 0) rfl (Or.inl (L.sc.par _ (by simp)))) (pa_cons (pe_callTy (k_tuple_of (K := K) rfl) gl2 z.b_tuple boot_tuple (pa_cons (pe_var (i := 1) rfl (Or.inr (Or.inr (L.sc.frk _ (by simp))))) pa_nil)) pa_nil)) (by omega) (hg := L.gl)
  · exact ⟨_, rfl, _, rfl, ka, as.map V.ref, rfl, Or.inl ⟨SqL.of hW.lst'.1, fun p hp => h p hp⟩⟩
theorem bends_tree {cp f ci cc ka : Addr} {q : Str} {lo oc : Obj} {ns : List (List Nat)} {as : List Addr} {t : Tr} (hO : KsOk ns) (hd : t.deep ≤ 100) (ho : TrOk (treeWords ns) t) :
    Bends K (WK K cp f ci cc ka q lo oc ns as) (tlT K cc oc as) t.text (t.text.length - 1) := by
  have hpos := text_pos t
  refine ⟨BadTr ns, fun l n H Q N hb hW hl2 hq p hp => ?_, fun i x hi hx => ?_, fun y hy => ?_, fun i hi => ?_⟩
  · obtain ⟨h1, h2⟩ := hW.lst'
    have e := Ex.new (o := .tup (as.map V.ref)) hp
    refine ⟨p, ns, as, rfl, Or.inr upd_same, ?_, hO, Or.inl ⟨l, rfl, hl2, ?_⟩⟩
    · refine ⟨h2.1, fun i m b hm hb => ?_⟩
      obtain ⟨dx, tt, g⟩ := h2.2 i m b hm hb
      exact ⟨dx, tt, e _ _ g⟩
    · obtain ⟨r, g1, g2⟩ := hb
      unfold EndsXT
      rw [g1]
      show BadX K _ _ (l.length - r.length)
      rw [g2]
      exact (badx_lent hW.cell hq).ex e
  · refine ⟨[x] ++ t.text.drop (i + 1), ?_, ?_⟩
    · rw [List.append_assoc]
      refine rt_cut hO hd ho (fun y q e => ?_) hi
      have e1 : x = y := (List.cons.inj e).1
      subst e1
      simp only [List.mem_cons, List.not_mem_nil, or_false] at hx
      rcases hx with rfl | rfl | rfl | rfl | rfl | rfl | rfl | rfl | rfl | rfl <;> decide
    · simp
      omega
  · exact ⟨[y], rt_more hO hd ho (by simp), by simp⟩
  · refine ⟨[], ?_, ?_⟩
    · have := rt_cut (u := []) (i := i) hO hd ho (fun x q e => nomatch e) (by omega)
      rwa [List.append_nil] at this
    · simp
      omega
end
end Mp

set_option maxHeartbeats 8000000
/-! Kb6: what the law leans on from turn to turn; the call with a lambda -/
namespace Mp
open PySem PySem.Spec PyProof.Rows L2
open He (ga ma fAd)
open LamX (ExtN Tabs TabS TabB CodeO)
open NdefX (NF)
/-- what stands while the law goes round -/
structure LK (K : PySem.W.Frag) (Tt : List (Addr × Str)) (c l q ka : Addr) (ns : List (List Nat)) (as : List Addr) (H : Hp) (m : Nat) : Prop where
  pen : PenAt H c l m
  tab : Tabs Tt H
  ql : H q = some (.lst (txV ns))
  kl : H ka = some (.lst (as.map V.ref))
  kds : KdsAt K H ns as
  nq : q ≠ c
  nk : ka ≠ c
  nb : ∀ b ∈ as, b ≠ c
section
variable {K : PySem.W.Frag} {Tt : List (Addr × Str)} {c l q ka : Addr} {ns : List (List Nat)} {as : List Addr} {H H' : Hp} {m m' : Nat}
theorem LK.k3 (b : LK K Tt c l q ka ns as H m) (k : K3 c H H') (hp : PenAt H' c l m') (ht : Tabs Tt H') : LK K Tt c l q ka ns as H' m' :=
  ⟨hp, ht, k _ _ b.nq (fun _ z => nomatch z) b.ql, k _ _ b.nk (fun _ z => nomatch z) b.kl, b.kds.k3 b.nb k, b.nq, b.nk, b.nb⟩
theorem LK.k1 (b : LK K Tt c l q ka ns as H m) (k : K1 c H H') (hp : PenAt H' c l m') : LK K Tt c l q ka ns as H' m' := b.k3 (K3.k1 k) hp (Tabs.k1 b.pen k b.tab)
theorem LK.ex (b : LK K Tt c l q ka ns as H m) (k : Ex H H') : LK K Tt c l q ka ns as H' m := b.k3 (K3.ex k) (b.pen.ex k) (b.tab.ext k)
theorem LK.lam (b : LK K Tt c l q ka ns as H m) (k : ExtN H H') (t : Tabs Tt H') : LK K Tt c l q ka ns as H' m := b.k3 (K3.ext k) (b.pen.ext k) t
end
/-- between the turns -/
def LInv (Tt : List (Addr × Str)) (sa c l : Addr) (m : Nat) (σ : L2.St) (H : Hp) : Prop := (∃ x2 x3 x4 x5 x6 x7 x8 x9 x10 x11 x12 x13 x14, σ = [some (.ref sa), some (.ref c), x2, x3, x4, x5, x6, x7, x8, x9, x10, x11, x12, x13, x14]) ∧ PenAt H c l m ∧ Tabs Tt H
section
variable {P : Program} {w : World} {K : PySem.W.Frag} {mg : Str → Option Value} {base : Heap} {Tt : List (Addr × Str)} {c l q ka cc : Addr} {ns : List (List Nat)} {as : List Addr} {H : Hp} {m : Nat} {σ : L2.St} {Q : VK}
theorem bent_call {F : Addr → NF} {e : Expr} {te4 : TE} {fl : List Nat} {last : Nat} {tl : Obj → List Nat → XK → Hp → VK → Prop}
    (hR : ∀ f ci pm ctv oc, oc.data = .cell (some (.ref ka)) → RdOk P w K mg base 110 f (WK K c f ci cc ka (F ci).qual (LObj (F ci) e pm ctv) oc ns as) (tl oc)) (hB : ∀ f ci qq lo oc, Bends K (WK K c f ci cc ka qq lo oc ns as) (tl oc) fl last)
    (h4 : ∀ (H : Hp) (R : VK), R (.int (last : Nat)) H → te4 σ H R) (s : LK K Tt c l q ka ns as H m) (hm : m + 10 < 1000000) (hl : fl.length ≤ 5000) (hp : 1 ≤ fl.length) (hla : last ≤ fl.length)
    (h1 : σ[1]? = some (some (.ref c))) (h8 : σ[8]? = some (some (.str (S fl)))) (h5 : σ[4]? = some (some (.ref ka))) (hq : ∀ H', LK K Tt c l q ka ns as H' (m + 4) → K3 c H H' → Q (.bl true) H') :
    tFnC cc 4 (spBent P w K mg base Tt) (tCons (tVar 1) (tCons (tVar 8) (tCons (tLamV Tt F e) (tCons te4 tNil)))) σ H Q := by
  refine ⟨.ref c, h1, .str (S fl), h8, s.tab, fun f ci pm ctv H1 x1 t1 nf hf hci => h4 _ _ ⟨.ref ka, h5, fun oc u ru hoc hn => ?_⟩⟩
  obtain rfl : u = Value.ref ka := ru
  have s1 := s.lam x1 t1
  have e2 := Ex.new (o := Lent cc oc) hn
  have s2 := s1.ex e2
  have n3 : cc ≠ c := s1.pen.nec hn
  have n1 : f ≠ c := s.pen.nec nf
  have n2 : ci ≠ c := fun z => by
    obtain ⟨_, _, _, g, _⟩ := s1.pen
    rw [z, g] at hci
    cases hci
  refine ⟨c, l, f, m, last, fl, _, tl oc, rfl, rfl, rfl, rfl, s2.pen, hm, hl, hp, hla, hR f ci pm ctv oc hoc, ⟨e2 _ _ hf, e2 _ _ hci, upd_same, s2.kl, s2.kds, n1, n2, n3, s2.nk, s2.nb⟩, fun _ _ k h => h.k3 k, s2.tab, hB _ _ _ _ _, fun H' k hpn ht => ?_⟩
  have hcl : H' cc = some (Lent cc oc) := k _ _ n3 (fun _ z => nomatch z) upd_same
  have kk : K3 c H (delH H' cc) := fun a o n nt h => by
    have h1 := x1 _ _ h nt
    have n : a ≠ cc := ne_of_none h1 hn
    rw [delH_ne n]
    exact k _ _ (by assumption) nt (e2 _ _ h1)
  have hpd : PenAt (delH H' cc) c l (m + 4) := by
    obtain ⟨zs, x, y, g1, g2, g3, g4⟩ := hpn
    refine ⟨zs, x, y, by rw [delH_ne (Ne.symm n3)]; exact g1, g2, ?_, g4⟩
    rw [delH_ne (fun z => ?_)]
    · exact g3
    · rw [z, hcl] at g3
      cases g3
  have htd : Tabs Tt (delH H' cc) := fun p hp => by
    obtain ⟨ps, g1, g2, g3⟩ := ht p hp
    refine ⟨ps, ?_, g2, fun pos cv hc => ?_⟩
    · rw [delH_ne (fun z => ?_)]
      · exact g1
      · rw [z, hcl] at g1
        cases g1
    · obtain ⟨d, e1, e2⟩ := g3 pos cv hc
      refine ⟨d, e1, ?_⟩
      rw [delH_ne (fun z => ?_)]
      · exact e2
      · rw [z, hcl] at e2
        cases e2
  exact hq _ (s.k3 kk hpd htd) kk
theorem heard_tree {wt : List Nat} {n : Nat} {N : VK} (hO : KsOk ns) (hb : BadTr2 ns wt n) (hk : H ka = some (.lst (as.map V.ref))) (hd : KdsAt K H ns as) (hq : ∀ H2, Ex H H2 → Q (.int (n : Nat)) H2) : spReadTree K [.str (S wt), .ref ka] H N (hWish K Q) := by
  obtain ⟨⟨r, g1, g2⟩, g3⟩ := hb
  refine ⟨ka, ns, as, rfl, Or.inl hk, hd, hO, Or.inl ⟨wt, rfl, by omega, ?_⟩⟩
  unfold EndsXT
  rw [g1]
  show BadX K _ _ (wt.length - r.length)
  rw [g2]
  exact badx_wish hq
theorem heard_mach {wt : List Nat} {n : Nat} {N : VK} (hO : KsOk ns) (hb : BadM2 ns wt n) (hk : H ka = some (.lst (as.map V.ref))) (hd : KdsAt K H ns as) (hq : ∀ H2, Ex H H2 → Q (.int (n : Nat)) H2) : spRead K [.str (S wt), .ref ka] H N (hWish K Q) := by
  obtain ⟨⟨r, g1, g2⟩, g3⟩ := hb
  refine ⟨ka, ns, as, rfl, hk, hd, hO, Or.inl ⟨wt, rfl, by omega, ?_⟩⟩
  rw [g1]
  show BadX K _ _ (wt.length - r.length)
  rw [g2]
  exact badx_wish hq
/-- a right tree's text is read -/
theorem read_right {t : Tr} {E : XK} (hO : KsOk ns) (hd : t.deep ≤ 100) (ho : TrOk (treeWords ns) t) (hl : t.text.length ≤ 10000) (hk : H ka = some (.lst (as.map V.ref))) (hds : KdsAt K H ns as) (hq : ∀ x H2, Ex H H2 → TrAt H2 t x → Q (.ref x) H2) : spReadTree K [.str (S t.text), .ref ka] H Q E := by
  refine ⟨ka, ns, as, rfl, Or.inl hk, hds, hO, Or.inl ⟨t.text, rfl, hl, ?_⟩⟩
  unfold EndsXT
  rw [rt_ok hO hd ho]
  exact hq
theorem mach_right {ps : List (Nat × Nat)} {E : XK} (hO : KsOk ns) (hlp : ps.length = ns.length) (hp : psOk ps) (hl : (face ns ps).length ≤ 10000) (hk : H ka = some (.lst (as.map V.ref))) (hds : KdsAt K H ns as) (hq : ∀ x H2, Ex H H2 → MachAt K H2 ns as ps x → Q (.ref x) H2) : spRead K [.str (S (face ns ps)), .ref ka] H Q E := by
  refine ⟨ka, ns, as, rfl, hk, hds, hO, Or.inl ⟨_, rfl, hl, ?_⟩⟩
  rw [mach_ok hlp (fun e => by have := hO.lo; rw [e] at this; simp at this) hp]
  exact fun x H2 e _ hm => hq x H2 e hm
end
end Mp

set_option maxHeartbeats 8000000
/-! N10: the last word of a text; how long machine texts are -/
namespace Mp
open PySem PySem.Spec PyProof.Rows L2
theorem tail_of {a b v t : List Nat} (hb : 32 ∉ b) (ht : 32 ∉ t) (e : a ++ 32 :: b = v ++ 32 :: t) : b = t := by
  have key : ∀ (x y : List Nat), 32 ∉ y → ((x ++ 32 :: y).reverse.takeWhile fun z => z != 32).reverse = y := fun x y hy => by
    have h1 : (x ++ 32 :: y).reverse = y.reverse ++ 32 :: x.reverse := by simp
    rw [h1, List.takeWhile_append_of_pos (fun z hz => ?_)]
    · simp
    · have : z ≠ 32 := fun e => hy (by rw [← e]; exact List.mem_reverse.mp hz)
      simpa using this
  rw [← key a b hb, e, key v t ht]
theorem join_snoc (y z : Str) : ∀ (r : List Str) (p : Str), ∃ A : List Nat, (Str.join y (p :: (r ++ [z]))).cps.toList = A ++ (y.cps.toList ++ z.cps.toList)
  | [], p => ⟨p.cps.toList, by
    show ((p ++ y ++ z : Str)).cps.toList = _
    show (p.cps ++ y.cps ++ z.cps).toList = _
    simp⟩
  | q :: r, p => by
    obtain ⟨A, hA⟩ := join_snoc y z r q
    refine ⟨p.cps.toList ++ y.cps.toList ++ A, ?_⟩
    show ((p ++ y ++ Str.join y (q :: (r ++ [z])) : Str)).cps.toList = _
    show (p.cps ++ y.cps ++ (Str.join y (q :: (r ++ [z]))).cps).toList = _
    rw [Array.toList_append, hA]
    simp
theorem last_word {l v t : List Nat} (e : l = v ++ 32 :: t) (ht : 32 ∉ t) : ∃ r, Txt.split (S l) (Str.ofString " ") = r ++ [S t] := by
  have hsp : Str.ofString " " = ⟨#[32]⟩ := by decide +kernel
  rw [hsp]
  have hj := StrLaws.join_split (S l) ⟨#[32]⟩
  have hf := StrLaws.split_free (S l) 32
  have hp := split_pos (S l) ⟨#[32]⟩
  generalize Txt.split (S l) ⟨#[32]⟩ = ps at hj hf hp
  rcases List.eq_nil_or_concat ps with rfl | ⟨r, z, rfl⟩
  · simp at hp
  · have hz : 32 ∉ z.cps.toList := hf z (by simp)
    refine ⟨r, ?_⟩
    have hjl := congrArg (fun q : Str => q.cps.toList) hj
    simp only [S_cps] at hjl
    cases r with
    | nil =>
      have h1 : (Str.join (⟨#[32]⟩ : Str) [z]).cps.toList = z.cps.toList := rfl
      have h2 : z.cps.toList = l := by rw [← h1]; simpa using hjl
      exact absurd (by rw [h2, e]; simp) hz
    | cons p r =>
      obtain ⟨A, hA⟩ := join_snoc ⟨#[32]⟩ z r p
      have h2 : A ++ 32 :: z.cps.toList = v ++ 32 :: t := by
        rw [← e, ← hjl]
        have h3 : (p :: r).concat z = p :: (r ++ [z]) := by simp
        rw [h3, hA]
        rfl
      have h4 := tail_of hz ht h2
      have h5 : z = S t := by
        rw [← h4]
        obtain ⟨⟨zl⟩⟩ := z
        rfl
      rw [h5]
      simp
theorem fig_num (n : Nat) : 32 ∉ numL n := TL.numL_free (Or.inl (by decide))
theorem face_tail : ∀ {ns : List (List Nat)} {ps : List (Nat × Nat)} {b : Bool}, ps.length = ns.length → ns ≠ [] → ∃ v t, expsText b ns ps = v ++ 32 :: t ∧ 32 ∉ t ∧ t.length = tailLen ps
  | n :: ns, [p], b, h, _ => by
    have h0 : ns = [] := by simpa using h.symm
    subst h0
    refine ⟨(if b then [44, 32] else []) ++ ((n ++ [32]) ++ numL p.1), numL p.2, ?_, fig_num _, rfl⟩
    unfold expsText
    simp [expsText]
  | n :: ns, p :: p2 :: ps, b, h, _ => by
    obtain ⟨v, t, e, h1, h2⟩ := face_tail (ns := ns) (ps := p2 :: ps) (b := true) (by simpa using h) (by intro e; rw [e] at h; simp at h)
    refine ⟨(if b then [44, 32] else []) ++ ((n ++ [32]) ++ (numL p.1 ++ ([32] ++ (numL p.2 ++ v)))), t, ?_, h1, h2⟩
    unfold expsText
    rw [e]
    simp
  | [], _, _, _, h => absurd rfl h
theorem exps_len : ∀ {ns : List (List Nat)} {ps : List (Nat × Nat)} {b : Bool}, (∀ n ∈ ns, n.length ≤ 8) → psOk ps → (expsText b ns ps).length ≤ 20 * ns.length
  | [], _, _, _, _ => by
    unfold expsText
    simp
  | n :: ns, [], _, _, _ => by
    unfold expsText
    simp
  | n :: ns, p :: ps, b, h, hp => by
    have l1 := h n List.mem_cons_self
    obtain ⟨p1, p2⟩ := hp p List.mem_cons_self
    have l2 := numL_le (show p.1 ≤ 2000 by omega)
    have l3 := numL_le (show p.2 ≤ 2000 by omega)
    have ih := exps_len (ns := ns) (ps := ps) (b := true) (fun n h2 => h n (List.mem_cons_of_mem _ h2)) (fun q hq => hp q (List.mem_cons_of_mem _ hq))
    have lb : (if b then [44, 32] else ([] : List Nat)).length ≤ 2 := by cases b <;> decide
    unfold expsText
    simp only [List.length_append, List.length_cons, List.length_nil]
    omega
end Mp

set_option maxHeartbeats 8000000
/-! Kb4: the end of a row whose law is shown at the caller's own place alone -/
namespace Mp
open PySem PySem.Spec PyProof.Rows L2
open LamX (TabB)
section
variable {P : Program} {w : World} {K : PySem.W.Frag} {mg mb : Str → Option Value} {cs : List (Addr × Addr)} {a : Addr} {vs : List Value} {ns : List Int} {t : Shared}
abbrev tabO : Obj := { cls := .none, data := .fields #[] }
abbrev lstO (vs : List Value) : Obj := { cls := .type "list", data := .seq vs.toArray }
/-- what is told of the heap at the entH: the empty tables, the script where the head's part does not hold it -/
def entH (K : PySem.W.Frag) (ts : List Addr) (a : Addr) (O : Obj) (xs : List V) : Hp := fun b =>
  if b ∈ ts then some (.tbl #[]) else if b = a ∧ (K.lookup a).isNone = true then some (.frz O (.lst xs)) else none
theorem entry_some {ts : List Addr} {O : Obj} {xs : List V} {b : Addr} {u : HO} (h : entH K ts a O xs b = some u) : (b ∈ ts ∧ u = .tbl #[]) ∨ (b = a ∧ K.lookup a = none ∧ u = .frz O (.lst xs)) := by
  unfold entH at h
  by_cases h1 : b ∈ ts
  · rw [if_pos h1] at h
    exact Or.inl ⟨h1, (Option.some.inj h).symm⟩
  · rw [if_neg h1] at h
    by_cases h2 : b = a ∧ (K.lookup a).isNone = true
    · rw [if_pos h2] at h
      exact Or.inr ⟨h2.1, Option.isNone_iff_eq_none.mp h2.2, (Option.some.inj h).symm⟩
    · rw [if_neg h2] at h
      cases h
structure EntryAt (P : Program) (w : World) (K : PySem.W.Frag) (mg mb : Str → Option Value) (cs : List (Addr × Addr)) (a : Addr) (vs : List Value) (ns : List Int) (t : Shared) : Prop where
  ki : K.In t.heap
  glo : t.heap.Ns mainGlobals mg
  blt : t.heap.Ns builtinsNs mb
  boot : ∀ y : Str, y ≠ "__name__" → mb y = bootBuiltins y
  lim : t.heap.NoLimit
  gen : t.gens = #[]
  tab : ∀ p ∈ cs, t.heap.get? p.2 = some tabO
  out : ∀ p ∈ cs, K.lookup p.2 = none
  code : ∀ p ∈ cs, PySem.W.CodeHd t.heap p.1 p.2
  bm : ∃ (m : Addr) (o : Obj), mg "__builtins__" = some (.ref m) ∧ m ≠ builtinsNs ∧ t.heap.get? m = some o ∧ o.cls = .type "module" ∧ o.dict = some builtinsNs ∧ o.data = .plain
  scr : t.heap.get? a = some (lstO vs)
  ints_ : IntsAre vs ns
  few : ns.length ≤ sizeLine
abbrev hp0 (K : PySem.W.Frag) (cs : List (Addr × Addr)) (a : Addr) (vs : List Value) (ns : List Int) : Hp := entH K (cs.map Prod.snd) a (lstO vs) (ns.map V.int)
theorem EntryAt.isTab (E : EntryAt P w K mg mb cs a vs ns t) {b : Addr} (h : b ∈ cs.map Prod.snd) : ∃ p ∈ cs, p.2 = b := by
  obtain ⟨p, hp, e⟩ := List.mem_map.mp h
  exact ⟨p, hp, e⟩
/-- an object that is neither a list nor an empty table is not told of -/
theorem EntryAt.hid (E : EntryAt P w K mg mb cs a vs ns t) {b : Addr} {o : Obj} (e : t.heap.get? b = some o) (h1 : ∀ q n, o.data ≠ .seq q n) (h2 : o.data ≠ .fields #[]) : (hidT t.heap (hp0 K cs a vs ns)).get? b = some o := by
  refine hidT_get e ?_
  cases q : hp0 K cs a vs ns b with
  | none => rfl
  | some u =>
    rcases entry_some q with ⟨hb, _⟩ | ⟨hb, _⟩
    · obtain ⟨p, hp, ep⟩ := E.isTab hb
      have := E.tab p hp
      rw [ep, e] at this
      exact absurd (congrArg Obj.data (Option.some.inj this)) h2
    · have := E.scr
      rw [← hb, e] at this
      exact absurd (congrArg Obj.data (Option.some.inj this)) (h1 _ _)
theorem EntryAt.nsp (E : EntryAt P w K mg mb cs a vs ns t) {b : Addr} {m : Str → Option Value} : t.heap.Ns b m → (hidT t.heap (hp0 K cs a vs ns)).Ns b m := fun ⟨o, es, ep, e, d, r⟩ =>
  ⟨o, es, ep, E.hid e (fun _ _ z => by rw [d] at z; cases z) (fun z => by rw [d] at z; cases z), d, r⟩
theorem EntryAt.tab0 (E : EntryAt P w K mg mb cs a vs ns t) : ∀ p ∈ cs, hp0 K cs a vs ns p.2 = some (.tbl #[]) := fun p hp => if_pos (List.mem_map.mpr ⟨p, hp, rfl⟩)
theorem EntryAt.ki0 (E : EntryAt P w K mg mb cs a vs ns t) : K.In (hidT t.heap (hp0 K cs a vs ns)) := fun b o e => by
  refine hidT_get (E.ki b o e) ?_
  cases q : hp0 K cs a vs ns b with
  | none => rfl
  | some u =>
    rcases entry_some q with ⟨hb, _⟩ | ⟨hb, hk, _⟩
    · obtain ⟨p, hp, ep⟩ := E.isTab hb
      have := E.out p hp
      rw [ep, e] at this
      cases this
    · rw [hb, hk] at e
      cases e
theorem EntryAt.tabB (E : EntryAt P w K mg mb cs a vs ns t) : ∀ p ∈ cs, TabB (hidT t.heap (hp0 K cs a vs ns)) mg p.1 p.2 := fun p hp => by
  have hp2 := E.tab p hp
  refine ⟨?_, ?_, fun z => ?_⟩
  · obtain ⟨o, us, y1, y2, y3, y4, y5, y6, y7, g, g1, g2, g3, rest⟩ := E.code p hp
    refine ⟨o, us, y1, y2, y3, y4, y5, y6, y7, E.hid g (fun _ _ z => by rw [g2] at z; cases z) (fun z => ?_), g1, g2, g3, rest⟩
    rw [g2] at z
    cases z
    simp at g3
  · obtain ⟨m, o, m1, m2, m3, m4, m5, m6⟩ := E.bm
    refine ⟨m, o, m1, m2, fun z => ?_, fun z => ?_, E.hid m3 (fun _ _ z => by rw [m6] at z; cases z) (fun z => by rw [m6] at z; cases z), m4, m5, m6⟩
    · obtain ⟨og, es, ep, hg, hd, _⟩ := E.glo
      rw [z, hg] at m3
      cases m3
      rw [hd] at m6
      cases m6
    · rw [z, hp2] at m3
      cases m3
      cases m6
  · obtain ⟨og, es, ep, hg, hd, _⟩ := E.glo
    rw [z, hp2] at hg
    cases hg
    cases hd
theorem EntryAt.lst0 (E : EntryAt P w K mg mb cs a vs ns t) : SqL K (hp0 K cs a vs ns) a (ns.map V.int) := by
  have rv := vals_ints E.ints_
  have hl := E.ints_.length
  cases e : K.lookup a with
  | none =>
    refine Or.inl (Or.inr ⟨lstO vs, ?_⟩)
    have n1 : a ∉ cs.map Prod.snd := fun z => by
      obtain ⟨p, hp, ep⟩ := E.isTab z
      have := E.tab p hp
      rw [ep, E.scr] at this
      cases this
    show entH K (cs.map Prod.snd) a (lstO vs) (ns.map V.int) a = _
    unfold entH
    rw [if_neg n1, if_pos ⟨rfl, by rw [e]; rfl⟩]
  | some o =>
    have h1 := E.ki a o e
    rw [E.scr] at h1
    cases h1
    exact Or.inr ⟨_, vs.toArray, _, e, rfl, rfl, rfl, by rw [List.size_toArray, hl]; exact E.few, by simpa using rv⟩
theorem EntryAt.hok (E : EntryAt P w K mg mb cs a vs ns t) : HOk P w (hp0 K cs a vs ns) t.heap := fun b u q => by
  rcases entry_some q with ⟨hb, rfl⟩ | ⟨rfl, _, rfl⟩
  · obtain ⟨p, hp, ep⟩ := E.isTab hb
    rw [← ep]
    exact E.tab p hp
  · exact ⟨E.scr, by rw [List.length_map]; exact E.few, vs, _, vals_ints E.ints_, E.scr⟩
theorem EntryAt.env (E : EntryAt P w K mg mb cs a vs ns t) : Env0 P w K mg (hidT t.heap (hp0 K cs a vs ns)) callerA [] t (hp0 K cs a vs ns) where
  frames := rfl
  mod := ⟨E.ki0, E.nsp E.glo, ⟨mb, E.nsp E.blt, E.boot⟩, let ⟨mc, h1, h2⟩ := E.lim; ⟨mc, E.nsp h1, h2⟩⟩
  bs := fun _ _ e => of_hidT e
  bsz := Nat.le_of_eq (hidT_size _ _)
  funs := trivial
  frf := fun b hb => absurd (show b ∈ ([] : List Addr) from hb) (by simp)
  hok := E.hok
  bare := .of_eq E.gen
/-- what stood stands, when the law has ended -/
theorem EntryAt.old (E : EntryAt P w K mg mb cs a vs ns t) {u : Value} {s' : Shared} (h : CE [] P w (hp0 K cs a vs ns) t (fun v _ => v = .bl true) u s') : u = .bool true ∧ OldK t.heap s'.heap ∧ s'.os = t.os ∧ AllBare s'.gens := by
  obtain ⟨v, H', os, bare, un, hok', r, q⟩ := h
  subst q
  obtain rfl : u = Value.bool true := r
  have grown : ∀ p ∈ cs, ∃ more : Array Value, s'.heap.get? p.2 = some { cls := .none, data := .fields (#[] ++ more) } := fun p hp => by
    obtain ⟨more, z⟩ := un.tbls p.2 #[] (E.tab0 p hp)
    exact ⟨more, hok' p.2 _ z⟩
  have stays : ∀ b o, b ∉ cs.map Prod.snd → t.heap.get? b = some o → s'.heap.get? b = some o := fun b o nb e => by
    cases z : hp0 K cs a vs ns b with
    | none => exact un.keep b o e z (fun y => absurd (show b ∈ ([] : List Addr) from y) (by simp)) (by simp)
    | some x =>
      rcases entry_some z with ⟨hb, _⟩ | ⟨rfl, _, rfl⟩
      · exact absurd hb nb
      · rw [E.scr] at e
        cases e
        exact (hok' b _ (un.frzs b _ _ z)).1
  refine ⟨rfl, ⟨fun b o e => ?_, fun b o e => ?_⟩, os, bare⟩
  · by_cases hb : b ∈ cs.map Prod.snd
    · obtain ⟨p, hp, ep⟩ := E.isTab hb
      obtain ⟨more, hm⟩ := grown p hp
      have h0 := E.tab p hp
      rw [← ep] at e ⊢
      rw [h0] at e
      cases e
      exact .inr (.inl ⟨((E.code p hp).tab h0).isCodeTable, rfl, #[], more, rfl, hm⟩)
    · exact .inl (stays b o hb e)
  · by_cases hb : b ∈ cs.map Prod.snd
    · obtain ⟨p, hp, ep⟩ := E.isTab hb
      obtain ⟨more, hm⟩ := grown p hp
      rw [← ep]
      exact ⟨_, hm⟩
    · exact ⟨o, stays b o hb e⟩
end
/-- the row's walk: the law is called at the caller's place alone -/
theorem walk_here {l : PySem.W.OpenLaw} {n : Nat} {q : Program} {loose : List Str} {XP : (Str → Option Value) → Heap → Prop} {YP : World → Heap → Prop} {d : DefRec} (hn : l.most = some n) (hn2 : n ≤ sizeLine) (hdf : d.params.defaults = [])
    (F : ∀ (w : World) (mg : Str → Option Value) (fa : Addr) (h : Heap), YP w h → h.Ns mainGlobals mg → mg d.name = some (.ref fa) → ∃ (K : PySem.W.Frag) (cs : List (Addr × Addr)), K.In h ∧ (∀ p ∈ cs, h.get? p.2 = some tabO) ∧ (∀ p ∈ cs, K.lookup p.2 = none) ∧ (∀ p ∈ cs, PySem.W.CodeHd h p.1 p.2) ∧
      ∀ (base : Heap) (t : Shared) (H : Hp) (a : Addr) (ns : List Int), K.In base → base.Ns mainGlobals mg → (∀ p ∈ cs, TabB base mg p.1 p.2) → Env0 l.prog w K mg base callerA [] t H → (∀ p ∈ cs, H p.2 = some (.tbl #[])) → SqL K H a (ns.map V.int) → ns.length ≤ n →
        codeAny (model l.prog w) callerA (.call (.ref fa) ⟨[.ref a], []⟩) (CR (L2.CX l.prog w) [] l.prog w H t (fun v _ => v = .bl true) fun _ _ _ => False) t) :
    PySem.W.WalkO q loose XP YP l.row.toRowW d [] (fun f us => PySem.call f us) := by
  refine Att.attach_callB hn hdf fun w s₀ t mg mb fa o pm cd doc a vs ns G Y ho hd hcd hmg hobj hints hlen hbits hg => ?_
  obtain ⟨K, cs, h1, h2, h3, h4, run⟩ := F w mg fa _ Y G.T.g hmg
  have E : EntryAt l.prog w K mg mb cs a vs ns t := ⟨h1, G.T.g, G.T.b, G.T.builtins, G.T.nolimit, hg, h2, h3, h4, G.T.bmain, hobj, hints, Nat.le_trans hlen hn2⟩
  refine codeAny_mono (run _ t _ a ns E.ki0 (E.nsp E.glo) E.tabB E.env E.tab0 E.lst0 hlen) fun r s' h => ?_
  cases r with
  | error e =>
    obtain ⟨_, _, _, _, _, _, _, _, _, _, _, _, z⟩ := h
    exact z.elim
  | ok fl =>
    cases fl with
    | ret u =>
      obtain ⟨rfl, y⟩ := E.old h
      exact ⟨rfl, y⟩
    | next => exact False.elim h
    | brk => exact False.elim h
    | cont => exact False.elim h
end Mp

set_option maxHeartbeats 8000000
/-! Kma: the law -/
namespace Mp
open PySem PySem.Spec PyProof.Rows L2
open StX (tMakeR run_makeR pe_makeR)
open He (ga ma fAd)
open LamX (ExtN Tabs TabS TabB tLam LamS GivesTo CodeO lamEnv lamCx)
def loopBody : Stmt → List Stmt
  | .For _ _ b _ _ => b
  | _ => []
theorem atI_last (r : List Str) (y : Str) : atI ((r ++ [y]).map V.str) (-1) = some (.str y) := by
  unfold atI ixN
  simp
  have h : (1 : Int) ≤ (r.length : Int) + 1 := by omega
  have h2 : (-1 + ((r.length : Int) + 1)).toNat = r.length := by omega
  rw [if_pos h, Option.bind_some, h2, List.getElem?_append_right (by simp)]
  simp
theorem KdsAt.snoc {K : PySem.W.Frag} {H : Hp} {ns : List (List Nat)} {as : List Addr} {n : List Nat} {t : Nat} {x : Addr} (h : KdsAt K H ns as) (hx : PartAt K H (.kind n t) x) : KdsAt K H (ns ++ [n]) (as ++ [x]) := by
  refine ⟨by rw [List.length_append, List.length_append, h.1]; rfl, fun i m b hm hb => ?_⟩
  by_cases hi : i < ns.length
  · rw [List.getElem?_append_left hi] at hm
    rw [List.getElem?_append_left (by rw [h.1]; exact hi)] at hb
    exact h.2 i m b hm hb
  · rw [List.getElem?_append_right (by omega)] at hm
    rw [List.getElem?_append_right (by rw [h.1]; omega), h.1] at hb
    match i - ns.length, hm, hb with
    | 0, hm, hb =>
      have e1 : n = m := by simpa using hm
      have e2 : x = b := by simpa using hb
      subst e1 e2
      obtain ⟨dx, g⟩ := hx
      exact ⟨dx, t, g⟩
theorem lc_openL {K : PySem.W.Frag} {tl : TE} {g : TG} {tt : TT} {te : TE} {vs : List Nat} {σ : L2.St} {H : Hp} {Q : VK} (h : tl σ H fun x H1 => ∃ a : Addr, x = .ref a ∧ (∃ xs, SqL K H1 a xs) ∧ LcFrom (Itl K a) g tt te vs σ H1 Q) : tLc (iList K tl) g tt te vs σ H Q := h
theorem kind_new {K : PySem.W.Frag} {H : Hp} {E : XK} {R : Addr → Hp → Prop} (h : ∀ y H5, Ex H H5 → KdsAt K H5 [T "k"] [y] → R y H5) : ∀ y dy, H y = none → H dy = none → dy ≠ y →
    spKind1 K [.ref y, .str (Str.ofString "k")] (upd (upd H dy (.own y)) y (.ins (ga K "Kind") dy [])) (fun v H2 => v = .non ∧ R y H2) E := fun y dy hy hdy hn => by
  show spKind K [V.ref y, V.str (Str.ofString "k"), V.int 1] _ _ _
  refine ⟨y, dy, T "k", 1, rfl, by rw [← ofS], rfl, upd_same, by decide, by decide, by decide, fun H5 k5 hp5 => ⟨rfl, h y H5 (made_ex hy hdy k5) ⟨rfl, fun i n b hn hb => ?_⟩⟩⟩
  match i, hn, hb with
  | 0, hn, hb =>
    have h1 : T "k" = n := by simpa using hn
    have h2 : y = b := by simpa using hb
    subst h1 h2
    obtain ⟨d, h⟩ := hp5
    exact ⟨d, 1, h⟩
abbrev qL : Str := (envOfC "law" (defScope s_law) 0 0 .none).qual ++ "<lambda>"
theorem law_cell : (defScope s_law).names.lookup ("some" : Str) = some .cell := by decide +kernel
/-- the cell of some -/
abbrev cellL (s : Shared) : Addr := ((envOfC "law" (defScope s_law) s.heap.objs.size 0 .none).cells.lookup ("some" : Str)).getD 0
theorem cellL_at (s : Shared) (f : Addr) (cd : Value) : (envOfC "law" (defScope s_law) s.heap.objs.size f cd).cells.lookup ("some" : Str) = some (cellL s) := by
  have h : ((envOfC "law" (defScope s_law) s.heap.objs.size 0 .none).cells.lookup ("some" : Str)).isSome = true := PySem.W.cellsFrom_some _ _ _ (Or.inl law_cell)
  obtain ⟨x, hx⟩ := Option.isSome_iff_exists.mp h
  have h2 : (envOfC "law" (defScope s_law) s.heap.objs.size f cd).cells = (envOfC "law" (defScope s_law) s.heap.objs.size 0 .none).cells := rfl
  rw [h2]
  unfold cellL
  rw [hx]
  rfl
section
variable {P : Program} {w : World} {K : PySem.W.Frag} {mg : Str → Option Value} {base : Heap}
def spLaw (K : PySem.W.Frag) (Tt : List (Addr × Str)) : Sp := sp1 fun a H Q _ => ∃ (s : Addr) (ns : List Int), a = .ref s ∧ SqL K H s (ns.map V.int) ∧ Tabs Tt H ∧ ∀ H', Q (.bl true) H'
theorem sc_law : FnScope ["script", "pen", "turn", "titles", "some", "powers", "last", "tree", "face", "odd", "spot", "machine", "wrong", "at", "title"] ["script"] (defScope s_law) := ⟨rfl, rfl, rfl, by decide +kernel, rfl, by decide +kernel, by decide +kernel⟩
theorem run_law (z : Zk K mg base) (c__law_pen : Cal P w K mg base "_law_pen" 2 ((spPen K))) (c__law_draw : Cal P w K mg base "_law_draw" 2 spDraw) (c__law_pick : Cal P w K mg base "_law_pick" 3 spPick) (c__law_names : Cal P w K mg base "_law_names" 4 spNames) (c__law_kinds : Cal P w K mg base "_law_kinds" 3 spKinds) (c__law_powers : Cal P w K mg base "_law_powers" 3 spPowers) (c__law_face : Cal P w K mg base "_law_face" 1 ((spFace K))) (c__law_scales : Cal P w K mg base "_law_scales" 1 spScales) (c__law_wrong_machines : Cal P w K mg base "_law_wrong_machines" 1 spWrongM) (c__law_wrong_trees : Cal P w K mg base "_law_wrong_trees" 2 spWrongT) (c__law_deep : Cal P w K mg base "_law_deep" 1 spDeep) (c_read_machine : Cal P w K mg base "read_machine" 8 ((spRead K))) (c_read_tree : Cal P w K mg base "read_tree" 108 ((spReadTree K))) (zx : Zx K) (zm : Zm K) (ap : Apart K) {Tt : List (Addr × Str)} {PB : Addr} (TB : TabB base mg (He.codeOf K ("law", none)) PB) (hTm : (PB, qL) ∈ Tt) (hTu : ∀ p ∈ Tt, p.1 = PB → p.2 = qL) (k_Machine : Cmk P w K mg base "Machine" (ga K "Machine") 4 (sp_Machine___init__ K)) (k_Kind : Cmk P w K mg base "Kind" (ga K "Kind") 3 (spKind K)) (k_Kind1 : Cmk P w K mg base "Kind" (ga K "Kind") 3 (spKind1 K)) (cr : Crd P w K mg base 7 (spReadC K)) (fstr : FnR P w K mg base (L2.CX P w) 2 (fAd K ("Machine", some "__str__")) (spStrM K)) (feq : FnR P w K mg base (L2.CX P w) 3 (fAd K ("Machine", some "__eq__")) (spEqM K)) (c_tree_text : Cal P w K mg base "tree_text" 102 (spText 101 K)) (c__law_tree : Cal P w K mg base "_law_tree" 7 (spTree 4)) (c__law_shown : Cal P w K mg base "_law_shown" 101 (spShown 100 K)) (c__law_bent_right : Cal P w K mg base "_law_bent_right" 113 (spBent P w K mg base Tt)) (c__law_odd_right : Cal P w K mg base "_law_odd_right" 113 (spOdd K Tt)) (c__law_great_right : Cal P w K mg base "_law_great_right" 115 (spGreat Tt)) {A : Around} {outer : List Env} {s : Shared} {H : Hp} {a0 : V} {Q : VK} {E : XK} (hgd : A.guards = some []) (hr : Room 116 (A.deeper (envOfC "law" (defScope s_law) s.heap.objs.size (fAd K ("law", none)) (.ref (He.codeOf K ("law", none)))))) (h : (spLaw K Tt) [a0] H Q E) : ∃ t, PSs (cxOf (L2.CX P w) P w K mg base ["script", "pen", "turn", "titles", "some", "powers", "last", "tree", "face", "odd", "spot", "machine", "wrong", "at", "title"] "law" (defScope s_law) (fAd K ("law", none)) (.ref (He.codeOf K ("law", none))) A outer s H E) (defBody s_law) t ∧ t { nx := fun _ H' => Q .non H', rt := Q } (L2.start ["script", "pen", "turn", "titles", "some", "powers", "last", "tree", "face", "odd", "spot", "machine", "wrong", "at", "title"] [a0]) H := by
  have nd := sc_law.nd
  have hu : (cxOf (L2.CX P w) P w K mg base ["script", "pen", "turn", "titles", "some", "powers", "last", "tree", "face", "odd", "spot", "machine", "wrong", "at", "title"] "law" (defScope s_law) (fAd K ("law", none)) (.ref (He.codeOf K ("law", none))) A outer s H E).A.units + 64 < cLine := hr.units
  have hu0 := hr.units0
  have hu1 := hu_of hr
  obtain ⟨sa, zs, rfl, hs, hT, hq⟩ := h
  have hky := law_cell
  obtain ⟨cc, hccd⟩ : ∃ cc, cc = cellL s := ⟨_, rfl⟩
  have hcc : (envOfC "law" (defScope s_law) s.heap.objs.size (fAd K ("law", none)) (.ref (He.codeOf K ("law", none)))).cells.lookup ("some" : Str) = some (cellL s) := cellL_at _ _ _
  obtain ⟨t3, hT3, hR3⟩ : ∃ t, PSs (cxOf (L2.CX P w) P w K mg base ["script", "pen", "turn", "titles", "some", "powers", "last", "tree", "face", "odd", "spot", "machine", "wrong", "at", "title"] "law" (defScope s_law) (fAd K ("law", none)) (.ref (He.codeOf K ("law", none))) A outer s H E) ((loopBody ((defBody s_law).getD 1 (.Pass ⟨0, 0, 0, 0⟩))).drop 9) t ∧ ∀ (D : Ends) (c l q ka : Addr) (ns : List (List Nat)) (as : List Addr) (n : Nat) (x2 x5 x6 x7 x8 x9 x10 x11 x12 x13 x14 : Option V) H2, (∀ σ H', LInv Tt sa c l (n + 5000) σ H' → D.nx σ H') → KsOk ns → LK K Tt c l q ka ns as H2 n → n + 5000 < 1000000 →
      t D [some (.ref sa), some (.ref c), x2, some (.ref q), some (.ref ka), x5, x6, x7, x8, x9, x10, x11, x12, x13, x14] H2 := by
    refine ⟨_, (pss_cons (ps_set (i := 7) nd rfl (Or.inr rfl) (pe_fn c__law_tree hr (passD (E := E)) (pa_cons (pv 1) (pa_cons (pe_fn c__law_scales hr (passD (E := E)) (pa_cons (pv 3) pa_nil) (by omega)) (pa_cons pe_int pa_nil))) (by omega)))
      (pss_cons (ps_set (i := 8) nd rfl (Or.inl rfl) (pe_fn c__law_shown hr (passD (E := E)) (pa_cons (pv 7) pa_nil) (by omega)))
      (pss_cons (ps_if (PW.pt (pw_or (pt_cmpR op_ne (pe_fn c_tree_text hr (passD (E := E)) (pa_cons (pv 7) pa_nil) (by omega)) (pv 8) (nomark _)) (pw_or (pt_cmpR (k_neTr hr) (pe_fn c_read_tree hr (passD (E := E)) (pa_cons (pv 8) (pa_cons (pv 4) pa_nil)) (by omega)) (pv 7) (nomark _)) (pw_or1 (pt_cmpR op_ne (pe_callB (call_repr hr hgd) rfl z.b_repr boot_repr (pa_cons (pe_fn c_read_tree hr (passD (E := E)) (pa_cons (pv 8) (pa_cons (pv 4) pa_nil)) (by omega)) pa_nil)) (pe_callB (call_repr hr hgd) rfl z.b_repr boot_repr (pa_cons (pv 7) pa_nil)) (nomark _)))))) (pss_one (ps_ret pe_bl)) pss_nil)
      (pss_cons (ps_if (pt_not (pt_val (pe_fnC (cc := cellL s) (j := 4) c__law_bent_right hr (pa_cons (pv 1) (pa_cons (pv 8) (pa_cons (pe_lamV TB rfl hTm hTu (NdefX.ndef_free (sc := defScope s_law) (fr := ["some"]) (by decide +kernel)) rfl) (pa_cons (pe_op op_sub (pe_callB (k_len (K := K) rfl) rfl z.b_len boot_len (pa_cons (pv 8) pa_nil)) pe_int) pa_nil)))) (by omega) rfl hky rfl hcc))) (pss_one (ps_ret pe_bl)) pss_nil)
      (pss_cons (ps_asg (pe_fn c__law_pick hr (passD (E := E)) (pa_cons (pv 1) (pa_cons (pe_fn c__law_wrong_trees hr (passD (E := E)) (pa_cons (pv 3) pa_nil) (by omega)) pa_nil)) (by omega)) (k_pg_tup (K := K) (n := 2) rfl rfl (pgs_cons (pg_name nd (i := 12) rfl (Or.inr rfl)) (pgs_cons (pg_name nd (i := 13) rfl (Or.inl rfl)) pgs_nil))))
      (pss_cons (ps_if (pt_cmpR op_ne (pe_heard (k := 112) (K := K) rfl z zx TB rfl hTm hTu hr (by omega) (LamX.lamS_by (sc := defScope s_law) (by decide +kernel)) (fun A outer s H E f c2 hr => (pe_fn c_read_tree hr (passD (E := E)) (pa_cons (pv 12) (pa_cons (pv 4) pa_nil)) (by omega)))) (pv 13) (nomark _)) (pss_one (ps_ret pe_bl)) pss_nil)
      (pss_cons (ps_set (i := 9) nd rfl (Or.inl rfl) (pe_fn c__law_pick hr (passD (E := E)) (pa_cons (pv 1) (pa_cons (pe_lst (pa_cons pe_non (pa_cons pe_int (pa_cons (pe_tup (pa_cons pe_str pa_nil)) (pa_cons pe_bl (pa_cons (pe_lst (pa_cons (pv 8) pa_nil)) (pa_cons pe_dnewK pa_nil))))))) pa_nil)) (by omega)))
      (pss_one (ps_if (pt_not (pt_val (pe_fn c__law_odd_right hr (passD (E := E)) (pa_cons (pv 9) (pa_cons (pv 4) pa_nil)) (by omega)))) (pss_one (ps_ret pe_bl)) pss_nil))))))))), fun D c l q ka ns as n x2 x5 x6 x7 x8 x9 x10 x11 x12 x13 x14 H2 hD hO s0 hn => ?_⟩
    simp [sDPut, tDGet, tDIn, tDNotIn, tRet, tRetN, tSeq, tIfS, tDrop, tNext, tNever, tBreak, tCont, tAsg, gName, gCons, gNil, gTup, tAndV, tOrV, tNotV, tAnd, tOr, tNot, tOp, tUn, tVar, tC, tB, tTest, tIf, tCons, tNil, tCB, tTup, tLst, tFld, sFld, sFldAug, rAdd, rSub, tSl, tPart, tNoPart, rI0, rI, rU, rEq, rNe, rSlS, rSlL, rIxL, rIxT, rIxS, tChain, tFn, tMt, tM1, tM0, tBM, rAppend, rIn, tIsN, tNotN, scal_ss, scal_ii, let_nil, let_one, fig_nil, fig_one, LenV_str, L2.start, cxOf, and_assoc, tJs, tFmt, put_at, lk_at, lk_script, lk_upcoming, lk_refuse, lk_skips, lk_expect, lk_word_of, lk_name_unlike, lk_number_to, lk_finish, sp0, sp1, sp2, sp3, sp4, sp5, -List.lookup_eq_none_iff, tDNewK]
    have hhi := hO.hi
    have hlo := hO.lo
    have hwl : (treeWords ns).length = 2 * ns.length + 1 := by
      unfold treeWords
      rw [List.length_cons, scalesOf_len]
    refine ⟨q, ns, rfl, s0.ql, hO, fun W H3 e3 hW hWl => ?_⟩
    have s3 := s0.ex e3
    refine ⟨c, l, W, n, treeWords ns, rfl, rfl, rfl, s0.pen.nec hW, hWl, nd_words hO, by omega, by omega, s3.pen, by rw [show cost 4 = 90 from rfl]; omega, fun t x H4 ho hd k4 hp4 ht => ?_⟩
    have s4 : LK K Tt c l q ka ns as H4 (n + 90) := s3.k1 k4 hp4
    have hd100 : t.deep ≤ 100 := by omega
    have hl0 : t.text.length ≤ 2000 := by
      have h1 := text_le hO ho
      have h2 : 2 ^ t.deep ≤ 2 ^ 4 := Nat.pow_le_pow_right (by decide) hd
      omega
    have hsh : t.data.shown.length ≤ sizeLine := by
      have h1 := shown_le (words_ok hO).2 ho (ok_sg hO ho)
      have h2 : 2 ^ t.deep ≤ 2 ^ 4 := Nat.pow_le_pow_right (by decide) hd
      rw [sizeLine_eq]
      omega
    have hpos := text_pos t
    refine ⟨t, x, rfl, ht, hd100, by omega, by omega, ok_int ho, ok_sg hO ho, fun H5 e5 => ?_⟩
    have s5 := s4.ex e5
    refine ⟨t, x, rfl, ht.ex e5, by omega, by omega, ok_int ho, rfl, Or.inl ⟨rfl, ?_⟩⟩
    refine read_right hO hd100 ho (by omega) s5.kl s5.kds fun y H6 e6 hy => ⟨y, x, t, rfl, rfl, hy, (ht.ex e5).ex e6, ok_sg hO ho, by omega, Or.inl ⟨rfl, ?_⟩⟩
    have s6 := s5.ex e6
    refine read_right hO hd100 ho (by omega) s6.kl s6.kds fun y2 H7 e7 hy2 => ⟨y2, t, rfl, hy2, ok_int ho, hd100, hsh, x, t, rfl, ((ht.ex e5).ex e6).ex e7, ok_int ho, hd100, hsh, rfl, Or.inl ⟨rfl, ?_⟩⟩
    have s7 := s6.ex e7
    refine bent_call (fl := t.text) (last := t.text.length - 1) (tl := fun oc => tlT K (cellL s) oc as) (fun f ci pm ctv oc hoc => rd_tree z c_read_tree (F := lamF _ _ _ _ ci) ⟨NdefX.nscope_by (by kernel_rfl), rfl⟩ rfl rfl hoc (fun _ _ _ => rfl)) (fun _ _ _ _ _ => bends_tree hO hd100 ho) (fun H' R h => ?_) s7 (by omega) (by omega) (by omega) (by omega) rfl rfl rfl fun H8 s8 k8 => Or.inr ⟨rfl, ?_⟩
    · simp [sDPut, tDGet, tDIn, tDNotIn, tRet, tRetN, tSeq, tIfS, tDrop, tNext, tNever, tBreak, tCont, tAsg, gName, gCons, gNil, gTup, tAndV, tOrV, tNotV, tAnd, tOr, tNot, tOp, tUn, tVar, tC, tB, tTest, tIf, tCons, tNil, tCB, tTup, tLst, tFld, sFld, sFldAug, rAdd, rSub, tSl, tPart, tNoPart, rI0, rI, rU, rEq, rNe, rSlS, rSlL, rIxL, rIxT, rIxS, tChain, tFn, tMt, tM1, tM0, tBM, rAppend, rIn, tIsN, tNotN, scal_ss, scal_ii, let_nil, let_one, fig_nil, fig_one, LenV_str, L2.start, cxOf, and_assoc, tJs, tFmt, put_at, lk_at, lk_script, lk_upcoming, lk_refuse, lk_skips, lk_expect, lk_word_of, lk_name_unlike, lk_number_to, lk_finish, sp0, sp1, sp2, sp3, sp4, sp5, -List.lookup_eq_none_iff]
      refine ⟨by rw [S_len, sizeLine_eq]; omega, ?_⟩
      rw [S_len, show ((t.text.length : Nat) : Int) - 1 = ((t.text.length - 1 : Nat) : Int) by omega]
      exact h
    · refine ⟨q, ns, rfl, s8.ql, hO, fun D9 H9 e9 hD9 hR9 => ?_⟩
      have s9 := s8.ex e9
      obtain ⟨l9, xs9, ee, hl9, hne9, hlen9, hin9⟩ := hR9
      cases ee
      refine ⟨c, l, _, rfl, s9.pen, by omega, Or.inl ⟨D9, xs9, rfl, s8.pen.nec hD9, hl9, hne9, by omega, fun v H10 hv k10 hp10 => ?_⟩⟩
      have s10 := s9.k1 k10 hp10
      obtain ⟨ra, wt, wn, rfl, hta, hbw⟩ := hin9 v hv
      have hrc : ra ≠ c := fun z => by
        obtain ⟨_, _, _, g, _⟩ := s9.pen
        rw [z, g] at hta
        cases hta
      refine ⟨ra, rfl, _, SqT.of (k10 _ _ hrc hta), rfl, _, _, rfl, _, _, rfl, ?_⟩
      refine ⟨rfl, s10.tab, fun H11 x11 t11 => heard_of ?_⟩
      have s11 := s10.lam x11 t11
      refine ⟨_, rfl, _, rfl, ?_⟩
      refine heard_tree hO hbw s11.kl s11.kds fun H12 e12 => ⟨rfl, Or.inl ⟨rfl, ?_⟩⟩
      have s12 := s11.ex e12
      refine ⟨by rw [sizeLine_eq]; omega, fun q1 hq1 => ⟨by rw [sizeLine_eq]; omega, fun q2 hq2 q3 hq3 => ⟨by rw [sizeLine_eq]; omega, fun q4 hq4 => ?_⟩⟩⟩
      have f1 := Ex.new (o := .tup [.str (Str.ofString "leaf")]) hq1
      have f2 := Ex.new (o := .lst [.str (S t.text)]) hq2
      have f3 := Ex.new (o := .dK []) hq3
      have f4 := Ex.new (o := .lst [.non, .int 0, .ref q1, .bl true, .ref q2, .ref q3]) hq4
      have s13 := s12.ex (Ex.trans f1 (Ex.trans f2 (Ex.trans f3 f4)))
      have fq1 := f4 _ _ (f3 _ _ (f2 _ _ (upd_same (H := H12) (a := q1) (o := .tup [.str (Str.ofString "leaf")]))))
      have fq2 := f4 _ _ (f3 _ _ (upd_same (H := upd H12 q1 (.tup [.str (Str.ofString "leaf")])) (a := q2) (o := .lst [.str (S t.text)])))
      have fq3 := f4 _ _ (upd_same (H := upd (upd H12 q1 (.tup [.str (Str.ofString "leaf")])) q2 (.lst [.str (S t.text)])) (a := q3) (o := .dK []))
      have n1 : q1 ≠ c := s12.pen.nec hq1
      have n2 : q2 ≠ c := (s12.pen.ex f1).nec hq2
      have n3 : q3 ≠ c := ((s12.pen.ex f1).ex f2).nec hq3
      have n4 : q4 ≠ c := (((s12.pen.ex f1).ex f2).ex f3).nec hq4
      refine ⟨c, l, _, rfl, s13.pen, by omega, Or.inl ⟨q4, _, rfl, n4, upd_same, by simp, by simp, fun v H14 hv k14 hp14 => ?_⟩⟩
      have s14 := s13.k1 k14 hp14
      have hty : ∃ ty, (∀ H', ExtN H14 H' → TyX K H' v ty) ∧ PySem.W.kitOne K ty (.type "str") = some false := by
        simp only [List.mem_cons, List.not_mem_nil, or_false] at hv
        rcases hv with rfl | rfl | rfl | rfl | rfl | rfl
        · exact ⟨_, fun _ _ => .base .non, kit_ty (by decide +kernel)⟩
        · exact ⟨_, fun _ _ => .base (.int _), kit_ty (by decide +kernel)⟩
        · exact ⟨_, fun _ hx => .base (.tup (hx _ _ (k14 _ _ n1 fq1) (fun _ z => nomatch z))), kit_ty (by decide +kernel)⟩
        · exact ⟨_, fun _ _ => .base (.bl _), kit_ty (by decide +kernel)⟩
        · exact ⟨_, fun _ hx => .base (.lst (hx _ _ (k14 _ _ n2 fq2) (fun _ z => nomatch z))), kit_ty (by decide +kernel)⟩
        · exact ⟨_, fun _ hx => .base (.dK (hx _ _ (k14 _ _ n3 fq3) (fun _ z => nomatch z))), kit_ty (by decide +kernel)⟩
      obtain ⟨ty, hty1, hty2⟩ := hty
      exact ⟨ka, ns, as, rfl, s14.kl, s14.kds, hO, fun H' x => ⟨ty, hty1 H' x, hty2⟩, s14.tab, fun H15 x15 t15 => Or.inr ⟨rfl, hD _ _ ⟨⟨_, _, _, _, _, _, _, _, _, _, _, _, _, rfl⟩, (s14.pen.ext x15).le (by omega), t15⟩⟩⟩
  obtain ⟨t2, hT2, hR2⟩ : ∃ t, PSs (cxOf (L2.CX P w) P w K mg base ["script", "pen", "turn", "titles", "some", "powers", "last", "tree", "face", "odd", "spot", "machine", "wrong", "at", "title"] "law" (defScope s_law) (fAd K ("law", none)) (.ref (He.codeOf K ("law", none))) A outer s H E) ((loopBody ((defBody s_law).getD 1 (.Pass ⟨0, 0, 0, 0⟩))).drop 4) t ∧ ∀ (D : Ends) (c l q ka xm : Addr) (ns : List (List Nat)) (as : List Addr) (ps : List (Nat × Nat)) (n : Nat) (x2 x5 x6 x7 x9 x10 x12 x13 x14 : Option V) H2, (∀ σ H', LInv Tt sa c l (n + 6000) σ H' → D.nx σ H') → KsOk ns → LK K Tt c l q ka ns as H2 n → n + 6000 < 1000000 → ps.length = ns.length → psOk ps → MachAt K H2 ns as ps xm →
      t D [some (.ref sa), some (.ref c), x2, some (.ref q), some (.ref ka), x5, x6, x7, some (.str (S (face ns ps))), x9, x10, some (.ref xm), x12, x13, x14] H2 := by
    refine ⟨_, (pss_cons (ps_if (PW.pt (pw_or (pt_cmpR op_ne (pe_callTy (call_strI (K := K) (k := 12) rfl (hr.mono (by omega)) (passD (E := E))) rfl z.b_str boot_str (pa_cons (pv 11) pa_nil)) (pv 8) (nomark _)) (pw_or (pt_not (pt_cmpR (op_eqI (K := K) (k := 7) rfl (hr.mono (by omega)) (passD (E := E))) (pe_fn c_read_machine hr (passD (E := E)) (pa_cons (pv 8) (pa_cons (pv 4) pa_nil)) (by omega)) (pv 11) (nomark _))) (pw_or1 (pt_not (pt_cmpR (op_eqI (K := K) (k := 7) rfl (hr.mono (by omega)) (passD (E := E))) (k_read (K := K) rfl cr hr (passD (E := E)) (pe_gref z.g_Machine) (pa_cons (pv 8) (pa_cons (pv 4) pa_nil)) (by omega)) (pv 11) (nomark _))))))) (pss_one (ps_ret pe_bl)) pss_nil)
      (pss_cons (ps_set (i := 6) nd rfl (Or.inl rfl) (pe_op op_sub (pe_callB (k_len (K := K) rfl) rfl z.b_len boot_len (pa_cons (pv 8) pa_nil)) (pe_callB (k_len (K := K) rfl) rfl z.b_len boot_len (pa_cons (pe_ix ix_H (pe_split (pv 8) pe_str) (pe_un un_neg pe_int) fun _ _ => rfl) pa_nil))))
      (pss_cons (ps_if (pt_not (pt_val (pe_fnC (cc := cellL s) (j := 4) c__law_bent_right hr (pa_cons (pv 1) (pa_cons (pv 8) (pa_cons (pe_lamV TB rfl hTm hTu (NdefX.ndef_free (sc := defScope s_law) (fr := ["some"]) (by decide +kernel)) rfl) (pa_cons (pv 6) pa_nil)))) (by omega) rfl hky rfl hcc))) (pss_one (ps_ret pe_bl)) pss_nil)
      (pss_cons (ps_asg (pe_fn c__law_pick hr (passD (E := E)) (pa_cons (pv 1) (pa_cons (pe_fn c__law_wrong_machines hr (passD (E := E)) (pa_cons (pv 3) pa_nil) (by omega)) pa_nil)) (by omega)) (k_pg_tup (K := K) (n := 2) rfl rfl (pgs_cons (pg_name nd (i := 12) rfl (Or.inr rfl)) (pgs_cons (pg_name nd (i := 13) rfl (Or.inl rfl)) pgs_nil))))
      (pss_cons (ps_if (pt_cmpR op_ne (pe_heard (k := 112) (K := K) rfl z zx TB rfl hTm hTu hr (by omega) (LamX.lamS_by (sc := defScope s_law) (by decide +kernel)) (fun A outer s H E f c2 hr => (k_read (K := K) rfl cr hr (passD (E := E)) (pe_gref z.g_Machine) (pa_cons (pv 12) (pa_cons (pv 4) pa_nil)) (by omega)))) (pv 13) (nomark _)) (pss_one (ps_ret pe_bl)) pss_nil)
      hT3))))), fun D c l q ka xm ns as ps n x2 x5 x6 x7 x9 x10 x12 x13 x14 H2 hD hO s0 hn hlp hps hma => ?_⟩
    simp [sDPut, tDGet, tDIn, tDNotIn, tRet, tRetN, tSeq, tIfS, tDrop, tNext, tNever, tBreak, tCont, tAsg, gName, gCons, gNil, gTup, tAndV, tOrV, tNotV, tAnd, tOr, tNot, tOp, tUn, tVar, tC, tB, tTest, tIf, tCons, tNil, tCB, tTup, tLst, tFld, sFld, sFldAug, rAdd, rSub, tSl, tPart, tNoPart, rI0, rI, rU, rEq, rNe, rSlS, rSlL, rIxL, rIxT, rIxS, tChain, tFn, tMt, tM1, tM0, tBM, rAppend, rIn, tIsN, tNotN, scal_ss, scal_ii, let_nil, let_one, fig_nil, fig_one, LenV_str, L2.start, cxOf, and_assoc, tJs, tFmt, put_at, lk_at, lk_script, lk_upcoming, lk_refuse, lk_skips, lk_expect, lk_word_of, lk_name_unlike, lk_number_to, lk_finish, sp0, sp1, sp2, sp3, sp4, sp5, -List.lookup_eq_none_iff]
    have hnl : ∀ m ∈ ns, m.length ≤ 8 := fun m hm => (nameOk_len (hO.ok m hm)).2
    have hne : ns ≠ [] := fun e => by
      have := hO.lo
      rw [e] at this
      simp at this
    have hhi := hO.hi
    have hfe : face ns ps = expsText false ns ps := face_eq hlp hne
    have hfl : (face ns ps).length ≤ 60 := by
      have := exps_len (b := false) hnl hps
      rw [hfe]
      omega
    obtain ⟨fv, ft, hft1, hft2, hft3⟩ := face_tail (b := false) hlp hne
    rw [← hfe] at hft1
    have hflt : (face ns ps).length = fv.length + 1 + tailLen ps := by
      rw [hft1, List.length_append, List.length_cons, hft3]
      omega
    obtain ⟨dx, kt, st, pl, hm1, hm2, hm3, hm4⟩ := id hma
    refine ⟨ga K "Machine", ⟨dx, _, hm1⟩, _, zm.str_, zm.strf, _, fstr.mono (by decide), ?_⟩
    refine ⟨xm, ns, as, ps, rfl, hma, s0.kds, hO, hlp, hps, fun H3 e3 => ⟨⟨_, rfl⟩, rfl, Or.inl ⟨rfl, ?_⟩⟩⟩
    have s3 := s0.ex e3
    refine mach_right hO hlp hps (by omega) s3.kl s3.kds fun y H4 e4 hy => ?_
    have s4 := s3.ex e4
    have hma4 := (hma.ex e3).ex e4
    obtain ⟨dy, _, _, _, hy1, _⟩ := id hy
    refine ⟨y, rfl, ga K "Machine", ⟨dy, _, hy1⟩, ⟨dx, _, e4 _ _ (e3 _ _ hm1)⟩, _, zm.eq_, zm.eqf, _, feq.mono (by decide), ?_⟩
    refine ⟨y, xm, ns, as, ps, rfl, rfl, hy, hma4, fun H5 e5 => ⟨Or.inr rfl, Or.inr ⟨rfl, ?_⟩⟩⟩
    have s5 := s4.ex e5
    have hma5 := hma4.ex e5
    refine ⟨rfl, _, rfl, _, rfl, _, _, rfl, ?_⟩
    refine mach_right hO hlp hps (by omega) s5.kl s5.kds fun y2 H6 e6 hy2 => ?_
    have s6 := s5.ex e6
    have hma6 := hma5.ex e6
    obtain ⟨dy2, _, _, _, hy21, _⟩ := id hy2
    refine ⟨y2, rfl, ga K "Machine", ⟨dy2, _, hy21⟩, ⟨dx, _, e6 _ _ (e5 _ _ (e4 _ _ (e3 _ _ hm1)))⟩, _, zm.eq_, zm.eqf, _, feq.mono (by decide), ?_⟩
    refine ⟨y2, xm, ns, as, ps, rfl, rfl, hy2, hma6, fun H7 e7 => ⟨Or.inr rfl, Or.inr ⟨rfl, ?_⟩⟩⟩
    have s7 := s6.ex e7
    obtain ⟨wr, hwr⟩ := last_word hft1 hft2
    rw [hwr]
    refine ⟨by rw [S_len, sizeLine_eq]; omega, by decide, by rw [S_len, sizeLine_eq]; omega, fun p hp => ?_⟩
    have e8 := Ex.new (o := .lst ((wr ++ [S ft]).map V.str)) hp
    have s8 := s7.ex e8
    refine ⟨p, _, -1, rfl, rfl, upd_same, .str (S ft), atI_last _ _, ft.length, ⟨by rw [S_len, sizeLine_eq]; omega, by rw [S_len]⟩, ?_⟩
    have hle : tailLen ps ≤ (face ns ps).length := by omega
    have hlast : (((S (face ns ps)).length : Nat) : Int) - ((ft.length : Nat) : Int) = (((face ns ps).length - tailLen ps : Nat) : Int) := by
      rw [S_len, hft3]
      omega
    refine bent_call (fl := face ns ps) (last := (face ns ps).length - tailLen ps) (tl := fun oc => tlM K (cellL s) ka oc) (fun f ci pm ctv oc hoc => rd_mach c_read_machine (F := lamF _ _ _ _ ci) ⟨NdefX.nscope_by (by kernel_rfl), rfl⟩ rfl hoc (fun _ _ _ => rfl)) (fun _ _ _ _ _ => bends_mach hO hlp hps) (fun H' R h => ⟨_, rfl, by rw [hlast]; exact h⟩) s8 (by omega) (by omega) (by omega) (by omega) rfl rfl rfl fun H9 s9 k9 => Or.inr ⟨rfl, ?_⟩
    refine ⟨q, ns, rfl, s9.ql, hO, fun D10 H10 e10 hD10 hR10 => ?_⟩
    have s10 := s9.ex e10
    obtain ⟨l10, xs10, ee, hl10, hne10, hlen10, hin10⟩ := hR10
    cases ee
    refine ⟨c, l, _, rfl, s10.pen, by omega, Or.inl ⟨D10, xs10, rfl, s9.pen.nec hD10, hl10, hne10, by omega, fun v H11 hv k11 hp11 => ?_⟩⟩
    have s11 := s10.k1 k11 hp11
    obtain ⟨ra, wt, wn, rfl, hta, hbw⟩ := hin10 v hv
    have hrc : ra ≠ c := fun z => by
      obtain ⟨_, _, _, g, _⟩ := s10.pen
      rw [z, g] at hta
      cases hta
    refine ⟨ra, rfl, _, SqT.of (k11 _ _ hrc hta), rfl, _, _, rfl, _, _, rfl, ?_⟩
    refine ⟨rfl, s11.tab, fun H12 x12 t12 => heard_of ?_⟩
    have s12 := s11.lam x12 t12
    refine ⟨rfl, _, rfl, _, rfl, _, _, rfl, ?_⟩
    refine heard_mach hO hbw s12.kl s12.kds fun H13 e13 => ⟨rfl, Or.inl ⟨rfl, ?_⟩⟩
    have s13 := s12.ex e13
    exact hR3 D c l q ka ns as _ _ _ _ _ _ _ _ _ _ _ _ H13 (fun σ H' h => hD σ H' ⟨h.1, h.2.1.le (by omega), h.2.2⟩) hO s13 (by omega)
  obtain ⟨t1, hT1, hR1⟩ : ∃ t, PSs (cxOf (L2.CX P w) P w K mg base ["script", "pen", "turn", "titles", "some", "powers", "last", "tree", "face", "odd", "spot", "machine", "wrong", "at", "title"] "law" (defScope s_law) (fAd K ("law", none)) (.ref (He.codeOf K ("law", none))) A outer s H E) (loopBody ((defBody s_law).getD 1 (.Pass ⟨0, 0, 0, 0⟩))) t ∧ ∀ (D : Ends) (c l : Addr) (n i : Nat) σ H2, (∀ σ H', LInv Tt sa c l (n + 7000) σ H' → D.nx σ H') → n + 7000 < 1000000 → LInv Tt sa c l n σ H2 → t D (σ.set 2 (some (.int (i : Nat)))) H2 := by
    refine ⟨_, (pss_cons (ps_set (i := 3) nd rfl (Or.inl rfl) (pe_fn c__law_kinds hr (passD (E := E)) (pa_cons (pv 1) (pa_cons (pe_fn c__law_names hr (passD (E := E)) (pa_cons (pv 1) (pa_cons pe_int pa_nil)) (by omega)) pa_nil)) (by omega)))
      (pss_cons (ps_set (i := 4) nd rfl (Or.inr rfl) (pe_lc rfl nd (k_pi_list (K := K) rfl (pv 3)) (blkOk_by (N := ["script", "pen", "turn", "titles", "some", "powers", "last", "tree", "face", "odd", "spot", "machine", "wrong", "at", "title"]) (sc := defScope s_law) (own := [("title", 14)]) (by decide +kernel)) (fun _ _ _ _ _ => (pg_name nd (i := 14) rfl (Or.inl rfl))) (fun _ _ _ _ _ => pts_nil) (fun _ _ _ _ _ => (pe_mk k_Kind hr passL (pa_cons (pv 14) (pa_cons (pe_op op_add pe_int (pe_fn c__law_draw hr passL (pa_cons (pv 1) (pa_cons pe_int pa_nil)) (by omega))) pa_nil)) (by omega)))))
      (pss_cons (ps_set (i := 5) nd rfl (Or.inl rfl) (pe_fn c__law_powers hr (passD (E := E)) (pa_cons (pv 1) (pa_cons (pv 3) pa_nil)) (by omega)))
      (pss_cons (ps_par (i := 11) (j := 8) rfl nd rfl rfl (by decide) rfl rfl (pa_cons (pe_mk k_Machine hr (passD (E := E)) (pa_cons (pv 4) (pa_cons (pv 5) pa_nil)) (by omega)) (pa_cons (pe_fn c__law_face hr (passD (E := E)) (pa_cons (pv 3) (pa_cons (pv 5) pa_nil)) (by omega)) pa_nil)) (by first | rfl | with_unfolding_all rfl))
      hT2)))), fun D c l n i σ H0 hD hn h => ?_⟩
    obtain ⟨⟨x2, x3, x4, x5, x6, x7, x8, x9, x10, x11, x12, x13, x14, rfl⟩, hp0, ht0⟩ := h
    simp [sDPut, tDGet, tDIn, tDNotIn, tRet, tRetN, tSeq, tIfS, tDrop, tNext, tNever, tBreak, tCont, tAsg, gName, gCons, gNil, gTup, tAndV, tOrV, tNotV, tAnd, tOr, tNot, tOp, tUn, tVar, tC, tB, tTest, tIf, tCons, tNil, tCB, tTup, tLst, tFld, sFld, sFldAug, rAdd, rSub, tSl, tPart, tNoPart, rI0, rI, rU, rEq, rNe, rSlS, rSlL, rIxL, rIxT, rIxS, tChain, tFn, tMt, tM1, tM0, tBM, rAppend, rIn, tIsN, tNotN, scal_ss, scal_ii, let_nil, let_one, fig_nil, fig_one, LenV_str, L2.start, cxOf, and_assoc, tJs, tFmt, put_at, lk_at, lk_script, lk_upcoming, lk_refuse, lk_skips, lk_expect, lk_word_of, lk_name_unlike, lk_number_to, lk_finish, sp0, sp1, sp2, sp3, sp4, sp5, -List.lookup_eq_none_iff, tPar]
    refine ⟨c, l, n, 3, rfl, rfl, by omega, hp0, by omega, fun qn ms H1 hms k1 hqn hqnc hqnl hp1 => ?_⟩
    refine ⟨c, l, qn, n + 20, ms, rfl, rfl, hqnc, hqnl, hms, hp1, by omega, fun q ns H2 hns k2 hq2 hqc hql hp2 => ?_⟩
    have ht1 := Tabs.k1 hp0 k1 ht0
    have ht2 := Tabs.k1 hp1 k2 ht1
    have hpn : (txV ns).length = ns.length := by unfold txV; rw [List.length_map]
    have hO : KsOk ns := hns.ks
    have hhi := hO.hi
    refine lc_openL ?_
    simp [sDPut, tDGet, tDIn, tDNotIn, tRet, tRetN, tSeq, tIfS, tDrop, tNext, tNever, tBreak, tCont, tAsg, gName, gCons, gNil, gTup, tAndV, tOrV, tNotV, tAnd, tOr, tNot, tOp, tUn, tVar, tC, tB, tTest, tIf, tCons, tNil, tCB, tTup, tLst, tFld, sFld, sFldAug, rAdd, rSub, tSl, tPart, tNoPart, rI0, rI, rU, rEq, rNe, rSlS, rSlL, rIxL, rIxT, rIxS, tChain, tFn, tMt, tM1, tM0, tBM, rAppend, rIn, tIsN, tNotN, scal_ss, scal_ii, let_nil, let_one, fig_nil, fig_one, LenV_str, L2.start, cxOf, and_assoc, tJs, tFmt, put_at, lk_at, lk_script, lk_upcoming, lk_refuse, lk_skips, lk_expect, lk_word_of, lk_name_unlike, lk_number_to, lk_finish, sp0, sp1, sp2, sp3, sp4, sp5, -List.lookup_eq_none_iff]
    refine ⟨⟨_, SqL.of hql⟩, ?_⟩
    refine lcf_penL (c := c) (l := l) (n := n + 20 + 3) (fun D j acc H' => ∃ as, acc = as.map V.ref ∧ KdsAt K H' (ns.take j) as ∧ ∀ b ∈ as, b ≠ c ∧ b ≠ D) 1 monG_name monT_yes hql hqc (by rw [hpn]; omega) hp2 (fun _ => ⟨[], rfl, ⟨rfl, fun i m b hm _ => by simp at hm⟩, fun b hb => nomatch hb⟩) (fun D j acc H4 H5 k ⟨as, a1, a2, a3⟩ => ⟨as, a1, ⟨a2.1, fun i m b hm hb => by
      obtain ⟨dx, t, e⟩ := a2.2 i m b hm hb
      exact ⟨dx, t, k.1 _ _ (a3 b (List.mem_of_getElem? hb)).2 e⟩⟩, a3⟩) (fun j x hx => ?_) (fun ka acc H4 hka hkac k4 hp4 hkl hal ⟨as, a1, a2, a3⟩ => ?_)
    · intro D4 acc H4 R hD4 hD4c k4 hp4 hD4l ⟨as, a1, a2, a3⟩ hR
      obtain ⟨nm, hnm, rfl⟩ : ∃ nm, ns[j]? = some nm ∧ x = .str (S nm) := by
        unfold txV at hx
        rw [List.getElem?_map] at hx
        cases e : ns[j]? with
        | none => rw [e] at hx; cases hx
        | some nm => rw [e] at hx; exact ⟨nm, rfl, (Option.some.inj hx).symm⟩
      have hj := (List.getElem?_eq_some_iff.mp hnm).1
      simp [sDPut, tDGet, tDIn, tDNotIn, tRet, tRetN, tSeq, tIfS, tDrop, tNext, tNever, tBreak, tCont, tAsg, gName, gCons, gNil, gTup, tAndV, tOrV, tNotV, tAnd, tOr, tNot, tOp, tUn, tVar, tC, tB, tTest, tIf, tCons, tNil, tCB, tTup, tLst, tFld, sFld, sFldAug, rAdd, rSub, tSl, tPart, tNoPart, rI0, rI, rU, rEq, rNe, rSlS, rSlL, rIxL, rIxT, rIxS, tChain, tFn, tMt, tM1, tM0, tBM, rAppend, rIn, tIsN, tNotN, scal_ss, scal_ii, let_nil, let_one, fig_nil, fig_one, LenV_str, L2.start, cxOf, and_assoc, tJs, tFmt, put_at, lk_at, lk_script, lk_upcoming, lk_refuse, lk_skips, lk_expect, lk_word_of, lk_name_unlike, lk_number_to, lk_finish, sp0, sp1, sp2, sp3, sp4, sp5, -List.lookup_eq_none_iff, LcTurn, tYes, wipe, tMakeR]
      refine ⟨c, l, _, 8, rfl, rfl, hp4, by omega, by omega, by omega, fun d H5 hd k5 hp5 => ?_⟩
      refine ⟨_, rfl, fun x dx hx hdx hxd => ?_⟩
      have ed : (1 : Int) + (d : Int) = ((1 + d : Nat) : Int) := by omega
      refine ⟨x, dx, nm, 1 + d, rfl, rfl, by rw [ed], upd_same, hO.ok nm (List.mem_of_getElem? hnm), by omega, by omega, fun H6 k6 hp6 => ⟨rfl, ?_⟩⟩
      have e6 : Ex H5 H6 := made_ex hx hdx k6
      have hxc : x ≠ c := hp5.nec hx
      have hxD : x ≠ D4 := fun z => by
        have := k5 _ _ hD4c hD4l
        rw [← z, hx] at this
        cases this
      refine hR _ _ (K1.trans k5 (K1.of e6)) ((hp5.ex e6).le (by omega)) ⟨as ++ [x], by rw [List.map_append, a1]; rfl, ?_, fun b hb => ?_⟩
      · rw [List.take_add_one, hnm]
        refine KdsAt.snoc (n := nm) (t := 1 + d) ?_ hp6
        exact a2.k3 (cp := c) (fun b hb => (a3 b hb).1) (K3.trans (K3.k1 k5) (K3.ex e6))
      · rcases List.mem_append.mp hb with hb | hb
        · exact a3 b hb
        · rw [List.mem_singleton.mp hb]
          exact ⟨hxc, hxD⟩
    · rw [hpn] at a2 hp4
      rw [List.take_length] at a2
      subst a1
      have ht4 := Tabs.k1 hp2 k4 ht2
      have hql4 := k4 _ _ hqc hql
      refine ⟨c, l, q, n + 20 + 3 + 1 * ns.length, ns, rfl, rfl, hqc, hql4, hO, hp4, by omega, fun D5 ps H5 k5 hD5 hD5c hda hps hp5 => ?_⟩
      have ht5 := Tabs.k1 hp4 k5 ht4
      have hka5 := k5 _ _ hkac hkl
      have a5 : KdsAt K H5 ns as := a2.k3 (cp := c) (fun b hb => (a3 b hb).1) (K3.k1 k5)
      refine ⟨_, rfl, _, rfl, fun x dx hx hdx hxd => ?_⟩
      have e0 := made_ex0 (C := ga K "Machine") hx hdx
      refine ⟨x, dx, ka, D5, ns, as, ps, rfl, rfl, rfl, upd_same, e0 _ _ hka5, a5.st ap (Stb.of e0), hO, hda.ex e0, hps, fun H6 k6 hma => ⟨rfl, ?_⟩⟩
      have e6 : Ex H5 H6 := made_ex hx hdx k6
      refine ⟨q, D5, ns, ps, rfl, rfl, e6 _ _ (k5 _ _ hqc hql4), hda.ex e6, hO, hps, fun H7 e7 => ?_⟩
      have e57 := Ex.trans e6 e7
      exact hR2 D c l q ka x ns as ps (n + 20 + 3 + 1 * ns.length + 15) _ _ _ _ _ _ _ _ _ H7 (fun σ H' h => hD σ H' ⟨h.1, h.2.1.le (by omega), h.2.2⟩) hO
        ⟨hp5.ex e57, ht5.ext e57, e57 _ _ (k5 _ _ hqc hql4), e57 _ _ hka5, a5.st ap (Stb.of e57), hqc, hkac, fun b hb => (a3 b hb).1⟩ (by omega) (let ⟨_, _, h, _⟩ := hda; h) hps (hma.ex e7)
  obtain ⟨t0, hT0, hR0⟩ : ∃ t, PSs (cxOf (L2.CX P w) P w K mg base ["script", "pen", "turn", "titles", "some", "powers", "last", "tree", "face", "odd", "spot", "machine", "wrong", "at", "title"] "law" (defScope s_law) (fAd K ("law", none)) (.ref (He.codeOf K ("law", none))) A outer s H E) ((defBody s_law).drop 2) t ∧ ∀ (c l : Addr) (n : Nat) σ H2, LInv Tt sa c l n σ H2 → t { nx := fun _ H' => Q .non H', rt := Q } σ H2 := by
    refine ⟨_, (pss_cons (ps_if (pt_not (pt_val (pe_fn0 c__law_great_right hr (passD (E := E)) (by omega)))) (pss_one (ps_ret pe_bl)) pss_nil)
      (pss_cons (ps_asg (pe_fn c__law_deep hr (passD (E := E)) (pa_cons pe_str (pa_cons pe_int pa_nil)) (by omega)) (k_pg_tup (K := K) (n := 3) rfl rfl (pgs_cons (pg_name nd (i := 8) rfl (Or.inl rfl)) (pgs_cons (pg_name nd (i := 7) rfl (Or.inr rfl)) (pgs_cons (pg_name nd (i := 10) rfl (Or.inl rfl)) pgs_nil)))))
      (pss_cons (ps_if (PW.pt (pw_or (pt_cmpR op_ne (pe_fn c_tree_text hr (passD (E := E)) (pa_cons (pv 7) pa_nil) (by omega)) (pv 8) (nomark _)) (pw_or1 (pt_cmpR (k_neTr hr) (pe_fn c_read_tree hr (passD (E := E)) (pa_cons (pe_fn c_tree_text hr (passD (E := E)) (pa_cons (pv 7) pa_nil) (by omega)) (pa_cons (pe_lst (pa_cons (pe_mk k_Kind1 hr (passD (E := E)) (pa_cons pe_str pa_nil) (by omega)) pa_nil)) pa_nil)) (by omega)) (pv 7) (nomark _))))) (pss_one (ps_ret pe_bl)) pss_nil)
      (pss_cons (ps_asg (pe_fn c__law_deep hr (passD (E := E)) (pa_cons pe_str (pa_cons pe_int pa_nil)) (by omega)) (k_pg_tup (K := K) (n := 3) rfl rfl (pgs_cons (pg_name nd (i := 8) rfl (Or.inl rfl)) (pgs_cons (pg_name nd (i := 7) rfl (Or.inr rfl)) (pgs_cons (pg_name nd (i := 10) rfl (Or.inl rfl)) pgs_nil)))))
      (pss_one (ps_ret (pe_cmpR op_eq (pe_heard (k := 112) (K := K) rfl z zx TB rfl hTm hTu hr (by omega) (LamX.lamS_by (sc := defScope s_law) (by decide +kernel)) (fun A outer s H E f c2 hr => (pe_fn c_read_tree hr (passD (E := E)) (pa_cons (pe_fn c_tree_text hr (passD (E := E)) (pa_cons (pv 7) pa_nil) (by omega)) (pa_cons (pe_lst (pa_cons (pe_mk k_Kind1 hr (passD (E := E)) (pa_cons pe_str pa_nil) (by omega)) pa_nil)) pa_nil)) (by omega)))) (pv 10) (nomark _)))))))), fun c l n σ H2 h => ?_⟩
    obtain ⟨⟨x2, x3, x4, x5, x6, x7, x8, x9, x10, x11, x12, x13, x14, rfl⟩, hp0, ht0⟩ := h
    simp [sDPut, tDGet, tDIn, tDNotIn, tRet, tRetN, tSeq, tIfS, tDrop, tNext, tNever, tBreak, tCont, tAsg, gName, gCons, gNil, gTup, tAndV, tOrV, tNotV, tAnd, tOr, tNot, tOp, tUn, tVar, tC, tB, tTest, tIf, tCons, tNil, tCB, tTup, tLst, tFld, sFld, sFldAug, rAdd, rSub, tSl, tPart, tNoPart, rI0, rI, rU, rEq, rNe, rSlS, rSlL, rIxL, rIxT, rIxS, tChain, tFn, tMt, tM1, tM0, tBM, rAppend, rIn, tIsN, tNotN, scal_ss, scal_ii, let_nil, let_one, fig_nil, fig_one, LenV_str, L2.start, cxOf, and_assoc, tJs, tFmt, put_at, lk_at, lk_script, lk_upcoming, lk_refuse, lk_skips, lk_expect, lk_word_of, lk_name_unlike, lk_number_to, lk_finish, sp0, sp1, sp2, sp3, sp4, sp5, -List.lookup_eq_none_iff, tPar]
    refine ⟨rfl, ht0, fun H3 x3 t3 => Or.inr ⟨rfl, ?_⟩⟩
    have hO : KsOk [T "k"] := ⟨by decide, by decide, by decide, by decide⟩
    have hk1 : (T "k").length = 1 := rfl
    have l100 : (deepYes (T "k") 100).text.length ≤ 10000 := by rw [len_yes, hk1]; omega
    have l101 : (deepYes (T "k") 101).text.length ≤ 10000 := by rw [len_yes, hk1]; omega
    refine ⟨T "k", 100, by rw [ofS], rfl, by omega, by omega, by decide, fun p x H4 e4 hx hp => ?_⟩
    rw [← text_yes] at hp
    refine ⟨p, rfl, _, SqT.of hp, rfl, _, _, rfl, _, _, rfl, _, _, rfl, rfl, ?_⟩
    refine ⟨deepYes (T "k") 100, x, rfl, hx, by rw [deep_yes]; omega, l100, ok_int (ok_yes (T "k") 100), rfl, Or.inl ⟨rfl, ?_⟩⟩
    refine ⟨deepYes (T "k") 100, x, rfl, hx, by rw [deep_yes]; omega, l100, ok_int (ok_yes (T "k") 100), ?_⟩
    refine kind_new fun y H5 e5 hK5 => ⟨by rw [sizeLine_eq]; omega, fun r hr => ?_⟩
    have e6 := Ex.new (o := .lst [.ref y]) hr
    refine ⟨r, [T "k"], [y], rfl, Or.inl upd_same, hK5.st ap (Stb.of e6), hO, Or.inl ⟨_, rfl, l100, ?_⟩⟩
    unfold EndsXT
    rw [rt_ok hO (by rw [deep_yes]; omega) (ok_yes (T "k") 100)]
    refine fun a2 H7 e7 t2 => ⟨a2, x, _, rfl, rfl, t2, hx.ex (Ex.trans e5 (Ex.trans e6 e7)), ok_sg hO (ok_yes (T "k") 100), by rw [deep_yes]; omega, Or.inl ⟨rfl, ?_⟩⟩
    have t7 := t3.ext (Ex.trans e4 (Ex.trans e5 (Ex.trans e6 e7)))
    refine ⟨T "k", 101, by rw [ofS], rfl, by omega, by omega, by decide, fun p8 x8 H8 e8 hx8 hp8 => ?_⟩
    rw [← text_yes] at hp8
    refine ⟨p8, rfl, _, SqT.of hp8, rfl, _, _, rfl, _, _, rfl, _, _, rfl, rfl, ?_⟩
    refine ⟨t7.ext e8, fun H9 x9' t9 => heard_of ?_⟩
    have hx9 : TrAt H9 (deepYes (T "k") 101) x8 := hx8.st (K := K) fun a o h s => x9' a o h fun ps e => by
      rw [e] at s
      exact s
    obtain ⟨rr, g1, g2⟩ := yes_101 hO
    refine ⟨.ref x8, rfl, deepYes (T "k") 101, x8, rfl, hx9, Nat.le_of_eq (deep_yes _ _), l101, ok_int (ok_yes (T "k") 101), kind_new fun y9 H10 e10 hK10 => ⟨by show 1 ≤ sizeLine; rw [sizeLine_eq]; omega, fun r9 hr9 => ?_⟩⟩
    have e11 := Ex.new (o := .lst [.ref y9]) hr9
    refine ⟨r9, [T "k"], [y9], rfl, Or.inl upd_same, hK10.st ap (Stb.of e11), hO, Or.inl ⟨_, rfl, l101, ?_⟩⟩
    unfold EndsXT
    rw [g1]
    refine badx_wish fun H12 e12 => ?_
    rw [g2]
    exact ⟨rfl, by simp only [decide_true]; exact hq _⟩
  obtain ⟨tF, hTF, hRF⟩ : ∃ t, PSs (cxOf (L2.CX P w) P w K mg base ["script", "pen", "turn", "titles", "some", "powers", "last", "tree", "face", "odd", "spot", "machine", "wrong", "at", "title"] "law" (defScope s_law) (fAd K ("law", none)) (.ref (He.codeOf K ("law", none))) A outer s H E) ((defBody s_law).drop 1) t ∧ ∀ (c l : Addr) H2, PenAt H2 c l 0 → Tabs Tt H2 → t { nx := fun _ H' => Q .non H', rt := Q } [some (.ref sa), some (.ref c), none, none, none, none, none, none, none, none, none, none, none, none, none] H2 := by
    refine ⟨_, pss_cons (ps_for (passes_of rfl) rfl (pi_range1 rfl z.b_range (pa_cons pe_int pa_nil)) (pg_name nd (i := 2) rfl (Or.inl rfl)) hT1) hT0, fun c l H2 hp ht => ?_⟩
    simp only [tSeq]
    refine tfor_rng (m := 3) (fun R h => h) (by decide) (fun j σ G => LInv Tt sa c l (7000 * j) σ G) ⟨⟨_, _, _, _, _, _, _, _, _, _, _, _, _, rfl⟩, hp, ht⟩ (fun j σ H3 hj h => ?_) (fun σ H3 h => ?_)
    · exact hR1 _ c l (7000 * j) j σ H3 (fun σ H' h => h) (by omega) h
    · exact hR0 c l _ σ H3 h
  refine ⟨_, (pss_cons (ps_set (i := 1) nd rfl (Or.inr rfl) (pe_fn c__law_pen hr (passD (E := E)) (pa_cons (pv 0) pa_nil) (by omega)))
      hTF), ?_⟩
  simp [sDPut, tDGet, tDIn, tDNotIn, tRet, tRetN, tSeq, tIfS, tDrop, tNext, tNever, tBreak, tCont, tAsg, gName, gCons, gNil, gTup, tAndV, tOrV, tNotV, tAnd, tOr, tNot, tOp, tUn, tVar, tC, tB, tTest, tIf, tCons, tNil, tCB, tTup, tLst, tFld, sFld, sFldAug, rAdd, rSub, tSl, tPart, tNoPart, rI0, rI, rU, rEq, rNe, rSlS, rSlL, rIxL, rIxT, rIxS, tChain, tFn, tMt, tM1, tM0, tBM, rAppend, rIn, tIsN, tNotN, scal_ss, scal_ii, let_nil, let_one, fig_nil, fig_one, LenV_str, L2.start, cxOf, and_assoc, tJs, tFmt, put_at, lk_at, lk_script, lk_upcoming, lk_refuse, lk_skips, lk_expect, lk_word_of, lk_name_unlike, lk_number_to, lk_finish, sp0, sp1, sp2, sp3, sp4, sp5, -List.lookup_eq_none_iff]
  exact ⟨sa, zs, rfl, hs, fun c l H1 e1 hc hp => hRF c l H1 hp (hT.ext e1)⟩
end
end Mp

set_option maxHeartbeats 8000000
/-! Kmb: the whole law, from what the head says -/
namespace Mp
open PySem PySem.Spec PyProof.Rows L2
open He (ga ma fAd)
open LamX (ExtN Tabs TabS TabB)
section
variable {P : Program} {w : World} {K : PySem.W.Frag} {mg : Str → Option Value} {base : Heap}
theorem law_ends (z : Zk K mg base) (y : Zs P K) (zx : Zx K) (zm : Zm K) (ap : Apart K) {PL PB PO PG : Addr} (TL : TabB base mg (He.codeOf K ("law", none)) PL) (TB : TabB base mg (He.codeOf K ("_law_bent_right", none)) PB) (TO : TabB base mg (He.codeOf K ("_law_odd_right", none)) PO) (TG : TabB base mg (He.codeOf K ("_law_great_right", none)) PG)
    (ne : PL ≠ PB ∧ PL ≠ PO ∧ PL ≠ PG ∧ PB ≠ PO ∧ PB ≠ PG ∧ PO ≠ PG) {t : Shared} {H : Hp} {a : Addr} {ns : List Int} (e0 : Env0 P w K mg base callerA [] t H) (hT : ∀ p ∈ [PL, PB, PO, PG], H p = some (.tbl #[])) (hS : SqL K H a (ns.map V.int)) :
    codeAny (model P w) callerA (.call (.ref (fAd K ("law", none))) ⟨[.ref a], []⟩) (CR (L2.CX P w) [] P w H t (fun v _ => v = .bl true) fun _ _ _ => False) t := by
  obtain ⟨Tt, hTt⟩ : ∃ Tt : List (Addr × Str), Tt = [(PL, qL), (PB, qB), (PO, qO), (PG, qG)] := ⟨_, rfl⟩
  obtain ⟨n1, n2, n3, n4, n5, n6⟩ := ne
  have uL : ∀ p ∈ Tt, p.1 = PL → p.2 = qL := fun p hp e => by
    rw [hTt] at hp
    simp only [List.mem_cons, List.not_mem_nil, or_false] at hp
    rcases hp with rfl | rfl | rfl | rfl
    · rfl
    · exact absurd e.symm n1
    · exact absurd e.symm n2
    · exact absurd e.symm n3
  have uB : ∀ p ∈ Tt, p.1 = PB → p.2 = qB := fun p hp e => by
    rw [hTt] at hp
    simp only [List.mem_cons, List.not_mem_nil, or_false] at hp
    rcases hp with rfl | rfl | rfl | rfl
    · exact absurd e n1
    · rfl
    · exact absurd e.symm n4
    · exact absurd e.symm n5
  have uO : ∀ p ∈ Tt, p.1 = PO → p.2 = qO := fun p hp e => by
    rw [hTt] at hp
    simp only [List.mem_cons, List.not_mem_nil, or_false] at hp
    rcases hp with rfl | rfl | rfl | rfl
    · exact absurd e n2
    · exact absurd e n4
    · rfl
    · exact absurd e.symm n6
  have uG : ∀ p ∈ Tt, p.1 = PG → p.2 = qG := fun p hp e => by
    rw [hTt] at hp
    simp only [List.mem_cons, List.not_mem_nil, or_false] at hp
    rcases hp with rfl | rfl | rfl | rfl
    · exact absurd e n3
    · exact absurd e n5
    · exact absurd e n6
    · rfl
  have mL : (PL, qL) ∈ Tt := by rw [hTt]; simp
  have mB : (PB, qB) ∈ Tt := by rw [hTt]; simp
  have mO : (PO, qO) ∈ Tt := by rw [hTt]; simp
  have mG : (PG, qG) ∈ Tt := by rw [hTt]; simp
  have hTabs : Tabs Tt H := fun p hp => by
    rw [hTt] at hp
    simp only [List.mem_cons, List.not_mem_nil, or_false] at hp
    rcases hp with rfl | rfl | rfl | rfl
    · exact TabS.nil (hT _ (by simp))
    · exact TabS.nil (hT _ (by simp))
    · exact TabS.nil (hT _ (by simp))
    · exact TabS.nil (hT _ (by simp))
  have M := curM (P := P) (w := w) z
  have kC := ok_Cursor___init__ (P := P) (w := w) z
  have bw := ok_is_between (P := P) (w := w) z (ok_is_whole z)
  have nm := ok_is_name (P := P) (w := w) z
  have sc := ok_scales_of (P := P) (w := w) z ap
  have kM := ok_Machine___init__ (P := P) (w := w) z (ok_need_kinds z ap) (ok_need_exponents z bw ap) sc ap
  have kK : Cmk P w K mg base "Kind" (ga K "Kind") 3 (spKind K) := ⟨_, ok_Kind___init__ (P := P) (w := w) z y nm bw, z.g_Kind, z.mk_Kind⟩
  have kK1 : Cmk P w K mg base "Kind" (ga K "Kind") 3 (spKind1 K) := ⟨_, okd_Kind___init__ (P := P) (w := w) z y nm bw, z.g_Kind, z.mk_Kind⟩
  have ei := ok_exponents_in (P := P) (w := w) z kC M.finish (ok_read_exponents z M.num M.expect ap) ap
  have cr := ok_Machine_read (P := P) (w := w) z zm ap kM ei
  have rm := ok_read_machine (P := P) (w := w) z cr
  have rt := ok_read_tree (P := P) (w := w) z kC M.finish sc ap (innerT_all z ap 100)
  have cpen := ok__law_pen (P := P) (w := w) z
  have cd := ok__law_draw (P := P) (w := w) z
  have cp := ok__law_pick (P := P) (w := w) z cd
  have cn := ok__law_names (P := P) (w := w) z cd cp
  have ck := ok__law_kinds (P := P) (w := w) z cd
  have cpo := ok__law_powers (P := P) (w := w) z cd
  have cf := ok__law_face (P := P) (w := w) z
  have cs := ok__law_scales (P := P) (w := w) z
  have wm := ok__law_wrong_machines (P := P) (w := w) z
  have wt := ok__law_wrong_trees (P := P) (w := w) z cs (ok__law_common z)
  have dp := ok__law_deep (P := P) (w := w) z
  have tx := text_all (P := P) (w := w) z 101
  have bent := ok__law_bent_right (Tt := Tt) z cd cp zx TB mB uB
  have odd := ok__law_odd_right (P := P) (w := w) (T := Tt) z zx TO mO uO rt rm
  have great := ok__law_great_right (P := P) (w := w) (Tt := Tt) z zx TG mG uG ap rt tx (full_all z 7) (ok__law_deep_no z) kK1
  obtain ⟨fd, F⟩ := z.d_law
  have bd := FunD.bindsA (ps := ["script"]) F fun _ _ _ _ _ _ us hl => match us, hl with | [_], _ => rfl
  obtain ⟨oc, od, dV, kV, doc, pm, an, cdv, ct, osl, rfl, lk, hcd, _, _⟩ := F.ex
  obtain ⟨c, rfl⟩ := He.codeIn_ref hcd
  have hc : He.codeOf K ("law", none) = c := He.codeOf_eq lk rfl
  subst hc
  exact LamX.run_ofS (k := 116) (us := [.ref a]) (vs := [.ref a]) lk hcd sc_law ⟨rfl, by decide, by decide⟩ e0 (bd t [.ref a] rfl) (.cons rfl .nil) rfl fun hr' =>
    run_law (outer := []) (Q := fun v _ => v = .bl true) (E := fun _ _ _ => False) z cpen cd cp cn ck cpo cf cs wm wt dp rm rt zx zm ap TL mL uL kM kK kK1 cr (ok_Machine___str__ z ap) (ok_Machine___eq__ z) tx (tree_all z 4) (shown_all z 100) bent odd great rfl hr' ⟨a, ns, rfl, hS, hTabs, fun _ => rfl⟩
end
end Mp

set_option maxHeartbeats 8000000
namespace Mp
open PySem PySem.Spec PyProof.Rows L2
open He (ga ma fAd)
theorem tyf_ok {K : PySem.W.Frag} {C : Addr} (h : tyfB K C = true) : TyF K C := by
  obtain ⟨h1, h⟩ := two h
  obtain ⟨h2, h⟩ := two h
  obtain ⟨h3, h4⟩ := two h
  exact ⟨of_decide_eq_true h1, of_decide_eq_true h2, of_decide_eq_true h3, of_decide_eq_true h4⟩
theorem const_ok {K : PySem.W.Frag} {C : Addr} {f : Str} {v : V} (h : constB K C f v = true) : ∃ mc u, ClX.CRead K C mc ∧ ClX.CVal K C mc f v u := by
  obtain ⟨h1, h⟩ := two h
  obtain ⟨h2, h3⟩ := two h
  cases e : PySem.W.findCls K (.ref C) (.type "type") f with
  | none => rw [e] at h3; cases h3
  | some r =>
    rw [e] at h3
    cases r with
    | val u => exact ⟨_, u, ⟨h1, of_decide_eq_true h2⟩, ⟨e, He.relB_ok h3⟩⟩
    | _ => cases h3
theorem oex_ok {K : PySem.W.Frag} {C : Addr} (h : oexB K C = true) : OexC K C := by
  obtain ⟨h1, h⟩ := two h
  obtain ⟨h2, h⟩ := two h
  obtain ⟨h3, h⟩ := two h
  obtain ⟨h4, h5⟩ := two h
  refine ⟨?_, of_decide_eq_true h2, of_decide_eq_true h3, of_decide_eq_true h4, h5⟩
  cases e : K.lookup C with
  | none => rw [e] at h1; cases h1
  | some ob =>
    rw [e] at h1
    obtain ⟨c0, d0, x0, s0⟩ := ob
    cases c0 with
    | type t =>
      cases x0 with
      | cls cd =>
        obtain ⟨g1, g2⟩ := two (show (decide (t = "type") && (match cd.mro, s0.toList with
          | .ref C2 :: up, [_, _, _, _, some (.builtin b), _] => decide (C2 = C) && (decide (b = "ValueError.__new__") && (!cd.hasDel && (cd.hasDict && PySem.HandSPX.refsVE up)))
          | _, _ => false)) = true from h1)
        have et : t = "type" := of_decide_eq_true g1
        subst et
        obtain ⟨y1, y2, y3, y4, y5, y6, y7, y8, y9, y10, y11⟩ := cd
        dsimp only at g2
        split at g2
        · rename_i C2 up z0 z1 z2 z3 b z5 es
          obtain ⟨q1, q⟩ := two g2
          obtain ⟨q2, q⟩ := two q
          obtain ⟨q3, q⟩ := two q
          obtain ⟨q4, q5⟩ := two q
          have w1 : C2 = C := of_decide_eq_true q1
          have w2 : b = "ValueError.__new__" := of_decide_eq_true q2
          have w3 : y11 = false := by simpa using q3
          have w4 : y6 = true := q4
          have w5 : s0 = #[z0, z1, z2, z3, some (.builtin b), z5] := by
            rw [← es]
          subst w1 w2 w3 w4 w5
          exact ⟨y1, y5, y4, y2, up, y7, y8, y9, y10, d0, z0, z1, z2, z3, z5, rfl, q5⟩
        · cases g2
      | _ => cases h1
    | _ => cases x0 <;> cases h1
theorem ek_ok {K : PySem.W.Frag} {D : Addr} (h : ekB K D = true) : EkC K D := by
  obtain ⟨h1, h⟩ := two h
  obtain ⟨h2, h⟩ := two h
  obtain ⟨h3, h⟩ := two h
  obtain ⟨h4, h⟩ := two h
  obtain ⟨h5, h6⟩ := two h
  have t := tyf_ok h6
  exact ⟨h1, of_decide_eq_true h2, of_decide_eq_true h3, of_decide_eq_true h4, h5, t.ha, t.hn, t.htk, t.hm⟩
theorem SupX.said {P : Program} {K : PySem.W.Frag} {d : SupX} (e : fnS K d.at_ = d.val) (h : d.ok P.main.file K = true) : SupD P K (ga K d.cls) d.name d.qual d.params d.body d.scope d.dfl (fAd K d.at_) := by
  unfold fnS at e
  unfold SupX.ok at h
  cases q : K.lookup (fAd K d.at_) with
  | none => rw [q] at h; cases h
  | some ob =>
    obtain ⟨c0, d0, x0, s0⟩ := ob
    rw [q] at h e
    cases x0 with
    | func fd =>
      obtain ⟨y1, y2, y3, y4, y5, y6, y7, y8, y9, y10, y11, y12, y13, y14, y15⟩ := fd
      have e2 : (some (y1, y2, y3, y4, y5, y6, y7.map (·.1), y15) : FnS) = some (d.name, d.qual, d.params, FuncBody.stmts d.body, d.scope, mainGlobals, [("__class__" : Str)], builtinsNs) := e
      simp only [Option.some.injEq, Prod.mk.injEq] at e2
      obtain ⟨w1, w2, w3, w4, w5, w6, w7, w8⟩ := e2
      subst w1 w2 w3 w4 w5 w6 w8
      obtain ⟨g1, g⟩ := two h
      obtain ⟨g2, g⟩ := two g
      obtain ⟨g3, g4⟩ := two g
      dsimp only at g1 g2 g3 g4
      match y7, w7, g4 with
      | [(nm, cc)], w7, g4 =>
        have enm : nm = "__class__" := by simpa using w7
        subst enm
        cases y13 with
        | ref cda =>
          refine ⟨c0, d0, y8, y9, y10, y11, y12, cda, cc, y14, s0, q, g1, He.dflB_ok g2, ?_, ?_⟩
          · dsimp only at g3
            split at g3
            · rename_i e1 e2 vs e3 e4
              split at g3
              · rename_i z tk ez
                have ez2 : z = P.main.file := of_decide_eq_true g3
                subst ez2
                exact ⟨_, _, vs, _, tk, e4, ez⟩
              · cases g3
            · cases g3
          · dsimp only at g4
            split at g4
            · rename_i e1 e2 d2 e3 e4
              have ed : d2 = ga K d.cls := of_decide_eq_true g4
              subst ed
              exact ⟨_, _, _, e4⟩
            · cases g4
        | _ => cases g3
    | _ => cases h
theorem sm_ok {K : PySem.W.Frag} {C D g : Addr} (h : smB K C D g = true) : SupM K C D "__init__" g := by
  obtain ⟨h1, h⟩ := two h
  obtain ⟨h2, h⟩ := two h
  obtain ⟨h3, h4⟩ := two h
  exact ⟨of_decide_eq_true h1, of_decide_eq_true h2, of_decide_eq_true h3, h4⟩
theorem SaysY.sup {P : Program} {fa : List He.Fa} {fn : List He.DefD} {sp : List SupX} {dm : List He5.DefA} {tf : List He.Defn} {ex : PySem.W.Frag → Bool} {h : Heap} {K : PySem.W.Frag} (c : SaysY fa fn sp dm tf ex h K) (i : Nat) {d : SupX} (hi : sp[i]? = some d) (ho : d.ok P.main.file K = true) : SupD P K (ga K d.cls) d.name d.qual d.params d.body d.scope d.dfl (fAd K d.at_) := by
  refine SupX.said ?_ ho
  have e : (sp.map (fun d => fnS K d.at_))[i]? = (sp.map SupX.val)[i]? := by rw [c.s]
  rw [List.getElem?_map, List.getElem?_map, hi] at e
  exact Option.some.inj e
theorem exP0 {K : PySem.W.Frag} (h : exL K = true) : ex0 K = true := (two h).1
theorem ex_t_BARRED {K : PySem.W.Frag} (h : exL K = true) : (tupB2 K "BARRED" [.str "byte", .str "size", .str "align", .str "place", .str "end", .str "packed", .str "and", .str "or", .str "not", .str "yes", .str "no", .str "for", .str "nogap", .str "notail", .str "leaf"]) = true := (two (exP0 h)).1
theorem ex_k_Part_DEPTH {K : PySem.W.Frag} (h : exL K = true) : (constB K (ga K "Part") "DEPTH" (.int 4)) = true := (two (two (exP0 h)).2).1
theorem ex_k_Machine_MOST {K : PySem.W.Frag} (h : exL K = true) : (constB K (ga K "Machine") "MOST" (.int 1000)) = true := (two (two (two (exP0 h)).2).2).1
theorem ex_ty_Kind {K : PySem.W.Frag} (h : exL K = true) : (tyfB K (ga K "Kind")) = true := (two (two (two (two (exP0 h)).2).2).2).1
theorem ex_ty_Cursor {K : PySem.W.Frag} (h : exL K = true) : (tyfB K (ga K "Cursor")) = true := (two (two (two (two (two (exP0 h)).2).2).2).2).1
theorem ex_ty_Machine {K : PySem.W.Frag} (h : exL K = true) : (tyfB K (ga K "Machine")) = true := (two (two (two (two (two (two (exP0 h)).2).2).2).2).2).1
theorem ex_kit_Kind_Kind {K : PySem.W.Frag} (h : exL K = true) : (kitB2 K (.ref (ga K "Kind")) (.ref (ga K "Kind")) true) = true := (two (two (two (two (two (two (two (exP0 h)).2).2).2).2).2).2).1
theorem ex_kit_Machine_Machine {K : PySem.W.Frag} (h : exL K = true) : (kitB2 K (.ref (ga K "Machine")) (.ref (ga K "Machine")) true) = true := (two (two (two (two (two (two (two (two (exP0 h)).2).2).2).2).2).2).2).1
theorem ex_s_Kind___init__ {K : PySem.W.Frag} (h : exL K = true) : (SupX.ok fileP K dd_Kind___init__) = true := (two (two (two (two (two (two (two (two (two (exP0 h)).2).2).2).2).2).2).2).2).1
theorem ex_cd_Kind {K : PySem.W.Frag} (h : exL K = true) : ((PySem.W.clsIn K (ga K "Kind")).isSome) = true := (two (two (two (two (two (two (two (two (two (two (exP0 h)).2).2).2).2).2).2).2).2).2).1
theorem ex_sm_Kind_Kind {K : PySem.W.Frag} (h : exL K = true) : (smB K (ga K "Kind") (ga K "Kind") (fAd K ("Part", some "__init__"))) = true := (two (two (two (two (two (two (two (two (two (two (two (exP0 h)).2).2).2).2).2).2).2).2).2).2).1
theorem ex_nosup {K : PySem.W.Frag} (h : exL K = true) : (optB (PySem.W.nsIn K mainGlobals "super") (some none)) = true := (two (two (two (two (two (two (two (two (two (two (two (exP0 h)).2).2).2).2).2).2).2).2).2).2).2
theorem exP1 {K : PySem.W.Frag} (h : exL K = true) : ex1 K = true := (two (two h).2).1
theorem ex_opq {K : PySem.W.Frag} (h : exL K = true) : (optB (PySem.W.nsIn K PySem.cStatics "thirdparty.any") (some none)) = true := (two (exP1 h)).1
theorem ex_x_BadText {K : PySem.W.Frag} (h : exL K = true) : (oexB K (ga K "BadText")) = true := (two (two (exP1 h)).2).1
theorem ex_xi_BadText {K : PySem.W.Frag} (h : exL K = true) : (optB (PySem.W.findIn K (.ref (ga K "BadText")) "__init__") (some (some (.ref (fAd K ("BadText", some "__init__")))))) = true := (two (two (two (exP1 h)).2).2).1
theorem ex_xt_BadText {K : PySem.W.Frag} (h : exL K = true) : (decide (PySem.W.typeIn K (.ref (fAd K ("BadText", some "__init__"))) = some (.type "function"))) = true := (two (two (two (two (exP1 h)).2).2).2).1
theorem ex_xn_BadText {K : PySem.W.Frag} (h : exL K = true) : (optB (PySem.W.findIn K (.ref (ga K "BadText")) "at") (some none)) = true := (two (two (two (two (two (exP1 h)).2).2).2).2).1
theorem ex_ek {K : PySem.W.Frag} (h : exL K = true) : (ekB K (ga K "BadText")) = true := (two (two (two (two (two (two (exP1 h)).2).2).2).2).2).1
theorem ex_em {K : PySem.W.Frag} (h : exL K = true) : (boolB (PySem.W.exmOne K (.ref (ga K "BadText")) (.ref (ga K "PadError"))) true) = true := (two (two (two (two (two (two (two (exP1 h)).2).2).2).2).2).2).1
theorem ex_kb {K : PySem.W.Frag} (h : exL K = true) : (kitB2 K (.ref (ga K "BadText")) (.ref (ga K "BadText")) true) = true := (two (two (two (two (two (two (two (two (exP1 h)).2).2).2).2).2).2).2).1
theorem ex_apart {K : PySem.W.Frag} (h : exL K = true) : (decide (ga K "Kind" ≠ ga K "Cursor") && decide (ga K "Machine" ≠ ga K "Cursor")) = true := (two (two (two (two (two (two (two (two (two (exP1 h)).2).2).2).2).2).2).2).2).1
theorem ex_mstr {K : PySem.W.Frag} (h : exL K = true) : (optB (PySem.W.findIn K (.ref (ga K "Machine")) "__str__") (some (some (.ref (fAd K ("Machine", some "__str__")))))) = true := (two (two (two (two (two (two (two (two (two (two (exP1 h)).2).2).2).2).2).2).2).2).2).1
theorem ex_mstrf {K : PySem.W.Frag} (h : exL K = true) : (decide (PySem.W.typeIn K (.ref (fAd K ("Machine", some "__str__"))) = some (.type "function"))) = true := (two (two (two (two (two (two (two (two (two (two (two (exP1 h)).2).2).2).2).2).2).2).2).2).2).1
theorem ex_meq {K : PySem.W.Frag} (h : exL K = true) : (optB (PySem.W.findIn K (.ref (ga K "Machine")) "__eq__") (some (some (.ref (fAd K ("Machine", some "__eq__")))))) = true := (two (two (two (two (two (two (two (two (two (two (two (exP1 h)).2).2).2).2).2).2).2).2).2).2).2
theorem exP2 {K : PySem.W.Frag} (h : exL K = true) : ex2 K = true := (two (two h).2).2
theorem ex_meqf {K : PySem.W.Frag} (h : exL K = true) : (PySem.W.isFn K (.ref (fAd K ("Machine", some "__eq__")))) = true := (two (exP2 h)).1
theorem ex_mrd1 {K : PySem.W.Frag} (h : exL K = true) : (PySem.W.readsIn K (ga K "Machine") (.type "type")) = true := (two (two (exP2 h)).2).1
theorem ex_mrd2 {K : PySem.W.Frag} (h : exL K = true) : (optB (PySem.W.specialIn K (.ref (ga K "Machine")) "__getattribute__") (some (some (.builtin "type.__getattribute__")))) = true := (two (two (two (exP2 h)).2).2).1
theorem ex_mrd3 {K : PySem.W.Frag} (h : exL K = true) : (He5.wrapB K (ga K "Machine") "classmethod" "classmethod.__get__" "read") = true := (two (two (two (two (exP2 h)).2).2).2).1
theorem ex_mrd4 {K : PySem.W.Frag} (h : exL K = true) : (PySem.W.fnIn K (He5.wf K (ga K "Machine") "classmethod" "read")) = true := (two (two (two (two (two (exP2 h)).2).2).2).2).1
theorem ex_mrd5 {K : PySem.W.Frag} (h : exL K = true) : (He5.DefA.ok K dm_read) = true := (two (two (two (two (two (two (exP2 h)).2).2).2).2).2).1
theorem ex_ne01 {K : PySem.W.Frag} (h : exL K = true) : (decide ((He.cT K ("law", none)).2 ≠ (He.cT K ("_law_bent_right", none)).2)) = true := (two (two (two (two (two (two (two (exP2 h)).2).2).2).2).2).2).1
theorem ex_ne02 {K : PySem.W.Frag} (h : exL K = true) : (decide ((He.cT K ("law", none)).2 ≠ (He.cT K ("_law_odd_right", none)).2)) = true := (two (two (two (two (two (two (two (two (exP2 h)).2).2).2).2).2).2).2).1
theorem ex_ne03 {K : PySem.W.Frag} (h : exL K = true) : (decide ((He.cT K ("law", none)).2 ≠ (He.cT K ("_law_great_right", none)).2)) = true := (two (two (two (two (two (two (two (two (two (exP2 h)).2).2).2).2).2).2).2).2).1
theorem ex_ne12 {K : PySem.W.Frag} (h : exL K = true) : (decide ((He.cT K ("_law_bent_right", none)).2 ≠ (He.cT K ("_law_odd_right", none)).2)) = true := (two (two (two (two (two (two (two (two (two (two (exP2 h)).2).2).2).2).2).2).2).2).2).1
theorem ex_ne13 {K : PySem.W.Frag} (h : exL K = true) : (decide ((He.cT K ("_law_bent_right", none)).2 ≠ (He.cT K ("_law_great_right", none)).2)) = true := (two (two (two (two (two (two (two (two (two (two (two (exP2 h)).2).2).2).2).2).2).2).2).2).2).1
theorem ex_ne23 {K : PySem.W.Frag} (h : exL K = true) : (decide ((He.cT K ("_law_odd_right", none)).2 ≠ (He.cT K ("_law_great_right", none)).2)) = true := (two (two (two (two (two (two (two (two (two (two (two (exP2 h)).2).2).2).2).2).2).2).2).2).2).2
section
variable {K : PySem.W.Frag} {mg : Str → Option Value} {base : Heap} {h : Heap}
theorem head_zk (hK : K.In base) (hG : base.Ns mainGlobals mg) (c : SaysY faL fnL spL dmL tfL exL h K) : Zk K mg base := ⟨hK,
  hG,
  He.free_ok hK hG (c.d.fact 0 (f := .free "len") rfl),
  He.free_ok hK hG (c.d.fact 1 (f := .free "isinstance") rfl),
  He.free_ok hK hG (c.d.fact 2 (f := .free "int") rfl),
  He.free_ok hK hG (c.d.fact 3 (f := .free "bool") rfl),
  He.free_ok hK hG (c.d.fact 4 (f := .free "all") rfl),
  He.free_ok hK hG (c.d.fact 5 (f := .free "any") rfl),
  He.free_ok hK hG (c.d.fact 6 (f := .free "range") rfl),
  He.free_ok hK hG (c.d.fact 7 (f := .free "str") rfl),
  He.free_ok hK hG (c.d.fact 8 (f := .free "list") rfl),
  He.free_ok hK hG (c.d.fact 9 (f := .free "tuple") rfl),
  He.free_ok hK hG (c.d.fact 10 (f := .free "dict") rfl),
  He.free_ok hK hG (c.d.fact 11 (f := .free "abs") rfl),
  He.free_ok hK hG (c.d.fact 12 (f := .free "enumerate") rfl),
  He.free_ok hK hG (c.d.fact 13 (f := .free "super") rfl),
  He.free_ok hK hG (c.d.fact 14 (f := .free "zip") rfl),
  He.free_ok hK hG (c.d.fact 15 (f := .free "max") rfl),
  He.free_ok hK hG (c.d.fact 16 (f := .free "repr") rfl),
  He.glo_ok hK hG (c.d.fact 17 (f := .glo "is_whole") rfl),
  He.glo_ok hK hG (c.d.fact 18 (f := .glo "is_between") rfl),
  He.glo_ok hK hG (c.d.fact 19 (f := .glo "is_name") rfl),
  He.glo_ok hK hG (c.d.fact 20 (f := .glo "is_letter") rfl),
  He.glo_ok hK hG (c.d.fact 21 (f := .glo "is_figure") rfl),
  He.glo_ok hK hG (c.d.fact 22 (f := .glo "begins_one") rfl),
  He.glo_ok hK hG (c.d.fact 23 (f := .glo "read_exponents") rfl),
  He.glo_ok hK hG (c.d.fact 24 (f := .glo "exponents_in") rfl),
  He.glo_ok hK hG (c.d.fact 25 (f := .glo "need_kinds") rfl),
  He.glo_ok hK hG (c.d.fact 26 (f := .glo "need_exponents") rfl),
  He.glo_ok hK hG (c.d.fact 27 (f := .glo "scales_of") rfl),
  He.glo_ok hK hG (c.d.fact 28 (f := .glo "read_machine") rfl),
  He.glo_ok hK hG (c.d.fact 29 (f := .glo "read_inner_tree") rfl),
  He.glo_ok hK hG (c.d.fact 30 (f := .glo "read_tree") rfl),
  He.glo_ok hK hG (c.d.fact 31 (f := .glo "tree_text") rfl),
  He.glo_ok hK hG (c.d.fact 32 (f := .glo "_law_pen") rfl),
  He.glo_ok hK hG (c.d.fact 33 (f := .glo "_law_draw") rfl),
  He.glo_ok hK hG (c.d.fact 34 (f := .glo "_law_pick") rfl),
  He.glo_ok hK hG (c.d.fact 35 (f := .glo "_law_names") rfl),
  He.glo_ok hK hG (c.d.fact 36 (f := .glo "_law_heard") rfl),
  He.glo_ok hK hG (c.d.fact 37 (f := .glo "_law_powers") rfl),
  He.glo_ok hK hG (c.d.fact 38 (f := .glo "_law_face") rfl),
  He.glo_ok hK hG (c.d.fact 39 (f := .glo "_law_scales") rfl),
  He.glo_ok hK hG (c.d.fact 40 (f := .glo "_law_tree") rfl),
  He.glo_ok hK hG (c.d.fact 41 (f := .glo "_law_shown") rfl),
  He.glo_ok hK hG (c.d.fact 42 (f := .glo "_law_bent_right") rfl),
  He.glo_ok hK hG (c.d.fact 43 (f := .glo "_law_wrong_machines") rfl),
  He.glo_ok hK hG (c.d.fact 44 (f := .glo "_law_common") rfl),
  He.glo_ok hK hG (c.d.fact 45 (f := .glo "_law_wrong_trees") rfl),
  He.glo_ok hK hG (c.d.fact 46 (f := .glo "_law_deep") rfl),
  He.glo_ok hK hG (c.d.fact 47 (f := .glo "_law_kinds") rfl),
  He.glo_ok hK hG (c.d.fact 48 (f := .glo "_law_deep_no") rfl),
  He.glo_ok hK hG (c.d.fact 49 (f := .glo "_law_full") rfl),
  He.glo_ok hK hG (c.d.fact 50 (f := .glo "_law_odd_right") rfl),
  He.glo_ok hK hG (c.d.fact 51 (f := .glo "_law_great_right") rfl),
  He.glo_ok hK hG (c.d.fact 52 (f := .glo "law") rfl),
  He.glo_ok hK hG (c.d.fact 53 (f := .glo "Part") rfl),
  He.glo_ok hK hG (c.d.fact 54 (f := .glo "Cursor") rfl),
  He.glo_ok hK hG (c.d.fact 55 (f := .glo "BadText") rfl),
  He.glo_ok hK hG (c.d.fact 56 (f := .glo "PadError") rfl),
  He.glo_ok hK hG (c.d.fact 57 (f := .glo "BARRED") rfl),
  He.glo_ok hK hG (c.d.fact 58 (f := .glo "Machine") rfl),
  He.glo_ok hK hG (c.d.fact 59 (f := .glo "Kind") rfl),
  He.str_ok hK hG (c.d.fact 60 (f := .str "LETTERS_names" "abcdefghijklmnopqrstuvwxyz") rfl),
  He.str_ok hK hG (c.d.fact 61 (f := .str "LETTERS_cursors" "abcdefghijklmnopqrstuvwxyz") rfl),
  He.str_ok hK hG (c.d.fact 62 (f := .str "FIGURES_cursors" "0123456789") rfl),
  He.int_ok hK hG (c.d.fact 63 (f := .int "LONGEST" 8) rfl),
  He.int_ok hK hG (c.d.fact 64 (f := .int "LONGEST_NAME" 8) rfl),
  He.int_ok hK hG (c.d.fact 65 (f := .int "MOST_TIMES" 8) rfl),
  He.int_ok hK hG (c.d.fact 66 (f := .int "MOST_EXPONENT" 1000) rfl),
  He.int_ok hK hG (c.d.fact 67 (f := .int "MOST_KINDS" 3) rfl),
  He.int_ok hK hG (c.d.fact 68 (f := .int "MOST_TREE" 100) rfl),
  He.int_ok hK hG (c.d.fact 69 (f := .int "MOST_BOUND" 2000) rfl),
  fun H => He.tupB_ok (ex_t_BARRED c.more) H,
  const_ok (ex_k_Part_DEPTH c.more),
  const_ok (ex_k_Machine_MOST c.more),
  He.cls_ok (c.d.fact 70 (f := .cls "Kind") rfl),
  tyf_ok (ex_ty_Kind c.more),
  He.cls_ok (c.d.fact 71 (f := .cls "Cursor") rfl),
  tyf_ok (ex_ty_Cursor c.more),
  He.cls_ok (c.d.fact 72 (f := .cls "Machine") rfl),
  tyf_ok (ex_ty_Machine c.more),
  He.noat_ok (c.d.fact 73 (f := .noat "Cursor" "script") rfl),
  He.noat_ok (c.d.fact 74 (f := .noat "Cursor" "at") rfl),
  He.noat_ok (c.d.fact 75 (f := .noat "Kind" "name") rfl),
  He.noat_ok (c.d.fact 76 (f := .noat "Kind" "times") rfl),
  He.noat_ok (c.d.fact 77 (f := .noat "Kind" "depth") rfl),
  He.noat_ok (c.d.fact 78 (f := .noat "Machine" "kinds") rfl),
  He.noat_ok (c.d.fact 79 (f := .noat "Machine" "scales") rfl),
  He.noat_ok (c.d.fact 80 (f := .noat "Machine" "powers") rfl),
  He.meth_ok (c.d.fact 81 (f := .meth "Cursor" "upcoming") rfl),
  He.meth_ok (c.d.fact 82 (f := .meth "Cursor" "refuse") rfl),
  He.meth_ok (c.d.fact 83 (f := .meth "Cursor" "finish") rfl),
  He.meth_ok (c.d.fact 84 (f := .meth "Cursor" "skips") rfl),
  He.meth_ok (c.d.fact 85 (f := .meth "Cursor" "expect") rfl),
  He.meth_ok (c.d.fact 86 (f := .meth "Cursor" "word_of") rfl),
  He.meth_ok (c.d.fact 87 (f := .meth "Cursor" "name_unlike") rfl),
  He.meth_ok (c.d.fact 88 (f := .meth "Cursor" "number_to") rfl),
  He.meth_ok (c.d.fact 89 (f := .meth "Cursor" "integer_to") rfl),
  He.mkr_ok (c.d.fact 90 (f := .mkr "Kind") rfl),
  He.mkr_ok (c.d.fact 91 (f := .mkr "Cursor") rfl),
  He.mkr_ok (c.d.fact 92 (f := .mkr "Machine") rfl),
  of_decide_eq_true (ex_kit_Kind_Kind c.more),
  of_decide_eq_true (ex_kit_Machine_Machine c.more),
  c.d.def_ 0 (d := dd_is_whole) rfl,
  c.d.def_ 1 (d := dd_is_between) rfl,
  c.d.def_ 2 (d := dd_is_name) rfl,
  c.d.def_ 3 (d := dd_Part___init__) rfl,
  c.d.def_ 4 (d := dd_is_letter) rfl,
  c.d.def_ 5 (d := dd_is_figure) rfl,
  c.d.def_ 6 (d := dd_begins_one) rfl,
  c.d.def_ 7 (d := dd_Cursor___init__) rfl,
  c.d.def_ 8 (d := dd_Cursor_upcoming) rfl,
  c.d.def_ 9 (d := dd_Cursor_refuse) rfl,
  c.d.def_ 10 (d := dd_Cursor_finish) rfl,
  c.d.def_ 11 (d := dd_Cursor_skips) rfl,
  c.d.def_ 12 (d := dd_Cursor_expect) rfl,
  c.d.def_ 13 (d := dd_Cursor_word_of) rfl,
  c.d.def_ 14 (d := dd_Cursor_name_unlike) rfl,
  c.d.def_ 15 (d := dd_Cursor_number_to) rfl,
  c.d.def_ 16 (d := dd_Cursor_integer_to) rfl,
  c.d.def_ 17 (d := dd_read_exponents) rfl,
  c.d.def_ 18 (d := dd_exponents_in) rfl,
  c.d.def_ 19 (d := dd_need_kinds) rfl,
  c.d.def_ 20 (d := dd_need_exponents) rfl,
  c.d.def_ 21 (d := dd_scales_of) rfl,
  c.d.def_ 22 (d := dd_Machine___init__) rfl,
  c.d.def_ 23 (d := dd_Machine___eq__) rfl,
  c.d.def_ 24 (d := dd_Machine___str__) rfl,
  c.d.def_ 25 (d := dd_read_machine) rfl,
  c.d.def_ 26 (d := dd_read_inner_tree) rfl,
  c.d.def_ 27 (d := dd_read_tree) rfl,
  c.d.def_ 28 (d := dd_tree_text) rfl,
  c.d.def_ 29 (d := dd__law_pen) rfl,
  c.d.def_ 30 (d := dd__law_draw) rfl,
  c.d.def_ 31 (d := dd__law_pick) rfl,
  c.d.def_ 32 (d := dd__law_names) rfl,
  c.d.def_ 33 (d := dd__law_heard) rfl,
  c.d.def_ 34 (d := dd__law_powers) rfl,
  c.d.def_ 35 (d := dd__law_face) rfl,
  c.d.def_ 36 (d := dd__law_scales) rfl,
  c.d.def_ 37 (d := dd__law_tree) rfl,
  c.d.def_ 38 (d := dd__law_shown) rfl,
  c.d.def_ 39 (d := dd__law_bent_right) rfl,
  c.d.def_ 40 (d := dd__law_wrong_machines) rfl,
  c.d.def_ 41 (d := dd__law_common) rfl,
  c.d.def_ 42 (d := dd__law_wrong_trees) rfl,
  c.d.def_ 43 (d := dd__law_deep) rfl,
  c.d.def_ 44 (d := dd__law_kinds) rfl,
  c.d.def_ 45 (d := dd__law_deep_no) rfl,
  c.d.def_ 46 (d := dd__law_full) rfl,
  c.d.def_ 47 (d := dd__law_odd_right) rfl,
  c.d.def_ 48 (d := dd__law_great_right) rfl,
  c.d.def_ 49 (d := dd_law) rfl,
  c.d.def_ 50 (d := dd_BadText___init__) rfl,
  oex_ok (ex_x_BadText c.more),
  of_decide_eq_true (ex_xi_BadText c.more),
  of_decide_eq_true (ex_xt_BadText c.more),
  of_decide_eq_true (ex_xn_BadText c.more)⟩
theorem head_zs (c : SaysY faL fnL spL dmL tfL exL h K) : Zs PySem.Challenge.pw_manypads_k93_machines_and_trees_written K := ⟨⟨of_decide_eq_true (ex_nosup c.more), by decide +kernel, of_decide_eq_true (ex_opq c.more)⟩,
  c.sup (P := PySem.Challenge.pw_manypads_k93_machines_and_trees_written) 0 (d := dd_Kind___init__) rfl (ex_s_Kind___init__ c.more),
  Option.isSome_iff_exists.mp (ex_cd_Kind c.more),
  sm_ok (ex_sm_Kind_Kind c.more)⟩
theorem head_zx (c : SaysY faL fnL spL dmL tfL exL h K) : Zx K := ⟨ek_ok (ex_ek c.more), of_decide_eq_true (ex_em c.more), of_decide_eq_true (ex_kb c.more)⟩
theorem head_ap (c : SaysY faL fnL spL dmL tfL exL h K) : Apart K := by
  obtain ⟨h1, h2⟩ := two (ex_apart c.more)
  exact ⟨of_decide_eq_true h1, of_decide_eq_true h2⟩
theorem head_zm (c : SaysY faL fnL spL dmL tfL exL h K) : Zm K := by
  obtain ⟨fd, F⟩ := c.rd 0 (d := dm_read) rfl (ex_mrd5 c.more)
  exact ⟨of_decide_eq_true (ex_mstr c.more), of_decide_eq_true (ex_mstrf c.more), of_decide_eq_true (ex_meq c.more), ex_meqf c.more, _, _, fd, ⟨ex_mrd1 c.more, of_decide_eq_true (ex_mrd2 c.more)⟩, He5.cmet_of (ex_mrd3 c.more) (ex_mrd4 c.more), F⟩
theorem head_ne (c : SaysY faL fnL spL dmL tfL exL h K) : (He.cT K ("law", none)).2 ≠ (He.cT K ("_law_bent_right", none)).2 ∧ (He.cT K ("law", none)).2 ≠ (He.cT K ("_law_odd_right", none)).2 ∧ (He.cT K ("law", none)).2 ≠ (He.cT K ("_law_great_right", none)).2 ∧ (He.cT K ("_law_bent_right", none)).2 ≠ (He.cT K ("_law_odd_right", none)).2 ∧ (He.cT K ("_law_bent_right", none)).2 ≠ (He.cT K ("_law_great_right", none)).2 ∧ (He.cT K ("_law_odd_right", none)).2 ≠ (He.cT K ("_law_great_right", none)).2 := ⟨of_decide_eq_true (ex_ne01 c.more), of_decide_eq_true (ex_ne02 c.more), of_decide_eq_true (ex_ne03 c.more), of_decide_eq_true (ex_ne12 c.more), of_decide_eq_true (ex_ne13 c.more), of_decide_eq_true (ex_ne23 c.more)⟩
end
end Mp

set_option maxHeartbeats 0
/-! Kend: the law's row -/
namespace Mp
open PySem PySem.Spec PyProof.Rows L2
open He (ga ma fAd)
open LamX (ExtN Tabs TabS TabB)
theorem law_here (w : World) (mg : Str → Option Value) (fa : Addr) (h : Heap) (Y : hkL.says w h) (G : h.Ns mainGlobals mg) (hmg : mg ("law" : Str) = some (.ref fa)) :
    ∃ (K : PySem.W.Frag) (cs : List (Addr × Addr)), K.In h ∧ (∀ p ∈ cs, h.get? p.2 = some tabO) ∧ (∀ p ∈ cs, K.lookup p.2 = none) ∧ (∀ p ∈ cs, PySem.W.CodeHd h p.1 p.2) ∧
      ∀ (base : Heap) (t : Shared) (H : Hp) (a : Addr) (ns : List Int), K.In base → base.Ns mainGlobals mg → (∀ p ∈ cs, TabB base mg p.1 p.2) → Env0 PySem.Challenge.pw_manypads_k93_machines_and_trees_written w K mg base callerA [] t H → (∀ p ∈ cs, H p.2 = some (.tbl #[])) → SqL K H a (ns.map V.int) → ns.length ≤ 63 →
        codeAny (model PySem.Challenge.pw_manypads_k93_machines_and_trees_written w) callerA (.call (.ref fa) ⟨[.ref a], []⟩) (CR (L2.CX PySem.Challenge.pw_manypads_k93_machines_and_trees_written w) [] PySem.Challenge.pw_manypads_k93_machines_and_trees_written w H t (fun v _ => v = .bl true) fun _ _ _ => False) t := by
  obtain ⟨K, hK, c⟩ := Y
  have z0 := head_zk hK G c
  have efa : fa = fAd K ("law", none) := by
    have := hmg.symm.trans z0.g_law
    exact Value.ref.inj (Option.some.inj this)
  subst efa
  refine ⟨K, tfL.map (He.cT K), hK, ?_, ?_, ?_, ?_⟩
  · intro p hp
    obtain ⟨q, hq, rfl⟩ := List.mem_map.mp hp
    exact c.empty q hq
  · intro p hp
    obtain ⟨q, hq, rfl⟩ := List.mem_map.mp hp
    exact c.out q hq
  · intro p hp
    obtain ⟨q, hq, rfl⟩ := List.mem_map.mp hp
    exact PySem.W.codeHd_of_K hK (c.hd q hq)
  · intro base t H a ns hKb hGb hTB e0 hT hS _
    have z := head_zk (h := h) hKb hGb c
    have tb : ∀ q ∈ tfL, TabB base mg (He.cT K q).1 (He.cT K q).2 := fun q hq => hTB _ (List.mem_map.mpr ⟨q, hq, rfl⟩)
    have te : ∀ q ∈ tfL, H (He.cT K q).2 = some (.tbl #[]) := fun q hq => hT _ (List.mem_map.mpr ⟨q, hq, rfl⟩)
    refine law_ends z (head_zs c) (head_zx c) (head_zm c) (head_ap c) (tb ("law", none) (by simp [tfL])) (tb ("_law_bent_right", none) (by simp [tfL])) (tb ("_law_odd_right", none) (by simp [tfL])) (tb ("_law_great_right", none) (by simp [tfL])) (head_ne c) e0 (fun p hp => ?_) hS
    simp only [List.mem_cons, List.not_mem_nil, or_false] at hp
    rcases hp with rfl | rfl | rfl | rfl
    · exact te ("law", none) (by simp [tfL])
    · exact te ("_law_bent_right", none) (by simp [tfL])
    · exact te ("_law_odd_right", none) (by simp [tfL])
    · exact te ("_law_great_right", none) (by simp [tfL])
end Mp
open PySem PySem.W PySem.Calls PyProof.Rows
theorem PySem.Challenge.cw_manypads_k93_machines_and_trees_written_holds : PySem.Challenge.rw_manypads_k93_machines_and_trees_written.Holds := by
  w_on; o_law
  refine HandSHeadRun.head_any (r := OpenLaw.row PySem.Challenge.rw_manypads_k93_machines_and_trees_written) (q := view (OpenLaw.row PySem.Challenge.rw_manypads_k93_machines_and_trees_written).prog [84]) (H := Mp.hkL) (ob := Mp.obL) (M := 20000) (loose := Mp.namesL)
    (d := HandSHeadRun.topDef (OpenLaw.row PySem.Challenge.rw_manypads_k93_machines_and_trees_written).prog 84) (kwd := []) Mp.obL_eq
    (by kernel_rfl) (fun s => by kernel_rfl) Mp.runL (by kernel_rfl) (by kernel_rfl) (by kernel_rfl) (by rfl) (by first | assumption | decide +kernel) (by decide +kernel) ⟨rfl, rfl, rfl, rfl, rfl, by decide +kernel⟩ ?hw ?hc
  case hw => w_witness2
  case hc =>
    refine Mp.walk_here (l := PySem.Challenge.rw_manypads_k93_machines_and_trees_written) (n := 63) rfl (by decide) (by kernel_rfl) ?F
    intro w mg fa h Y G hmg0
    have hmg : mg ("law" : PySem.Str) = some (.ref fa) := by
      have e : (HandSHeadRun.topDef (OpenLaw.row PySem.Challenge.rw_manypads_k93_machines_and_trees_written).prog 84).name = ("law" : PySem.Str) := by kernel_rfl
      rw [← e]
      exact hmg0
    exact Mp.law_here w mg fa h Y G hmg
#print axioms PySem.Challenge.cw_manypads_k93_machines_and_trees_written_holds
