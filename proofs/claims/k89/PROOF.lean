import PyProof.Rows.All
import Wide.All
import OpenK.AllK
import Wide.FinOn
import KE.KStateDown
import KE.KLam
import Lean
import HandS.ForMost
import HandS.ForExc
import HandS.ExcInit
import HandS.Defaults
import HandS.OwnEq
import HandS.IsInst
import HandS.FStr
import HandS.Style
import HandS.DictComp
import HandS.ClsMeth
import HandS.Star
import HandS.More
import HandS.Lambda
import HandS.Evl
import KE.KSuper
import HandS.HeadHook4
import HandS.Codes
import KE.KDictSum
import KE.KFmtOwn
import KE.KExcIs
import HandS.ExcField
import HandS.ExcValue
import HandS.Head0
import HandS.Head1
import HandS.Head2
import HandS.HeadEnd
import HandS.HeadWalk
import HandS.NestedK
import PySem.Challenge.RW_manypads_k89_parts_written_and_read_and
set_option Elab.async false
set_option linter.all false
set_option maxRecDepth 100000
set_option maxHeartbeats 4000000
/-! Kx1: short rules over the hand layer: defs, methods, classes by name; readings by cases; the two heaps. -/
namespace Mp
open PySem PySem.Spec PyProof.Rows L2
open StX (tMakeR run_makeR pe_makeR)

/-! ### readings by cases -/
section
variable {X : Cx} {e : Expr} {t u : TE}
theorem pe_orc (h : PE X e t) (h' : PE X e u) : PE X e (fun s H Q => t s H Q ∨ u s H Q) :=
  ⟨fun pins s σ H Q I q => q.elim (h.run pins s σ H Q I) (h'.run pins s σ H Q I)⟩
theorem pi_orc {tg l : Expr} {a b : TI} (h : PI X tg l a) (h' : PI X tg l b) : PI X tg l (fun s H R => a s H R ∨ b s H R) :=
  ⟨fun pins s σ H R I q => q.elim (h.run pins s σ H R I) (h'.run pins s σ H R I)⟩
end

/-! ### what may be called -/
section
variable (P : Program) (w : World) (K : PySem.W.Frag) (mg : Str → Option Value) (base : Heap)
/-- the module's def x keeps sp -/
structure Cal (x : Str) (k : Nat) (sp : Sp) : Prop where
  ex : ∃ f : Addr, FnR P w K mg base (L2.CX P w) k f sp ∧ mg x = some (.ref f) ∧ PySem.W.keepIn K (.ref f) = true
/-- instances of the class at C have the method m that keeps sp -/
structure Cmt (C : Addr) (m : Str) (k : Nat) (sp : Sp) : Prop where
  cl : Cls K C
  ex : ∃ f : Addr, FnR P w K mg base (L2.CX P w) k f sp ∧ Meth K C m f
/-- the module's class x is at C; its __init__ keeps sp -/
structure Cmk (x : Str) (C : Addr) (k : Nat) (sp : Sp) : Prop where
  ex : ∃ f : Addr, FnR P w K mg base (L2.CX P w) k f sp ∧ mg x = some (.ref C) ∧ Mk K C f
end
/-- f(..) -/
def tFn (sp : Sp) (E : XK) (t : TA) : TE := fun σ H Q => t σ H fun vs H1 => sp vs H1 Q E
/-- o.m(..) of an instance of the class at C -/
def tMt (C : Addr) (m : Str) (sp : Sp) (E : XK) (ta : TE) (t : TA) : TE := fun σ H Q => ta σ H fun x H1 => ∃ a dx fs, x = .ref a ∧ H1 a = some (.ins C dx fs) ∧ fs.lookup m = none ∧
  t σ H1 fun vs H2 => sp (x :: vs) H2 Q E
section
variable {X : Cx} {x m : Str} {k k0 : Nat} {sp : Sp} {E : XK} {p pos apos : Pos} {e o : Expr} {es : List Expr} {ta : TE} {t : TA} {C : Addr}
theorem pe_fn (F : Cal X.prog X.w X.K X.mg X.base x k sp) (hr : Room k0 X.A) (hx : Passes (L2.CX X.prog X.w) X E) (ha : PA X (e :: es) t) (hk : k ≤ k0 := by decide) (hg : Gl X x := by rfl)
    (hdb : (x == ("__debug__" : Str)) = false := by decide) (he : starEach (e :: es) X.env = (false, eval e X.env) :: starEach es X.env := by rfl) (hpl : (backTo pos (starEach es X.env)).any (·.1) = false := by rfl) :
    PE X (.Call (.Name x p) (e :: es) [] pos) (tFn sp E t) := by
  obtain ⟨f, G, hm, kp⟩ := F.ex
  refine ⟨fun pins s σ H Q I h => ?_⟩
  refine wpAny_Call_Name_kw (ld_glob I hg hm ?_ hdb)
  refine PySem.W.callWith_K (h₀ := X.base) I.ok.mod.kin kp (thn (ha.run pos pins s σ H _ I h) fun us s1 ⟨vs, H1, I1, r, q⟩ => ⟨I1.kIn, ?_⟩) he hpl
  exact wpAny_call (run_fnR G (hr.mono hk) hx I1 r q)
theorem pe_fn0 (F : Cal X.prog X.w X.K X.mg X.base x k sp) (hr : Room k0 X.A) (hx : Passes (L2.CX X.prog X.w) X E) (hk : k ≤ k0 := by decide) (hg : Gl X x := by rfl)
    (hdb : (x == ("__debug__" : Str)) = false := by decide) : PE X (.Call (.Name x p) [] [] pos) (tFn sp E tNil) := by
  obtain ⟨f, G, hm, kp⟩ := F.ex
  refine ⟨fun pins s σ H Q I h => ?_⟩
  refine wpAny_Call_Name_kw (ld_glob I hg hm ?_ hdb)
  exact PySem.W.callWith_K0 I.kIn kp (wpAny_call (run_fnR (us := []) G (hr.mono hk) hx I .nil h))
theorem pe_mt {pl : Sem Bool} (he : PE X o ta) (F : Cmt X.prog X.w X.K X.mg X.base C m k sp) (hr : Room k0 X.A) (hx : Passes (L2.CX X.prog X.w) X E) (ha : PA X (e :: es) t) (hk : k ≤ k0 := by decide)
    (hst : starEach (e :: es) X.env = (false, eval e X.env) :: starEach es X.env := by rfl) (hpl : (backTo pos (starEach es X.env)).any (·.1) = false := by rfl)
    (ht : eval (.Call (.Attribute o m apos) (e :: es) [] pos) X.env = (do
      let ov ← eval o X.env
      standAt apos.atName
      let (f, first) ← holding [ov] (getMethod ov m pl)
      callWith pos f first (backTo pos (starEach (e :: es) X.env)) (backToKw pos (keywordEach [] X.env))) := by rfl) :
    PE X (.Call (.Attribute o m apos) (e :: es) [] pos) (tMt C m sp E ta t) := by
  obtain ⟨f, G, hm⟩ := F.ex
  refine ⟨fun pins s σ H Q I h => ?_⟩
  refine PySem.W.methodCall_KW (pl := pl) (thn (he.run pins s σ H _ I h) fun u s1 ⟨x, H1, I1, rx, a, dx, fs, ex, hi, hl, q⟩ => ?_) ht
  subst ex
  obtain rfl : u = Value.ref a := rx
  refine getmeth_ok I1 hi F.cl hm hl ?_
  refine PySem.W.callWith_K (first := [.ref a]) (h₀ := X.base) I.ok.mod.kin hm.kp (thn (ha.run pos pins s1 σ H1 _ I1 q) fun us s2 ⟨ws, H2, I2, r, q2⟩ => ⟨I2.kIn, ?_⟩) hst hpl
  exact wpAny_call (run_fnR (us := .ref a :: us) (vs := .ref a :: ws) G (hr.mono hk) hx I2 (.cons rfl r) q2)
theorem pe_mt0 {pl : Sem Bool} (he : PE X o ta) (F : Cmt X.prog X.w X.K X.mg X.base C m k sp) (hr : Room k0 X.A) (hx : Passes (L2.CX X.prog X.w) X E) (hk : k ≤ k0 := by decide)
    (ht : eval (.Call (.Attribute o m apos) [] [] pos) X.env = (do
      let ov ← eval o X.env
      standAt apos.atName
      let (f, first) ← holding [ov] (getMethod ov m pl)
      callWith pos f first (backTo pos (starEach [] X.env)) (backToKw pos (keywordEach [] X.env))) := by rfl) :
    PE X (.Call (.Attribute o m apos) [] [] pos) (tMt C m sp E ta tNil) := by
  obtain ⟨f, G, hm⟩ := F.ex
  refine ⟨fun pins s σ H Q I h => ?_⟩
  refine PySem.W.methodCall_KW (pl := pl) (thn (he.run pins s σ H _ I h) fun u s1 ⟨x, H1, I1, rx, a, dx, fs, ex, hi, hl, q⟩ => ?_) ht
  subst ex
  obtain rfl : u = Value.ref a := rx
  refine getmeth_ok I1 hi F.cl hm hl ?_
  exact PySem.W.callWith_K0 (first := [.ref a]) I1.kIn hm.kp (wpAny_call (run_fnR (us := [.ref a]) (vs := [.ref a]) G (hr.mono hk) hx I1 (.cons rfl .nil) q))
theorem pe_mk (F : Cmk X.prog X.w X.K X.mg X.base x C k sp) (hr : Room k0 X.A) (hx : Passes (L2.CX X.prog X.w) X E) (ha : PA X (e :: es) t) (hk : k + 1 ≤ k0 := by decide) (hg : Gl X x := by rfl)
    (hdb : (x == ("__debug__" : Str)) = false := by decide) (he : starEach (e :: es) X.env = (false, eval e X.env) :: starEach es X.env := by rfl) (hpl : (backTo pos (starEach es X.env)).any (·.1) = false := by rfl) :
    PE X (.Call (.Name x p) (e :: es) [] pos) (tMakeR C sp E t) := by
  obtain ⟨f, G, hm, M⟩ := F.ex
  exact pe_makeR M G (hr.mono hk) hg hm hx ha hdb he hpl
theorem pe_mk0 (F : Cmk X.prog X.w X.K X.mg X.base x C k sp) (hr : Room k0 X.A) (hx : Passes (L2.CX X.prog X.w) X E) (hk : k + 1 ≤ k0 := by decide) (hg : Gl X x := by rfl)
    (hdb : (x == ("__debug__" : Str)) = false := by decide) : PE X (.Call (.Name x p) [] [] pos) (tMakeR C sp E tNil) := by
  obtain ⟨f, G, hm, M⟩ := F.ex
  refine ⟨fun pins s σ H Q I h => ?_⟩
  refine wpAny_Call_Name_kw (ld_glob I hg hm ?_ hdb)
  exact PySem.W.callWith_K0 I.kIn M.kp (run_makeR (us := []) M G (hr.mono hk) hx I .nil h)
end
section
variable {P : Program} {w : World} {K : PySem.W.Frag} {mg : Str → Option Value} {base : Heap} {x m : Str} {C : Addr} {k j : Nat} {sp sp' : Sp}
theorem Cal.imp (F : Cal P w K mg base x k sp) (h : ∀ vs H Q E, sp' vs H Q E → sp vs H Q E) : Cal P w K mg base x k sp' := by
  obtain ⟨f, G, r⟩ := F.ex
  exact ⟨f, G.imp h, r⟩
theorem Cal.mono (F : Cal P w K mg base x k sp) (h : k ≤ j) : Cal P w K mg base x j sp := by
  obtain ⟨f, G, r⟩ := F.ex
  exact ⟨f, G.mono h, r⟩
theorem Cmt.imp (F : Cmt P w K mg base C m k sp) (h : ∀ vs H Q E, sp' vs H Q E → sp vs H Q E) : Cmt P w K mg base C m k sp' := by
  obtain ⟨f, G, r⟩ := F.ex
  exact ⟨F.cl, f, G.imp h, r⟩
theorem Cmt.mono (F : Cmt P w K mg base C m k sp) (h : k ≤ j) : Cmt P w K mg base C m j sp := by
  obtain ⟨f, G, r⟩ := F.ex
  exact ⟨F.cl, f, G.mono h, r⟩
end

/-! ### exceptions of a callee go on -/
/-- in a def's body, with its own wish E -/
theorem passD {X : Cx} {E : XK} (hs : X.stack = X.env :: X.outer := by rfl) (hf : X.env.frame = some X.env.locals := by rfl) (hex : X.ex = [] := by rfl)
    (hx : X.xe = fun e s' => wpAny (model X.prog X.w) X.A (leaving X.env e) (fun _ s'' => L2.CX X.prog X.w X.outer X.H_0 X.s_0 E e s'') (fun e s'' => L2.CX X.prog X.w X.outer X.H_0 X.s_0 E e s'') s' := by rfl) : Passes (L2.CX X.prog X.w) X E :=
  passes_call (takes_of hs hf hex hx) fun _ _ _ _ z => z

/-! ### the heaps: G what stands for good, H all -/
abbrev Ex (H H' : Hp) : Prop := ∀ a o, H a = some o → H' a = some o
theorem Ex.rfl' {H : Hp} : Ex H H := fun _ _ h => h
theorem Ex.trans {H H1 H2 : Hp} (a : Ex H H1) (b : Ex H1 H2) : Ex H H2 := fun x o h => b x o (a x o h)
theorem Ex.new {H : Hp} {p : Addr} {o : HO} (h : H p = none) : Ex H (upd H p o) := fun a u e => by
  rw [upd_ne (ne_of_none e h)]
  exact e
theorem Ex.mut {H H' : Hp} {p : Addr} {o : HO} (e : Ex H H') (h : H p = none) : Ex H (upd H' p o) := fun a u ha => by
  rw [upd_ne (ne_of_none ha h)]
  exact e a u ha
theorem Ex.both {H H' : Hp} {p : Addr} {o : HO} (e : Ex H H') : Ex (upd H p o) (upd H' p o) := fun a u ha => by
  by_cases h : a = p
  · rw [h, upd_same] at ha ⊢
    exact ha
  · rw [upd_ne h] at ha ⊢
    exact e a u ha
theorem Ex.free {H H' : Hp} (e : Ex H H') {l : Addr} (h : H' l = none) : H l = none := by
  cases q : H l with
  | none => rfl
  | some o =>
    rw [e l o q] at h
    cases h
theorem Ex.pub {H H' : Hp} {p : Addr} {o : HO} (e : Ex H H') (h : H' p = some o) : Ex (upd H p o) H' := fun a u ha => by
  by_cases q : a = p
  · rw [q, upd_same] at ha
    rw [q, h]
    exact ha
  · rw [upd_ne q] at ha
    exact e a u ha
theorem Ex.rd {H H' : Hp} {a : Addr} {u : HO} (e : Ex H H') (h : Rd H a u) : Rd H' a u := by
  rcases h with h | ⟨o, h⟩
  · exact Or.inl (e a _ h)
  · exact Or.inr ⟨o, e a _ h⟩
theorem Ex.l {K : PySem.W.Frag} {H H' : Hp} {a : Addr} {xs : List V} (e : Ex H H') (h : SqL K H a xs) : SqL K H' a xs := h.elim (fun h => Or.inl (Ex.rd e h)) Or.inr
theorem Ex.t {K : PySem.W.Frag} {H H' : Hp} {a : Addr} {xs : List V} (e : Ex H H') (h : SqT K H a xs) : SqT K H' a xs := h.elim (fun h => Or.inl (Ex.rd e h)) Or.inr

/-- from (G, H) to (G', H'): what stood for good stands; of the rest, what M allows may have changed; what is new for good was not there before -/
structure Nx (M : Addr → Prop) (G H G' H' : Hp) : Prop where
  g : Ex G G'
  h : Ex G' H'
  fr : ∀ a, G a = none → H a ≠ none → G' a = none
  kp : ∀ a o, G a = none → H a = some o → ¬ M a → H' a = some o
  al : ∀ a, H a ≠ none → H' a ≠ none
abbrev M0 : Addr → Prop := fun _ => False
section
variable {M N : Addr → Prop} {G H G' H' G2 H2 : Hp} {p : Addr} {o : HO}
theorem Nx.refl (e : Ex G H) : Nx M G H G H := ⟨Ex.rfl', e, fun _ h _ => h, fun _ _ _ h _ => h, fun _ h => h⟩
theorem Nx.mono (n : Nx M G H G' H') (h : ∀ a, M a → N a) : Nx N G H G' H' := ⟨n.g, n.h, n.fr, fun a o g q z => n.kp a o g q fun m => z (h a m), n.al⟩
theorem Nx.trans (a : Nx M G H G' H') (b : Nx M G' H' G2 H2) : Nx M G H G2 H2 where
  g := Ex.trans a.g b.g
  h := b.h
  fr := fun x g h => b.fr x (a.fr x g h) (a.al x h)
  kp := fun x o g h m => b.kp x o (a.fr x g (by rw [h]; simp)) (a.kp x o g h m) m
  al := fun x h => b.al x (a.al x h)
theorem Nx.free (n : Nx M G H G' H') (h : H' p = none) : H p = none := by
  cases q : H p with
  | none => rfl
  | some o => exact absurd h (n.al p (by rw [q]; simp))
/-- a new thing that stays -/
theorem Nx.new (n : Nx M G H G' H') (hp : H' p = none) : Nx M G H (upd G' p o) (upd H' p o) where
  g := fun a u e => by
    rw [upd_ne (ne_of_none (n.g a u e) (Ex.free n.h hp))]
    exact n.g a u e
  h := Ex.both n.h
  fr := fun a g h => by
    have ne : a ≠ p := fun z => by rw [z] at h; exact h (n.free hp)
    rw [upd_ne ne]
    exact n.fr a g h
  kp := fun a u g h m => by
    have ne : a ≠ p := fun z => by rw [z, n.free hp] at h; cases h
    rw [upd_ne ne]
    exact n.kp a u g h m
  al := fun a h => by
    by_cases ne : a = p
    · rw [ne, upd_same]; simp
    · rw [upd_ne ne]; exact n.al a h
/-- a new thing of one's own -/
theorem Nx.own (n : Nx M G H G' H') (hp : H' p = none) : Nx M G H G' (upd H' p o) where
  g := n.g
  h := Ex.mut n.h (Ex.free n.h hp)
  fr := n.fr
  kp := fun a u g h m => by
    have ne : a ≠ p := fun z => by rw [z, n.free hp] at h; cases h
    rw [upd_ne ne]
    exact n.kp a u g h m
  al := fun a h => by
    by_cases ne : a = p
    · rw [ne, upd_same]; simp
    · rw [upd_ne ne]; exact n.al a h
/-- one's own thing is written -/
theorem Nx.set (n : Nx M G H G' H') (hg : G' p = none) (hp : H p = none ∨ M p) : Nx M G H G' (upd H' p o) where
  g := n.g
  h := Ex.mut n.h hg
  fr := n.fr
  kp := fun a u g h m => by
    have ne : a ≠ p := fun z => by
      rcases hp with hp | hp
      · rw [z, hp] at h; cases h
      · rw [z] at m; exact m hp
    rw [upd_ne ne]
    exact n.kp a u g h m
  al := fun a h => by
    by_cases ne : a = p
    · rw [ne, upd_same]; simp
    · rw [upd_ne ne]; exact n.al a h
/-- one's own thing stays from now on -/
theorem Nx.pub (n : Nx M G H G' H') (hg : G' p = none) (hp : H p = none) (h : H' p = some o) : Nx M G H (upd G' p o) H' where
  g := fun a u e => by
    rw [upd_ne (ne_of_none (n.g a u e) hg)]
    exact n.g a u e
  h := Ex.pub n.h h
  fr := fun a g h => by
    have ne : a ≠ p := fun z => by rw [z] at h; exact h hp
    rw [upd_ne ne]
    exact n.fr a g h
  kp := n.kp
  al := n.al
/-- one's own thing behind a callee -/
theorem Nx.keep (n : Nx M G H G' H') (hg : G p = none) (h : H p = some o) (m : ¬ M p) : G' p = none ∧ H' p = some o := ⟨n.fr p hg (by rw [h]; simp), n.kp p o hg h m⟩
end
end Mp

set_option maxHeartbeats 4000000
/-! Kx2: methods that capture __class__: super().__init__(..) -/
namespace Mp
open PySem PySem.Spec PyProof.Rows L2
open StX (tMakeR run_makeR pe_makeR)

/-- the names of a method that captures __class__ alone -/
structure ScS (N P : List Str) (sc : Scope) : Prop where
  kind : sc.kind = .function
  co : sc.isCoroutine = false
  gen : sc.isGenerator = false
  nd : N.Nodup
  pre : N.take P.length = P
  par : ∀ x ∈ P, sc.names.lookup x = some .local
  nocell : ∀ y ∈ sc.names, y.2 ≠ .cell
  free : ∀ y ∈ sc.names, y.2 = .free → y.1 = "__class__"
abbrev envS (qual : Str) (scope : Scope) (L f : Addr) (cd : Value) (cc : Addr) : Env := PySem.W.envX qual scope L f cd [("__class__", cc)]
/-- the context of its body -/
def cxS (P : Program) (w : World) (K : PySem.W.Frag) (mg : Str → Option Value) (base : Heap) (N : List Str) (qual : Str) (scope : Scope) (f : Addr) (cd : Value) (cc : Addr) (A : Around) (outer : List Env) (s : Shared) (H : Hp) (E : XK) : Cx where
  prog := P
  w := w
  K := K
  mg := mg
  base := base
  A := A.deeper (envS qual scope s.heap.objs.size f cd cc)
  N := N
  s_0 := s
  H_0 := H
  env := envS qual scope s.heap.objs.size f cd cc
  outer := outer
  stack := envS qual scope s.heap.objs.size f cd cc :: outer
  ex := []
  calm := true
  fn := fun x => !(x == ("__class__" : Str))
  pn := []
  xe := fun e s' => wpAny (model P w) (A.deeper (envS qual scope s.heap.objs.size f cd cc)) (leaving (envS qual scope s.heap.objs.size f cd cc) e) (fun _ s'' => L2.CX P w outer H s E e s'') (fun e' s'' => L2.CX P w outer H s E e' s'') s'

theorem rev_lookup {ps : List Str} {us : List Value} (nd : ps.Nodup) : ∀ {i : Nat} {x : Str} {u : Value}, ps[i]? = some x → us[i]? = some u → (ps.zip us).reverse.lookup x = some u := by
  intro i x u h1 h2
  have hm : (x, u) ∈ (ps.zip us).reverse := by
    rw [List.mem_reverse]
    refine List.mem_of_getElem? (i := i) ?_
    rw [List.getElem?_zip_eq_some]
    exact ⟨h1, h2⟩
  obtain ⟨u', e⟩ := mem_lookup hm
  have hm' : (x, u') ∈ (ps.zip us).reverse := PySem.mem_of_lookup e
  rw [List.mem_reverse] at hm'
  obtain ⟨j, hj⟩ := List.mem_iff_getElem?.mp hm'
  rw [List.getElem?_zip_eq_some] at hj
  have := nd_ix nd h1 hj.1
  subst this
  have hj2 := hj.2
  rw [h2] at hj2
  rw [e, ← (Option.some.inj hj2 : u = u')]

/-- a block of a method whose running code is known -/
structure PSA (X : Cx) (c : Code) (st : List Stmt) (t : TS) : Prop where
  run : ∀ (pins : List (Addr × Obj)) (s : Shared) (σ : L2.St) (H : Hp) (D : Ends), Inv X pins σ H s → t D σ H → _root_.PySem.wpAt (model X.prog X.w) X.A c (execs st X.env) (SP X pins D) X.xe s
section
variable {X : Cx} {c : Code} {st : Stmt} {rest : List Stmt} {t u : TS}
theorem psa_of (h : PSs X rest t) : PSA X c rest t := ⟨fun pins s σ H D I q => wpAt_of_wpAny (h.run pins s σ H D I q)⟩
theorem psa_cons (h1 : PS X st t) (h2 : PSA X c rest u) : PSA X c (st :: rest) (tSeq t u) := by
  refine ⟨fun pins s σ H D I h => ?_⟩
  refine PySem.ks_wpAt_execs_cons (wpAt_of_wpAny (thn (h1.run pins s σ H { D with nx := u D } I h) fun f s1 q => ?_))
  cases f with
  | next =>
    obtain ⟨σ', H', I', q⟩ := q
    exact h2.run pins s1 σ' H' D I' q
  | ret v => exact q
  | brk => exact q
  | cont => exact q
end
/-- what super().m(..) asks of the written part: the def at f, its first parameter, its code and its cell (the class at D), the class at C of the instance, the method at g -/
structure SupC (prog : Program) (K : PySem.W.Frag) (D f cc : Addr) (cd : Value) : Prop where
  fn : ∃ (oc : Value) (od : Option Addr) (fd : FuncData) (osl : Array (Option Value)) (ar : Arg), K.lookup f = some ⟨oc, od, .func fd, osl⟩ ∧ (fd.params.posonlyargs ++ fd.params.args).head? = some ar ∧ ar.arg = "self"
  code : ∃ (cda : Addr) (ccl : Value) (cdd : Option Addr) (vs : Array Value) (ccs : Array (Option Value)) (tf : Tok), cd = .ref cda ∧ K.lookup cda = some ⟨ccl, cdd, .fields vs, ccs⟩ ∧ vs[2]? = some (.str prog.main.file tf)
  cell : ∃ (cl : Value) (cld : Option Addr) (csl : Array (Option Value)), K.lookup cc = some ⟨cl, cld, .cell (some (.ref D)), csl⟩
  cls : ∃ cdD, PySem.W.clsIn K D = some cdD
  nosup : PySem.W.nsIn K mainGlobals "super" = some none
  top : (prog.main.scope.names.lookup ("super" : Str)).isSome = false
  opq : PySem.W.nsIn K PySem.cStatics "thirdparty.any" = some none
/-- the method m that super() finds from the class at D for an instance of the class at C: the def at g -/
structure SupM (K : PySem.W.Frag) (C D : Addr) (m : Str) (g : Addr) : Prop where
  sub : PySem.W.mroIn K C (.ref D) = some true
  at_ : PySem.W.ks_superIn K C D m = some (some (.ref g))
  fn : PySem.W.typeIn K (.ref g) = some (.type "function")
  fi : PySem.W.fnIn K g = true
/-- super().m(e, ..) as a statement; self at slot 0 -/
def tSup (K : PySem.W.Frag) (D : Addr) (m : Str) (G : Addr → Sp → Prop) (E : XK) (ta : TA) (u : TS) : TS := fun Dn σ H => ∃ (a C dx g : Addr) (fs : List (Str × V)) (sp : Sp), σ[0]? = some (some (.ref a)) ∧ H a = some (.ins C dx fs) ∧ SupM K C D m g ∧ G g sp ∧
  ta σ H fun vs H1 => sp (.ref a :: vs) H1 (fun _ H2 => u Dn σ H2) E
section
variable {P : Program} {w : World} {K : PySem.W.Frag} {mg : Str → Option Value} {base : Heap} {N ps : List Str} {qual : Str} {scope : Scope} {f : Addr} {cd : Value} {cc : Addr} {A : Around} {outer : List Env} {s : Shared} {H : Hp} {E : XK} {us : List Value} {vs : List V}
theorem inv_startS {h₁ : Heap} {tk : Nat} (S : ScS N ps scope) (hd : A.handled = none) (e0 : Env0 P w K mg base A outer s H) (hl : vs.length = ps.length) (r : Vals vs us)
    (hcc : ∃ (cl : Value) (cld : Option Addr) (v : Option Value) (csl : Array (Option Value)), K.lookup cc = some ⟨cl, cld, .cell v, csl⟩)
    (hns : h₁.Ns s.heap.objs.size fun x => (ps.zip us).reverse.lookup x) (hk : ∀ b o, s.heap.get? b = some o → h₁.get? b = some o) :
    Inv (cxS P w K mg base N qual scope f cd cc A outer s H E) [] (L2.start N vs) H { s with heap := h₁, toks := tk } := by
  have hpl : ps.length ≤ N.length := by have := congrArg List.length S.pre; rw [List.length_take] at this; omega
  have noA : ∀ b : Addr, b ∉ (cxS P w K mg base N qual scope f cd cc A outer s H E).ex := fun b z => absurd (show b ∈ ([] : List Addr) from z) (by simp)
  have cl1 : ∀ {x c}, (cxS P w K mg base N qual scope f cd cc A outer s H E).env.cells.lookup x = some c → x = "__class__" ∧ c = cc := fun {x c} h => by
    have h : (match x == ("__class__" : Str) with | true => some cc | false => ([] : List (Str × Addr)).lookup x) = some c := h
    cases q : x == ("__class__" : Str) with
    | true =>
      rw [q] at h
      exact ⟨beq_iff_eq.mp q, (Option.some.inj h).symm⟩
    | false =>
      rw [q] at h
      cases h
  obtain ⟨cl, cld, cv, csl, hcc⟩ := hcc
  have hcb : base.get? cc = some _ := e0.mod.kin _ _ hcc
  have hcs := e0.bs _ _ hcb
  refine ⟨⟨e0.mod, S.kind, rfl, rfl, Nat.le_refl _, fun y z c h1 h2 => (cl1 h1).1.trans (cl1 h2).1.symm, fun y hy => ?_, fun y c h0 h => ?_, fun _ => hd, Around.frames_deeper e0.frames, .inr ⟨rfl, rfl⟩, fun b z => absurd z (noA b), e0.bs, e0.bsz, fun b _ _ => noA b, fun b z => absurd z (noA b), e0.funs, e0.frf⟩,
    rfl, e0.bare, Un.kept hk, ⟨_, hns, fun i y v h1 h2 h3 => ?_⟩, fun y c h => ?_, e0.hok.fresh (Nat.le_refl _), fun y c h => ?_, fun p hp => absurd (show p ∈ ([] : List (Addr × Obj)) from hp) (by simp), e0.hok.kept hk, ?_⟩
  · have hy : scope.names.lookup y = some .cell ∨ scope.names.lookup y = some .free := hy
    rcases hy with hy | hy
    · exact absurd rfl (S.nocell _ (PySem.mem_of_lookup hy))
    · have e := S.free _ (PySem.mem_of_lookup hy) rfl
      have e : y = "__class__" := e
      subst e
      exact ⟨cc, rfl⟩
  · rw [(cl1 h).1] at h0
    have h0 : (!(("__class__" : Str) == ("__class__" : Str))) = true := h0
    simp at h0
  · have hi : i < vs.length := by
      unfold L2.start at h2
      by_cases hi : i < vs.length
      · exact hi
      · rw [List.getElem?_append_right (by simpa using hi)] at h2
        rw [List.getElem?_replicate] at h2
        split at h2 <;> cases h2
    have ha : vs[i]? = some v := by
      unfold L2.start at h2
      rw [List.getElem?_append_left (by simpa using hi), List.getElem?_map] at h2
      cases e : vs[i]? with
      | none => rw [e] at h2; cases h2
      | some a => rw [e] at h2; cases h2; rfl
    obtain ⟨u, hu, rv⟩ := r.get ha
    have hp : ps[i]? = some y := by
      rw [← S.pre, List.getElem?_take_of_lt (by omega)]; exact h1
    have ndP : ps.Nodup := by rw [← S.pre]; exact S.nd.sublist (List.take_sublist _ _)
    exact ⟨u, rv, .inl ⟨S.par y (List.mem_of_getElem? hp), rev_lookup ndP hp hu⟩⟩
  · rw [(cl1 h).2]
    exact ⟨cv, _, hk _ _ hcs.1, rfl⟩
  · rw [(cl1 h).2]
    exact hcs.2
  · unfold L2.start
    show _ = N.length
    rw [List.length_append, List.length_map, List.length_replicate]
    omega
/-- THE RULE for such a method -/
theorem fn_ofS {k : Nat} {name : Str} {params : Arguments} {body : List Stmt} {dV kV doc pm ct oc : Value} {an od : Option Addr} {osl : Array (Option Value)} {sp : Sp}
    (lk : K.lookup f = some ⟨oc, od, .func (PySem.W.fnX name qual params body scope [("__class__", cc)] dV kV doc pm an cd ct), osl⟩) (hcd : PySem.W.codeIn K cd qual = true) (S : ScS N ps scope)
    (hcc : ∃ (cl : Value) (cld : Option Addr) (v : Option Value) (csl : Array (Option Value)), K.lookup cc = some ⟨cl, cld, .cell v, csl⟩)
    (len : ∀ vs H Q E, sp vs H Q E → vs.length = ps.length)
    (hbody : ∀ (A : Around) (outer : List Env) (s : Shared) (H : Hp) (vs : List V) (Q : VK) (E : XK), Room k (A.deeper (envS qual scope s.heap.objs.size f cd cc)) → sp vs H Q E →
      ∃ t, PSA (cxS P w K mg base N qual scope f cd cc A outer s H E) (.func body (envS qual scope s.heap.objs.size f cd cc)) body t ∧ t { nx := fun _ H' => Q .non H', rt := Q } (L2.start N vs) H) :
    FnOk P w K mg base (L2.CX P w) (k + 1) f (PySem.W.fnX name qual params body scope [("__class__", cc)] dV kV doc pm an cd ct) ps sp := by
  refine ⟨len, fun A outer s H args us vs Q E hr e0 hb r hsp => ?_⟩
  have hl := len _ _ _ _ hsp
  have KX : K.In s.heap := e0.mod.kin.keeps fun b o e => (e0.bs b o e).1
  have lim : s.heap.NoLimit := e0.mod.nolimit.keeps fun b o e => (e0.bs b o e).1
  refine PySem.ks_codeAny_call_defAt (fd := PySem.W.fnX name qual params body scope [("__class__", cc)] dV kV doc pm an cd ct) (body := body) (binds := ps.zip us) hr.depth (KX _ _ lk) rfl lim (PySem.W.codeRec_of KX hcd) rfl hb S.nocell
    (fun y hy => S.par _ (List.of_mem_zip hy).1) (fun h₁ hns hk₁ => ?_) S.co S.gen S.kind
  obtain ⟨t, ht, hq⟩ := hbody A outer s H vs Q E (hr.deeper _) hsp
  have I : Inv (cxS P w K mg base N qual scope f cd cc A outer s H E) [] (L2.start N vs) H { s with heap := h₁, toks := s.toks + (ps.zip us).length } := inv_startS S hr.hd e0 hl r hcc hns hk₁
  refine PySem.ks_wpAt_mono (ht.run [] _ (L2.start N vs) H _ I hq) (fun fl s' hs => ?_) fun e s' hs => hs
  have fin : ∀ {σ' : L2.St} {H' : Hp} {v : V} {u : Value}, Inv (cxS P w K mg base N qual scope f cd cc A outer s H E) [] σ' H' s' → RelV v u → Q v H' → CE outer P w H s Q u s' :=
    fun {σ' H' v u} J rv q => ⟨v, H', J.os, J.bare, J.base, J.hok, rv, q⟩
  cases fl with
  | ret u =>
    obtain ⟨v, σ', H', J, rv, q⟩ := hs
    exact fin J rv q
  | next =>
    obtain ⟨σ', H', J, q⟩ := hs
    exact fin (v := V.non) (u := Value.none) J rfl q
  | brk =>
    obtain ⟨_, _, _, q⟩ := hs
    exact False.elim q
  | cont =>
    obtain ⟨_, _, _, q⟩ := hs
    exact False.elim q
end
/-- super().m(e, ..), then the rest -/
theorem psa_sup {P : Program} {w : World} {K : PySem.W.Frag} {mg : Str → Option Value} {base : Heap} {N : List Str} {qual : Str} {scope : Scope} {f : Addr} {cd : Value} {cc D : Addr} {A : Around} {outer : List Env} {s0 : Shared} {H0 : Hp} {E E' : XK} {body rest : List Stmt}
    {m : Str} {e : Expr} {es : List Expr} {p0 p1 p2 p3 pos : Pos} {ta : TA} {u : TS} {k k0 : Nat}
    (T : SupC P K D f cc cd) (hN : N[0]? = some ("self" : Str)) (hks : scope.names.lookup ("super" : Str) = some .globalImplicit) (hkc : scope.names.lookup ("__class__" : Str) = some .free) (hka : scope.names.lookup ("self" : Str) = some .local) (hk : scope.kind = .function)
    (hr : Room k0 (cxS P w K mg base N qual scope f cd cc A outer s0 H0 E).A) (hx : Passes (L2.CX P w) (cxS P w K mg base N qual scope f cd cc A outer s0 H0 E) E')
    (ha : PA (cxS P w K mg base N qual scope f cd cc A outer s0 H0 E) (e :: es) ta) (hrest : PSA (cxS P w K mg base N qual scope f cd cc A outer s0 H0 E) (.func body (envS qual scope s0.heap.objs.size f cd cc)) rest u) (hkk : k ≤ k0 := by decide)
    (hat : (m == ("__class__" : Str)) = false := by decide)
    (hst : starEach (e :: es) (envS qual scope s0.heap.objs.size f cd cc) = (false, eval e (envS qual scope s0.heap.objs.size f cd cc)) :: starEach es (envS qual scope s0.heap.objs.size f cd cc) := by rfl) (hpl : (backTo p3 (starEach es (envS qual scope s0.heap.objs.size f cd cc))).any (·.1) = false := by rfl)
    (hs : swapsWith (.Call (.Attribute (.Call (.Name "super" p0) [] [] p1) m p2) (e :: es) [] p3) none pos.line (envS qual scope s0.heap.objs.size f cd cc) = pure false := by rfl)
    (he : eval (.Call (.Attribute (.Call (.Name "super" p0) [] [] p1) m p2) (e :: es) [] p3) (envS qual scope s0.heap.objs.size f cd cc) = (do
      let ov ← attributeBase (.Call (.Name "super" p0) [] [] p1) m (envS qual scope s0.heap.objs.size f cd cc) (eval (.Call (.Name "super" p0) [] [] p1) (envS qual scope s0.heap.objs.size f cd cc))
      standAt p2.atName
      let (f', first) ← holding [ov] (getMethod ov m (pure false))
      callWith p3 f' first (backTo p3 (starEach (e :: es) (envS qual scope s0.heap.objs.size f cd cc))) []) := by rfl) :
    PSA (cxS P w K mg base N qual scope f cd cc A outer s0 H0 E) (.func body (envS qual scope s0.heap.objs.size f cd cc)) (.Expr (.Call (.Attribute (.Call (.Name "super" p0) [] [] p1) m p2) (e :: es) [] p3) pos :: rest)
      (tSup K D m (fun g sp => FnR P w K mg base (L2.CX P w) k g sp) E' ta u) := by
  refine ⟨fun pins s σ H Dn I h => ?_⟩
  obtain ⟨a, C, dx, g, fs, sp, hσ, hH, M, G, h⟩ := h
  obtain ⟨cda, ccl, cdd, vs2, ccs, tf, rfl, hcode, hvs⟩ := T.code
  obtain ⟨oc, od, fd, osl, ar, hf, hpar, har⟩ := T.fn
  obtain ⟨cl, cld, csl, hcell⟩ := T.cell
  obtain ⟨cdD, hD⟩ := T.cls
  obtain ⟨m0, hn, hl⟩ := I.loc
  obtain ⟨u0, r0, l0⟩ := hl 0 "self" _ hN hσ (.inl hka)
  obtain rfl : u0 = Value.ref a := r0
  have hself : m0 "self" = some (.ref a) := by
    rcases l0 with ⟨_, z⟩ | ⟨z, _⟩
    · exact z
    · have hka' : (envS qual scope s0.heap.objs.size f (.ref cda) cc).kindOf "self" = some .local := hka
      have z : (envS qual scope s0.heap.objs.size f (.ref cda) cc).kindOf "self" = some .cell ∨ (envS qual scope s0.heap.objs.size f (.ref cda) cc).kindOf "self" = some .free := z
      rw [hka'] at z
      rcases z with z | z <;> cases z
  obtain ⟨mA, O, _⟩ := ins_get I.hok hH
  obtain ⟨odA, J, _⟩ := O.look
  have X : K.In s.heap := I.kIn
  obtain ⟨mb, hb1, hb2⟩ := I.mod.blt
  refine PySem.ks_wpAt_execs_cons (PySem.ks_wpAt_Expr_any (PySem.ks_wpAt_MethodCall (pl := pure false) ?_ he) I.quiet hs)
  refine PySem.ks_wpAt_super_base (env := envS qual scope s0.heap.objs.size f (.ref cda) cc) hks hkc hat rfl (X _ _ hf) rfl hpar rfl (X _ _ hcode) rfl hvs (beq_self_eq_true _) T.top ?_
  rw [har]
  refine PySem.W.ks_loadName_global hk hks (Calls.loadGlobal_builtin (I.mod.glob.keeps I.bk) (PySem.W.mg_none_of I.mod.kin I.mod.glob T.nosup) (hb1.keeps I.bk) ((hb2 "super" (by decide)).trans (by rfl)) ⟨rfl, ?_⟩)
  refine wpAny_loadName_free hk hkc rfl ⟨_, X _ _ hcell, rfl⟩ ?_
  refine wpAny_loadName_local hk hka hn hself ?_
  obtain ⟨hh, gg, dd, tt, oo⟩ := s
  obtain ⟨oD, hD1, hD2⟩ : ∃ oD, hh.get? D = some oD ∧ oD.data = .cls cdD := by
    unfold PySem.W.clsIn at hD
    split at hD
    · rename_i c d cd' sl ho
      cases hD
      exact ⟨_, X _ _ ho, rfl⟩
    · cases hD
  refine PySem.ks_wpAny_isType_cls hD1 hD2 ⟨rfl, ?_⟩
  refine PySem.ks_wpAny_call_super hD1 hD2 J.at_ J.cls (fun c e => ?_) (PySem.W.looks_mroIn X M.sub) (fun h' e k => ?_)
  · have := J.no
    unfold PySem.W.notCls at this
    rw [e] at this
    exact Bool.noConfusion this
  have X' : K.In h' := X.keeps k
  obtain ⟨of, hof, hofc⟩ : ∃ of, h'.get? g = some of ∧ of.cls = .type "function" := by
    have ht' : (K.lookup g).map (·.cls) = some (.type "function") := M.fn
    cases z : K.lookup g with
    | none => rw [z] at ht'; cases ht'
    | some of => rw [z] at ht'; exact ⟨of, X' _ _ z, Option.some.inj ht'⟩
  cases hc : PySem.W.clsIn K C with
  | none => have hm := M.at_; unfold PySem.W.ks_superIn at hm; rw [hc] at hm; cases hm
  | some cd =>
    have hm := M.at_
    unfold PySem.W.ks_superIn at hm
    rw [hc] at hm
    refine PySem.ks_wpAny_getMethod_super e (PySem.W.looks_opaque X' T.opq) (l₀ := cd.mro) ?_ rfl X' hm hof hofc (PySem.W.ks_ne X J hc) hat ?_
    · exact fun A Q E s k q => wpAny_bind ((PySem.W.looks_clsIn X' hc) A _ E s k (wpAny_pure q))
    have hsz : hh.objs.size ≤ h'.objs.size := Nat.le_of_lt (Heap.lt_size e)
    have I1 : Inv (cxS P w K mg base N qual scope f (.ref cda) cc A outer s0 H0 E) ((h'.objs.size, PySem.W.methodObj (.ref g) (.ref a)) :: pins) σ H ⟨h'.push (PySem.W.methodObj (.ref g) (.ref a)), gg, dd, tt + 1, oo⟩ :=
      ClX.pin_new I (fun b o z => Heap.get?_push_of_some _ (k b o z)) hsz (Heap.get?_push_at rfl rfl) (fun v z => nomatch z)
    refine ClX.callwith_cm (X := cxS P w K mg base N qual scope f (.ref cda) cc A outer s0 H0 E) I1 (ClX.base_none I hsz) M.fi ?_ hst hpl
    refine thn (ha.run p3 _ _ σ H _ I1 h) fun us s1 ⟨ws, H1, I2, r, q⟩ => ⟨?_, ?_⟩
    · exact ⟨ClX.pin_at I2, I2.kIn⟩
    · refine thn (ClX.run_cm G (hr.mono hkk) hx I2 r q) fun v s2 ⟨x, H2, I3, r3, q3⟩ => ?_
      exact hrest.run pins s2 σ H2 Dn I3 q3
end Mp

set_option maxHeartbeats 4000000
/-! Kx3: promises by arity; a def, a method, an __init__ from their bodies; x == [] -/
namespace Mp
open PySem PySem.Spec PyProof.Rows L2
open StX (tMakeR run_makeR pe_makeR)

/-! ### promises by arity -/
def sp0 (R : Hp → VK → XK → Prop) : Sp := fun vs H Q E => match vs with
  | [] => R H Q E
  | _ => False
def sp1 (R : V → Hp → VK → XK → Prop) : Sp := fun vs H Q E => match vs with
  | [a] => R a H Q E
  | _ => False
def sp2 (R : V → V → Hp → VK → XK → Prop) : Sp := fun vs H Q E => match vs with
  | [a, b] => R a b H Q E
  | _ => False
def sp3 (R : V → V → V → Hp → VK → XK → Prop) : Sp := fun vs H Q E => match vs with
  | [a, b, c] => R a b c H Q E
  | _ => False
def sp4 (R : V → V → V → V → Hp → VK → XK → Prop) : Sp := fun vs H Q E => match vs with
  | [a, b, c, d] => R a b c d H Q E
  | _ => False
def sp5 (R : V → V → V → V → V → Hp → VK → XK → Prop) : Sp := fun vs H Q E => match vs with
  | [a, b, c, d, e] => R a b c d e H Q E
  | _ => False

section
variable {P : Program} {w : World} {K : PySem.W.Frag} {mg : Str → Option Value} {base : Heap} {n x qual : Str} {params : Arguments} {body : List Stmt} {scope : Scope} {kws : List (Str × V)} {f : Addr} {fd : FuncData} {N ps : List Str} {k : Nat} {sp : Sp}
/-- what a body is to show -/
abbrev Bod (P : Program) (w : World) (K : PySem.W.Frag) (mg : Str → Option Value) (base : Heap) (qual : Str) (scope : Scope) (body : List Stmt) (f : Addr) (N : List Str) (k : Nat) (sp : Sp) : Prop :=
  ∀ (cdv : Value) (A : Around) (outer : List Env) (s : Shared) (H : Hp) (vs : List V) (Q : VK) (E : XK), Room k (A.deeper (envOfC qual scope s.heap.objs.size f cdv)) → sp vs H Q E →
      ∃ t, PSs (cxOf (L2.CX P w) P w K mg base N qual scope f cdv A outer s H E) body t ∧ t { nx := fun _ H' => Q .non H', rt := Q } (L2.start N vs) H
abbrev BindN (qual : Str) (n : Str) (params : Arguments) (body : List Stmt) (scope : Scope) (ps : List Str) : Prop :=
  ∀ (kV doc pm : Value) (an : Option Addr) (cdv ct : Value) (us : List Value), us.length = ps.length → bindArgs (PySem.W.fnOf n qual params body scope .none kV doc pm an cdv ct) ⟨us, []⟩ = pure (ps.zip us)
theorem fnr_of (F : FunD K n qual params body scope [] kws f fd) (S : FnScope N ps scope) (hb : BindN qual n params body scope ps) (len : ∀ vs H Q E, sp vs H Q E → vs.length = ps.length)
    (hbody : Bod P w K mg base qual scope body f N k sp) : FnR P w K mg base (L2.CX P w) (k + 1) f sp := by
  have G := F.ok (P := P) (w := w) (mg := mg) (base := base) (CX := L2.CX P w) S len hbody
  have b : Binds K fd ps [] := F.bindsN hb
  refine (G.raw b .nil).imp fun vs H Q E h => ?_
  show sp (vs ++ []) H Q E
  rw [List.append_nil]
  exact h
theorem cal_of (F : FunD K n qual params body scope [] kws f fd) (hm : mg x = some (.ref f)) (S : FnScope N ps scope) (hb : BindN qual n params body scope ps) (len : ∀ vs H Q E, sp vs H Q E → vs.length = ps.length)
    (hbody : Bod P w K mg base qual scope body f N k sp) : Cal P w K mg base x (k + 1) sp := ⟨f, fnr_of F S hb len hbody, hm, F.kp⟩
theorem cmt_of {C : Addr} (F : FunD K n qual params body scope [] kws f fd) (cl : Cls K C) (hm : Meth K C x f) (S : FnScope N ps scope) (hb : BindN qual n params body scope ps) (len : ∀ vs H Q E, sp vs H Q E → vs.length = ps.length)
    (hbody : Bod P w K mg base qual scope body f N k sp) : Cmt P w K mg base C x (k + 1) sp := ⟨cl, f, fnr_of F S hb len hbody, hm⟩
theorem cmk_of {C : Addr} (F : FunD K n qual params body scope [] kws f fd) (hg : mg x = some (.ref C)) (hm : Mk K C f) (S : FnScope N ps scope) (hb : BindN qual n params body scope ps) (len : ∀ vs H Q E, sp vs H Q E → vs.length = ps.length)
    (hbody : Bod P w K mg base qual scope body f N k sp) : Cmk P w K mg base x C (k + 1) sp := ⟨f, fnr_of F S hb len hbody, hg, hm⟩
end

/-! ### expressions -/
section
variable {X : Cx} {o e : Expr} {to te : TE} {apos cpos : Pos}
theorem pe_append (ho : PE X o to) (he : PE X e te) (hbase : attributeBase o "append" X.env (eval o X.env) = eval o X.env := by rfl)
    (hfew : ((backTo cpos (starEach [e] X.env)).all (fun x => !x.1) && (backToKw cpos (keywordEach [] X.env)).all (fun x => x.1.isSome)
      && decide ([e].length + ([] : List Keyword).length + (if ([] : List Keyword).isEmpty then 0 else 1) < 30)) = true := by rfl)
    (hline : (apos.endLine == cpos.line) = true := by rfl) (hs : starEach [e] X.env = [(false, eval e X.env)] := by rfl) (hplain : (backTo cpos (starEach [] X.env)).any (·.1) = false := by rfl) :
    PE X (.Call (.Attribute o "append" apos) [e] [] cpos) (tBM X.K "list" rAppend to (tCons te tNil)) :=
  pe_bm PySem.F.plainAttrs_list PySem.F.slot_list_append PySem.F.type_list_append mt_append ho (pa_cons he pa_nil hs) hbase hfew hline hs hplain
/-- xs == [], whatever xs holds -/
def rEqNil (K : PySem.W.Frag) : R2 := fun x y H Q => ∃ a b xs, x = .ref a ∧ y = .ref b ∧ SqL K H a xs ∧ SqL K H b [] ∧ Q (.bl xs.isEmpty) H
theorem op_eqNil {X : Cx} (hu : X.A.units < cLine) : OpR X (compareOp .Eq) (rEqNil X.K) := by
  intro pins s σ H x y v u Q I rx ry h
  obtain ⟨a, b, xs, rfl, rfl, h1, h2, q⟩ := h
  obtain ⟨its, rv, l1, z1⟩ := I.list h1
  obtain ⟨its2, rv2, l2, z2⟩ := I.list h2
  cases rx
  cases ry
  have e2 := rv2.length
  have e1 := rv.length
  by_cases hz : xs = []
  · subst hz
    refine PySem.SeqAt.eq_listAt (e := fun _ => true) l1.isList l2.isList (by simp; simp at e1 e2; omega) hu (fun j h1 _ => ?_) ⟨.bl _, H, I, ?_, q⟩
    · simp at h1 e1; omega
    · show Value.bool _ = Value.bool _
      simp at e1
      simp [← e1]
  · refine PySem.SeqAt.eq_list_lengthsAt l1.isList l2.isList ?_ hu ⟨.bl _, H, I, ?_, q⟩
    · have : xs.length ≠ 0 := fun z => hz (List.eq_nil_of_length_eq_zero z)
      simp at e1 e2 ⊢
      omega
    · show Value.bool _ = Value.bool _
      cases xs with
      | nil => exact absurd rfl hz
      | cons _ _ => rfl
end

/-! ### texts by lists -/
def S (l : List Nat) : Str := ⟨l.toArray⟩
theorem S_len (l : List Nat) : (S l).length = l.length := by simp [S, Str.length]
theorem S_app (a b : List Nat) : S a ++ S b = S (a ++ b) := by
  show Str.append (S a) (S b) = _
  simp [S, Str.append]
theorem S_cps (l : List Nat) : (S l).cps.toList = l := by simp [S]
theorem S_inj {a b : List Nat} : S a = S b ↔ a = b := by
  constructor
  · intro h
    have := congrArg (fun z : Str => z.cps.toList) h
    simpa [S] using this
  · intro h; rw [h]
theorem S_of (z : Str) : z = S z.cps.toList := by simp [S]
theorem S_beq (a b : List Nat) : (S a == S b) = (a == b) := by
  rw [Bool.eq_iff_iff]
  simp [S_inj]
end Mp

set_option maxHeartbeats 4000000
/-! Kr: rules of the hand layer with the written part by name -/
namespace Mp
open PySem PySem.Spec PyProof.Rows L2
section
variable {X : Cx} {K : PySem.W.Frag}
theorem k_len (h : X.K = K) : CallR X (.builtin "len") (fun xs H Q => ∃ x n, xs = [x] ∧ LenV K x H n ∧ Q (.int n) H) := h ▸ call_len
theorem k_list_of (h : X.K = K) : CallR X (.type "list") (fun xs H Q => ∃ p ys, xs = [.ref p] ∧ (SqL K H p ys ∨ SqT K H p ys) ∧ ∀ l, H l = none → Q (.ref l) (upd H l (.lst ys))) := h ▸ call_list_of
theorem k_tuple_of (h : X.K = K) : CallR X (.type "tuple") (fun xs H Q => ∃ p ys, xs = [.ref p] ∧ ((SqL K H p ys ∧ ∀ l, H l = none → Q (.ref l) (upd H l (.tup ys))) ∨ (SqT K H p ys ∧ Q (.ref p) H))) := h ▸ call_tuple_of
theorem k_all (h : X.K = K) (hc : X.calm = true) : CallR X (.builtin "all") (rAll K) := h ▸ cr_all hc
theorem k_any (h : X.K = K) (hc : X.calm = true) : CallR X (.builtin "any") (rAny K) := h ▸ cr_any hc
theorem k_isi (h : X.K = K) : CallR X (.builtin "isinstance") (rIsi K) := h ▸ call_isi
theorem k_isiT (h : X.K = K) : CallR X (.builtin "isinstance") (rIsiT K) := h ▸ call_isiT
theorem k_in_seq (h : X.K = K) : OpR X (compareOp .In) (rIn K false) := h ▸ op_in_seq
theorem k_notIn_seq (h : X.K = K) : OpR X (compareOp .NotIn) (rIn K true) := h ▸ op_notIn_seq
theorem k_eqD (h : X.K = K) (hu : X.A.units + 64 < cLine) : OpR X (compareOp .Eq) (rEqD K) := h ▸ op_eqD hu
theorem k_neD (h : X.K = K) (hu : X.A.units + 64 < cLine) : OpR X (compareOp .NotEq) (rNeD K) := h ▸ op_neD hu
theorem k_eqNil (h : X.K = K) (hu : X.A.units < cLine) : OpR X (compareOp .Eq) (rEqNil K) := h ▸ op_eqNil hu
theorem k_catT (h : X.K = K) : OpR X (binaryOp .Add) (rCatT K) := h ▸ op_catT
theorem k_ix_list (h : X.K = K) : IxR X (rIxL K) := h ▸ ix_list
theorem k_ix_tup (h : X.K = K) : IxR X (rIxT K) := h ▸ ix_tup
theorem k_sl_list (h : X.K = K) : SlR X (rSlL K) := h ▸ sl_list
theorem k_sl_tup (h : X.K = K) : SlR X (rSlT K) := h ▸ sl_tup
section
variable {e o value : Expr} {f : Str} {ta tv : TE} {pos pos' tpos : Pos}
theorem k_fld (h : X.K = K) (he : PE X e ta) (hb : attributeBase e f X.env (eval e X.env) = eval e X.env := by rfl) : PE X (.Attribute e f pos) (tFld K ta f) := h ▸ pe_fld he hb
theorem k_cval (h : X.K = K) (he : PE X e ta) (hb : attributeBase e f X.env (eval e X.env) = eval e X.env := by rfl) : PE X (.Attribute e f pos) (ClX.tCVal K ta f) := h ▸ ClX.pe_cval he hb
theorem ks_fld (h : X.K = K) (ha : PE X o ta) (hv : PE X value tv) (hs : swapsWith value (some (.Attribute o f pos')) pos.line X.env = pure false := by rfl) : PS X (.Assign [.Attribute o f pos'] value pos) (sFld K ta tv f) := h ▸ ps_fld ha hv hs
theorem ks_fldaug (h : X.K = K) {op : Operator} {rd : V → V → Hp → VK → Prop} (ha : PE X o ta) (hv : PE X value tv) (hop : InOp X op rd) : PS X (.AugAssign (.Attribute o f tpos) op value pos) (sFldAug K ta tv rd f) := h ▸ ps_fldaug ha hv hop
def tTru (K : PySem.W.Frag) (ta : TE) : TT := fun σ H Q => ta σ H fun x H' => ∃ k, TruV K x H' k ∧ Q k H'
theorem k_truth (h : X.K = K) (ha : PE X e ta) (he : ∀ whole, isTrue e X.env whole = (do let v ← whole; standAt e.pos; holding [v] (truthy v)) := by intro _; rfl) : PT X e (tTru K ta) := by
  subst h
  exact pt_truth ha he
theorem k_revL (h : X.K = K) {k : Nat} {p1 p2 p3 : Pos} (he : PE X e ta) : PE X (.Subscript e (.Slice none none (some (.UnaryOp .USub (.Constant (.int 1) k p1) p2)) p3) pos) (tRevL K ta) := h ▸ pe_revL he
end
section
variable {o e : Expr} {to te : TE} {apos cpos : Pos}
theorem k_append (h : X.K = K) (ho : PE X o to) (he : PE X e te) (hbase : attributeBase o "append" X.env (eval o X.env) = eval o X.env := by rfl)
    (hfew : ((backTo cpos (starEach [e] X.env)).all (fun x => !x.1) && (backToKw cpos (keywordEach [] X.env)).all (fun x => x.1.isSome)
      && decide ([e].length + ([] : List Keyword).length + (if ([] : List Keyword).isEmpty then 0 else 1) < 30)) = true := by rfl)
    (hline : (apos.endLine == cpos.line) = true := by rfl) (hs : starEach [e] X.env = [(false, eval e X.env)] := by rfl) (hplain : (backTo cpos (starEach [] X.env)).any (·.1) = false := by rfl) :
    PE X (.Call (.Attribute o "append" apos) [e] [] cpos) (tBM K "list" rAppend to (tCons te tNil)) := h ▸ pe_append ho he hbase hfew hline hs hplain
def rJoin (K : PySem.W.Frag) : V → List V → Hp → VK → Prop := fun x xs H Q => ∃ a p, ∃ ys : List Str, x = .str a ∧ xs = [.ref p] ∧ (SqL K H p (ys.map V.str) ∨ SqT K H p (ys.map V.str)) ∧
      (ys.map (·.length)).sum + ys.length * a.length ≤ 16777216 ∧ Q (.str (Txt.join a ys)) H
theorem k_join (h : X.K = K) {apos pos : Pos} (ho : PE X o to) (he : PE X e te) (hs : starEach [e] X.env = [(false, eval e X.env)] := by rfl) (hbase : attributeBase o "join" X.env (eval o X.env) = eval o X.env := by rfl) (hline : (apos.endLine == pos.line) = true := by rfl) :
    PE X (.Call (.Attribute o "join" apos) [e] [] pos) (tM1 (rJoin K) to te) := by
  subst h
  exact pe_join ho he hs hbase hline
end
section
variable {tg l e : Expr} {tl : TE} {ta : TA} {p pos tpos : Pos} {elts es : List Expr} {kk n : Nat} {t : TGs}
theorem k_pi_list (h : X.K = K) (hl : PE X l tl) : PI X tg l (iList K tl) := h ▸ pi_list hl
theorem k_pi_tup (h : X.K = K) (hl : PE X l tl) : PI X tg l (iTup K tl) := h ▸ pi_tup hl
theorem k_pi_enum (h : X.K = K) (hg : Gl X "enumerate") (hm : X.mg "enumerate" = none) (ha : PA X [e] ta) (hs : starEach [e] X.env = [(false, eval e X.env)] := by rfl) : PI X (.Tuple elts kk tpos) (.Call (.Name "enumerate" p) [e] [] pos) (iEnum K ta) := h ▸ pi_enum hg hm ha hs
theorem k_pg_tup (h : X.K = K) (hc : X.calm = true) (hp : PGs X es t) (hn : (assignEach es X.env).length = n := by rfl) (hst : (assignEach es X.env).findIdx? (·.1) = none := by rfl) : PG X (.Tuple es kk pos) (gTup K n t) := h ▸ pg_tup hc hp hn hst
end
end
end Mp

set_option maxHeartbeats 4000000
/-! Kd: the text's defs, what the head says -/
namespace Mp
open PySem PySem.Spec PyProof.Rows L2
open StX (tMakeR run_makeR pe_makeR)
open He (ga ma fAd)
/-- an instance's type, for isinstance -/
structure TyF (K : PySem.W.Frag) (C : Addr) : Prop where
  ha : PySem.W.findIn K (.ref C) "__class__" = some (some (.builtin "object.__class__"))
  hn : PySem.W.specialIn K (.builtin "object.__class__") "__get__" = some (some (.builtin "getset_descriptor.__get__"))
  htk : PySem.W.takesIn K (.builtin "object.__class__") = some true
  hm : PySem.W.mroIn K C (.type "object") = some true
theorem TyF.ty {K : PySem.W.Frag} {C dx a : Addr} {fs : List (Str × V)} {H : Hp} (t : TyF K C) (cl : Cls K C) (e : H a = some (.ins C dx fs)) : TyX K H (.ref a) (.ref C) := .base (.ins e cl t.ha t.hn t.htk t.hm)
section
variable {X : Cx} {x : Str} {pos : Pos}
theorem pe_gstr {z : Str} (h : ∃ t, X.mg x = some (.str z t)) (hg : Gl X x := by rfl) (hd : (x == ("__debug__" : Str)) = false := by decide) : PE X (.Name x pos) (tC (.str z)) := by
  obtain ⟨t, h⟩ := h
  exact pe_glob hg h ⟨t, rfl⟩ hd
theorem pe_gref {a : Addr} (h : X.mg x = some (.ref a)) (hg : Gl X x := by rfl) (hd : (x == ("__debug__" : Str)) = false := by decide) : PE X (.Name x pos) (tC (.ref a)) := pe_glob hg h rfl hd
theorem pe_gint {i : Int} (h : ∃ t, X.mg x = some (.int i t)) (hg : Gl X x := by rfl) (hd : (x == ("__debug__" : Str)) = false := by decide) : PE X (.Name x pos) (tC (.int i)) := by
  obtain ⟨t, h⟩ := h
  exact pe_glob hg h ⟨t, rfl⟩ hd
end
def top (i : Nat) : Stmt := PySem.Challenge.pw_manypads_k89_parts_written_and_read_and.main.body.getD i (.Pass ⟨0, 0, 0, 0⟩)
abbrev s_is_whole : Stmt := top 14
abbrev s_is_between : Stmt := top 15
abbrev s_is_name : Stmt := top 16
abbrev s_need_pairs : Stmt := top 22
abbrev s_depth_over : Stmt := top 23
abbrev s_pair_texts : Stmt := top 24
abbrev s_Part___init__ : Stmt := inClass (top 25) 1
abbrev s_Part___eq__ : Stmt := inClass (top 25) 11
abbrev s_Part___str__ : Stmt := inClass (top 25) 12
abbrev s_Kind___init__ : Stmt := inClass (top 26) 0
abbrev s_Kind_shape : Stmt := inClass (top 26) 2
abbrev s_Kind_text : Stmt := inClass (top 26) 3
abbrev s_Byte___init__ : Stmt := inClass (top 27) 0
abbrev s_Byte_shape : Stmt := inClass (top 27) 1
abbrev s_Byte_text : Stmt := inClass (top 27) 2
abbrev s_Use___init__ : Stmt := inClass (top 28) 0
abbrev s_Use_shape : Stmt := inClass (top 28) 2
abbrev s_Use_text : Stmt := inClass (top 28) 3
abbrev s_Group___init__ : Stmt := inClass (top 29) 0
abbrev s_Row___init__ : Stmt := inClass (top 31) 1
abbrev s_Row_shape : Stmt := inClass (top 31) 4
abbrev s_Row_text : Stmt := inClass (top 31) 5
abbrev s_Record___init__ : Stmt := inClass (top 32) 1
abbrev s_Record_shape : Stmt := inClass (top 32) 4
abbrev s_Record_text : Stmt := inClass (top 32) 5
abbrev s_Overlay___init__ : Stmt := inClass (top 33) 1
abbrev s_Overlay_shape : Stmt := inClass (top 33) 4
abbrev s_Overlay_text : Stmt := inClass (top 33) 5
abbrev s_is_letter : Stmt := top 38
abbrev s_is_figure : Stmt := top 39
abbrev s_begins_one : Stmt := top 40
abbrev s_Cursor___init__ : Stmt := inClass (top 41) 0
abbrev s_Cursor_upcoming : Stmt := inClass (top 41) 1
abbrev s_Cursor_refuse : Stmt := inClass (top 41) 2
abbrev s_Cursor_finish : Stmt := inClass (top 41) 3
abbrev s_Cursor_skips : Stmt := inClass (top 41) 4
abbrev s_Cursor_expect : Stmt := inClass (top 41) 5
abbrev s_Cursor_word_of : Stmt := inClass (top 41) 6
abbrev s_Cursor_name_unlike : Stmt := inClass (top 41) 7
abbrev s_Cursor_number_to : Stmt := inClass (top 41) 9
abbrev s_read_named : Stmt := top 43
abbrev s_read_row : Stmt := top 44
abbrev s_read_inner : Stmt := top 45
abbrev s_read_part : Stmt := top 47
abbrev s__law_pen : Stmt := top 49
abbrev s__law_draw : Stmt := top 50
abbrev s__law_pick : Stmt := top 51
abbrev s__law_names : Stmt := top 52
abbrev s__law_part : Stmt := top 53
abbrev s__law_text : Stmt := top 54
abbrev s__law_plan : Stmt := top 55
abbrev s__law_signs : Stmt := top 56
abbrev s__law_kinds : Stmt := top 57
abbrev s__law_part_one : Stmt := top 58
abbrev s__law_heard : Stmt := top 59
abbrev s__law_known : Stmt := top 60
abbrev s__law_bent_right : Stmt := top 61
abbrev s__law_part_two : Stmt := top 62
abbrev s_law : Stmt := top 63
abbrev s_BadText___init__ : Stmt := inClass (top 8) 0
/-- what the head says -/
structure Zk (K : PySem.W.Frag) (mg : Str → Option Value) (base : Heap) : Prop where
  kin : K.In base
  glob : base.Ns mainGlobals mg
  b_len : mg "len" = none
  b_isinstance : mg "isinstance" = none
  b_int : mg "int" = none
  b_bool : mg "bool" = none
  b_all : mg "all" = none
  b_any : mg "any" = none
  b_range : mg "range" = none
  b_str : mg "str" = none
  b_list : mg "list" = none
  b_tuple : mg "tuple" = none
  b_abs : mg "abs" = none
  b_enumerate : mg "enumerate" = none
  b_super : mg "super" = none
  g_is_whole : mg "is_whole" = some (.ref (ga K "is_whole"))
  g_is_between : mg "is_between" = some (.ref (ga K "is_between"))
  g_is_name : mg "is_name" = some (.ref (ga K "is_name"))
  g_need_pairs : mg "need_pairs" = some (.ref (ga K "need_pairs"))
  g_depth_over : mg "depth_over" = some (.ref (ga K "depth_over"))
  g_pair_texts : mg "pair_texts" = some (.ref (ga K "pair_texts"))
  g_is_letter : mg "is_letter" = some (.ref (ga K "is_letter"))
  g_is_figure : mg "is_figure" = some (.ref (ga K "is_figure"))
  g_begins_one : mg "begins_one" = some (.ref (ga K "begins_one"))
  g_read_named : mg "read_named" = some (.ref (ga K "read_named"))
  g_read_row : mg "read_row" = some (.ref (ga K "read_row"))
  g_read_inner : mg "read_inner" = some (.ref (ga K "read_inner"))
  g_read_part : mg "read_part" = some (.ref (ga K "read_part"))
  g__law_pen : mg "_law_pen" = some (.ref (ga K "_law_pen"))
  g__law_draw : mg "_law_draw" = some (.ref (ga K "_law_draw"))
  g__law_pick : mg "_law_pick" = some (.ref (ga K "_law_pick"))
  g__law_names : mg "_law_names" = some (.ref (ga K "_law_names"))
  g__law_part : mg "_law_part" = some (.ref (ga K "_law_part"))
  g__law_text : mg "_law_text" = some (.ref (ga K "_law_text"))
  g__law_plan : mg "_law_plan" = some (.ref (ga K "_law_plan"))
  g__law_signs : mg "_law_signs" = some (.ref (ga K "_law_signs"))
  g__law_kinds : mg "_law_kinds" = some (.ref (ga K "_law_kinds"))
  g__law_part_one : mg "_law_part_one" = some (.ref (ga K "_law_part_one"))
  g__law_heard : mg "_law_heard" = some (.ref (ga K "_law_heard"))
  g__law_known : mg "_law_known" = some (.ref (ga K "_law_known"))
  g__law_bent_right : mg "_law_bent_right" = some (.ref (ga K "_law_bent_right"))
  g__law_part_two : mg "_law_part_two" = some (.ref (ga K "_law_part_two"))
  g_law : mg "law" = some (.ref (ga K "law"))
  g_Part : mg "Part" = some (.ref (ga K "Part"))
  g_Cursor : mg "Cursor" = some (.ref (ga K "Cursor"))
  g_BadText : mg "BadText" = some (.ref (ga K "BadText"))
  g_PadError : mg "PadError" = some (.ref (ga K "PadError"))
  g_BARRED : mg "BARRED" = some (.ref (ga K "BARRED"))
  g_Kind : mg "Kind" = some (.ref (ga K "Kind"))
  g_Byte : mg "Byte" = some (.ref (ga K "Byte"))
  g_Use : mg "Use" = some (.ref (ga K "Use"))
  g_Row : mg "Row" = some (.ref (ga K "Row"))
  g_Record : mg "Record" = some (.ref (ga K "Record"))
  g_Overlay : mg "Overlay" = some (.ref (ga K "Overlay"))
  v_LETTERS_names : ∃ t, mg "LETTERS_names" = some (.str "abcdefghijklmnopqrstuvwxyz" t)
  v_LETTERS_cursors : ∃ t, mg "LETTERS_cursors" = some (.str "abcdefghijklmnopqrstuvwxyz" t)
  v_FIGURES_cursors : ∃ t, mg "FIGURES_cursors" = some (.str "0123456789" t)
  v_LONGEST : ∃ t, mg "LONGEST" = some (.int 8 t)
  v_LONGEST_NAME : ∃ t, mg "LONGEST_NAME" = some (.int 8 t)
  v_MOST_TIMES : ∃ t, mg "MOST_TIMES" = some (.int 8 t)
  t_BARRED : ∀ H, SqT K H (ga K "BARRED") [.str "byte", .str "size", .str "align", .str "place", .str "end", .str "packed", .str "and", .str "or", .str "not", .str "yes", .str "no", .str "for", .str "nogap", .str "notail", .str "leaf"]
  k_Part_DEPTH : ∃ mc u, ClX.CRead K (ga K "Part") mc ∧ ClX.CVal K (ga K "Part") mc "DEPTH" (.int 4) u
  k_Row_MOST : ∃ mc u, ClX.CRead K (ga K "Row") mc ∧ ClX.CVal K (ga K "Row") mc "MOST" (.int 64) u
  k_Record_MOST : ∃ mc u, ClX.CRead K (ga K "Record") mc ∧ ClX.CVal K (ga K "Record") mc "MOST" (.int 8) u
  k_Overlay_MOST : ∃ mc u, ClX.CRead K (ga K "Overlay") mc ∧ ClX.CVal K (ga K "Overlay") mc "MOST" (.int 4) u
  cls_Kind : Cls K (ga K "Kind")
  ty_Kind : TyF K (ga K "Kind")
  cls_Byte : Cls K (ga K "Byte")
  ty_Byte : TyF K (ga K "Byte")
  cls_Use : Cls K (ga K "Use")
  ty_Use : TyF K (ga K "Use")
  cls_Row : Cls K (ga K "Row")
  ty_Row : TyF K (ga K "Row")
  cls_Record : Cls K (ga K "Record")
  ty_Record : TyF K (ga K "Record")
  cls_Overlay : Cls K (ga K "Overlay")
  ty_Overlay : TyF K (ga K "Overlay")
  cls_Cursor : Cls K (ga K "Cursor")
  ty_Cursor : TyF K (ga K "Cursor")
  na_Cursor_script : NoAttr K (ga K "Cursor") "script"
  na_Cursor_at : NoAttr K (ga K "Cursor") "at"
  na_Kind_name : NoAttr K (ga K "Kind") "name"
  na_Kind_times : NoAttr K (ga K "Kind") "times"
  na_Use_name : NoAttr K (ga K "Use") "name"
  na_Row_held : NoAttr K (ga K "Row") "held"
  na_Record_held : NoAttr K (ga K "Record") "held"
  na_Overlay_held : NoAttr K (ga K "Overlay") "held"
  na_Row_part : NoAttr K (ga K "Row") "part"
  na_Row_n : NoAttr K (ga K "Row") "n"
  na_Record_fields : NoAttr K (ga K "Record") "fields"
  na_Overlay_members : NoAttr K (ga K "Overlay") "members"
  na_Kind_depth : NoAttr K (ga K "Kind") "depth"
  na_Byte_depth : NoAttr K (ga K "Byte") "depth"
  na_Use_depth : NoAttr K (ga K "Use") "depth"
  na_Row_depth : NoAttr K (ga K "Row") "depth"
  na_Record_depth : NoAttr K (ga K "Record") "depth"
  na_Overlay_depth : NoAttr K (ga K "Overlay") "depth"
  mt_Kind_shape : Meth K (ga K "Kind") "shape" (fAd K ("Kind", some "shape"))
  mt_Kind_text : Meth K (ga K "Kind") "text" (fAd K ("Kind", some "text"))
  mt_Byte_shape : Meth K (ga K "Byte") "shape" (fAd K ("Byte", some "shape"))
  mt_Byte_text : Meth K (ga K "Byte") "text" (fAd K ("Byte", some "text"))
  mt_Use_shape : Meth K (ga K "Use") "shape" (fAd K ("Use", some "shape"))
  mt_Use_text : Meth K (ga K "Use") "text" (fAd K ("Use", some "text"))
  mt_Row_shape : Meth K (ga K "Row") "shape" (fAd K ("Row", some "shape"))
  mt_Row_text : Meth K (ga K "Row") "text" (fAd K ("Row", some "text"))
  mt_Record_shape : Meth K (ga K "Record") "shape" (fAd K ("Record", some "shape"))
  mt_Record_text : Meth K (ga K "Record") "text" (fAd K ("Record", some "text"))
  mt_Overlay_shape : Meth K (ga K "Overlay") "shape" (fAd K ("Overlay", some "shape"))
  mt_Overlay_text : Meth K (ga K "Overlay") "text" (fAd K ("Overlay", some "text"))
  mt_Cursor_upcoming : Meth K (ga K "Cursor") "upcoming" (fAd K ("Cursor", some "upcoming"))
  mt_Cursor_refuse : Meth K (ga K "Cursor") "refuse" (fAd K ("Cursor", some "refuse"))
  mt_Cursor_finish : Meth K (ga K "Cursor") "finish" (fAd K ("Cursor", some "finish"))
  mt_Cursor_skips : Meth K (ga K "Cursor") "skips" (fAd K ("Cursor", some "skips"))
  mt_Cursor_expect : Meth K (ga K "Cursor") "expect" (fAd K ("Cursor", some "expect"))
  mt_Cursor_word_of : Meth K (ga K "Cursor") "word_of" (fAd K ("Cursor", some "word_of"))
  mt_Cursor_name_unlike : Meth K (ga K "Cursor") "name_unlike" (fAd K ("Cursor", some "name_unlike"))
  mt_Cursor_number_to : Meth K (ga K "Cursor") "number_to" (fAd K ("Cursor", some "number_to"))
  mk_Kind : Mk K (ga K "Kind") (fAd K ("Kind", some "__init__"))
  mk_Byte : Mk K (ga K "Byte") (fAd K ("Byte", some "__init__"))
  mk_Use : Mk K (ga K "Use") (fAd K ("Use", some "__init__"))
  mk_Row : Mk K (ga K "Row") (fAd K ("Row", some "__init__"))
  mk_Record : Mk K (ga K "Record") (fAd K ("Record", some "__init__"))
  mk_Overlay : Mk K (ga K "Overlay") (fAd K ("Overlay", some "__init__"))
  mk_Cursor : Mk K (ga K "Cursor") (fAd K ("Cursor", some "__init__"))
  kit_Kind_Part : PySem.W.kitOne K (.ref (ga K "Kind")) (.ref (ga K "Part")) = some true
  kit_Byte_Part : PySem.W.kitOne K (.ref (ga K "Byte")) (.ref (ga K "Part")) = some true
  kit_Use_Part : PySem.W.kitOne K (.ref (ga K "Use")) (.ref (ga K "Part")) = some true
  kit_Row_Part : PySem.W.kitOne K (.ref (ga K "Row")) (.ref (ga K "Part")) = some true
  kit_Record_Part : PySem.W.kitOne K (.ref (ga K "Record")) (.ref (ga K "Part")) = some true
  kit_Overlay_Part : PySem.W.kitOne K (.ref (ga K "Overlay")) (.ref (ga K "Part")) = some true
  d_is_whole : ∃ fd, FunD K "is_whole" "is_whole" (defArgs s_is_whole) (defBody s_is_whole) (defScope s_is_whole) [] [] (fAd K ("is_whole", none)) fd
  d_is_between : ∃ fd, FunD K "is_between" "is_between" (defArgs s_is_between) (defBody s_is_between) (defScope s_is_between) [] [] (fAd K ("is_between", none)) fd
  d_is_name : ∃ fd, FunD K "is_name" "is_name" (defArgs s_is_name) (defBody s_is_name) (defScope s_is_name) [] [] (fAd K ("is_name", none)) fd
  d_need_pairs : ∃ fd, FunD K "need_pairs" "need_pairs" (defArgs s_need_pairs) (defBody s_need_pairs) (defScope s_need_pairs) [] [] (fAd K ("need_pairs", none)) fd
  d_depth_over : ∃ fd, FunD K "depth_over" "depth_over" (defArgs s_depth_over) (defBody s_depth_over) (defScope s_depth_over) [] [] (fAd K ("depth_over", none)) fd
  d_pair_texts : ∃ fd, FunD K "pair_texts" "pair_texts" (defArgs s_pair_texts) (defBody s_pair_texts) (defScope s_pair_texts) [] [] (fAd K ("pair_texts", none)) fd
  d_Part___init__ : ∃ fd, FunD K "__init__" "Part.__init__" (defArgs s_Part___init__) (defBody s_Part___init__) (defScope s_Part___init__) [] [] (fAd K ("Part", some "__init__")) fd
  d_Part___eq__ : ∃ fd, FunD K "__eq__" "Part.__eq__" (defArgs s_Part___eq__) (defBody s_Part___eq__) (defScope s_Part___eq__) [] [] (fAd K ("Part", some "__eq__")) fd
  d_Part___str__ : ∃ fd, FunD K "__str__" "Part.__str__" (defArgs s_Part___str__) (defBody s_Part___str__) (defScope s_Part___str__) [] [] (fAd K ("Part", some "__str__")) fd
  d_Kind_shape : ∃ fd, FunD K "shape" "Kind.shape" (defArgs s_Kind_shape) (defBody s_Kind_shape) (defScope s_Kind_shape) [] [] (fAd K ("Kind", some "shape")) fd
  d_Kind_text : ∃ fd, FunD K "text" "Kind.text" (defArgs s_Kind_text) (defBody s_Kind_text) (defScope s_Kind_text) [] [] (fAd K ("Kind", some "text")) fd
  d_Byte_shape : ∃ fd, FunD K "shape" "Byte.shape" (defArgs s_Byte_shape) (defBody s_Byte_shape) (defScope s_Byte_shape) [] [] (fAd K ("Byte", some "shape")) fd
  d_Byte_text : ∃ fd, FunD K "text" "Byte.text" (defArgs s_Byte_text) (defBody s_Byte_text) (defScope s_Byte_text) [] [] (fAd K ("Byte", some "text")) fd
  d_Use_shape : ∃ fd, FunD K "shape" "Use.shape" (defArgs s_Use_shape) (defBody s_Use_shape) (defScope s_Use_shape) [] [] (fAd K ("Use", some "shape")) fd
  d_Use_text : ∃ fd, FunD K "text" "Use.text" (defArgs s_Use_text) (defBody s_Use_text) (defScope s_Use_text) [] [] (fAd K ("Use", some "text")) fd
  d_Row_shape : ∃ fd, FunD K "shape" "Row.shape" (defArgs s_Row_shape) (defBody s_Row_shape) (defScope s_Row_shape) [] [] (fAd K ("Row", some "shape")) fd
  d_Row_text : ∃ fd, FunD K "text" "Row.text" (defArgs s_Row_text) (defBody s_Row_text) (defScope s_Row_text) [] [] (fAd K ("Row", some "text")) fd
  d_Record_shape : ∃ fd, FunD K "shape" "Record.shape" (defArgs s_Record_shape) (defBody s_Record_shape) (defScope s_Record_shape) [] [] (fAd K ("Record", some "shape")) fd
  d_Record_text : ∃ fd, FunD K "text" "Record.text" (defArgs s_Record_text) (defBody s_Record_text) (defScope s_Record_text) [] [] (fAd K ("Record", some "text")) fd
  d_Overlay_shape : ∃ fd, FunD K "shape" "Overlay.shape" (defArgs s_Overlay_shape) (defBody s_Overlay_shape) (defScope s_Overlay_shape) [] [] (fAd K ("Overlay", some "shape")) fd
  d_Overlay_text : ∃ fd, FunD K "text" "Overlay.text" (defArgs s_Overlay_text) (defBody s_Overlay_text) (defScope s_Overlay_text) [] [] (fAd K ("Overlay", some "text")) fd
  d_is_letter : ∃ fd, FunD K "is_letter" "is_letter" (defArgs s_is_letter) (defBody s_is_letter) (defScope s_is_letter) [] [] (fAd K ("is_letter", none)) fd
  d_is_figure : ∃ fd, FunD K "is_figure" "is_figure" (defArgs s_is_figure) (defBody s_is_figure) (defScope s_is_figure) [] [] (fAd K ("is_figure", none)) fd
  d_begins_one : ∃ fd, FunD K "begins_one" "begins_one" (defArgs s_begins_one) (defBody s_begins_one) (defScope s_begins_one) [] [] (fAd K ("begins_one", none)) fd
  d_Cursor___init__ : ∃ fd, FunD K "__init__" "Cursor.__init__" (defArgs s_Cursor___init__) (defBody s_Cursor___init__) (defScope s_Cursor___init__) [] [] (fAd K ("Cursor", some "__init__")) fd
  d_Cursor_upcoming : ∃ fd, FunD K "upcoming" "Cursor.upcoming" (defArgs s_Cursor_upcoming) (defBody s_Cursor_upcoming) (defScope s_Cursor_upcoming) [] [] (fAd K ("Cursor", some "upcoming")) fd
  d_Cursor_refuse : ∃ fd, FunD K "refuse" "Cursor.refuse" (defArgs s_Cursor_refuse) (defBody s_Cursor_refuse) (defScope s_Cursor_refuse) [] [] (fAd K ("Cursor", some "refuse")) fd
  d_Cursor_finish : ∃ fd, FunD K "finish" "Cursor.finish" (defArgs s_Cursor_finish) (defBody s_Cursor_finish) (defScope s_Cursor_finish) [] [] (fAd K ("Cursor", some "finish")) fd
  d_Cursor_skips : ∃ fd, FunD K "skips" "Cursor.skips" (defArgs s_Cursor_skips) (defBody s_Cursor_skips) (defScope s_Cursor_skips) [] [] (fAd K ("Cursor", some "skips")) fd
  d_Cursor_expect : ∃ fd, FunD K "expect" "Cursor.expect" (defArgs s_Cursor_expect) (defBody s_Cursor_expect) (defScope s_Cursor_expect) [] [] (fAd K ("Cursor", some "expect")) fd
  d_Cursor_word_of : ∃ fd, FunD K "word_of" "Cursor.word_of" (defArgs s_Cursor_word_of) (defBody s_Cursor_word_of) (defScope s_Cursor_word_of) [] [] (fAd K ("Cursor", some "word_of")) fd
  d_Cursor_name_unlike : ∃ fd, FunD K "name_unlike" "Cursor.name_unlike" (defArgs s_Cursor_name_unlike) (defBody s_Cursor_name_unlike) (defScope s_Cursor_name_unlike) [] [] (fAd K ("Cursor", some "name_unlike")) fd
  d_Cursor_number_to : ∃ fd, FunD K "number_to" "Cursor.number_to" (defArgs s_Cursor_number_to) (defBody s_Cursor_number_to) (defScope s_Cursor_number_to) [] [] (fAd K ("Cursor", some "number_to")) fd
  d_read_named : ∃ fd, FunD K "read_named" "read_named" (defArgs s_read_named) (defBody s_read_named) (defScope s_read_named) [] [] (fAd K ("read_named", none)) fd
  d_read_row : ∃ fd, FunD K "read_row" "read_row" (defArgs s_read_row) (defBody s_read_row) (defScope s_read_row) [] [] (fAd K ("read_row", none)) fd
  d_read_inner : ∃ fd, FunD K "read_inner" "read_inner" (defArgs s_read_inner) (defBody s_read_inner) (defScope s_read_inner) [] [] (fAd K ("read_inner", none)) fd
  d_read_part : ∃ fd, FunD K "read_part" "read_part" (defArgs s_read_part) (defBody s_read_part) (defScope s_read_part) [] [] (fAd K ("read_part", none)) fd
  d__law_pen : ∃ fd, FunD K "_law_pen" "_law_pen" (defArgs s__law_pen) (defBody s__law_pen) (defScope s__law_pen) [] [] (fAd K ("_law_pen", none)) fd
  d__law_draw : ∃ fd, FunD K "_law_draw" "_law_draw" (defArgs s__law_draw) (defBody s__law_draw) (defScope s__law_draw) [] [] (fAd K ("_law_draw", none)) fd
  d__law_pick : ∃ fd, FunD K "_law_pick" "_law_pick" (defArgs s__law_pick) (defBody s__law_pick) (defScope s__law_pick) [] [] (fAd K ("_law_pick", none)) fd
  d__law_names : ∃ fd, FunD K "_law_names" "_law_names" (defArgs s__law_names) (defBody s__law_names) (defScope s__law_names) [] [] (fAd K ("_law_names", none)) fd
  d__law_part : ∃ fd, FunD K "_law_part" "_law_part" (defArgs s__law_part) (defBody s__law_part) (defScope s__law_part) [] [] (fAd K ("_law_part", none)) fd
  d__law_text : ∃ fd, FunD K "_law_text" "_law_text" (defArgs s__law_text) (defBody s__law_text) (defScope s__law_text) [] [] (fAd K ("_law_text", none)) fd
  d__law_plan : ∃ fd, FunD K "_law_plan" "_law_plan" (defArgs s__law_plan) (defBody s__law_plan) (defScope s__law_plan) [] [] (fAd K ("_law_plan", none)) fd
  d__law_signs : ∃ fd, FunD K "_law_signs" "_law_signs" (defArgs s__law_signs) (defBody s__law_signs) (defScope s__law_signs) [] [] (fAd K ("_law_signs", none)) fd
  d__law_kinds : ∃ fd, FunD K "_law_kinds" "_law_kinds" (defArgs s__law_kinds) (defBody s__law_kinds) (defScope s__law_kinds) [] [] (fAd K ("_law_kinds", none)) fd
  d__law_part_one : ∃ fd, FunD K "_law_part_one" "_law_part_one" (defArgs s__law_part_one) (defBody s__law_part_one) (defScope s__law_part_one) [] [] (fAd K ("_law_part_one", none)) fd
  d__law_heard : ∃ fd, FunD K "_law_heard" "_law_heard" (defArgs s__law_heard) (defBody s__law_heard) (defScope s__law_heard) [] [] (fAd K ("_law_heard", none)) fd
  d__law_known : ∃ fd, FunD K "_law_known" "_law_known" (defArgs s__law_known) (defBody s__law_known) (defScope s__law_known) [] [] (fAd K ("_law_known", none)) fd
  d__law_bent_right : ∃ fd, FunD K "_law_bent_right" "_law_bent_right" (defArgs s__law_bent_right) (defBody s__law_bent_right) (defScope s__law_bent_right) [] [] (fAd K ("_law_bent_right", none)) fd
  d__law_part_two : ∃ fd, FunD K "_law_part_two" "_law_part_two" (defArgs s__law_part_two) (defBody s__law_part_two) (defScope s__law_part_two) [] [] (fAd K ("_law_part_two", none)) fd
  d_law : ∃ fd, FunD K "law" "law" (defArgs s_law) (defBody s_law) (defScope s_law) [] [] (fAd K ("law", none)) fd
  d_BadText___init__ : ∃ fd, FunD K "__init__" "BadText.__init__" (defArgs s_BadText___init__) (defBody s_BadText___init__) (defScope s_BadText___init__) [] [] (fAd K ("BadText", some "__init__")) fd
  x_BadText : OexC K (ga K "BadText")
  xi_BadText : PySem.W.findIn K (.ref (ga K "BadText")) "__init__" = some (some (.ref (fAd K ("BadText", some "__init__"))))
  xt_BadText : PySem.W.typeIn K (.ref (fAd K ("BadText", some "__init__"))) = some (.type "function")
  xn_BadText : PySem.W.findIn K (.ref (ga K "BadText")) "at" = some none
end Mp

set_option maxHeartbeats 4000000
/-! Km: the plain side: parts, the reader on lists of signs; and what stands in the heap -/
namespace Mp
open PySem PySem.Spec PyProof.Rows L2
open He (ga ma fAd)
abbrev T (s : String) : List Nat := s.toList.map Char.toNat
theorem ofS (s : String) : Str.ofString s = S (T s) := Str.ofString_eq_toList s
def isLet (c : Nat) : Bool := decide (97 ≤ c) && decide (c ≤ 122)
def isFig (c : Nat) : Bool := decide (48 ≤ c) && decide (c ≤ 57)
def barred : List (List Nat) := [T "byte", T "size", T "align", T "place", T "end", T "packed", T "and", T "or", T "not", T "yes", T "no", T "for", T "nogap", T "notail", T "leaf"]
/-! ### parts -/
mutual
inductive Pt where
  | kind (n : List Nat) (t : Nat) | byte | use (n : List Nat) | row (n : Nat) (p : Pt) | rec_ (fs : Fs) | ovl (fs : Fs)
inductive Fs where
  | nil | cons (n : List Nat) (p : Pt) (r : Fs)
end
def Fs.names : Fs → List (List Nat)
  | .nil => []
  | .cons n _ r => n :: r.names
def Fs.len : Fs → Nat
  | .nil => 0
  | .cons _ _ r => r.len + 1
def Fs.snoc : Fs → List Nat → Pt → Fs
  | .nil, n, p => .cons n p .nil
  | .cons m q r, n, p => .cons m q (r.snoc n p)
theorem Fs.names_snoc : ∀ (fs : Fs) (n : List Nat) (p : Pt), (fs.snoc n p).names = fs.names ++ [n]
  | .nil, _, _ => rfl
  | .cons m q r, n, p => by
    show m :: (r.snoc n p).names = m :: r.names ++ [n]
    rw [Fs.names_snoc r n p]
    rfl
theorem Fs.len_snoc : ∀ (fs : Fs) (n : List Nat) (p : Pt), (fs.snoc n p).len = fs.len + 1
  | .nil, _, _ => rfl
  | .cons m q r, n, p => by
    show (r.snoc n p).len + 1 = _
    rw [Fs.len_snoc r n p]
    rfl
mutual
def Pt.depth : Pt → Nat
  | .kind _ _ => 0 | .byte => 0 | .use _ => 0
  | .row _ p => p.depth + 1
  | .rec_ fs => fs.depth
  | .ovl fs => fs.depth
def Fs.depth : Fs → Nat
  | .nil => 0
  | .cons _ p r => max (p.depth + 1) r.depth
end
/-! ### the reader -/
inductive Res (α : Type) where
  | ok (v : α) (r : List Nat)
  | bad (r : List Nat)
def Res.bind {α β : Type} : Res α → (α → List Nat → Res β) → Res β
  | .ok v r, f => f v r
  | .bad r, _ => .bad r
def expect (s : Nat) : List Nat → Res Unit
  | x :: r => if x = s then .ok () r else .bad (x :: r)
  | [] => .bad []
def begins (words : List (List Nat)) (f : List Nat) : Bool := words.any fun w => w.take f.length == f
def wordGo (words : List (List Nat)) : List Nat → List Nat → Res (List Nat)
  | f, x :: r => if begins words (f ++ [x]) then wordGo words (f ++ [x]) r else if f ∈ words then .ok f (x :: r) else .bad (x :: r)
  | f, [] => if f ∈ words then .ok f [] else .bad []
def nameEnd (taken : List (List Nat)) (f r : List Nat) : Res (List Nat) := if f = [] ∨ f ∈ taken ∨ f ∈ barred then .bad r else .ok f r
def nameGo (taken : List (List Nat)) : List Nat → List Nat → Res (List Nat)
  | f, x :: r => if isLet x = true ∧ f.length < 8 then (if f.length + 1 = 8 ∧ (f ++ [x] ∈ taken ∨ f ++ [x] ∈ barred) then .bad (x :: r) else nameGo taken (f ++ [x]) r) else nameEnd taken f (x :: r)
  | f, [] => nameEnd taken f []
def numEnd (v : Nat) (st : Bool) (r : List Nat) : Res Nat := if st = true then .ok v r else .bad r
def numGo (least most : Nat) : Nat → Bool → List Nat → Res Nat
  | v, st, x :: r => if isFig x = true ∧ ¬ (10 * v + (x - 48) > most ∨ 10 * v + (x - 48) < least ∨ (v = 0 ∧ st = true)) then numGo least most (10 * v + (x - 48)) true r else numEnd v st (x :: r)
  | v, st, [] => numEnd v st []
abbrev Knd : Type := List Nat × Nat
def leaf (ks : List Knd) (r : List Nat) : Res Pt := match r with
  | 64 :: r => (nameGo [] [] r).bind fun n r => .ok (.use n) r
  | r => (wordGo (T "byte" :: ks.map (·.1)) [] r).bind fun w r => .ok (if w = T "byte" then .byte else .kind w ((ks.lookup w).getD 0)) r
def close (cl : Nat) (fs : Fs) (r : List Nat) : Res Fs := (expect cl r).bind fun _ r => .ok fs r
def entry (rd : List Nat → Res Pt) (found : Fs) (r : List Nat) : Res Fs := (nameGo found.names [] r).bind fun n r => (expect 58 r).bind fun _ r => (rd r).bind fun p r => .ok (found.snoc n p) r
def named (rd : List Nat → Res Pt) (sep cl : Nat) : Nat → Fs → List Nat → Res Fs
  | 0, found, r => (entry rd found r).bind fun fs r => close cl fs r
  | fuel + 1, found, r => (entry rd found r).bind fun fs r => match r with
    | x :: r' => if x = sep then named rd sep cl fuel fs r' else close cl fs (x :: r')
    | [] => close cl fs []
def readInner (ks : List Knd) : Nat → List Nat → Res Pt
  | 0, r => leaf ks r
  | m + 1, r => match r with
    | x :: r' => if isFig x = true then (numGo 1 64 0 false r).bind fun n r => (expect 42 r).bind fun _ r => (readInner ks m r).bind fun p r => .ok (.row n p) r
      else if x = 123 then (named (readInner ks m) 32 125 7 .nil r').bind fun fs r => .ok (.rec_ fs) r
      else if x = 40 then (named (readInner ks m) 124 41 3 .nil r').bind fun fs r => .ok (.ovl fs) r
      else leaf ks r
    | [] => leaf ks r
def readPart (ks : List Knd) (l : List Nat) : Res Pt := (readInner ks 4 l).bind fun p r => match r with
  | [] => .ok p []
  | _ => .bad r
/-! ### what stands in the heap -/
section
variable (K : PySem.W.Frag) (H : Hp)
mutual
def PartAt : Pt → Addr → Prop
  | .kind n t, a => ∃ dx, H a = some (.ins (ga K "Kind") dx [("depth", .int 0), ("name", .str (S n)), ("times", .int t)])
  | .byte, a => ∃ dx, H a = some (.ins (ga K "Byte") dx [("depth", .int 0)])
  | .use n, a => ∃ dx, H a = some (.ins (ga K "Use") dx [("depth", .int 0), ("name", .str (S n))])
  | .row n p, a => ∃ dx h b, H a = some (.ins (ga K "Row") dx [("depth", .int ((p.depth + 1 : Nat))), ("held", .ref h), ("part", .ref b), ("n", .int n)]) ∧ PartAt p b ∧ n ≤ 64
  | .rec_ fs, a => ∃ dx h t xs, H a = some (.ins (ga K "Record") dx [("depth", .int (fs.depth : Nat)), ("held", .ref h), ("fields", .ref t)]) ∧ H t = some (.tup xs) ∧ FsAt fs xs ∧ fs.len ≤ 8
  | .ovl fs, a => ∃ dx h t xs, H a = some (.ins (ga K "Overlay") dx [("depth", .int (fs.depth : Nat)), ("held", .ref h), ("members", .ref t)]) ∧ H t = some (.tup xs) ∧ FsAt fs xs ∧ fs.len ≤ 8
def FsAt : Fs → List V → Prop
  | .nil, xs => xs = []
  | .cons n p r, xs => ∃ q b ys, xs = .ref q :: ys ∧ H q = some (.tup [.str (S n), .ref b]) ∧ PartAt p b ∧ FsAt r ys
end
/-- the reader: the text l, what is left of it -/
def CurR (c : Addr) (l r : List Nat) : Prop := r <:+ l ∧ l.length ≤ 10000 ∧ ∃ dx, H c = some (.ins (ga K "Cursor") dx [("script", .str (S l)), ("at", .int ((l.length - r.length : Nat)))])
end
/-- what stands still when a reader or a pen is moved -/
def stb (K : PySem.W.Frag) : HO → Prop
  | .tup _ => True
  | .ins C _ fs => C ≠ ga K "Cursor" ∧ fs ≠ []
  | _ => False
def Stb (K : PySem.W.Frag) (H H' : Hp) : Prop := ∀ a o, H a = some o → stb K o → H' a = some o
def K1 (c : Addr) (H H' : Hp) : Prop := ∀ a o, a ≠ c → H a = some o → H' a = some o
section
variable {K : PySem.W.Frag} {H H' H2 : Hp} {c : Addr} {l r : List Nat}
theorem K1.rfl' : K1 c H H := fun _ _ _ h => h
theorem K1.of (e : Ex H H') : K1 c H H' := fun a o _ h => e a o h
theorem K1.trans (a : K1 c H H') (b : K1 c H' H2) : K1 c H H2 := fun x o n h => b x o n (a x o n h)
theorem K1.upd {o : HO} : K1 c H (upd H c o) := fun a u n h => by rw [upd_ne n]; exact h
theorem Ex.of_k1 (k : K1 c H H') (h : H c = none) : Ex H H' := fun a o e => k a o (fun z => by rw [z, h] at e; cases e) e
theorem Stb.of (e : Ex H H') : Stb K H H' := fun a o h _ => e a o h
theorem Stb.k1 (k : K1 c H H') (h : CurR K H c l r) : Stb K H H' := fun a o e s => k a o (fun z => by
  obtain ⟨_, _, dx, h⟩ := h
  rw [z, h] at e
  cases e
  exact s.1 rfl) e
theorem Stb.made {C dx : Addr} (k : K1 c H H') (h : H c = some (.ins C dx [])) : Stb K H H' := fun a o e s => k a o (fun z => by
  rw [z, h] at e
  cases e
  exact s.2 rfl) e
theorem Stb.lst {xs : List V} (k : K1 c H H') (h : H c = some (.lst xs)) : Stb K H H' := fun a o e s => k a o (fun z => by
  rw [z, h] at e
  cases e
  exact s) e
theorem CurR.ex (h : CurR K H c l r) (e : Ex H H') : CurR K H' c l r := let ⟨a, b, dx, h⟩ := h; ⟨a, b, dx, e _ _ h⟩
theorem rd_k1 {a : Addr} {u : HO} (k : K1 c H H') (h : CurR K H c l r) (e : Rd H a u) (hu : ∀ C dx fs, u ≠ .ins C dx fs) : Rd H' a u := by
  obtain ⟨_, _, dx, h⟩ := h
  rcases e with e | ⟨o, e⟩
  · refine Or.inl (k a _ (fun z => ?_) e)
    rw [z, h] at e
    exact hu _ _ _ (Option.some.inj e).symm
  · refine Or.inr ⟨o, k a _ (fun z => ?_) e⟩
    rw [z, h] at e
    cases e
theorem SqL.k1 {a : Addr} {xs : List V} (k : K1 c H H') (h : CurR K H c l r) (e : SqL K H a xs) : SqL K H' a xs := e.elim (fun e => Or.inl (rd_k1 k h e fun _ _ _ z => nomatch z)) Or.inr
theorem SqT.k1 {a : Addr} {xs : List V} (k : K1 c H H') (h : CurR K H c l r) (e : SqT K H a xs) : SqT K H' a xs := e.elim (fun e => Or.inl (rd_k1 k h e fun _ _ _ z => nomatch z)) Or.inr
end
end Mp

set_option maxHeartbeats 4000000
/-! Kl: comprehensions whose items only lay new things -/
namespace Mp
open PySem PySem.Spec PyProof.Rows L2
section
variable {K : PySem.W.Frag} {a : Addr} {xs ys : List V} {g : TG} {tt : TT} {te : TE} {vs : List Nat} {σ : L2.St} {H : Hp} {Q : VK}
/-- one turn, its item y -/
def LcTurn (g : TG) (tt : TT) (te : TE) (vs : List Nat) (σ : L2.St) (x : V) (H' : Hp) (R : V → Hp → Prop) : Prop :=
  g x (wipe σ vs) H' fun σ2 H2 => wipe σ2 vs = wipe σ vs ∧ tt σ2 H2 fun b H3 => if b = true then te σ2 H3 R else False
theorem take_snoc {xs : List V} {i : Nat} {y : V} (h : xs[i]? = some y) : xs.take i ++ [y] = xs.take (i + 1) := by
  obtain ⟨hi, h⟩ := List.getElem?_eq_some_iff.mp h
  rw [← h]
  exact (List.take_succ_eq_append_getElem hi).symm
theorem if_imp {b : Bool} {A B : Prop} (h : if b = true then A else False) : if b = true then A else B := by
  cases b
  · exact False.elim (by simpa using h)
  · simpa using h
/-- readings are monotone in what is wanted -/
def MonG (g : TG) : Prop := ∀ x σ H (Q Q' : L2.St → Hp → Prop), (∀ σ H, Q σ H → Q' σ H) → g x σ H Q → g x σ H Q'
def MonT (t : TT) : Prop := ∀ σ H (Q Q' : Bool → Hp → Prop), (∀ b H, Q b H → Q' b H) → t σ H Q → t σ H Q'
theorem monT_yes : MonT tYes := fun _ _ _ _ h q => h _ _ q
theorem monG_name {i : Nat} : MonG (gName i) := fun _ _ _ _ _ h q => h _ _ q
theorem monG_tup2 {K : PySem.W.Frag} {n i j : Nat} : MonG (gTup K n (gCons (gName i) (gCons (gName j) gNil))) := by
  intro x σ H Q Q' h ⟨a, xs, e, hs, hl, v, r, e1, v2, r2, e2, e3, q⟩
  exact ⟨a, xs, e, hs, hl, v, r, e1, v2, r2, e2, e3, h _ _ q⟩
theorem LcTurn.weak {x : V} {H' : Hp} {R : V → Hp → Prop} {R0 : Hp → Prop} (mg : MonG g) (mt : MonT tt) (h : LcTurn g tt te vs σ x H' R) :
    g x (wipe σ vs) H' fun σ2 H2 => wipe σ2 vs = wipe σ vs ∧ tt σ2 H2 fun b H3 => if b = true then te σ2 H3 R else R0 H3 :=
  mg _ _ _ _ _ (fun σ2 H2 ⟨e, q⟩ => ⟨e, mt _ _ _ _ (fun _ _ => if_imp) q⟩) h
/-- .. over a list, the items known -/
theorem lc_mapL {tl : TE} (ht : ∀ R : V → Hp → Prop, R (.ref a) H → tl σ H R) (mg : MonG g) (mt : MonT tt) (hz : ys.length ≤ 16777215) (hlen : xs.length = ys.length) (hl : SqL K H a xs)
    (hs : ∀ (i : Nat) (x y : V) (H' : Hp) (R : V → Hp → Prop), xs[i]? = some x → ys[i]? = some y → Ex H H' → (∀ H4, Ex H' H4 → R y H4) → LcTurn g tt te vs σ x H' R)
    (hq : ∀ D H', Ex H H' → H D = none → H' D = some (.lst ys) → Q (.ref D) H') :
    tLc (iList K tl) g tt te vs σ H Q := by
  refine ht _ ⟨a, rfl, ⟨xs, hl⟩, fun D hD => ?_⟩
  refine lc_list (xs := xs) (Qd := fun H => Q (.ref D) H) (fun i H' => Ex H H' ∧ H' D = some (.lst (ys.take i))) ⟨Ex.new hD, by rw [upd_same, List.take_zero]⟩ (fun i H' _ p => Ex.l p.1 hl) (fun i x H' hx p => ?_) (fun H' p => ?_)
  · have hi : i < ys.length := by
      rw [← hlen]
      exact (List.getElem?_eq_some_iff.mp hx).1
    have hy : ys[i]? = some ys[i] := List.getElem?_eq_getElem hi
    refine LcTurn.weak mg mt (hs i x ys[i] H' _ hx hy p.1 fun H4 e => ⟨_, e _ _ p.2, ?_, ?_, ?_⟩)
    · rw [List.length_take, sizeLine_eq]
      omega
    · exact Ex.mut (Ex.trans p.1 e) hD
    · rw [upd_same, take_snoc hy]
  · refine hq D H' p.1 hD ?_
    have h2 := p.2
    rwa [hlen, List.take_length] at h2
/-- .. over a tuple -/
theorem lc_mapT {tl : TE} (ht : ∀ R : V → Hp → Prop, R (.ref a) H → tl σ H R) (mg : MonG g) (mt : MonT tt) (hz : ys.length ≤ 16777215) (hlen : xs.length = ys.length) (hl : SqT K H a xs)
    (hs : ∀ (i : Nat) (x y : V) (H' : Hp) (R : V → Hp → Prop), xs[i]? = some x → ys[i]? = some y → Ex H H' → (∀ H4, Ex H' H4 → R y H4) → LcTurn g tt te vs σ x H' R)
    (hq : ∀ D H', Ex H H' → H D = none → H' D = some (.lst ys) → Q (.ref D) H') :
    tLc (iTup K tl) g tt te vs σ H Q := by
  refine ht _ ⟨a, rfl, ⟨xs, hl⟩, fun D hD => ?_⟩
  refine lc_tup (xs := xs) (Qd := fun H => Q (.ref D) H) (fun i H' => Ex H H' ∧ H' D = some (.lst (ys.take i))) ⟨Ex.new hD, by rw [upd_same, List.take_zero]⟩ (fun i H' _ p => Ex.t p.1 hl) (fun i x H' hx p => ?_) (fun H' p => ?_)
  · have hi : i < ys.length := by
      rw [← hlen]
      exact (List.getElem?_eq_some_iff.mp hx).1
    have hy : ys[i]? = some ys[i] := List.getElem?_eq_getElem hi
    refine LcTurn.weak mg mt (hs i x ys[i] H' _ hx hy p.1 fun H4 e => ⟨_, e _ _ p.2, ?_, ?_, ?_⟩)
    · rw [List.length_take, sizeLine_eq]
      omega
    · exact Ex.mut (Ex.trans p.1 e) hD
    · rw [upd_same, take_snoc hy]
  · refine hq D H' p.1 hD ?_
    have h2 := p.2
    rwa [hlen, List.take_length] at h2
/-- .. over a text -/
theorem lc_mapS {l : List Nat} {tl : TE} (ht : ∀ R : V → Hp → Prop, R (.str (S l)) H → tl σ H R) (mg : MonG g) (mt : MonT tt) (hz : ys.length ≤ 16777215) (hlen : l.length = ys.length)
    (hs : ∀ (i : Nat) (x : Nat) (y : V) (H' : Hp) (R : V → Hp → Prop), l[i]? = some x → ys[i]? = some y → Ex H H' → (∀ H4, Ex H' H4 → R y H4) → LcTurn g tt te vs σ (.str (S [x])) H' R)
    (hq : ∀ D H', Ex H H' → H D = none → H' D = some (.lst ys) → Q (.ref D) H') :
    tLc (iStr tl) g tt te vs σ H Q := by
  refine ht _ ⟨_, rfl, fun D hD => ?_⟩
  refine ⟨fun i m H' => i ≤ l.length ∧ m = l.length - i ∧ Ex H H' ∧ H' D = some (.lst (ys.take i)), ⟨_, Nat.zero_le _, rfl, Ex.new hD, by rw [upd_same, List.take_zero]⟩, fun i m H' ⟨h1, h2, e, hd⟩ => ?_⟩
  by_cases hi : i = l.length
  · subst hi
    refine Or.inl ⟨?_, hq D H' e hD ?_⟩
    · show (S l).cps.size ≤ l.length
      simp [S]
    · rw [hd, hlen, List.take_length]
  · have hlt : i < l.length := by omega
    have hi : i < ys.length := by omega
    have hy : ys[i]? = some ys[i] := List.getElem?_eq_getElem hi
    refine Or.inr ⟨?_, fun H' => i + 1 ≤ l.length ∧ Ex H H' ∧ H' D = some (.lst (ys.take (i + 1))), fun H' h => ⟨l.length - (i + 1), by omega, h.1, rfl, h.2⟩, ?_⟩
    · show i < (S l).cps.size
      simpa [S] using hlt
    · intro x H2 hx
      obtain ⟨rfl, c, hc, rfl⟩ := hx
      have hc2 : l[i]? = some c := by simpa [S] using hc
      refine LcTurn.weak mg mt (hs i c ys[i] _ _ hc2 hy e fun H4 e4 => ⟨_, e4 _ _ hd, ?_, by omega, ?_, ?_⟩)
      · rw [List.length_take, sizeLine_eq]
        omega
      · exact Ex.mut (Ex.trans e e4) hD
      · rw [upd_same, take_snoc hy]
end
/-! ### loops -/
section
variable {K : PySem.W.Frag} {a : Addr} {xs : List V} {g : TG} {tb : TS} {D : Ends} {σ : L2.St} {H : Hp} {te : TE}
theorem tfor_str {l : List Nat} (ht : ∀ R : V → Hp → Prop, R (.str (S l)) H → te σ H R) (Pv : Nat → L2.St → Hp → Prop) (h0 : Pv 0 σ H)
    (hs : ∀ (i : Nat) (c : Nat) (σ : L2.St) (H : Hp), l[i]? = some c → Pv i σ H → g (.str (S [c])) σ H fun σ2 H2 => tb { D with nx := Pv (i + 1), ct := Pv (i + 1), bk := D.nx } σ2 H2)
    (hd : ∀ σ H, Pv l.length σ H → D.nx σ H) : tFor (iStr te) g tb D σ H := by
  refine ht _ ⟨_, rfl, fun i m σ H => i ≤ l.length ∧ m = l.length - i ∧ Pv i σ H, ⟨_, Nat.zero_le _, rfl, h0⟩, fun i m σ H ⟨h1, h2, h3⟩ => ?_⟩
  by_cases hi : i = l.length
  · subst hi
    refine Or.inl ⟨?_, hd _ _ h3⟩
    show (S l).cps.size ≤ l.length
    simp [S]
  · have hlt : i < l.length := by omega
    refine Or.inr ⟨?_, Pv (i + 1), fun σ' H' h => ⟨l.length - (i + 1), by omega, by omega, rfl, h⟩, ?_⟩
    · show i < (S l).cps.size
      simpa [S] using hlt
    · intro x H' hx
      obtain ⟨rfl, c, hc, rfl⟩ := hx
      refine hs i c σ _ ?_ h3
      simpa [S] using hc
theorem tfor_list (ht : ∀ R : V → Hp → Prop, R (.ref a) H → te σ H R) (Pv : Nat → L2.St → Hp → Prop) (h0 : Pv 0 σ H) (hl : ∀ i σ H, i ≤ xs.length → Pv i σ H → SqL K H a xs)
    (hs : ∀ (i : Nat) (x : V) (σ : L2.St) (H : Hp), xs[i]? = some x → Pv i σ H → g x σ H fun σ2 H2 => tb { D with nx := Pv (i + 1), ct := Pv (i + 1), bk := D.nx } σ2 H2)
    (hd : ∀ σ H, Pv xs.length σ H → D.nx σ H) : tFor (iList K te) g tb D σ H :=
  ht _ ⟨_, rfl, ⟨xs, hl 0 _ _ (Nat.zero_le _) h0⟩, for_list Pv h0 hl hs hd⟩
theorem tfor_tup (ht : ∀ R : V → Hp → Prop, R (.ref a) H → te σ H R) (Pv : Nat → L2.St → Hp → Prop) (h0 : Pv 0 σ H) (hl : ∀ i σ H, i ≤ xs.length → Pv i σ H → SqT K H a xs)
    (hs : ∀ (i : Nat) (x : V) (σ : L2.St) (H : Hp), xs[i]? = some x → Pv i σ H → g x σ H fun σ2 H2 => tb { D with nx := Pv (i + 1), ct := Pv (i + 1), bk := D.nx } σ2 H2)
    (hd : ∀ σ H, Pv xs.length σ H → D.nx σ H) : tFor (iTup K te) g tb D σ H :=
  ht _ ⟨_, rfl, ⟨xs, hl 0 _ _ (Nat.zero_le _) h0⟩, for_tup Pv h0 hl hs hd⟩
theorem twhile {c : TT} (W : Nat → L2.St → Hp → Prop) (m : Nat) (h0 : W m σ H)
    (hs : ∀ m σ H, W m σ H → c σ H fun b H1 => if b = true then tb { D with nx := fun σ' H' => ∃ m', m' < m ∧ W m' σ' H', ct := fun σ' H' => ∃ m', m' < m ∧ W m' σ' H', bk := D.nx } σ H1 else D.nx σ H1)
    (mono : MonT c) : tWhile c tb D σ H :=
  ⟨W, ⟨m, h0⟩, fun m σ H h => mono _ _ _ _ (fun b H1 q => by
    cases b with
    | true => exact ⟨_, fun _ _ h => h, q⟩
    | false => exact q) (hs m σ H h)⟩
theorem twhile' {c : TT} (W : Nat → L2.St → Hp → Prop) (m : Nat) (h0 : W m σ H)
    (hs : ∀ m σ H, W m σ H → c σ H fun b H1 => if b = true then ∃ N : L2.St → Hp → Prop, (∀ σ' H', N σ' H' → ∃ m', m' < m ∧ W m' σ' H') ∧ tb { D with nx := N, ct := N, bk := D.nx } σ H1 else D.nx σ H1) : tWhile c tb D σ H :=
  ⟨W, ⟨m, h0⟩, hs⟩
end
end Mp

set_option maxHeartbeats 4000000
/-! Kc: the reader's methods -/
namespace Mp
open PySem PySem.Spec PyProof.Rows L2
open StX (tMakeR run_makeR pe_makeR)
open He (ga ma fAd)
section
variable {P : Program} {w : World} {K : PySem.W.Frag} {mg : Str → Option Value} {base : Heap}
theorem lk_script {a b : V} : List.lookup (Str.ofString "script") [("script", a), ("at", b)] = some a := rfl
theorem lk_at {a b : V} : List.lookup (Str.ofString "at") [("script", a), ("at", b)] = some b := rfl
theorem lk_upcoming {a b : V} : List.lookup (Str.ofString "upcoming") [("script", a), ("at", b)] = none := rfl
theorem lk_refuse {a b : V} : List.lookup (Str.ofString "refuse") [("script", a), ("at", b)] = none := rfl
theorem lk_skips {a b : V} : List.lookup (Str.ofString "skips") [("script", a), ("at", b)] = none := rfl
theorem lk_expect {a b : V} : List.lookup (Str.ofString "expect") [("script", a), ("at", b)] = none := rfl
theorem lk_word_of {a b : V} : List.lookup (Str.ofString "word_of") [("script", a), ("at", b)] = none := rfl
theorem lk_name_unlike {a b : V} : List.lookup (Str.ofString "name_unlike") [("script", a), ("at", b)] = none := rfl
theorem lk_number_to {a b : V} : List.lookup (Str.ofString "number_to") [("script", a), ("at", b)] = none := rfl
theorem lk_finish {a b : V} : List.lookup (Str.ofString "finish") [("script", a), ("at", b)] = none := rfl
theorem put_at {a b v : V} : putF (Str.ofString "at") v [(Str.ofString "script", a), (Str.ofString "at", b)] = [(Str.ofString "script", a), (Str.ofString "at", v)] := rfl
theorem LenV_str {H : Hp} {y : Str} {n : Nat} : LenV K (.str y) H n ↔ y.length ≤ sizeLine ∧ n = y.length := Iff.rfl
theorem scal_ss {a b : Str} : scal (.str a) (.str b) = true := rfl
theorem scal_ii {a b : Int} : scal (.int a) (.int b) = true := rfl
theorem found_S (x : Str) (c : Nat) : (!(Builtin.Str.occurrences x (S [c]) 0 x.length 1).isEmpty) = decide (c ∈ x.cps.toList) := StrLaws.found_one x c
theorem let_mem (c : Nat) : decide (c ∈ (Str.ofString "abcdefghijklmnopqrstuvwxyz").cps.toList) = isLet c := by
  rw [ofS, S_cps, Bool.eq_iff_iff]
  simp [isLet]
  omega
theorem fig_mem (c : Nat) : decide (c ∈ (Str.ofString "0123456789").cps.toList) = isFig c := by
  rw [ofS, S_cps, Bool.eq_iff_iff]
  simp [isFig]
  omega
theorem S_nil : Str.ofString "" = S [] := rfl
/-- one sign or none -/
def sp_is_letter (K : PySem.W.Frag) : Sp := sp1 fun a H Q _ => ∃ l : List Nat, a = .str (S l) ∧ l.length ≤ 1 ∧ Q (.bl (l.any isLet)) H
theorem sc_is_letter : FnScope ["sign"] ["sign"] (defScope s_is_letter) := ⟨rfl, rfl, rfl, by decide +kernel, rfl, by decide +kernel, by decide +kernel⟩
theorem ok_is_letter (z : Zk K mg base)   : Cal P w K mg base "is_letter" 1 (sp_is_letter K) := by
  obtain ⟨fd, F⟩ := z.d_is_letter
  refine cal_of F z.g_is_letter sc_is_letter (fun _ _ _ _ _ _ us hl => match us, hl with | [_], _ => rfl) (fun vs H Q E h => by match vs, h with | [_], _ => rfl) (fun cdv A outer s H vs Q E hr h => ?_)
  have nd := sc_is_letter.nd
  have hu : (cxOf (L2.CX P w) P w K mg base ["sign"] "is_letter" (defScope s_is_letter) (fAd K ("is_letter", none)) cdv A outer s H E).A.units + 64 < cLine := hr.units
  have hu0 := hr.units0
  have hu1 := hu_of hr
  match vs, h with
  | [a0], h =>
  refine ⟨_, (pss_one (ps_ret (pe_and (pe_cmpR op_ne (pv 0) pe_str (nomark _)) (pe_one (pe_cmpR op_in_str (pv 0) (pe_gstr z.v_LETTERS_cursors) (by with_unfolding_all rfl)))))), ?_⟩
  obtain ⟨l, rfl, hl, hq⟩ := h
  simp [tRet, tRetN, tSeq, tIfS, tDrop, tNext, tNever, tBreak, tCont, tAsg, gName, gCons, gNil, gTup, tAndV, tOrV, tNotV, tAnd, tOr, tNot, tOp, tUn, tVar, tC, tB, tTest, tIf, tCons, tNil, tCB, tTup, tLst, tFld, sFld, sFldAug, rAdd, rSub, tSl, tPart, tNoPart, rI0, rI, rU, rEq, rNe, rSlS, rSlL, rIxL, rIxT, rIxS, tChain, tFn, tMt, tM1, tM0, tBM, rAppend, rIn, tIsN, tNotN, scal_ss, scal_ii, LenV_str, L2.start, cxOf, and_assoc, tJs, tFmt, put_at, lk_at, lk_script, lk_upcoming, lk_refuse, lk_skips, lk_expect, lk_word_of, lk_name_unlike, lk_number_to, lk_finish, sp0, sp1, sp2, sp3, sp4, sp5, -List.lookup_eq_none_iff]
  match l, hl, hq with
  | [], _, hq => exact Or.inl ⟨S_nil.symm, hq⟩
  | [c], _, hq =>
    refine Or.inr ⟨fun e => by simp [S_nil, S_inj] at e, ?_⟩
    rw [found_S, let_mem]
    simpa using hq
def sp_is_figure (K : PySem.W.Frag) : Sp := sp1 fun a H Q _ => ∃ l : List Nat, a = .str (S l) ∧ l.length ≤ 1 ∧ Q (.bl (l.any isFig)) H
theorem sc_is_figure : FnScope ["sign"] ["sign"] (defScope s_is_figure) := ⟨rfl, rfl, rfl, by decide +kernel, rfl, by decide +kernel, by decide +kernel⟩
theorem ok_is_figure (z : Zk K mg base)   : Cal P w K mg base "is_figure" 1 (sp_is_figure K) := by
  obtain ⟨fd, F⟩ := z.d_is_figure
  refine cal_of F z.g_is_figure sc_is_figure (fun _ _ _ _ _ _ us hl => match us, hl with | [_], _ => rfl) (fun vs H Q E h => by match vs, h with | [_], _ => rfl) (fun cdv A outer s H vs Q E hr h => ?_)
  have nd := sc_is_figure.nd
  have hu : (cxOf (L2.CX P w) P w K mg base ["sign"] "is_figure" (defScope s_is_figure) (fAd K ("is_figure", none)) cdv A outer s H E).A.units + 64 < cLine := hr.units
  have hu0 := hr.units0
  have hu1 := hu_of hr
  match vs, h with
  | [a0], h =>
  refine ⟨_, (pss_one (ps_ret (pe_and (pe_cmpR op_ne (pv 0) pe_str (nomark _)) (pe_one (pe_cmpR op_in_str (pv 0) (pe_gstr z.v_FIGURES_cursors) (by with_unfolding_all rfl)))))), ?_⟩
  obtain ⟨l, rfl, hl, hq⟩ := h
  simp [tRet, tRetN, tSeq, tIfS, tDrop, tNext, tNever, tBreak, tCont, tAsg, gName, gCons, gNil, gTup, tAndV, tOrV, tNotV, tAnd, tOr, tNot, tOp, tUn, tVar, tC, tB, tTest, tIf, tCons, tNil, tCB, tTup, tLst, tFld, sFld, sFldAug, rAdd, rSub, tSl, tPart, tNoPart, rI0, rI, rU, rEq, rNe, rSlS, rSlL, rIxL, rIxT, rIxS, tChain, tFn, tMt, tM1, tM0, tBM, rAppend, rIn, tIsN, tNotN, scal_ss, scal_ii, LenV_str, L2.start, cxOf, and_assoc, tJs, tFmt, put_at, lk_at, lk_script, lk_upcoming, lk_refuse, lk_skips, lk_expect, lk_word_of, lk_name_unlike, lk_number_to, lk_finish, sp0, sp1, sp2, sp3, sp4, sp5, -List.lookup_eq_none_iff]
  match l, hl, hq with
  | [], _, hq => exact Or.inl ⟨S_nil.symm, hq⟩
  | [c], _, hq =>
    refine Or.inr ⟨fun e => by simp [S_nil, S_inj] at e, ?_⟩
    rw [found_S, fig_mem]
    simpa using hq
theorem take_min {l : List Nat} {n : Nat} : l.take (min n l.length) = l.take n := by
  by_cases h : n ≤ l.length
  · rw [Nat.min_eq_left h]
  · rw [Nat.min_eq_right (by omega), List.take_length, List.take_of_length_le (by omega)]
theorem cut_to (l f : List Nat) : cutS (S l) none (some (((S f).length : Nat) : Int)) = S (l.take f.length) := by
  unfold cutS
  rw [S_cps, S_len, S_len, HT.sIx_nat, HT.sIx_none, List.drop_zero, Nat.sub_zero, take_min]
  rfl
theorem S_inj_dec {a b : List Nat} : decide (S a = S b) = (a == b) := by
  rw [Bool.eq_iff_iff]
  simp [S_inj]
def sp_begins_one (K : PySem.W.Frag) : Sp := sp2 fun a b H Q _ => ∃ (f : List Nat) (ws : Addr) (words : List (List Nat)), a = .str (S f) ∧ b = .ref ws ∧ SqL K H ws (words.map fun x => .str (S x)) ∧ f.length ≤ 2000 ∧ (∀ x ∈ words, x.length ≤ 1000) ∧ words.length ≤ 1000 ∧
  ∀ H', Ex H H' → Q (.bl (begins words f)) H'
theorem sc_begins_one : FnScope ["signs", "words", "word"] ["signs", "words"] (defScope s_begins_one) := ⟨rfl, rfl, rfl, by decide +kernel, rfl, by decide +kernel, by decide +kernel⟩
theorem ok_begins_one (z : Zk K mg base)   : Cal P w K mg base "begins_one" 1 (sp_begins_one K) := by
  obtain ⟨fd, F⟩ := z.d_begins_one
  refine cal_of F z.g_begins_one sc_begins_one (fun _ _ _ _ _ _ us hl => match us, hl with | [_, _], _ => rfl) (fun vs H Q E h => by match vs, h with | [_, _], _ => rfl) (fun cdv A outer s H vs Q E hr h => ?_)
  have nd := sc_begins_one.nd
  have hu : (cxOf (L2.CX P w) P w K mg base ["signs", "words", "word"] "begins_one" (defScope s_begins_one) (fAd K ("begins_one", none)) cdv A outer s H E).A.units + 64 < cLine := hr.units
  have hu0 := hr.units0
  have hu1 := hu_of hr
  match vs, h with
  | [a0, a1], h =>
  refine ⟨_, (pss_one (ps_ret (pe_callB (k_any (K := K) rfl rfl) rfl z.b_any boot_any (pa_cons (pe_lc rfl nd (k_pi_list (K := K) rfl (pv 1)) (blkOk_by (N := ["signs", "words", "word"]) (sc := defScope s_begins_one) (own := [("word", 2)]) (by decide +kernel)) (fun _ _ _ _ _ => (pg_name nd (i := 2) rfl (Or.inl rfl))) (fun _ _ _ _ _ => pts_nil) (fun _ _ _ _ _ => (pe_cmpR op_eq (pe_slice sl_str (pv 2) po_none (po_some (pe_callB (k_len (K := K) rfl) rfl z.b_len boot_len (pa_cons (pv 0) pa_nil)))) (pv 0) (nomark _)))) pa_nil)))), ?_⟩
  obtain ⟨f, ws, words, rfl, rfl, hw, hf, hx, hz, hq⟩ := h
  simp [tRet, tRetN, tSeq, tIfS, tDrop, tNext, tNever, tBreak, tCont, tAsg, gName, gCons, gNil, gTup, tAndV, tOrV, tNotV, tAnd, tOr, tNot, tOp, tUn, tVar, tC, tB, tTest, tIf, tCons, tNil, tCB, tTup, tLst, tFld, sFld, sFldAug, rAdd, rSub, tSl, tPart, tNoPart, rI0, rI, rU, rEq, rNe, rSlS, rSlL, rIxL, rIxT, rIxS, tChain, tFn, tMt, tM1, tM0, tBM, rAppend, rIn, tIsN, tNotN, scal_ss, scal_ii, LenV_str, L2.start, cxOf, and_assoc, tJs, tFmt, put_at, lk_at, lk_script, lk_upcoming, lk_refuse, lk_skips, lk_expect, lk_word_of, lk_name_unlike, lk_number_to, lk_finish, sp0, sp1, sp2, sp3, sp4, sp5, -List.lookup_eq_none_iff]
  refine lc_mapL (a := ws) (fun R h => ⟨_, rfl, h⟩) (ys := words.map fun x => .bl (x.take f.length == f)) monG_name monT_yes (by simp; omega) (by simp) hw (fun i x y H' R hi hy e hR => ?_) fun D H' e hD hl => ?_
  · rw [List.getElem?_map] at hi hy
    cases hc : words[i]? with
    | none => rw [hc] at hi; cases hi
    | some q =>
      rw [hc] at hi hy
      cases hi
      cases hy
      have hq2 := hx q (List.mem_of_getElem? hc)
      refine ⟨rfl, ?_⟩
      simp [tRet, tRetN, tSeq, tIfS, tDrop, tNext, tNever, tBreak, tCont, tAsg, gName, gCons, gNil, gTup, tAndV, tOrV, tNotV, tAnd, tOr, tNot, tOp, tUn, tVar, tC, tB, tTest, tIf, tCons, tNil, tCB, tTup, tLst, tFld, sFld, sFldAug, rAdd, rSub, tSl, tPart, tNoPart, rI0, rI, rU, rEq, rNe, rSlS, rSlL, rIxL, rIxT, rIxS, tChain, tFn, tMt, tM1, tM0, tBM, rAppend, rIn, tIsN, tNotN, scal_ss, scal_ii, LenV_str, L2.start, cxOf, and_assoc, tJs, tFmt, put_at, lk_at, lk_script, lk_upcoming, lk_refuse, lk_skips, lk_expect, lk_word_of, lk_name_unlike, lk_number_to, lk_finish, sp0, sp1, sp2, sp3, sp4, sp5, -List.lookup_eq_none_iff, tYes, wipe, LenV]
      refine ⟨by rw [S_len, sizeLine_eq]; omega, by rw [S_len, sizeLine_eq]; omega, ?_⟩
      rw [cut_to, S_inj_dec]
      exact hR _ Ex.rfl'
  · refine ⟨_, words.map fun x => (x.take f.length == f), rfl, ?_, ?_⟩
    · rw [List.map_map]
      exact Or.inl (Or.inl hl)
    · have h2 := hq H' e
      unfold begins at h2
      rw [List.any_map]
      exact h2
def sp_Cursor_upcoming (K : PySem.W.Frag) : Sp := sp1 fun a H Q _ => ∃ c l r, a = .ref c ∧ CurR K H c l r ∧ Q (.str (S (r.take 1))) H
theorem cut_next {l r : List Nat} (h : r <:+ l) : cutS (S l) (some ((l.length - r.length : Nat) : Int)) (some (((l.length - r.length : Nat) : Int) + 1)) = S (r.take 1) := by
  obtain ⟨t, rfl⟩ := h
  have e : (t ++ r).length - r.length = t.length := by simp
  rw [e]
  have h2 : ((t.length : Nat) : Int) + 1 = ((t.length + 1 : Nat) : Int) := by omega
  unfold cutS
  rw [S_cps, S_len, h2, HT.sIx_nat, HT.sIx_nat]
  simp only [S]
  congr 1
  have h3 : min t.length (t ++ r).length = t.length := by simp
  rw [h3, List.drop_left]
  cases r with
  | nil => simp
  | cons x r =>
    have h4 : min (t.length + 1) (t ++ x :: r).length - t.length = 1 := by simp
    rw [h4]
theorem sc_Cursor_upcoming : FnScope ["self"] ["self"] (defScope s_Cursor_upcoming) := ⟨rfl, rfl, rfl, by decide +kernel, rfl, by decide +kernel, by decide +kernel⟩
theorem ok_Cursor_upcoming (z : Zk K mg base)   : Cmt P w K mg base (ga K "Cursor") "upcoming" 1 (sp_Cursor_upcoming K) := by
  obtain ⟨fd, F⟩ := z.d_Cursor_upcoming
  refine cmt_of F z.cls_Cursor z.mt_Cursor_upcoming sc_Cursor_upcoming (fun _ _ _ _ _ _ us hl => match us, hl with | [_], _ => rfl) (fun vs H Q E h => by match vs, h with | [_], _ => rfl) (fun cdv A outer s H vs Q E hr h => ?_)
  have nd := sc_Cursor_upcoming.nd
  have hu : (cxOf (L2.CX P w) P w K mg base ["self"] "Cursor.upcoming" (defScope s_Cursor_upcoming) (fAd K ("Cursor", some "upcoming")) cdv A outer s H E).A.units + 64 < cLine := hr.units
  have hu0 := hr.units0
  have hu1 := hu_of hr
  match vs, h with
  | [a0], h =>
  refine ⟨_, (pss_one (ps_ret (pe_slice sl_str (k_fld (K := K) rfl (pv 0)) (po_some (k_fld (K := K) rfl (pv 0))) (po_some (pe_op op_add (k_fld (K := K) rfl (pv 0)) pe_int))))), ?_⟩
  obtain ⟨c, l, r, rfl, ⟨hs, hl, dx, hc⟩, hq⟩ := h
  simp [tRet, tRetN, tSeq, tIfS, tDrop, tNext, tNever, tBreak, tCont, tAsg, gName, gCons, gNil, gTup, tAndV, tOrV, tNotV, tAnd, tOr, tNot, tOp, tUn, tVar, tC, tB, tTest, tIf, tCons, tNil, tCB, tTup, tLst, tFld, sFld, sFldAug, rAdd, rSub, tSl, tPart, tNoPart, rI0, rI, rU, rEq, rNe, rSlS, rSlL, rIxL, rIxT, rIxS, tChain, tFn, tMt, tM1, tM0, tBM, rAppend, rIn, tIsN, tNotN, scal_ss, scal_ii, LenV_str, L2.start, cxOf, and_assoc, tJs, tFmt, put_at, lk_at, lk_script, lk_upcoming, lk_refuse, lk_skips, lk_expect, lk_word_of, lk_name_unlike, lk_number_to, lk_finish, sp0, sp1, sp2, sp3, sp4, sp5, -List.lookup_eq_none_iff, hc, z.cls_Cursor, z.na_Cursor_script, z.na_Cursor_at]
  refine ⟨by rw [S_len, sizeLine_eq]; omega, ?_⟩
  rw [cut_next hs]
  exact hq
/-! ### refusing -/
def spBad (K : PySem.W.Frag) : Sp := sp2 fun x y H Q _ => ∃ (a : Addr) (n : Int), x = .ref a ∧ y = .int n ∧ H a = some (exo a (ga K "BadText") none) ∧
  ∀ dx, H dx = none → dx ≠ a → Q .non (upd (upd H dx (exd dx [("at", .int n)])) a (exo a (ga K "BadText") (some dx)))
theorem sc_Bad : FnScope ["self", "at"] ["self", "at"] (defScope s_BadText___init__) := ⟨rfl, rfl, rfl, by decide +kernel, rfl, by decide +kernel, by decide +kernel⟩
theorem ok_Bad (z : Zk K mg base) : ∃ fd ps, FnOk P w K mg base (L2.CX P w) 1 (fAd K ("BadText", some "__init__")) fd ps (spBad K) ∧ Binds K fd ps [] := by
  obtain ⟨fd, F⟩ := z.d_BadText___init__
  refine ⟨fd, ["self", "at"], F.ok sc_Bad (fun vs H Q E h => by match vs, h with | [_, _], _ => rfl) (fun cdv A outer s H vs Q E hr h => ?_), F.bindsN fun _ _ _ _ _ _ us hl => match us, hl with | [_, _], _ => rfl⟩
  match vs, h with
  | [a0, a1], ⟨a, n, e1, e2, hH, hq⟩ =>
  subst e1 e2
  refine ⟨_, pss_one (ps_ost (pv 0) (pv 1)), ?_⟩
  simp only [tOst]
  exact ⟨_, rfl, _, rfl, a, _, rfl, z.x_BadText, z.xn_BadText, Or.inl ⟨hH, fun dx h1 h2 => hq dx h1 h2⟩⟩
/-- raise BadText(e) -/
def tBad (K : PySem.W.Frag) (te : TE) (W : WX) : TS := fun _ σ H => tMkO (ga K "BadText") (spBad K) [] (tCons te tNil) σ H fun cls d H' => W cls d σ H'
theorem ps_bad {X : Cx} {W : WX} {e : Expr} {te : TE} {k0 : Nat} {p pos pos2 : Pos} (z : Zk X.K X.mg X.base) (hr : Room k0 X.A) (hc : X.calm = true) (tk : Takes X W) (he : PE X e te) (hk : 2 ≤ k0 := by decide) (hg : Gl X "BadText" := by rfl)
    (hst : starEach [e] X.env = (false, eval e X.env) :: starEach [] X.env := by rfl) (hpl : (backTo pos (starEach [] X.env)).any (·.1) = false := by rfl) :
    PS X (.Raise (some (.Call (.Name "BadText" p) [e] [] pos)) none pos2) (tBad X.K te W) := by
  obtain ⟨fd, ps, F, b⟩ := ok_Bad (P := X.prog) (w := X.w) z
  exact ps_raise (pos := pos2) hc tk (pmk_oex (ta := tCons te tNil) (pos := pos) (p := p) z.x_BadText z.xi_BadText z.xt_BadText F (hr.mono hk) b .nil passL hg z.g_BadText (pa_cons he pa_nil hst) (by decide) hst hpl)
theorem k_bad {X : Cx} {W : WX} {e : Expr} {te : TE} {k0 : Nat} {p pos pos2 : Pos} (h : X.K = K) (z : Zk X.K X.mg X.base) (hr : Room k0 X.A) (hc : X.calm = true) (tk : Takes X W) (he : PE X e te) (hk : 2 ≤ k0 := by decide) (hg : Gl X "BadText" := by rfl)
    (hst : starEach [e] X.env = (false, eval e X.env) :: starEach [] X.env := by rfl) (hpl : (backTo pos (starEach [] X.env)).any (·.1) = false := by rfl) :
    PS X (.Raise (some (.Call (.Name "BadText" p) [e] [] pos)) none pos2) (tBad K te W) := h ▸ ps_bad z hr hc tk he hk hg hst hpl
theorem bad_fin {H : Hp} {n : Int} {W : Value → Option Addr → Hp → Prop} (h : ∀ d H', Ex H H' → H' d = some (.xd [("at", .int n)]) → W (.ref (ga K "BadText")) (some d) H') : ∀ a, H a = none → spBad K [.ref a, .int n] (upd H a (exo a (ga K "BadText") none))
    (fun v H2 => v = .non ∧ ∃ d : Addr, H2 a = some (exo a (ga K "BadText") (some d)) ∧ ∃ fs : List (Str × V), H2 d = some (exd d fs) ∧ H d = none ∧ W (.ref (ga K "BadText")) (some d) (upd (del H2 a) d (.xd fs))) (fun _ _ _ => False) := by
  intro a ha
  refine ⟨a, n, rfl, rfl, upd_same, fun dx h1 h2 => ⟨rfl, dx, upd_same, _, by rw [upd_ne h2, upd_same], by rwa [upd_ne h2] at h1, ?_⟩⟩
  rw [upd_ne h2] at h1
  refine h dx _ (fun b o e => ?_) upd_same
  have n1 : b ≠ a := ne_of_none e ha
  have n2 : b ≠ dx := ne_of_none e h1
  rw [upd_ne n2, del_ne n1, upd_ne n1, upd_ne n2, upd_ne n1]
  exact e
/-- how a reader at c may fail -/
def BadK (K : PySem.W.Frag) (c : Addr) (E : XK) (H : Hp) (n : Nat) : Prop := ∀ d H', K1 c H H' → H' d = some (.xd [("at", .int n)]) → E (.ref (ga K "BadText")) (some d) H'
theorem BadK.k1 {c : Addr} {E : XK} {H H' : Hp} {n : Nat} (b : BadK K c E H n) (k : K1 c H H') : BadK K c E H' n := fun d H2 k2 h => b d H2 (K1.trans k k2) h
def sp_Cursor_refuse (K : PySem.W.Frag) : Sp := sp1 fun a H Q E => ∃ c l r, a = .ref c ∧ CurR K H c l r ∧ BadK K c E H (l.length - r.length)
theorem sc_Cursor_refuse : FnScope ["self"] ["self"] (defScope s_Cursor_refuse) := ⟨rfl, rfl, rfl, by decide +kernel, rfl, by decide +kernel, by decide +kernel⟩
theorem ok_Cursor_refuse (z : Zk K mg base)   : Cmt P w K mg base (ga K "Cursor") "refuse" 3 (sp_Cursor_refuse K) := by
  obtain ⟨fd, F⟩ := z.d_Cursor_refuse
  refine cmt_of F z.cls_Cursor z.mt_Cursor_refuse sc_Cursor_refuse (fun _ _ _ _ _ _ us hl => match us, hl with | [_], _ => rfl) (fun vs H Q E h => by match vs, h with | [_], _ => rfl) (fun cdv A outer s H vs Q E hr h => ?_)
  have nd := sc_Cursor_refuse.nd
  have hu : (cxOf (L2.CX P w) P w K mg base ["self"] "Cursor.refuse" (defScope s_Cursor_refuse) (fAd K ("Cursor", some "refuse")) cdv A outer s H E).A.units + 64 < cLine := hr.units
  have hu0 := hr.units0
  have hu1 := hu_of hr
  match vs, h with
  | [a0], h =>
  refine ⟨_, (pss_one (k_bad (K := K) rfl z hr rfl (takes_of rfl rfl rfl rfl) (k_fld (K := K) rfl (pv 0)))), ?_⟩
  obtain ⟨c, l, r, rfl, ⟨hs, hl, dx, hc⟩, hq⟩ := h
  simp [tRet, tRetN, tSeq, tIfS, tDrop, tNext, tNever, tBreak, tCont, tAsg, gName, gCons, gNil, gTup, tAndV, tOrV, tNotV, tAnd, tOr, tNot, tOp, tUn, tVar, tC, tB, tTest, tIf, tCons, tNil, tCB, tTup, tLst, tFld, sFld, sFldAug, rAdd, rSub, tSl, tPart, tNoPart, rI0, rI, rU, rEq, rNe, rSlS, rSlL, rIxL, rIxT, rIxS, tChain, tFn, tMt, tM1, tM0, tBM, rAppend, rIn, tIsN, tNotN, scal_ss, scal_ii, LenV_str, L2.start, cxOf, and_assoc, tJs, tFmt, put_at, lk_at, lk_script, lk_upcoming, lk_refuse, lk_skips, lk_expect, lk_word_of, lk_name_unlike, lk_number_to, lk_finish, sp0, sp1, sp2, sp3, sp4, sp5, -List.lookup_eq_none_iff, tBad, tMkO, hc, z.cls_Cursor, z.na_Cursor_at]
  exact bad_fin (K := K) fun d H' e h => hq d H' (K1.of e) h
theorem suf_inj {l r r' : List Nat} (h : r <:+ l) (h' : r' <:+ l) (e : l.length - r.length = l.length - r'.length) : r = r' := by
  have h1 := h.length_le
  have h2 := h'.length_le
  rw [List.suffix_iff_eq_drop.mp h, List.suffix_iff_eq_drop.mp h', e]
theorem CurR.inj {H : Hp} {c : Addr} {l r l' r' : List Nat} (h : CurR K H c l r) (h' : CurR K H c l' r') : l = l' ∧ r = r' := by
  obtain ⟨a, _, dx, h⟩ := h
  obtain ⟨a', _, dx', h'⟩ := h'
  rw [h] at h'
  have e := Option.some.inj h'
  injection e with e1 e2 e3
  simp [S_inj] at e3
  obtain ⟨e4, e5⟩ := e3
  subst e4
  exact ⟨rfl, suf_inj a a' (by omega)⟩
theorem up_iff {H : Hp} {c : Addr} {l r : List Nat} {Q : VK} {E : XK} (h : CurR K H c l r) : sp_Cursor_upcoming K [.ref c] H Q E ↔ Q (.str (S (r.take 1))) H := by
  constructor
  · intro ⟨c', l', r', e, h', q⟩
    cases e
    obtain ⟨rfl, rfl⟩ := h.inj h'
    exact q
  · intro q
    exact ⟨c, l, r, rfl, h, q⟩
/-- one sign is passed -/
theorem CurR.step {H : Hp} {c dx : Addr} {l r : List Nat} {x : Nat} (hs : (x :: r) <:+ l) (hl : l.length ≤ 10000) :
    CurR K (upd H c (.ins (ga K "Cursor") dx [("script", .str (S l)), ("at", .int ((l.length - (x :: r).length : Nat) + 1))])) c l r := by
  refine ⟨(List.suffix_cons x r).trans hs, hl, dx, ?_⟩
  have h1 := hs.length_le
  rw [upd_same]
  simp at h1 ⊢
  omega
theorem let_nil {H : Hp} {Q : VK} {E : XK} : sp_is_letter K [.str (S [])] H Q E ↔ Q (.bl false) H := by
  constructor
  · rintro ⟨l, e, _, q⟩
    have e2 : S [] = S l := by injection e
    rw [S_inj] at e2
    rw [← e2] at q
    exact q
  · intro q
    exact ⟨[], rfl, by simp, q⟩
theorem let_one {H : Hp} {Q : VK} {E : XK} {x : Nat} : sp_is_letter K [.str (S [x])] H Q E ↔ Q (.bl (isLet x)) H := by
  constructor
  · rintro ⟨l, e, _, q⟩
    have e2 : S [x] = S l := by injection e
    rw [S_inj] at e2
    rw [← e2] at q
    simpa using q
  · intro q
    exact ⟨[x], rfl, by simp, by simpa using q⟩
theorem fig_nil {H : Hp} {Q : VK} {E : XK} : sp_is_figure K [.str (S [])] H Q E ↔ Q (.bl false) H := by
  constructor
  · rintro ⟨l, e, _, q⟩
    have e2 : S [] = S l := by injection e
    rw [S_inj] at e2
    rw [← e2] at q
    exact q
  · intro q
    exact ⟨[], rfl, by simp, q⟩
theorem fig_one {H : Hp} {Q : VK} {E : XK} {x : Nat} : sp_is_figure K [.str (S [x])] H Q E ↔ Q (.bl (isFig x)) H := by
  constructor
  · rintro ⟨l, e, _, q⟩
    have e2 : S [x] = S l := by injection e
    rw [S_inj] at e2
    rw [← e2] at q
    simpa using q
  · intro q
    exact ⟨[x], rfl, by simp, by simpa using q⟩
end
end Mp

set_option maxHeartbeats 4000000
/-! Kc2: the reader's methods, on -/
namespace Mp
open PySem PySem.Spec PyProof.Rows L2
open StX (tMakeR run_makeR pe_makeR)
open He (ga ma fAd)
section
variable {P : Program} {w : World} {K : PySem.W.Frag} {mg : Str → Option Value} {base : Heap}
def sp_Cursor_finish (K : PySem.W.Frag) : Sp := sp1 fun a H Q E => ∃ c l r, a = .ref c ∧ CurR K H c l r ∧ (r = [] → Q .non H) ∧ (r ≠ [] → BadK K c E H (l.length - r.length))
theorem sc_Cursor_finish : FnScope ["self"] ["self"] (defScope s_Cursor_finish) := ⟨rfl, rfl, rfl, by decide +kernel, rfl, by decide +kernel, by decide +kernel⟩
theorem ok_Cursor_finish (z : Zk K mg base) (m_Cursor_refuse : Cmt P w K mg base (ga K "Cursor") "refuse" 3 (sp_Cursor_refuse K))  : Cmt P w K mg base (ga K "Cursor") "finish" 4 (sp_Cursor_finish K) := by
  obtain ⟨fd, F⟩ := z.d_Cursor_finish
  refine cmt_of F z.cls_Cursor z.mt_Cursor_finish sc_Cursor_finish (fun _ _ _ _ _ _ us hl => match us, hl with | [_], _ => rfl) (fun vs H Q E h => by match vs, h with | [_], _ => rfl) (fun cdv A outer s H vs Q E hr h => ?_)
  have nd := sc_Cursor_finish.nd
  have hu : (cxOf (L2.CX P w) P w K mg base ["self"] "Cursor.finish" (defScope s_Cursor_finish) (fAd K ("Cursor", some "finish")) cdv A outer s H E).A.units + 64 < cLine := hr.units
  have hu0 := hr.units0
  have hu1 := hu_of hr
  match vs, h with
  | [a0], h =>
  refine ⟨_, (pss_one (ps_if (pt_cmpR op_lt (k_fld (K := K) rfl (pv 0)) (pe_callB (k_len (K := K) rfl) rfl z.b_len boot_len (pa_cons (k_fld (K := K) rfl (pv 0)) pa_nil)) (nomark _)) (pss_one (ps_expr (pe_mt0 (pv 0) m_Cursor_refuse hr (passD (E := E))))) pss_nil)), ?_⟩
  obtain ⟨c, l, r, rfl, ⟨hs, hl, dx, hc⟩, hq, hb⟩ := h
  have hle := hs.length_le
  simp [tRet, tRetN, tSeq, tIfS, tDrop, tNext, tNever, tBreak, tCont, tAsg, gName, gCons, gNil, gTup, tAndV, tOrV, tNotV, tAnd, tOr, tNot, tOp, tUn, tVar, tC, tB, tTest, tIf, tCons, tNil, tCB, tTup, tLst, tFld, sFld, sFldAug, rAdd, rSub, tSl, tPart, tNoPart, rI0, rI, rU, rEq, rNe, rSlS, rSlL, rIxL, rIxT, rIxS, tChain, tFn, tMt, tM1, tM0, tBM, rAppend, rIn, tIsN, tNotN, scal_ss, scal_ii, let_nil, let_one, fig_nil, fig_one, LenV_str, L2.start, cxOf, and_assoc, tJs, tFmt, put_at, lk_at, lk_script, lk_upcoming, lk_refuse, lk_skips, lk_expect, lk_word_of, lk_name_unlike, lk_number_to, lk_finish, sp0, sp1, sp2, sp3, sp4, sp5, -List.lookup_eq_none_iff, hc, z.cls_Cursor, z.na_Cursor_at, z.na_Cursor_script]
  refine ⟨by rw [S_len, sizeLine_eq]; omega, ?_⟩
  rw [S_len]
  by_cases hr0 : r = []
  · subst hr0
    rw [if_neg (by simp)]
    exact hq rfl
  · have h0 : 0 < r.length := List.length_pos_iff.mpr hr0
    rw [if_pos (by omega)]
    exact ⟨c, l, r, rfl, ⟨hs, hl, dx, hc⟩, hb hr0⟩
def sp_Cursor_skips (K : PySem.W.Frag) : Sp := sp2 fun a b H Q _ => ∃ c l r x, a = .ref c ∧ b = .str (S [x]) ∧ CurR K H c l r ∧ (∀ r', r = x :: r' → ∀ H', K1 c H H' → CurR K H' c l r' → Q (.bl true) H') ∧ ((∀ r', r ≠ x :: r') → Q (.bl false) H)
theorem sc_Cursor_skips : FnScope ["self", "sign"] ["self", "sign"] (defScope s_Cursor_skips) := ⟨rfl, rfl, rfl, by decide +kernel, rfl, by decide +kernel, by decide +kernel⟩
theorem ok_Cursor_skips (z : Zk K mg base) (m_Cursor_upcoming : Cmt P w K mg base (ga K "Cursor") "upcoming" 1 (sp_Cursor_upcoming K))  : Cmt P w K mg base (ga K "Cursor") "skips" 2 (sp_Cursor_skips K) := by
  obtain ⟨fd, F⟩ := z.d_Cursor_skips
  refine cmt_of F z.cls_Cursor z.mt_Cursor_skips sc_Cursor_skips (fun _ _ _ _ _ _ us hl => match us, hl with | [_, _], _ => rfl) (fun vs H Q E h => by match vs, h with | [_, _], _ => rfl) (fun cdv A outer s H vs Q E hr h => ?_)
  have nd := sc_Cursor_skips.nd
  have hu : (cxOf (L2.CX P w) P w K mg base ["self", "sign"] "Cursor.skips" (defScope s_Cursor_skips) (fAd K ("Cursor", some "skips")) cdv A outer s H E).A.units + 64 < cLine := hr.units
  have hu0 := hr.units0
  have hu1 := hu_of hr
  match vs, h with
  | [a0, a1], h =>
  refine ⟨_, (pss_cons (ps_if (pt_cmpR op_ne (pe_mt0 (pv 0) m_Cursor_upcoming hr (passD (E := E))) (pv 1) (nomark _)) (pss_one (ps_ret pe_bl)) pss_nil)
      (pss_cons (ks_fldaug (K := K) rfl (pv 0) pe_int in_add)
      (pss_one (ps_ret pe_bl)))), ?_⟩
  obtain ⟨c, l, r, x, rfl, rfl, ⟨hs, hl, dx, hc⟩, hq, hn⟩ := h
  have hC : CurR K H c l r := ⟨hs, hl, dx, hc⟩
  simp [tRet, tRetN, tSeq, tIfS, tDrop, tNext, tNever, tBreak, tCont, tAsg, gName, gCons, gNil, gTup, tAndV, tOrV, tNotV, tAnd, tOr, tNot, tOp, tUn, tVar, tC, tB, tTest, tIf, tCons, tNil, tCB, tTup, tLst, tFld, sFld, sFldAug, rAdd, rSub, tSl, tPart, tNoPart, rI0, rI, rU, rEq, rNe, rSlS, rSlL, rIxL, rIxT, rIxS, tChain, tFn, tMt, tM1, tM0, tBM, rAppend, rIn, tIsN, tNotN, scal_ss, scal_ii, let_nil, let_one, fig_nil, fig_one, LenV_str, L2.start, cxOf, and_assoc, tJs, tFmt, put_at, lk_at, lk_script, lk_upcoming, lk_refuse, lk_skips, lk_expect, lk_word_of, lk_name_unlike, lk_number_to, lk_finish, sp0, sp1, sp2, sp3, sp4, sp5, -List.lookup_eq_none_iff, hc, z.cls_Cursor, z.na_Cursor_at, z.na_Cursor_script, up_iff hC]
  match r, hs, hq, hn with
  | [], hs, hq, hn => exact Or.inr ⟨by simp [S_inj], hn fun _ => by simp⟩
  | y :: r', hs, hq, hn =>
    by_cases hy : y = x
    · subst hy
      exact Or.inl ⟨by simp, hq r' rfl _ K1.upd (CurR.step hs hl)⟩
    · exact Or.inr ⟨by simp [S_inj, hy], hn fun _ e => hy (by injection e)⟩
/-- one sign is wanted -/
def sp_Cursor_expect (K : PySem.W.Frag) : Sp := sp2 fun a b H Q E => ∃ c l r x, a = .ref c ∧ b = .str (S [x]) ∧ CurR K H c l r ∧ (∀ r', r = x :: r' → ∀ H', K1 c H H' → CurR K H' c l r' → Q .non H') ∧ ((∀ r', r ≠ x :: r') → BadK K c E H (l.length - r.length))
theorem sc_Cursor_expect : FnScope ["self", "wanted", "sign"] ["self", "wanted"] (defScope s_Cursor_expect) := ⟨rfl, rfl, rfl, by decide +kernel, rfl, by decide +kernel, by decide +kernel⟩
theorem ok_Cursor_expect (z : Zk K mg base) (m_Cursor_skips : Cmt P w K mg base (ga K "Cursor") "skips" 2 (sp_Cursor_skips K)) (m_Cursor_refuse : Cmt P w K mg base (ga K "Cursor") "refuse" 3 (sp_Cursor_refuse K))  : Cmt P w K mg base (ga K "Cursor") "expect" 4 (sp_Cursor_expect K) := by
  obtain ⟨fd, F⟩ := z.d_Cursor_expect
  refine cmt_of F z.cls_Cursor z.mt_Cursor_expect sc_Cursor_expect (fun _ _ _ _ _ _ us hl => match us, hl with | [_, _], _ => rfl) (fun vs H Q E h => by match vs, h with | [_, _], _ => rfl) (fun cdv A outer s H vs Q E hr h => ?_)
  have nd := sc_Cursor_expect.nd
  have hu : (cxOf (L2.CX P w) P w K mg base ["self", "wanted", "sign"] "Cursor.expect" (defScope s_Cursor_expect) (fAd K ("Cursor", some "expect")) cdv A outer s H E).A.units + 64 < cLine := hr.units
  have hu0 := hr.units0
  have hu1 := hu_of hr
  match vs, h with
  | [a0, a1], h =>
  refine ⟨_, (pss_one (ps_for (passes_of rfl) rfl (pi_str (pv 1)) (pg_name nd (i := 2) rfl (Or.inl rfl)) (pss_one (ps_if (pt_not (pt_val (pe_mt (pv 0) m_Cursor_skips hr (passD (E := E)) (pa_cons (pv 2) pa_nil)))) (pss_one (ps_expr (pe_mt0 (pv 0) m_Cursor_refuse hr (passD (E := E))))) pss_nil)))), ?_⟩
  obtain ⟨c, l, r, x, rfl, rfl, hC, hq, hn⟩ := h
  simp [tRet, tRetN, tSeq, tIfS, tDrop, tNext, tNever, tBreak, tCont, tAsg, gName, gCons, gNil, gTup, tAndV, tOrV, tNotV, tAnd, tOr, tNot, tOp, tUn, tVar, tC, tB, tTest, tIf, tCons, tNil, tCB, tTup, tLst, tFld, sFld, sFldAug, rAdd, rSub, tSl, tPart, tNoPart, rI0, rI, rU, rEq, rNe, rSlS, rSlL, rIxL, rIxT, rIxS, tChain, tFn, tMt, tM1, tM0, tBM, rAppend, rIn, tIsN, tNotN, scal_ss, scal_ii, let_nil, let_one, fig_nil, fig_one, LenV_str, L2.start, cxOf, and_assoc, tJs, tFmt, put_at, lk_at, lk_script, lk_upcoming, lk_refuse, lk_skips, lk_expect, lk_word_of, lk_name_unlike, lk_number_to, lk_finish, sp0, sp1, sp2, sp3, sp4, sp5, -List.lookup_eq_none_iff]
  refine tfor_str (l := [x]) (fun R h => ⟨_, rfl, h⟩)
    (fun i σ H' => (i = 0 ∧ H' = H ∧ σ = [some (.ref c), some (.str (S [x])), none]) ∨ (i = 1 ∧ Q .non H')) (Or.inl ⟨rfl, rfl, rfl⟩) (fun i y σ H' hi p => ?_) (fun σ H' p => ?_)
  · rcases p with ⟨rfl, rfl, rfl⟩ | ⟨rfl, _⟩
    · cases hi
      obtain ⟨hs, hl, dx, hc⟩ := id hC
      simp [tRet, tRetN, tSeq, tIfS, tDrop, tNext, tNever, tBreak, tCont, tAsg, gName, gCons, gNil, gTup, tAndV, tOrV, tNotV, tAnd, tOr, tNot, tOp, tUn, tVar, tC, tB, tTest, tIf, tCons, tNil, tCB, tTup, tLst, tFld, sFld, sFldAug, rAdd, rSub, tSl, tPart, tNoPart, rI0, rI, rU, rEq, rNe, rSlS, rSlL, rIxL, rIxT, rIxS, tChain, tFn, tMt, tM1, tM0, tBM, rAppend, rIn, tIsN, tNotN, scal_ss, scal_ii, let_nil, let_one, fig_nil, fig_one, LenV_str, L2.start, cxOf, and_assoc, tJs, tFmt, put_at, lk_at, lk_script, lk_upcoming, lk_refuse, lk_skips, lk_expect, lk_word_of, lk_name_unlike, lk_number_to, lk_finish, sp0, sp1, sp2, sp3, sp4, sp5, -List.lookup_eq_none_iff, hc]
      refine ⟨c, l, r, x, rfl, rfl, hC, fun r' e H' k1 c1 => Or.inr ⟨rfl, hq r' e H' k1 c1⟩, fun hne => Or.inl ⟨rfl, ?_⟩⟩
      simp [tRet, tRetN, tSeq, tIfS, tDrop, tNext, tNever, tBreak, tCont, tAsg, gName, gCons, gNil, gTup, tAndV, tOrV, tNotV, tAnd, tOr, tNot, tOp, tUn, tVar, tC, tB, tTest, tIf, tCons, tNil, tCB, tTup, tLst, tFld, sFld, sFldAug, rAdd, rSub, tSl, tPart, tNoPart, rI0, rI, rU, rEq, rNe, rSlS, rSlL, rIxL, rIxT, rIxS, tChain, tFn, tMt, tM1, tM0, tBM, rAppend, rIn, tIsN, tNotN, scal_ss, scal_ii, let_nil, let_one, fig_nil, fig_one, LenV_str, L2.start, cxOf, and_assoc, tJs, tFmt, put_at, lk_at, lk_script, lk_upcoming, lk_refuse, lk_skips, lk_expect, lk_word_of, lk_name_unlike, lk_number_to, lk_finish, sp0, sp1, sp2, sp3, sp4, sp5, -List.lookup_eq_none_iff, hc]
      exact ⟨c, l, r, rfl, hC, hn hne⟩
    · cases hi
  · rcases p with ⟨h, _⟩ | ⟨_, q⟩
    · cases h
    · exact q
/-- how a reader's method ends -/
def Ends1 (K : PySem.W.Frag) (c : Addr) (l : List Nat) (H : Hp) (E : XK) {α : Type} (res : Res α) (Q : α → Hp → Prop) : Prop :=
  match res with
  | .ok v r => ∀ H', K1 c H H' → CurR K H' c l r → Q v H'
  | .bad r => BadK K c E H (l.length - r.length)
theorem inV_strs (f : List Nat) (words : List (List Nat)) : inV (.str (S f)) (words.map fun x => V.str (S x)) = decide (f ∈ words) := by
  unfold inV
  rw [List.any_map, Bool.eq_iff_iff]
  simp only [List.any_eq_true, Function.comp, decide_eq_true_eq]
  constructor
  · rintro ⟨x, hx, e⟩
    have e : (S x == S f) = true := e
    rw [S_beq] at e
    rw [← eq_of_beq e]
    exact hx
  · intro h
    exact ⟨f, h, by show (S f == S f) = true; rw [S_beq]; exact beq_self_eq_true f⟩
theorem flat_strs (words : List (List Nat)) : ∀ y, y ∈ (words.map fun x => V.str (S x)) → flatV y = true := by
  intro y hy
  obtain ⟨x, _, rfl⟩ := List.mem_map.mp hy
  rfl
theorem begins_len {words : List (List Nat)} {f : List Nat} (h : begins words f = true) (hx : ∀ x ∈ words, x.length ≤ 1000) : f.length ≤ 1000 := by
  unfold begins at h
  obtain ⟨x, hm, e⟩ := List.any_eq_true.mp h
  have e := eq_of_beq e
  have h2 := hx x hm
  have h3 := congrArg List.length e
  rw [List.length_take] at h3
  omega
def sp_Cursor_word_of (K : PySem.W.Frag) : Sp := sp2 fun a b H Q E => ∃ c l r ws words, a = .ref c ∧ b = .ref ws ∧ CurR K H c l r ∧ SqL K H ws (words.map fun x => V.str (S x)) ∧ (∀ x ∈ words, x.length ≤ 1000) ∧ words.length ≤ 1000 ∧
  Ends1 K c l H E (wordGo words [] r) fun f H' => Q (.str (S f)) H'
theorem sc_Cursor_word_of : FnScope ["self", "words", "found"] ["self", "words"] (defScope s_Cursor_word_of) := ⟨rfl, rfl, rfl, by decide +kernel, rfl, by decide +kernel, by decide +kernel⟩
theorem ok_Cursor_word_of (z : Zk K mg base) (m_Cursor_upcoming : Cmt P w K mg base (ga K "Cursor") "upcoming" 1 (sp_Cursor_upcoming K)) (m_Cursor_refuse : Cmt P w K mg base (ga K "Cursor") "refuse" 3 (sp_Cursor_refuse K)) (c_begins_one : Cal P w K mg base "begins_one" 1 (sp_begins_one K))  : Cmt P w K mg base (ga K "Cursor") "word_of" 4 (sp_Cursor_word_of K) := by
  obtain ⟨fd, F⟩ := z.d_Cursor_word_of
  refine cmt_of F z.cls_Cursor z.mt_Cursor_word_of sc_Cursor_word_of (fun _ _ _ _ _ _ us hl => match us, hl with | [_, _], _ => rfl) (fun vs H Q E h => by match vs, h with | [_, _], _ => rfl) (fun cdv A outer s H vs Q E hr h => ?_)
  have nd := sc_Cursor_word_of.nd
  have hu : (cxOf (L2.CX P w) P w K mg base ["self", "words", "found"] "Cursor.word_of" (defScope s_Cursor_word_of) (fAd K ("Cursor", some "word_of")) cdv A outer s H E).A.units + 64 < cLine := hr.units
  have hu0 := hr.units0
  have hu1 := hu_of hr
  match vs, h with
  | [a0, a1], h =>
  refine ⟨_, (pss_cons (ps_set (i := 2) nd rfl (Or.inl rfl) pe_str)
      (pss_cons (ps_while (passes_of rfl) (PW.pt (pw_and (pt_cmpR op_ne (pe_mt0 (pv 0) m_Cursor_upcoming hr (passD (E := E))) pe_str (nomark _)) (pw_and1 (pt_val (pe_fn c_begins_one hr (passD (E := E)) (pa_cons (pe_op op_add_str (pv 2) (pe_mt0 (pv 0) m_Cursor_upcoming hr (passD (E := E)))) (pa_cons (pv 1) pa_nil))))))) (pss_cons (ps_set (i := 2) nd rfl (Or.inl rfl) (pe_op op_add_str (pv 2) (pe_mt0 (pv 0) m_Cursor_upcoming hr (passD (E := E)))))
      (pss_one (ks_fldaug (K := K) rfl (pv 0) pe_int in_add))))
      (pss_cons (ps_if (pt_cmpR (k_notIn_seq (K := K) rfl) (pv 2) (pv 1) (by with_unfolding_all rfl)) (pss_one (ps_expr (pe_mt0 (pv 0) m_Cursor_refuse hr (passD (E := E))))) pss_nil)
      (pss_one (ps_ret (pv 2)))))), ?_⟩
  obtain ⟨c, l, r, ws, words, rfl, rfl, hC, hw, hx, hz, hq⟩ := h
  have fin : ∀ H1 f r', CurR K H1 c l r' → K1 c H H1 → (if f ∈ words then Res.ok f r' else .bad r') = wordGo words [] r →
     ∃ x, (SqL K H1 ws x ∨ SqT K H1 ws x) ∧ flatV (.str (S f)) = true ∧ (∀ y, y ∈ x → flatV y = true) ∧ (inV (.str (S f)) x = true ∧ Q (.str (S f)) H1 ∨ inV (.str (S f)) x = false ∧ sp_Cursor_refuse K [.ref c] H1 (fun x H1 => Q (.str (S f)) H1) E) := by
    intro H1 f r' hC1 hk e
    refine ⟨_, Or.inl (SqL.k1 hk hC hw), rfl, flat_strs words, ?_⟩
    rw [inV_strs]
    by_cases hf : f ∈ words
    · rw [if_pos hf] at e
      rw [← e] at hq
      exact Or.inl ⟨by simp [hf], hq H1 hk hC1⟩
    · rw [if_neg hf] at e
      rw [← e] at hq
      exact Or.inr ⟨by simp [hf], c, l, r', rfl, hC1, BadK.k1 hq hk⟩
  simp [tRet, tRetN, tSeq, tIfS, tDrop, tNext, tNever, tBreak, tCont, tAsg, gName, gCons, gNil, gTup, tAndV, tOrV, tNotV, tAnd, tOr, tNot, tOp, tUn, tVar, tC, tB, tTest, tIf, tCons, tNil, tCB, tTup, tLst, tFld, sFld, sFldAug, rAdd, rSub, tSl, tPart, tNoPart, rI0, rI, rU, rEq, rNe, rSlS, rSlL, rIxL, rIxT, rIxS, tChain, tFn, tMt, tM1, tM0, tBM, rAppend, rIn, tIsN, tNotN, scal_ss, scal_ii, let_nil, let_one, fig_nil, fig_one, LenV_str, L2.start, cxOf, and_assoc, tJs, tFmt, put_at, lk_at, lk_script, lk_upcoming, lk_refuse, lk_skips, lk_expect, lk_word_of, lk_name_unlike, lk_number_to, lk_finish, sp0, sp1, sp2, sp3, sp4, sp5, -List.lookup_eq_none_iff]
  refine twhile' (fun m σ H' => ∃ f r', m = r'.length ∧ σ = [some (.ref c), some (.ref ws), some (.str (S f))] ∧ CurR K H' c l r' ∧ K1 c H H' ∧ f.length ≤ 1000 ∧ wordGo words f r' = wordGo words [] r) r.length
    ⟨[], r, rfl, rfl, hC, K1.rfl', by simp, rfl⟩ (fun m σ H' h => ?_)
  obtain ⟨f, r', rfl, rfl, hC', hk, hf, hg⟩ := h
  obtain ⟨hs, hl, dx, hc⟩ := id hC'
  have hw' := SqL.k1 hk hC hw
  match r', hs, hC', hg, hc with
  | [], hs, hC', hg, hc =>
    simp [tRet, tRetN, tSeq, tIfS, tDrop, tNext, tNever, tBreak, tCont, tAsg, gName, gCons, gNil, gTup, tAndV, tOrV, tNotV, tAnd, tOr, tNot, tOp, tUn, tVar, tC, tB, tTest, tIf, tCons, tNil, tCB, tTup, tLst, tFld, sFld, sFldAug, rAdd, rSub, tSl, tPart, tNoPart, rI0, rI, rU, rEq, rNe, rSlS, rSlL, rIxL, rIxT, rIxS, tChain, tFn, tMt, tM1, tM0, tBM, rAppend, rIn, tIsN, tNotN, scal_ss, scal_ii, let_nil, let_one, fig_nil, fig_one, LenV_str, L2.start, cxOf, and_assoc, tJs, tFmt, put_at, lk_at, lk_script, lk_upcoming, lk_refuse, lk_skips, lk_expect, lk_word_of, lk_name_unlike, lk_number_to, lk_finish, sp0, sp1, sp2, sp3, sp4, sp5, -List.lookup_eq_none_iff, hc, up_iff hC', S_nil]
    exact fin H' f [] hC' hk (by rw [← hg, wordGo])
  | x :: r', hs, hC', hg, hc =>
    simp [tRet, tRetN, tSeq, tIfS, tDrop, tNext, tNever, tBreak, tCont, tAsg, gName, gCons, gNil, gTup, tAndV, tOrV, tNotV, tAnd, tOr, tNot, tOp, tUn, tVar, tC, tB, tTest, tIf, tCons, tNil, tCB, tTup, tLst, tFld, sFld, sFldAug, rAdd, rSub, tSl, tPart, tNoPart, rI0, rI, rU, rEq, rNe, rSlS, rSlL, rIxL, rIxT, rIxS, tChain, tFn, tMt, tM1, tM0, tBM, rAppend, rIn, tIsN, tNotN, scal_ss, scal_ii, let_nil, let_one, fig_nil, fig_one, LenV_str, L2.start, cxOf, and_assoc, tJs, tFmt, put_at, lk_at, lk_script, lk_upcoming, lk_refuse, lk_skips, lk_expect, lk_word_of, lk_name_unlike, lk_number_to, lk_finish, sp0, sp1, sp2, sp3, sp4, sp5, -List.lookup_eq_none_iff, hc, up_iff hC', S_nil, S_inj, S_app, z.cls_Cursor, z.na_Cursor_at]
    refine ⟨by rw [S_len, S_len, sizeLine_eq]; simp; omega, f ++ [x], ws, words, rfl, rfl, hw', by simp; omega, hx, hz, fun H1 e => ?_⟩
    have hC1 := hC'.ex e
    have hc1 := e _ _ hc
    rw [wordGo] at hg
    cases hb : begins words (f ++ [x]) with
    | false =>
      rw [hb, if_neg (by simp)] at hg
      simp [tRet, tRetN, tSeq, tIfS, tDrop, tNext, tNever, tBreak, tCont, tAsg, gName, gCons, gNil, gTup, tAndV, tOrV, tNotV, tAnd, tOr, tNot, tOp, tUn, tVar, tC, tB, tTest, tIf, tCons, tNil, tCB, tTup, tLst, tFld, sFld, sFldAug, rAdd, rSub, tSl, tPart, tNoPart, rI0, rI, rU, rEq, rNe, rSlS, rSlL, rIxL, rIxT, rIxS, tChain, tFn, tMt, tM1, tM0, tBM, rAppend, rIn, tIsN, tNotN, scal_ss, scal_ii, let_nil, let_one, fig_nil, fig_one, LenV_str, L2.start, cxOf, and_assoc, tJs, tFmt, put_at, lk_at, lk_script, lk_upcoming, lk_refuse, lk_skips, lk_expect, lk_word_of, lk_name_unlike, lk_number_to, lk_finish, sp0, sp1, sp2, sp3, sp4, sp5, -List.lookup_eq_none_iff, hc1]
      exact fin H1 f (x :: r') hC1 (K1.trans hk (K1.of e)) hg
    | true =>
      rw [hb, if_pos rfl] at hg
      have hlen := begins_len hb hx
      refine Or.inr ⟨rfl, _, fun σ' H' h => h, ?_⟩
      simp [tRet, tRetN, tSeq, tIfS, tDrop, tNext, tNever, tBreak, tCont, tAsg, gName, gCons, gNil, gTup, tAndV, tOrV, tNotV, tAnd, tOr, tNot, tOp, tUn, tVar, tC, tB, tTest, tIf, tCons, tNil, tCB, tTup, tLst, tFld, sFld, sFldAug, rAdd, rSub, tSl, tPart, tNoPart, rI0, rI, rU, rEq, rNe, rSlS, rSlL, rIxL, rIxT, rIxS, tChain, tFn, tMt, tM1, tM0, tBM, rAppend, rIn, tIsN, tNotN, scal_ss, scal_ii, let_nil, let_one, fig_nil, fig_one, LenV_str, L2.start, cxOf, and_assoc, tJs, tFmt, put_at, lk_at, lk_script, lk_upcoming, lk_refuse, lk_skips, lk_expect, lk_word_of, lk_name_unlike, lk_number_to, lk_finish, sp0, sp1, sp2, sp3, sp4, sp5, -List.lookup_eq_none_iff, hc1, up_iff hC1, S_app, z.cls_Cursor, z.na_Cursor_at]
      refine ⟨by rw [S_len, S_len, sizeLine_eq]; simp at hlen ⊢; omega, r'.length, by omega, f ++ [x], r', rfl, rfl, CurR.step hs hl, K1.trans (K1.trans hk (K1.of e)) K1.upd, hlen, hg⟩
end
end Mp

set_option maxHeartbeats 4000000
/-! Kc3: the reader's methods, on -/
namespace Mp
open PySem PySem.Spec PyProof.Rows L2
open StX (tMakeR run_makeR pe_makeR)
open He (ga ma fAd)
section
variable {P : Program} {w : World} {K : PySem.W.Frag} {mg : Str → Option Value} {base : Heap}
theorem S_ne {f : List Nat} (h : f ≠ []) : S f ≠ Str.ofString "" := fun e => h (by rw [S_nil, S_inj] at e; exact e)
theorem barredV : ([.str "byte", .str "size", .str "align", .str "place", .str "end", .str "packed", .str "and", .str "or", .str "not", .str "yes", .str "no", .str "for", .str "nogap", .str "notail", .str "leaf"] : List V) = barred.map fun x => V.str (S x) := by
  simp [barred, ofS]
theorem tBarred (z : Zk K mg base) (H : Hp) : SqT K H (ga K "BARRED") (barred.map fun x => V.str (S x)) := by
  rw [← barredV]
  exact z.t_BARRED H
/-- a list or a tuple of texts -/
def StrsAt (K : PySem.W.Frag) (H : Hp) (a : Addr) (ws : List (List Nat)) : Prop := SqL K H a (ws.map fun x => V.str (S x)) ∨ SqT K H a (ws.map fun x => V.str (S x))
theorem StrsAt.k1 {H H' : Hp} {c a : Addr} {l r : List Nat} {ws : List (List Nat)} (k : K1 c H H') (h : CurR K H c l r) (e : StrsAt K H a ws) : StrsAt K H' a ws := e.elim (fun e => Or.inl (SqL.k1 k h e)) fun e => Or.inr (SqT.k1 k h e)
def sp_Cursor_name_unlike (K : PySem.W.Frag) : Sp := sp2 fun a b H Q E => ∃ c l r ws taken, a = .ref c ∧ b = .ref ws ∧ CurR K H c l r ∧ StrsAt K H ws taken ∧
  Ends1 K c l H E (nameGo taken [] r) fun f H' => Q (.str (S f)) H'
theorem sc_Cursor_name_unlike : FnScope ["self", "taken", "found", "longer"] ["self", "taken"] (defScope s_Cursor_name_unlike) := ⟨rfl, rfl, rfl, by decide +kernel, rfl, by decide +kernel, by decide +kernel⟩
theorem ok_Cursor_name_unlike (z : Zk K mg base) (m_Cursor_upcoming : Cmt P w K mg base (ga K "Cursor") "upcoming" 1 (sp_Cursor_upcoming K)) (m_Cursor_refuse : Cmt P w K mg base (ga K "Cursor") "refuse" 3 (sp_Cursor_refuse K)) (c_is_letter : Cal P w K mg base "is_letter" 1 (sp_is_letter K))  : Cmt P w K mg base (ga K "Cursor") "name_unlike" 4 (sp_Cursor_name_unlike K) := by
  obtain ⟨fd, F⟩ := z.d_Cursor_name_unlike
  refine cmt_of F z.cls_Cursor z.mt_Cursor_name_unlike sc_Cursor_name_unlike (fun _ _ _ _ _ _ us hl => match us, hl with | [_, _], _ => rfl) (fun vs H Q E h => by match vs, h with | [_, _], _ => rfl) (fun cdv A outer s H vs Q E hr h => ?_)
  have nd := sc_Cursor_name_unlike.nd
  have hu : (cxOf (L2.CX P w) P w K mg base ["self", "taken", "found", "longer"] "Cursor.name_unlike" (defScope s_Cursor_name_unlike) (fAd K ("Cursor", some "name_unlike")) cdv A outer s H E).A.units + 64 < cLine := hr.units
  have hu0 := hr.units0
  have hu1 := hu_of hr
  match vs, h with
  | [a0, a1], h =>
  refine ⟨_, (pss_cons (ps_set (i := 2) nd rfl (Or.inl rfl) pe_str)
      (pss_cons (ps_while (passes_of rfl) (PW.pt (pw_and (pt_val (pe_fn c_is_letter hr (passD (E := E)) (pa_cons (pe_mt0 (pv 0) m_Cursor_upcoming hr (passD (E := E))) pa_nil))) (pw_and1 (pt_cmpR op_lt (pe_callB (k_len (K := K) rfl) rfl z.b_len boot_len (pa_cons (pv 2) pa_nil)) (pe_gint z.v_LONGEST_NAME) (nomark _))))) (pss_cons (ps_set (i := 3) nd rfl (Or.inl rfl) (pe_op op_add_str (pv 2) (pe_mt0 (pv 0) m_Cursor_upcoming hr (passD (E := E)))))
      (pss_cons (ps_if (PW.pt (pw_and (pt_cmpR op_eq (pe_callB (k_len (K := K) rfl) rfl z.b_len boot_len (pa_cons (pv 3) pa_nil)) (pe_gint z.v_LONGEST_NAME) (nomark _)) (pw_and1 (PW.pt (pw_or (pt_cmpR (k_in_seq (K := K) rfl) (pv 3) (pv 1) (by with_unfolding_all rfl)) (pw_or1 (pt_cmpR (k_in_seq (K := K) rfl) (pv 3) (pe_gref z.g_BARRED) (by with_unfolding_all rfl)))))))) (pss_one (ps_expr (pe_mt0 (pv 0) m_Cursor_refuse hr (passD (E := E))))) pss_nil)
      (pss_cons (ps_set (i := 2) nd rfl (Or.inl rfl) (pv 3))
      (pss_one (ks_fldaug (K := K) rfl (pv 0) pe_int in_add))))))
      (pss_cons (ps_if (PW.pt (pw_or (pt_cmpR op_eq (pv 2) pe_str (nomark _)) (pw_or (pt_cmpR (k_in_seq (K := K) rfl) (pv 2) (pv 1) (by with_unfolding_all rfl)) (pw_or1 (pt_cmpR (k_in_seq (K := K) rfl) (pv 2) (pe_gref z.g_BARRED) (by with_unfolding_all rfl)))))) (pss_one (ps_expr (pe_mt0 (pv 0) m_Cursor_refuse hr (passD (E := E))))) pss_nil)
      (pss_one (ps_ret (pv 2)))))), ?_⟩
  obtain ⟨c, l, r, ws, taken, rfl, rfl, hC, hw, hq⟩ := h
  have inB : ∀ H1 (g : List Nat), K1 c H H1 → ∀ (A B : Prop), (g ∈ taken ∨ g ∈ barred → A) → (¬ (g ∈ taken ∨ g ∈ barred) → B) →
      ∃ x, (SqL K H1 ws x ∨ SqT K H1 ws x) ∧ flatV (.str (S g)) = true ∧ (∀ y, y ∈ x → flatV y = true) ∧ if inV (.str (S g)) x = true then A else
        ∃ x, (SqL K H1 (ga K "BARRED") x ∨ SqT K H1 (ga K "BARRED") x) ∧ flatV (.str (S g)) = true ∧ (∀ y, y ∈ x → flatV y = true) ∧ if inV (.str (S g)) x = true then A else B := by
    intro H1 g hk A B h1 h2
    refine ⟨_, StrsAt.k1 hk hC hw, rfl, flat_strs _, ?_⟩
    rw [inV_strs]
    by_cases e1 : g ∈ taken
    · rw [if_pos (by simpa using e1)]
      exact h1 (Or.inl e1)
    · rw [if_neg (by simpa using e1)]
      refine ⟨_, Or.inr (tBarred z H1), rfl, flat_strs _, ?_⟩
      rw [inV_strs]
      by_cases e2 : g ∈ barred
      · rw [if_pos (by simpa using e2)]
        exact h1 (Or.inr e2)
      · rw [if_neg (by simpa using e2)]
        exact h2 fun e => e.elim e1 e2
  have fin : ∀ H1 f r', CurR K H1 c l r' → K1 c H H1 → nameEnd taken f r' = nameGo taken [] r →
      if f = [] then sp_Cursor_refuse K [.ref c] H1 (fun x H1 => Q (.str (S f)) H1) E else
      ∃ x, (SqL K H1 ws x ∨ SqT K H1 ws x) ∧ flatV (.str (S f)) = true ∧ (∀ y, y ∈ x → flatV y = true) ∧ if inV (.str (S f)) x = true then sp_Cursor_refuse K [.ref c] H1 (fun x H1 => Q (.str (S f)) H1) E else
        ∃ x, (SqL K H1 (ga K "BARRED") x ∨ SqT K H1 (ga K "BARRED") x) ∧ flatV (.str (S f)) = true ∧ (∀ y, y ∈ x → flatV y = true) ∧ if inV (.str (S f)) x = true then sp_Cursor_refuse K [.ref c] H1 (fun x H1 => Q (.str (S f)) H1) E else Q (.str (S f)) H1 := by
    intro H1 f r' hC1 hk e
    unfold nameEnd at e
    by_cases h0 : f = []
    · rw [if_pos (Or.inl h0)] at e
      rw [← e] at hq
      rw [if_pos h0]
      exact ⟨c, l, r', rfl, hC1, BadK.k1 hq hk⟩
    · rw [if_neg h0]
      refine inB H1 f hk _ _ (fun h => ?_) (fun h => ?_)
      · rw [if_pos (Or.inr h)] at e
        rw [← e] at hq
        exact ⟨c, l, r', rfl, hC1, BadK.k1 hq hk⟩
      · rw [if_neg (fun h2 => h2.elim h0 h)] at e
        rw [← e] at hq
        exact hq H1 hk hC1
  simp [tRet, tRetN, tSeq, tIfS, tDrop, tNext, tNever, tBreak, tCont, tAsg, gName, gCons, gNil, gTup, tAndV, tOrV, tNotV, tAnd, tOr, tNot, tOp, tUn, tVar, tC, tB, tTest, tIf, tCons, tNil, tCB, tTup, tLst, tFld, sFld, sFldAug, rAdd, rSub, tSl, tPart, tNoPart, rI0, rI, rU, rEq, rNe, rSlS, rSlL, rIxL, rIxT, rIxS, tChain, tFn, tMt, tM1, tM0, tBM, rAppend, rIn, tIsN, tNotN, scal_ss, scal_ii, let_nil, let_one, fig_nil, fig_one, LenV_str, L2.start, cxOf, and_assoc, tJs, tFmt, put_at, lk_at, lk_script, lk_upcoming, lk_refuse, lk_skips, lk_expect, lk_word_of, lk_name_unlike, lk_number_to, lk_finish, sp0, sp1, sp2, sp3, sp4, sp5, -List.lookup_eq_none_iff]
  refine twhile' (fun m σ H' => ∃ f r' u, m = r'.length ∧ σ = [some (.ref c), some (.ref ws), some (.str (S f)), u] ∧ CurR K H' c l r' ∧ K1 c H H' ∧ f.length ≤ 8 ∧ nameGo taken f r' = nameGo taken [] r) r.length
    ⟨[], r, none, rfl, rfl, hC, K1.rfl', by simp, rfl⟩ (fun m σ H' h => ?_)
  obtain ⟨f, r', u, rfl, rfl, hC', hk, hf, hg⟩ := h
  obtain ⟨hs, hl, dx, hc⟩ := id hC'
  match r', hs, hC', hg, hc with
  | [], hs, hC', hg, hc =>
    simp [tRet, tRetN, tSeq, tIfS, tDrop, tNext, tNever, tBreak, tCont, tAsg, gName, gCons, gNil, gTup, tAndV, tOrV, tNotV, tAnd, tOr, tNot, tOp, tUn, tVar, tC, tB, tTest, tIf, tCons, tNil, tCB, tTup, tLst, tFld, sFld, sFldAug, rAdd, rSub, tSl, tPart, tNoPart, rI0, rI, rU, rEq, rNe, rSlS, rSlL, rIxL, rIxT, rIxS, tChain, tFn, tMt, tM1, tM0, tBM, rAppend, rIn, tIsN, tNotN, scal_ss, scal_ii, let_nil, let_one, fig_nil, fig_one, LenV_str, L2.start, cxOf, and_assoc, tJs, tFmt, put_at, lk_at, lk_script, lk_upcoming, lk_refuse, lk_skips, lk_expect, lk_word_of, lk_name_unlike, lk_number_to, lk_finish, sp0, sp1, sp2, sp3, sp4, sp5, -List.lookup_eq_none_iff, hc, up_iff hC', S_nil, S_inj]
    exact fin H' f [] hC' hk (by rw [← hg, nameGo])
  | x :: r', hs, hC', hg, hc =>
    simp [tRet, tRetN, tSeq, tIfS, tDrop, tNext, tNever, tBreak, tCont, tAsg, gName, gCons, gNil, gTup, tAndV, tOrV, tNotV, tAnd, tOr, tNot, tOp, tUn, tVar, tC, tB, tTest, tIf, tCons, tNil, tCB, tTup, tLst, tFld, sFld, sFldAug, rAdd, rSub, tSl, tPart, tNoPart, rI0, rI, rU, rEq, rNe, rSlS, rSlL, rIxL, rIxT, rIxS, tChain, tFn, tMt, tM1, tM0, tBM, rAppend, rIn, tIsN, tNotN, scal_ss, scal_ii, let_nil, let_one, fig_nil, fig_one, LenV_str, L2.start, cxOf, and_assoc, tJs, tFmt, put_at, lk_at, lk_script, lk_upcoming, lk_refuse, lk_skips, lk_expect, lk_word_of, lk_name_unlike, lk_number_to, lk_finish, sp0, sp1, sp2, sp3, sp4, sp5, -List.lookup_eq_none_iff, hc, up_iff hC', S_nil, S_inj, S_app, z.cls_Cursor, z.na_Cursor_at]
    rw [nameGo] at hg
    cases hx : isLet x with
    | false =>
      rw [if_neg (by simp [hx])] at hg
      exact Or.inl ⟨rfl, fin H' f (x :: r') hC' hk hg⟩
    | true =>
      refine Or.inr ⟨rfl, by rw [S_len, sizeLine_eq]; omega, ?_⟩
      rw [S_len]
      by_cases h8 : f.length < 8
      · rw [if_pos (by omega)]
        refine ⟨_, fun _ _ h => h, by simp [S_len, sizeLine_eq]; omega, by simp [S_len, sizeLine_eq]; omega, ?_⟩
        rw [if_pos ⟨hx, h8⟩] at hg
        have adv : nameGo taken (f ++ [x]) r' = nameGo taken [] r → ∃ m', m' < r'.length + 1 ∧ ∃ f' r'', m' = r''.length ∧ (∃ u, ([some (.ref c), some (.ref ws), some (.str (S (f ++ [x]))), some (.str (S (f ++ [x])))] : L2.St) = [some (.ref c), some (.ref ws), some (.str (S f')), u]) ∧
            CurR K (upd H' c (.ins (ga K "Cursor") dx [("script", .str (S l)), ("at", .int ((l.length - (x :: r').length : Nat) + 1))])) c l r'' ∧ K1 c H (upd H' c (.ins (ga K "Cursor") dx [("script", .str (S l)), ("at", .int ((l.length - (x :: r').length : Nat) + 1))])) ∧ f'.length ≤ 8 ∧ nameGo taken f' r'' = nameGo taken [] r :=
          fun e => ⟨r'.length, by omega, f ++ [x], r', rfl, ⟨_, rfl⟩, CurR.step hs hl, K1.trans hk K1.upd, by simp; omega, e⟩
        by_cases h7 : (f ++ [x]).length = 8
        · rw [if_pos (by rw [S_len, h7]; rfl)]
          have h7' : f.length + 1 = 8 := by simpa using h7
          refine inB H' (f ++ [x]) hk _ _ (fun h => ?_) (fun h => ?_)
          · rw [if_pos ⟨h7', h⟩] at hg
            rw [← hg] at hq
            exact ⟨c, l, x :: r', rfl, hC', BadK.k1 hq hk⟩
          · rw [if_neg (fun h2 => h h2.2)] at hg
            exact adv hg
        · have h7' : ¬ (f.length + 1 = 8) := by simpa using h7
          rw [if_neg (by rw [S_len]; omega)]
          rw [if_neg (fun h2 => h7' h2.1)] at hg
          exact adv hg
      · rw [if_neg (by omega)]
        rw [if_neg (fun h2 => h8 h2.2)] at hg
        exact fin H' f (x :: r') hC' hk hg
theorem int_fig {x : Nat} (h : isFig x = true) : PySem.intText? (S [x]) = some (((x - 48 : Nat)) : Int) := by
  have h1 : 48 ≤ x ∧ x ≤ 57 := by simpa [isFig] using h
  have h2 := SX.int_S (a := [x]) (by simp; omega) (by simp) (by simp)
  refine h2.trans ?_
  simp [NumText.digitsVal]
def sp_Cursor_number_to (K : PySem.W.Frag) : Sp := sp3 fun a b d H Q E => ∃ c l r least most, a = .ref c ∧ b = .int ((least : Nat) : Int) ∧ d = .int ((most : Nat) : Int) ∧ CurR K H c l r ∧ 1 ≤ least ∧ Ends1 K c l H E (numGo least most 0 false r) fun f H' => Q (.int ((f : Nat) : Int)) H'
theorem sc_Cursor_number_to : FnScope ["self", "least", "most", "value", "start", "longer"] ["self", "least", "most"] (defScope s_Cursor_number_to) := ⟨rfl, rfl, rfl, by decide +kernel, rfl, by decide +kernel, by decide +kernel⟩
theorem ok_Cursor_number_to (z : Zk K mg base) (m_Cursor_upcoming : Cmt P w K mg base (ga K "Cursor") "upcoming" 1 (sp_Cursor_upcoming K)) (m_Cursor_refuse : Cmt P w K mg base (ga K "Cursor") "refuse" 3 (sp_Cursor_refuse K)) (c_is_figure : Cal P w K mg base "is_figure" 1 (sp_is_figure K))  : Cmt P w K mg base (ga K "Cursor") "number_to" 4 (sp_Cursor_number_to K) := by
  obtain ⟨fd, F⟩ := z.d_Cursor_number_to
  refine cmt_of F z.cls_Cursor z.mt_Cursor_number_to sc_Cursor_number_to (fun _ _ _ _ _ _ us hl => match us, hl with | [_, _, _], _ => rfl) (fun vs H Q E h => by match vs, h with | [_, _, _], _ => rfl) (fun cdv A outer s H vs Q E hr h => ?_)
  have nd := sc_Cursor_number_to.nd
  have hu : (cxOf (L2.CX P w) P w K mg base ["self", "least", "most", "value", "start", "longer"] "Cursor.number_to" (defScope s_Cursor_number_to) (fAd K ("Cursor", some "number_to")) cdv A outer s H E).A.units + 64 < cLine := hr.units
  have hu0 := hr.units0
  have hu1 := hu_of hr
  match vs, h with
  | [a0, a1, a2], h =>
  refine ⟨_, (pss_cons (ps_set (i := 3) nd rfl (Or.inl rfl) pe_int)
      (pss_cons (ps_set (i := 4) nd rfl (Or.inl rfl) (k_fld (K := K) rfl (pv 0)))
      (pss_cons (ps_while (passes_of rfl) (pt_val (pe_fn c_is_figure hr (passD (E := E)) (pa_cons (pe_mt0 (pv 0) m_Cursor_upcoming hr (passD (E := E))) pa_nil))) (pss_cons (ps_set (i := 5) nd rfl (Or.inl rfl) (pe_op op_add (pe_op op_mul pe_int (pv 3)) (pe_callTy call_int_str rfl z.b_int boot_int (pa_cons (pe_mt0 (pv 0) m_Cursor_upcoming hr (passD (E := E))) pa_nil))))
      (pss_cons (ps_if (PW.pt (pw_or (pt_cmpR op_gt (pv 5) (pv 2) (nomark _)) (pw_or (pt_cmpR op_lt (pv 5) (pv 1) (nomark _)) (pw_or1 (PW.pt (pw_and (pt_cmpR op_eq (pv 3) pe_int (nomark _)) (pw_and1 (pt_cmpR op_gt (k_fld (K := K) rfl (pv 0)) (pv 4) (nomark _))))))))) (pss_one ps_break) pss_nil)
      (pss_cons (ps_set (i := 3) nd rfl (Or.inl rfl) (pv 5))
      (pss_one (ks_fldaug (K := K) rfl (pv 0) pe_int in_add))))))
      (pss_cons (ps_if (pt_cmpR op_eq (k_fld (K := K) rfl (pv 0)) (pv 4) (nomark _)) (pss_one (ps_expr (pe_mt0 (pv 0) m_Cursor_refuse hr (passD (E := E))))) pss_nil)
      (pss_one (ps_ret (pv 3))))))), ?_⟩
  obtain ⟨c, l, r, least, most, rfl, rfl, rfl, hC, h1, hq⟩ := h
  obtain ⟨hs, hl, dx, hc⟩ := id hC
  simp [tRet, tRetN, tSeq, tIfS, tDrop, tNext, tNever, tBreak, tCont, tAsg, gName, gCons, gNil, gTup, tAndV, tOrV, tNotV, tAnd, tOr, tNot, tOp, tUn, tVar, tC, tB, tTest, tIf, tCons, tNil, tCB, tTup, tLst, tFld, sFld, sFldAug, rAdd, rSub, tSl, tPart, tNoPart, rI0, rI, rU, rEq, rNe, rSlS, rSlL, rIxL, rIxT, rIxS, tChain, tFn, tMt, tM1, tM0, tBM, rAppend, rIn, tIsN, tNotN, scal_ss, scal_ii, let_nil, let_one, fig_nil, fig_one, LenV_str, L2.start, cxOf, and_assoc, tJs, tFmt, put_at, lk_at, lk_script, lk_upcoming, lk_refuse, lk_skips, lk_expect, lk_word_of, lk_name_unlike, lk_number_to, lk_finish, sp0, sp1, sp2, sp3, sp4, sp5, -List.lookup_eq_none_iff, hc, z.cls_Cursor, z.na_Cursor_at]
  refine twhile' (fun m σ H' => ∃ v r' u, m = r'.length ∧ σ = [some (.ref c), some (.int ((least : Nat) : Int)), some (.int ((most : Nat) : Int)), some (.int ((v : Nat) : Int)), some (.int ((l.length - r.length : Nat) : Int)), u] ∧ CurR K H' c l r' ∧ K1 c H H' ∧
      r'.length ≤ r.length ∧ numGo least most v (r'.length != r.length) r' = numGo least most 0 false r) r.length
    ⟨0, r, none, rfl, rfl, hC, K1.rfl', Nat.le_refl _, by simp⟩ (fun m σ H' h => ?_)
  obtain ⟨v, r', u, rfl, rfl, hC', hk, hle, hg⟩ := h
  obtain ⟨hs', hl', dx', hc'⟩ := id hC'
  have hrl := hs.length_le
  have fin : ∀ r', CurR K H' c l r' → r'.length ≤ r.length → numEnd v (r'.length != r.length) r' = numGo least most 0 false r →
      if ((l.length - r'.length : Nat) : Int) = ((l.length - r.length : Nat) : Int) then sp_Cursor_refuse K [.ref c] H' (fun x H1 => Q (.int ((v : Nat) : Int)) H1) E else Q (.int ((v : Nat) : Int)) H' := by
    intro r' hC' hle e
    unfold numEnd at e
    by_cases h0 : r'.length = r.length
    · rw [if_neg (by simp [h0])] at e
      rw [← e] at hq
      rw [if_pos (by rw [h0])]
      exact ⟨c, l, r', rfl, hC', BadK.k1 hq hk⟩
    · rw [if_pos (by simp [h0])] at e
      rw [← e] at hq
      rw [if_neg (by omega)]
      exact hq H' hk hC'
  match r', hs', hC', hg, hc', hle with
  | [], hs', hC', hg, hc', hle =>
    simp [tRet, tRetN, tSeq, tIfS, tDrop, tNext, tNever, tBreak, tCont, tAsg, gName, gCons, gNil, gTup, tAndV, tOrV, tNotV, tAnd, tOr, tNot, tOp, tUn, tVar, tC, tB, tTest, tIf, tCons, tNil, tCB, tTup, tLst, tFld, sFld, sFldAug, rAdd, rSub, tSl, tPart, tNoPart, rI0, rI, rU, rEq, rNe, rSlS, rSlL, rIxL, rIxT, rIxS, tChain, tFn, tMt, tM1, tM0, tBM, rAppend, rIn, tIsN, tNotN, scal_ss, scal_ii, let_nil, let_one, fig_nil, fig_one, LenV_str, L2.start, cxOf, and_assoc, tJs, tFmt, put_at, lk_at, lk_script, lk_upcoming, lk_refuse, lk_skips, lk_expect, lk_word_of, lk_name_unlike, lk_number_to, lk_finish, sp0, sp1, sp2, sp3, sp4, sp5, -List.lookup_eq_none_iff, hc', up_iff hC', z.cls_Cursor, z.na_Cursor_at]
    have := fin [] hC' hle (by rw [← hg, numGo])
    simpa using this
  | x :: r', hs', hC', hg, hc', hle =>
    simp [tRet, tRetN, tSeq, tIfS, tDrop, tNext, tNever, tBreak, tCont, tAsg, gName, gCons, gNil, gTup, tAndV, tOrV, tNotV, tAnd, tOr, tNot, tOp, tUn, tVar, tC, tB, tTest, tIf, tCons, tNil, tCB, tTup, tLst, tFld, sFld, sFldAug, rAdd, rSub, tSl, tPart, tNoPart, rI0, rI, rU, rEq, rNe, rSlS, rSlL, rIxL, rIxT, rIxS, tChain, tFn, tMt, tM1, tM0, tBM, rAppend, rIn, tIsN, tNotN, scal_ss, scal_ii, let_nil, let_one, fig_nil, fig_one, LenV_str, L2.start, cxOf, and_assoc, tJs, tFmt, put_at, lk_at, lk_script, lk_upcoming, lk_refuse, lk_skips, lk_expect, lk_word_of, lk_name_unlike, lk_number_to, lk_finish, sp0, sp1, sp2, sp3, sp4, sp5, -List.lookup_eq_none_iff, hc', up_iff hC', z.cls_Cursor, z.na_Cursor_at]
    rw [numGo] at hg
    have fin2 := fin (x :: r') hC' hle
    simp at fin2
    cases hx : isFig x with
    | false =>
      rw [if_neg (by simp [hx])] at hg
      exact Or.inl ⟨rfl, fin2 hg⟩
    | true =>
      have hx2 : 48 ≤ x ∧ x ≤ 57 := by simpa [isFig] using hx
      refine Or.inr ⟨rfl, _, fun _ _ h => h, Or.inl ⟨by decide, by decide⟩, _, int_fig hx, by simp [S_len], ?_⟩
      have hle2 : r'.length + 1 ≤ r.length := by simpa using hle
      by_cases c1 : 10 * v + (x - 48) > most
      · rw [if_pos (by omega)]
        rw [if_neg (fun h => h.2 (Or.inl c1))] at hg
        exact fin2 hg
      · rw [if_neg (by omega)]
        by_cases c2 : 10 * v + (x - 48) < least
        · rw [if_pos (by omega)]
          rw [if_neg (fun h => h.2 (Or.inr (Or.inl c2)))] at hg
          exact fin2 hg
        · rw [if_neg (by omega)]
          by_cases c3 : v = 0 ∧ r'.length + 1 ≠ r.length
          · rw [if_pos c3.1, if_pos (by omega)]
            rw [if_neg (fun h => h.2 (Or.inr (Or.inr ⟨c3.1, by simp; exact c3.2⟩)))] at hg
            exact fin2 hg
          · have hg2 : numGo least most (10 * v + (x - 48)) true r' = numGo least most 0 false r := by
              rwa [if_pos ⟨hx, fun h => h.elim c1 fun h => h.elim c2 fun h => c3 ⟨h.1, by simpa using h.2⟩⟩] at hg
            have hne : (r'.length != r.length) = true := by simp; omega
            split
            · rename_i hv0
              rw [if_neg (by omega)]
              exact ⟨r'.length, by omega, 10 * v + (x - 48), r', rfl, ⟨some (.int ((10 * v + (x - 48) : Nat) : Int)), by simp⟩, CurR.step hs' hl', K1.trans hk K1.upd, by omega, by rw [hne]; exact hg2⟩
            · exact ⟨r'.length, by omega, 10 * v + (x - 48), r', rfl, ⟨some (.int ((10 * v + (x - 48) : Nat) : Int)), by simp⟩, CurR.step hs' hl', K1.trans hk K1.upd, by omega, by rw [hne]; exact hg2⟩
end
end Mp

set_option maxHeartbeats 4000000
/-! Kc4: the reader made; names -/
namespace Mp
open PySem PySem.Spec PyProof.Rows L2
open StX (tMakeR run_makeR pe_makeR)
open He (ga ma fAd)
section
variable {P : Program} {w : World} {K : PySem.W.Frag} {mg : Str → Option Value} {base : Heap}
def sp_Cursor___init__ (K : PySem.W.Frag) : Sp := sp2 fun a t H Q E => ∃ c dx, a = .ref c ∧ H c = some (.ins (ga K "Cursor") dx []) ∧
  ((∃ l, t = .str (S l) ∧ Q .non (upd H c (.ins (ga K "Cursor") dx [("script", .str (S l)), ("at", .int 0)]))) ∨ (∃ ty, TyX K H t ty ∧ PySem.W.kitOne K ty (.type "str") = some false ∧ BadK K c E H 0))
theorem put1 {f : Str} {v : V} : putF f v [] = [(f, v)] := rfl
theorem put_at1 {a v : V} : putF (Str.ofString "at") v [(Str.ofString "script", a)] = [(Str.ofString "script", a), (Str.ofString "at", v)] := rfl
theorem sc_Cursor___init__ : FnScope ["self", "text"] ["self", "text"] (defScope s_Cursor___init__) := ⟨rfl, rfl, rfl, by decide +kernel, rfl, by decide +kernel, by decide +kernel⟩
theorem ok_Cursor___init__ (z : Zk K mg base)   : Cmk P w K mg base "Cursor" (ga K "Cursor") 3 (sp_Cursor___init__ K) := by
  obtain ⟨fd, F⟩ := z.d_Cursor___init__
  refine cmk_of F z.g_Cursor z.mk_Cursor sc_Cursor___init__ (fun _ _ _ _ _ _ us hl => match us, hl with | [_, _], _ => rfl) (fun vs H Q E h => by match vs, h with | [_, _], _ => rfl) (fun cdv A outer s H vs Q E hr h => ?_)
  have nd := sc_Cursor___init__.nd
  have hu : (cxOf (L2.CX P w) P w K mg base ["self", "text"] "Cursor.__init__" (defScope s_Cursor___init__) (fAd K ("Cursor", some "__init__")) cdv A outer s H E).A.units + 64 < cLine := hr.units
  have hu0 := hr.units0
  have hu1 := hu_of hr
  match vs, h with
  | [a0, a1], h =>
  refine ⟨_, (pss_cons (ps_if (pt_not (pt_val (pe_callB (k_isi (K := K) rfl) rfl z.b_isinstance boot_isinstance (pa_cons (pv 1) (pa_cons (pe_bltn (v := .ty "str") rfl z.b_str boot_str rfl) pa_nil))))) (pss_one (k_bad (K := K) rfl z hr rfl (takes_of rfl rfl rfl rfl) pe_int)) pss_nil)
      (pss_cons (ks_fld (K := K) rfl (pv 0) (pv 1))
      (pss_one (ks_fld (K := K) rfl (pv 0) pe_int)))), ?_⟩
  obtain ⟨c, dx, rfl, hc, h⟩ := h
  simp [tRet, tRetN, tSeq, tIfS, tDrop, tNext, tNever, tBreak, tCont, tAsg, gName, gCons, gNil, gTup, tAndV, tOrV, tNotV, tAnd, tOr, tNot, tOp, tUn, tVar, tC, tB, tTest, tIf, tCons, tNil, tCB, tTup, tLst, tFld, sFld, sFldAug, rAdd, rSub, tSl, tPart, tNoPart, rI0, rI, rU, rEq, rNe, rSlS, rSlL, rIxL, rIxT, rIxS, tChain, tFn, tMt, tM1, tM0, tBM, rAppend, rIn, tIsN, tNotN, scal_ss, scal_ii, let_nil, let_one, fig_nil, fig_one, LenV_str, L2.start, cxOf, and_assoc, tJs, tFmt, put_at, lk_at, lk_script, lk_upcoming, lk_refuse, lk_skips, lk_expect, lk_word_of, lk_name_unlike, lk_number_to, lk_finish, sp0, sp1, sp2, sp3, sp4, sp5, -List.lookup_eq_none_iff, rIsi, hc, upd_same, z.cls_Cursor, z.na_Cursor_at, z.na_Cursor_script, put1, put_at1, upd_upd]
  rcases h with ⟨l, rfl, hq⟩ | ⟨ty, hty, hk, hb⟩
  · exact ⟨_, _, .ty "str", .base (.str _), Or.inr ⟨kit_ty (by decide +kernel), hq⟩⟩
  · refine ⟨_, _, .ty "str", hty, Or.inl ⟨hk, ?_⟩⟩
    simp [tRet, tRetN, tSeq, tIfS, tDrop, tNext, tNever, tBreak, tCont, tAsg, gName, gCons, gNil, gTup, tAndV, tOrV, tNotV, tAnd, tOr, tNot, tOp, tUn, tVar, tC, tB, tTest, tIf, tCons, tNil, tCB, tTup, tLst, tFld, sFld, sFldAug, rAdd, rSub, tSl, tPart, tNoPart, rI0, rI, rU, rEq, rNe, rSlS, rSlL, rIxL, rIxT, rIxS, tChain, tFn, tMt, tM1, tM0, tBM, rAppend, rIn, tIsN, tNotN, scal_ss, scal_ii, let_nil, let_one, fig_nil, fig_one, LenV_str, L2.start, cxOf, and_assoc, tJs, tFmt, put_at, lk_at, lk_script, lk_upcoming, lk_refuse, lk_skips, lk_expect, lk_word_of, lk_name_unlike, lk_number_to, lk_finish, sp0, sp1, sp2, sp3, sp4, sp5, -List.lookup_eq_none_iff, tBad, tMkO]
    exact bad_fin (K := K) fun d H' e h => hb d H' (K1.of e) h
/-! ### names -/
def sp_is_whole (K : PySem.W.Frag) : Sp := sp1 fun a H Q _ => ∃ i : Int, a = .int i ∧ Q (.bl true) H
theorem sc_is_whole : FnScope ["thing"] ["thing"] (defScope s_is_whole) := ⟨rfl, rfl, rfl, by decide +kernel, rfl, by decide +kernel, by decide +kernel⟩
theorem ok_is_whole (z : Zk K mg base)   : Cal P w K mg base "is_whole" 1 (sp_is_whole K) := by
  obtain ⟨fd, F⟩ := z.d_is_whole
  refine cal_of F z.g_is_whole sc_is_whole (fun _ _ _ _ _ _ us hl => match us, hl with | [_], _ => rfl) (fun vs H Q E h => by match vs, h with | [_], _ => rfl) (fun cdv A outer s H vs Q E hr h => ?_)
  have nd := sc_is_whole.nd
  have hu : (cxOf (L2.CX P w) P w K mg base ["thing"] "is_whole" (defScope s_is_whole) (fAd K ("is_whole", none)) cdv A outer s H E).A.units + 64 < cLine := hr.units
  have hu0 := hr.units0
  have hu1 := hu_of hr
  match vs, h with
  | [a0], h =>
  refine ⟨_, (pss_one (ps_ret (pe_and (pe_callB (k_isi (K := K) rfl) rfl z.b_isinstance boot_isinstance (pa_cons (pv 0) (pa_cons (pe_bltn (v := .ty "int") rfl z.b_int boot_int rfl) pa_nil))) (pe_one (pe_not (pe_callB (k_isi (K := K) rfl) rfl z.b_isinstance boot_isinstance (pa_cons (pv 0) (pa_cons (pe_bltn (v := .ty "bool") rfl z.b_bool boot_bool rfl) pa_nil)))))))), ?_⟩
  obtain ⟨i, rfl, hq⟩ := h
  simp [tRet, tRetN, tSeq, tIfS, tDrop, tNext, tNever, tBreak, tCont, tAsg, gName, gCons, gNil, gTup, tAndV, tOrV, tNotV, tAnd, tOr, tNot, tOp, tUn, tVar, tC, tB, tTest, tIf, tCons, tNil, tCB, tTup, tLst, tFld, sFld, sFldAug, rAdd, rSub, tSl, tPart, tNoPart, rI0, rI, rU, rEq, rNe, rSlS, rSlL, rIxL, rIxT, rIxS, tChain, tFn, tMt, tM1, tM0, tBM, rAppend, rIn, tIsN, tNotN, scal_ss, scal_ii, let_nil, let_one, fig_nil, fig_one, LenV_str, L2.start, cxOf, and_assoc, tJs, tFmt, put_at, lk_at, lk_script, lk_upcoming, lk_refuse, lk_skips, lk_expect, lk_word_of, lk_name_unlike, lk_number_to, lk_finish, sp0, sp1, sp2, sp3, sp4, sp5, -List.lookup_eq_none_iff, rIsi]
  refine ⟨_, _, .ty "int", .base (.int _), Or.inr ⟨kit_ty (by decide +kernel), ?_⟩⟩
  exact ⟨_, _, .ty "bool", .base (.int _), Or.inl ⟨kit_ty (by decide +kernel), hq⟩⟩
def sp_is_between (K : PySem.W.Frag) : Sp := sp3 fun a b c H Q _ => ∃ i j k : Int, a = .int i ∧ b = .int j ∧ c = .int k ∧ Q (.bl (decide (j ≤ i) && decide (i ≤ k))) H
theorem sc_is_between : FnScope ["thing", "least", "most"] ["thing", "least", "most"] (defScope s_is_between) := ⟨rfl, rfl, rfl, by decide +kernel, rfl, by decide +kernel, by decide +kernel⟩
theorem ok_is_between (z : Zk K mg base) (c_is_whole : Cal P w K mg base "is_whole" 1 (sp_is_whole K))  : Cal P w K mg base "is_between" 2 (sp_is_between K) := by
  obtain ⟨fd, F⟩ := z.d_is_between
  refine cal_of F z.g_is_between sc_is_between (fun _ _ _ _ _ _ us hl => match us, hl with | [_, _, _], _ => rfl) (fun vs H Q E h => by match vs, h with | [_, _, _], _ => rfl) (fun cdv A outer s H vs Q E hr h => ?_)
  have nd := sc_is_between.nd
  have hu : (cxOf (L2.CX P w) P w K mg base ["thing", "least", "most"] "is_between" (defScope s_is_between) (fAd K ("is_between", none)) cdv A outer s H E).A.units + 64 < cLine := hr.units
  have hu0 := hr.units0
  have hu1 := hu_of hr
  match vs, h with
  | [a0, a1, a2], h =>
  refine ⟨_, (pss_one (ps_ret (pe_and (pe_fn c_is_whole hr (passD (E := E)) (pa_cons (pv 0) pa_nil)) (pe_one (pe_chain op_le op_le (pv 1) (pv 0) (pv 2)))))), ?_⟩
  obtain ⟨i, j, k, rfl, rfl, rfl, hq⟩ := h
  simp [tRet, tRetN, tSeq, tIfS, tDrop, tNext, tNever, tBreak, tCont, tAsg, gName, gCons, gNil, gTup, tAndV, tOrV, tNotV, tAnd, tOr, tNot, tOp, tUn, tVar, tC, tB, tTest, tIf, tCons, tNil, tCB, tTup, tLst, tFld, sFld, sFldAug, rAdd, rSub, tSl, tPart, tNoPart, rI0, rI, rU, rEq, rNe, rSlS, rSlL, rIxL, rIxT, rIxS, tChain, tFn, tMt, tM1, tM0, tBM, rAppend, rIn, tIsN, tNotN, scal_ss, scal_ii, let_nil, let_one, fig_nil, fig_one, LenV_str, L2.start, cxOf, and_assoc, tJs, tFmt, put_at, lk_at, lk_script, lk_upcoming, lk_refuse, lk_skips, lk_expect, lk_word_of, lk_name_unlike, lk_number_to, lk_finish, sp0, sp1, sp2, sp3, sp4, sp5, -List.lookup_eq_none_iff]
  refine ⟨i, rfl, Or.inr ⟨rfl, ?_⟩⟩
  by_cases h1 : j ≤ i
  · rw [if_pos h1]
    simpa [h1] using hq
  · rw [if_neg h1]
    simpa [h1] using hq
def nameOk (n : List Nat) : Bool := decide (1 ≤ n.length) && decide (n.length ≤ 8) && !decide (n ∈ barred) && n.all isLet
def sp_is_name (K : PySem.W.Frag) : Sp := sp1 fun a H Q _ => ∃ n : List Nat, a = .str (S n) ∧ n.length ≤ 10000 ∧ ∀ H', Ex H H' → Q (.bl (nameOk n)) H'
theorem sc_is_name : FnScope ["thing", "sign"] ["thing"] (defScope s_is_name) := ⟨rfl, rfl, rfl, by decide +kernel, rfl, by decide +kernel, by decide +kernel⟩
theorem ok_is_name (z : Zk K mg base)   : Cal P w K mg base "is_name" 1 (sp_is_name K) := by
  obtain ⟨fd, F⟩ := z.d_is_name
  refine cal_of F z.g_is_name sc_is_name (fun _ _ _ _ _ _ us hl => match us, hl with | [_], _ => rfl) (fun vs H Q E h => by match vs, h with | [_], _ => rfl) (fun cdv A outer s H vs Q E hr h => ?_)
  have nd := sc_is_name.nd
  have hu : (cxOf (L2.CX P w) P w K mg base ["thing", "sign"] "is_name" (defScope s_is_name) (fAd K ("is_name", none)) cdv A outer s H E).A.units + 64 < cLine := hr.units
  have hu0 := hr.units0
  have hu1 := hu_of hr
  match vs, h with
  | [a0], h =>
  refine ⟨_, (pss_cons (ps_if (PW.pt (pw_or (pt_not (pt_val (pe_callB (k_isi (K := K) rfl) rfl z.b_isinstance boot_isinstance (pa_cons (pv 0) (pa_cons (pe_bltn (v := .ty "str") rfl z.b_str boot_str rfl) pa_nil))))) (pw_or (pt_not (pt_chain op_le op_le pe_int (pe_callB (k_len (K := K) rfl) rfl z.b_len boot_len (pa_cons (pv 0) pa_nil)) (pe_gint z.v_LONGEST))) (pw_or1 (pt_cmpR (k_in_seq (K := K) rfl) (pv 0) (pe_gref z.g_BARRED) (by with_unfolding_all rfl)))))) (pss_one (ps_ret pe_bl)) pss_nil)
      (pss_one (ps_ret (pe_callB (k_all (K := K) rfl rfl) rfl z.b_all boot_all (pa_cons (pe_lc rfl nd (pi_str (pv 0)) (blkOk_by (N := ["thing", "sign"]) (sc := defScope s_is_name) (own := [("sign", 1)]) (by decide +kernel)) (fun _ _ _ _ _ => (pg_name nd (i := 1) rfl (Or.inl rfl))) (fun _ _ _ _ _ => pts_nil) (fun _ _ _ _ _ => (pe_cmpR op_in_str (pv 1) (pe_gstr z.v_LETTERS_names) (by with_unfolding_all rfl)))) pa_nil))))), ?_⟩
  obtain ⟨n, rfl, hn, hq⟩ := h
  simp [tRet, tRetN, tSeq, tIfS, tDrop, tNext, tNever, tBreak, tCont, tAsg, gName, gCons, gNil, gTup, tAndV, tOrV, tNotV, tAnd, tOr, tNot, tOp, tUn, tVar, tC, tB, tTest, tIf, tCons, tNil, tCB, tTup, tLst, tFld, sFld, sFldAug, rAdd, rSub, tSl, tPart, tNoPart, rI0, rI, rU, rEq, rNe, rSlS, rSlL, rIxL, rIxT, rIxS, tChain, tFn, tMt, tM1, tM0, tBM, rAppend, rIn, tIsN, tNotN, scal_ss, scal_ii, let_nil, let_one, fig_nil, fig_one, LenV_str, L2.start, cxOf, and_assoc, tJs, tFmt, put_at, lk_at, lk_script, lk_upcoming, lk_refuse, lk_skips, lk_expect, lk_word_of, lk_name_unlike, lk_number_to, lk_finish, sp0, sp1, sp2, sp3, sp4, sp5, -List.lookup_eq_none_iff, rIsi]
  refine ⟨_, _, .ty "str", .base (.str _), Or.inr ⟨kit_ty (by decide +kernel), ?_⟩⟩
  simp [LenV_str, S_len, and_assoc]
  refine ⟨by rw [sizeLine_eq]; omega, ?_⟩
  have no : nameOk n = false → Q (.bl false) H := fun e => by
    have h2 := hq H Ex.rfl'
    rw [e] at h2
    exact h2
  by_cases h1 : 1 ≤ n.length
  · rw [if_pos (by omega)]
    by_cases h2 : n.length ≤ 8
    · rw [if_pos (by omega)]
      refine ⟨_, Or.inr (tBarred z H), rfl, flat_strs _, ?_⟩
      rw [inV_strs]
      by_cases h3 : n ∈ barred
      · rw [if_pos (by simpa using h3)]
        exact no (by simp [nameOk, h3])
      · rw [if_neg (by simpa using h3)]
        refine lc_mapS (l := n) (fun R h => ⟨_, rfl, h⟩) (ys := n.map fun x => .bl (isLet x)) monG_name monT_yes (by simp; omega) (by simp) (fun i x y H' R hi hy e hR => ?_) fun D H' e hD hl => ?_
        · rw [List.getElem?_map, hi] at hy
          cases hy
          refine ⟨rfl, ?_⟩
          simp [tRet, tRetN, tSeq, tIfS, tDrop, tNext, tNever, tBreak, tCont, tAsg, gName, gCons, gNil, gTup, tAndV, tOrV, tNotV, tAnd, tOr, tNot, tOp, tUn, tVar, tC, tB, tTest, tIf, tCons, tNil, tCB, tTup, tLst, tFld, sFld, sFldAug, rAdd, rSub, tSl, tPart, tNoPart, rI0, rI, rU, rEq, rNe, rSlS, rSlL, rIxL, rIxT, rIxS, tChain, tFn, tMt, tM1, tM0, tBM, rAppend, rIn, tIsN, tNotN, scal_ss, scal_ii, let_nil, let_one, fig_nil, fig_one, LenV_str, L2.start, cxOf, and_assoc, tJs, tFmt, put_at, lk_at, lk_script, lk_upcoming, lk_refuse, lk_skips, lk_expect, lk_word_of, lk_name_unlike, lk_number_to, lk_finish, sp0, sp1, sp2, sp3, sp4, sp5, -List.lookup_eq_none_iff, tYes, wipe]
          rw [found_S, let_mem]
          exact hR _ Ex.rfl'
        · refine ⟨_, n.map isLet, rfl, ?_, ?_⟩
          · rw [List.map_map]
            exact Or.inl (Or.inl hl)
          · have h4 := hq H' e
            have h5 : nameOk n = n.all isLet := by simp [nameOk, h1, h2, h3]
            rw [h5] at h4
            rw [List.all_map]
            exact h4
    · rw [if_neg (by omega)]
      exact no (by simp [nameOk, h2])
  · rw [if_neg (by omega)]
    exact no (by simp [nameOk, h1])
end
end Mp

set_option maxHeartbeats 4000000
/-! Kp1: parts -/
namespace Mp
open PySem PySem.Spec PyProof.Rows L2
open StX (tMakeR run_makeR pe_makeR)
open He (ga ma fAd)
section
variable {P : Program} {w : World} {K : PySem.W.Frag} {mg : Str → Option Value} {base : Heap}
/-! ### loops over enumerate -/
theorem tfor_enum {a : Addr} {xs : List V} {g : TG} {tb : TS} {D : Ends} {σ : L2.St} {H : Hp} {ta : TA} (ht : ∀ R : List V → Hp → Prop, R [.ref a] H → ta σ H R) (Pv : Nat → L2.St → Hp → Prop) (h0 : Pv 0 σ H) (hl : ∀ i σ H, i ≤ xs.length → Pv i σ H → SqL K H a xs)
    (hs : ∀ (i : Nat) (x : V) (q : Addr) (σ : L2.St) (H : Hp), xs[i]? = some x → Pv i σ H → H q = none → g (.ref q) σ (upd H q (.tup [.int ((i : Nat) : Int), x])) fun σ2 H2 => tb { D with nx := Pv (i + 1), ct := Pv (i + 1), bk := D.nx } σ2 H2)
    (hd : ∀ σ H, Pv xs.length σ H → D.nx σ H) : tFor (iEnum K ta) g tb D σ H := by
  refine ht _ ⟨a, xs, rfl, hl 0 _ _ (Nat.zero_le _) h0, fun i m σ H => i ≤ xs.length ∧ m = xs.length - i ∧ Pv i σ H, ⟨_, Nat.zero_le _, rfl, h0⟩, fun i m σ H ⟨h1, h2, h3⟩ => ?_⟩
  by_cases hi : i = xs.length
  · subst hi
    exact Or.inl ⟨⟨xs, hl _ _ _ h1 h3, Nat.le_refl _⟩, hd _ _ h3⟩
  · have hlt : i < xs.length := by omega
    have hx : xs[i]? = some xs[i] := List.getElem?_eq_getElem hlt
    refine Or.inr ⟨⟨xs, _, hl _ _ _ h1 h3, hx⟩, Pv (i + 1), fun σ' H' h => ⟨xs.length - (i + 1), by omega, by omega, rfl, h⟩, ?_⟩
    intro v H' hv
    obtain ⟨q, x, rfl, hq, rfl, hall⟩ := hv
    exact hs i x q σ H (hall xs (hl _ _ _ h1 h3)) h3 hq
/-! ### parts in the heap -/
def Fs.toL : Fs → List (List Nat × Pt)
  | .nil => []
  | .cons n p r => (n, p) :: r.toL
theorem Fs.toL_names : ∀ fs : Fs, fs.toL.map (·.1) = fs.names
  | .nil => rfl
  | .cons n p r => by
    show n :: r.toL.map (·.1) = n :: r.names
    rw [Fs.toL_names r]
theorem Fs.toL_len : ∀ fs : Fs, fs.toL.length = fs.len
  | .nil => rfl
  | .cons n p r => by
    show r.toL.length + 1 = r.len + 1
    rw [Fs.toL_len r]
theorem FsAt.get {H : Hp} : ∀ {fs : Fs} {xs : List V} {i : Nat} {x : V}, FsAt K H fs xs → xs[i]? = some x → ∃ n p q b, fs.toL[i]? = some (n, p) ∧ x = .ref q ∧ H q = some (.tup [.str (S n), .ref b]) ∧ PartAt K H p b
  | .nil, xs, i, x, h, hi => by
    have h : xs = [] := h
    subst h
    cases hi
  | .cons n p r, xs, i, x, h, hi => by
    obtain ⟨q, b, ys, rfl, hq, hb, hr⟩ := h
    cases i with
    | zero =>
      cases hi
      exact ⟨n, p, q, b, rfl, rfl, hq, hb⟩
    | succ i => exact FsAt.get (i := i) hr hi
theorem FsAt.len {H : Hp} : ∀ {fs : Fs} {xs : List V}, FsAt K H fs xs → xs.length = fs.len
  | .nil, xs, h => by
    have h : xs = [] := h
    subst h
    rfl
  | .cons n p r, xs, h => by
    obtain ⟨q, b, ys, rfl, hq, hb, hr⟩ := h
    show ys.length + 1 = r.len + 1
    rw [FsAt.len hr]
theorem FsAt.snoc {H : Hp} {n : List Nat} {p : Pt} {q b : Addr} (hq : H q = some (.tup [.str (S n), .ref b])) (hb : PartAt K H p b) : ∀ {fs : Fs} {xs : List V}, FsAt K H fs xs → FsAt K H (fs.snoc n p) (xs ++ [.ref q])
  | .nil, xs, h => by
    have h : xs = [] := h
    subst h
    exact ⟨q, b, [], rfl, hq, hb, rfl⟩
  | .cons m p2 r, xs, h => by
    obtain ⟨q2, b2, ys, rfl, hq2, hb2, hr⟩ := h
    exact ⟨q2, b2, ys ++ [.ref q], rfl, hq2, hb2, FsAt.snoc hq hb hr⟩
/-- the classes stand apart -/
structure Apart (K : PySem.W.Frag) : Prop where
  ne : ga K "Kind" ≠ ga K "Cursor" ∧ ga K "Byte" ≠ ga K "Cursor" ∧ ga K "Use" ≠ ga K "Cursor" ∧ ga K "Row" ≠ ga K "Cursor" ∧ ga K "Record" ≠ ga K "Cursor" ∧ ga K "Overlay" ≠ ga K "Cursor"
mutual
theorem PartAt.st {H H' : Hp} (ap : Apart K) (e : Stb K H H') : ∀ {p : Pt} {a : Addr}, PartAt K H p a → PartAt K H' p a
  | .kind n t, a, h => by
    obtain ⟨dx, h⟩ := h
    exact ⟨dx, e _ _ h ⟨ap.ne.1, List.cons_ne_nil _ _⟩⟩
  | .byte, a, h => by
    obtain ⟨dx, h⟩ := h
    exact ⟨dx, e _ _ h ⟨ap.ne.2.1, List.cons_ne_nil _ _⟩⟩
  | .use n, a, h => by
    obtain ⟨dx, h⟩ := h
    exact ⟨dx, e _ _ h ⟨ap.ne.2.2.1, List.cons_ne_nil _ _⟩⟩
  | .row n p, a, h => by
    obtain ⟨dx, hh, b, h, hb⟩ := h
    exact ⟨dx, hh, b, e _ _ h ⟨ap.ne.2.2.2.1, List.cons_ne_nil _ _⟩, PartAt.st ap e hb.1, hb.2⟩
  | .rec_ fs, a, h => by
    obtain ⟨dx, hh, t, xs, h, ht, hf⟩ := h
    exact ⟨dx, hh, t, xs, e _ _ h ⟨ap.ne.2.2.2.2.1, List.cons_ne_nil _ _⟩, e _ _ ht trivial, FsAt.st ap e hf.1, hf.2⟩
  | .ovl fs, a, h => by
    obtain ⟨dx, hh, t, xs, h, ht, hf⟩ := h
    exact ⟨dx, hh, t, xs, e _ _ h ⟨ap.ne.2.2.2.2.2, List.cons_ne_nil _ _⟩, e _ _ ht trivial, FsAt.st ap e hf.1, hf.2⟩
theorem FsAt.st {H H' : Hp} (ap : Apart K) (e : Stb K H H') : ∀ {fs : Fs} {xs : List V}, FsAt K H fs xs → FsAt K H' fs xs
  | .nil, xs, h => h
  | .cons n p r, xs, h => by
    obtain ⟨q, b, ys, rfl, hq, hb, hr⟩ := h
    exact ⟨q, b, ys, rfl, e _ _ hq trivial, PartAt.st ap e hb, FsAt.st ap e hr⟩
end
theorem lk_depth {a : V} {r : List (Str × V)} : List.lookup (Str.ofString "depth") ((Str.ofString "depth", a) :: r) = some a := rfl
/-- any part -/
theorem PartAt.obj {H : Hp} (z : Zk K mg base) : ∀ {p : Pt} {a : Addr}, PartAt K H p a → ∃ C dx fs, H a = some (.ins C dx fs) ∧ TyX K H (.ref a) (.ref C) ∧ PySem.W.kitOne K (.ref C) (.ref (ga K "Part")) = some true ∧ Cls K C ∧ NoAttr K C "depth" ∧ fs.lookup (Str.ofString "depth") = some (.int ((p.depth : Nat) : Int))
  | .kind n t, a, h => by
    obtain ⟨dx, h⟩ := h
    exact ⟨_, dx, _, h, z.ty_Kind.ty z.cls_Kind h, z.kit_Kind_Part, z.cls_Kind, z.na_Kind_depth, rfl⟩
  | .byte, a, h => by
    obtain ⟨dx, h⟩ := h
    exact ⟨_, dx, _, h, z.ty_Byte.ty z.cls_Byte h, z.kit_Byte_Part, z.cls_Byte, z.na_Byte_depth, rfl⟩
  | .use n, a, h => by
    obtain ⟨dx, h⟩ := h
    exact ⟨_, dx, _, h, z.ty_Use.ty z.cls_Use h, z.kit_Use_Part, z.cls_Use, z.na_Use_depth, rfl⟩
  | .row n p, a, h => by
    obtain ⟨dx, hh, b, h, hb⟩ := h
    exact ⟨_, dx, _, h, z.ty_Row.ty z.cls_Row h, z.kit_Row_Part, z.cls_Row, z.na_Row_depth, rfl⟩
  | .rec_ fs, a, h => by
    obtain ⟨dx, hh, t, xs, h, ht, hf⟩ := h
    exact ⟨_, dx, _, h, z.ty_Record.ty z.cls_Record h, z.kit_Record_Part, z.cls_Record, z.na_Record_depth, rfl⟩
  | .ovl fs, a, h => by
    obtain ⟨dx, hh, t, xs, h, ht, hf⟩ := h
    exact ⟨_, dx, _, h, z.ty_Overlay.ty z.cls_Overlay h, z.kit_Overlay_Part, z.cls_Overlay, z.na_Overlay_depth, rfl⟩
/-- a list of pairs of names and parts -/
def PairsAt (K : PySem.W.Frag) (H : Hp) (fs : Fs) (a : Addr) : Prop := ∃ xs, H a = some (.lst xs) ∧ FsAt K H fs xs
def sp_need_pairs (K : PySem.W.Frag) : Sp := sp2 fun a b H Q _ => ∃ (p : Addr) (fs : Fs) (most : Nat), a = .ref p ∧ b = .int ((most : Nat) : Int) ∧ PairsAt K H fs p ∧ 1 ≤ fs.len ∧ fs.len ≤ most ∧ most ≤ 1000 ∧ fs.names.Nodup ∧ (∀ n ∈ fs.names, nameOk n = true) ∧ ∀ H', Ex H H' → Q .non H'
theorem sc_need_pairs : FnScope ["pairs", "most", "names", "at", "pair"] ["pairs", "most"] (defScope s_need_pairs) := ⟨rfl, rfl, rfl, by decide +kernel, rfl, by decide +kernel, by decide +kernel⟩
theorem ok_need_pairs (z : Zk K mg base) (c_is_name : Cal P w K mg base "is_name" 1 (sp_is_name K)) (ap : Apart K) : Cal P w K mg base "need_pairs" 3 (sp_need_pairs K) := by
  obtain ⟨fd, F⟩ := z.d_need_pairs
  refine cal_of F z.g_need_pairs sc_need_pairs (fun _ _ _ _ _ _ us hl => match us, hl with | [_, _], _ => rfl) (fun vs H Q E h => by match vs, h with | [_, _], _ => rfl) (fun cdv A outer s H vs Q E hr h => ?_)
  have nd := sc_need_pairs.nd
  have hu : (cxOf (L2.CX P w) P w K mg base ["pairs", "most", "names", "at", "pair"] "need_pairs" (defScope s_need_pairs) (fAd K ("need_pairs", none)) cdv A outer s H E).A.units + 64 < cLine := hr.units
  have hu0 := hr.units0
  have hu1 := hu_of hr
  match vs, h with
  | [a0, a1], h =>
  refine ⟨_, (pss_cons (ps_if (PW.pt (pw_or (pt_not (pt_val (pe_callB (k_isiT (K := K) rfl) rfl z.b_isinstance boot_isinstance (pa_cons (pv 0) (pa_cons (pe_tup (pa_cons (pe_bltn (v := .ty "list") rfl z.b_list boot_list rfl) (pa_cons (pe_bltn (v := .ty "tuple") rfl z.b_tuple boot_tuple rfl) pa_nil))) pa_nil))))) (pw_or1 (pt_not (pt_chain op_le op_le pe_int (pe_callB (k_len (K := K) rfl) rfl z.b_len boot_len (pa_cons (pv 0) pa_nil)) (pv 1)))))) (pss_one ps_never) pss_nil)
      (pss_cons (ps_set (i := 2) nd rfl (Or.inl rfl) (pe_lst pa_nil))
      (pss_one (ps_for (passes_of rfl) rfl (k_pi_enum (K := K) rfl rfl z.b_enumerate (pa_cons (pv 0) pa_nil)) (k_pg_tup (K := K) (n := 2) rfl rfl (pgs_cons (pg_name nd (i := 3) rfl (Or.inl rfl)) (pgs_cons (pg_name nd (i := 4) rfl (Or.inl rfl)) pgs_nil))) (pss_cons (ps_if (PW.pt (pw_or (pt_not (pt_val (pe_callB (k_isi (K := K) rfl) rfl z.b_isinstance boot_isinstance (pa_cons (pv 4) (pa_cons (pe_bltn (v := .ty "tuple") rfl z.b_tuple boot_tuple rfl) pa_nil))))) (pw_or (pt_cmpR op_ne (pe_callB (k_len (K := K) rfl) rfl z.b_len boot_len (pa_cons (pv 4) pa_nil)) pe_int (nomark _)) (pw_or (pt_not (pt_val (pe_fn c_is_name hr (passD (E := E)) (pa_cons (pe_ix (k_ix_tup (K := K) rfl) (pv 4) pe_int fun _ _ => rfl) pa_nil)))) (pw_or1 (pt_not (pt_val (pe_callB (k_isi (K := K) rfl) rfl z.b_isinstance boot_isinstance (pa_cons (pe_ix (k_ix_tup (K := K) rfl) (pv 4) pe_int fun _ _ => rfl) (pa_cons (pe_gref z.g_Part) pa_nil)))))))))) (pss_one ps_never) pss_nil)
      (pss_cons (ps_if (pt_cmpR (k_in_seq (K := K) rfl) (pe_ix (k_ix_tup (K := K) rfl) (pv 4) pe_int fun _ _ => rfl) (pv 2) (by with_unfolding_all rfl)) (pss_one ps_never) pss_nil)
      (pss_one (ps_expr (k_append (K := K) rfl (pv 2) (pe_ix (k_ix_tup (K := K) rfl) (pv 4) pe_int fun _ _ => rfl)))))))))), ?_⟩
  obtain ⟨p, fs, most, rfl, rfl, ⟨xs, hx, hf⟩, h1, h2, h3, h4, h5, hq⟩ := h
  simp [tRet, tRetN, tSeq, tIfS, tDrop, tNext, tNever, tBreak, tCont, tAsg, gName, gCons, gNil, gTup, tAndV, tOrV, tNotV, tAnd, tOr, tNot, tOp, tUn, tVar, tC, tB, tTest, tIf, tCons, tNil, tCB, tTup, tLst, tFld, sFld, sFldAug, rAdd, rSub, tSl, tPart, tNoPart, rI0, rI, rU, rEq, rNe, rSlS, rSlL, rIxL, rIxT, rIxS, tChain, tFn, tMt, tM1, tM0, tBM, rAppend, rIn, tIsN, tNotN, scal_ss, scal_ii, let_nil, let_one, fig_nil, fig_one, LenV_str, L2.start, cxOf, and_assoc, tJs, tFmt, put_at, lk_at, lk_script, lk_upcoming, lk_refuse, lk_skips, lk_expect, lk_word_of, lk_name_unlike, lk_number_to, lk_finish, sp0, sp1, sp2, sp3, sp4, sp5, -List.lookup_eq_none_iff, rIsiT]
  refine ⟨by rw [sizeLine_eq]; omega, fun t ht => ⟨_, upd_same, _, _, .cons (.ty "list") (.cons (.ty "tuple") .nil), .base (.lst (Ex.new ht _ _ hx)), kitAny_cons (b := true) (kit_ty (by decide +kernel)) (fun h => nomatch h) (fun _ => rfl), ?_⟩⟩
  have e1 : Ex H (upd H t (.tup [.ty "list", .ty "tuple"])) := Ex.new ht
  have hlen := hf.len
  refine ⟨_, Or.inl ⟨_, Or.inl (Or.inl (e1 _ _ hx)), rfl⟩, by omega, by omega, fun nm hnm => ?_⟩
  have hnm0 : H nm = none := Ex.free e1 hnm
  refine tfor_enum (xs := xs) (fun R h => ⟨_, rfl, h⟩) (fun i σ H' => ∃ u1 u2, σ = [some (.ref p), some (.int ((most : Nat) : Int)), some (.ref nm), u1, u2] ∧ Ex H H' ∧ H' nm = some (.lst ((fs.names.take i).map fun x => V.str (S x))))
    ⟨none, none, rfl, Ex.mut e1 hnm0, by rw [upd_same]; rfl⟩ (fun i σ H' _ h => ?_) (fun i x q σ H' hi h hq2 => ?_) (fun σ H' h => ?_)
  · obtain ⟨u1, u2, _, e, _⟩ := h
    exact Or.inl (Or.inl (e _ _ hx))
  · obtain ⟨u1, u2, rfl, e, hn⟩ := h
    obtain ⟨n, pp, q2, b, hg, rfl, hp, hb⟩ := FsAt.get (hf.st ap (Stb.of e)) hi
    have e2 : Ex H' (upd H' q (.tup [.int ((i : Nat) : Int), .ref q2])) := Ex.new hq2
    have hq3 := e2 _ _ hp
    have hni : fs.names[i]? = some n := by
      rw [← Fs.toL_names, List.getElem?_map, hg]
      rfl
    have hok := h5 n (List.mem_of_getElem? hni)
    have hnl : n.length ≤ 8 := by
      simp [nameOk] at hok
      omega
    simp [tRet, tRetN, tSeq, tIfS, tDrop, tNext, tNever, tBreak, tCont, tAsg, gName, gCons, gNil, gTup, tAndV, tOrV, tNotV, tAnd, tOr, tNot, tOp, tUn, tVar, tC, tB, tTest, tIf, tCons, tNil, tCB, tTup, tLst, tFld, sFld, sFldAug, rAdd, rSub, tSl, tPart, tNoPart, rI0, rI, rU, rEq, rNe, rSlS, rSlL, rIxL, rIxT, rIxS, tChain, tFn, tMt, tM1, tM0, tBM, rAppend, rIn, tIsN, tNotN, scal_ss, scal_ii, let_nil, let_one, fig_nil, fig_one, LenV_str, L2.start, cxOf, and_assoc, tJs, tFmt, put_at, lk_at, lk_script, lk_upcoming, lk_refuse, lk_skips, lk_expect, lk_word_of, lk_name_unlike, lk_number_to, lk_finish, sp0, sp1, sp2, sp3, sp4, sp5, -List.lookup_eq_none_iff, rIsi]
    refine ⟨_, SqT.of upd_same, rfl, _, _, rfl, _, _, rfl, rfl, _, _, .ty "tuple", .base (.tup hq3), kit_ty (by decide +kernel), 2, Or.inr ⟨_, SqT.of hq3, rfl⟩, rfl, _, rfl, _, SqT.of hq3, _, rfl, n, rfl, by omega, fun H1 e3 => ?_⟩
    have hq4 := e3 _ _ hq3
    obtain ⟨C, dx, ffs, hC, hT, hK, _⟩ := PartAt.obj z (hb.st ap (Stb.of (Ex.trans e2 e3)))
    have nm1 := e3 _ _ (e2 _ _ hn)
    have hnin : n ∉ fs.names.take i := by
      intro hm
      obtain ⟨j, hj⟩ := List.mem_iff_getElem?.mp hm
      rw [List.getElem?_take] at hj
      split at hj
      · have := nd_ix h4 hj hni
        omega
      · cases hj
    refine ⟨by rw [hok], _, rfl, _, SqT.of hq4, _, rfl, _, _, .own _, hT, hK, _, rfl, _, SqT.of hq4, _, rfl, _, Or.inl (SqL.of nm1), rfl, flat_strs _, ?_, Or.inl ⟨rfl, _, SqL.of nm1⟩, _, rfl, _, SqT.of hq4, _, rfl, _, nm1, ?_, Ex.mut (Ex.trans e (Ex.trans e2 e3)) hnm0, ?_⟩
    · rw [inV_strs]
      simpa using hnin
    · have hi3 := (List.getElem?_eq_some_iff.mp hi).1
      simp [sizeLine_eq]
      omega
    · rw [upd_same]
      have h7 : fs.names.take i ++ [n] = fs.names.take (i + 1) := by
        obtain ⟨hi2, h8⟩ := List.getElem?_eq_some_iff.mp hni
        rw [← h8]
        exact (List.take_succ_eq_append_getElem hi2).symm
      rw [← List.map_take, ← h7]
      simp
  · obtain ⟨u1, u2, rfl, e, _⟩ := h
    exact hq _ e
/-- the parts of the pairs -/
def sp_depth_over (K : PySem.W.Frag) : Sp := sp1 fun a H Q _ => ∃ (p : Addr) (ps : List (Pt × Addr)), a = .ref p ∧ SqL K H p (ps.map fun x => .ref x.2) ∧ (∀ x ∈ ps, PartAt K H x.1 x.2) ∧ Q (.int ((ps.foldl (fun m x => max m (x.1.depth + 1)) 0 : Nat) : Int)) H
theorem sc_depth_over : FnScope ["parts", "found", "part"] ["parts"] (defScope s_depth_over) := ⟨rfl, rfl, rfl, by decide +kernel, rfl, by decide +kernel, by decide +kernel⟩
theorem ok_depth_over (z : Zk K mg base)   : Cal P w K mg base "depth_over" 1 (sp_depth_over K) := by
  obtain ⟨fd, F⟩ := z.d_depth_over
  refine cal_of F z.g_depth_over sc_depth_over (fun _ _ _ _ _ _ us hl => match us, hl with | [_], _ => rfl) (fun vs H Q E h => by match vs, h with | [_], _ => rfl) (fun cdv A outer s H vs Q E hr h => ?_)
  have nd := sc_depth_over.nd
  have hu : (cxOf (L2.CX P w) P w K mg base ["parts", "found", "part"] "depth_over" (defScope s_depth_over) (fAd K ("depth_over", none)) cdv A outer s H E).A.units + 64 < cLine := hr.units
  have hu0 := hr.units0
  have hu1 := hu_of hr
  match vs, h with
  | [a0], h =>
  refine ⟨_, (pss_cons (ps_set (i := 1) nd rfl (Or.inl rfl) pe_int)
      (pss_cons (ps_for (passes_of rfl) rfl (k_pi_list (K := K) rfl (pv 0)) (pg_name nd (i := 2) rfl (Or.inl rfl)) (pss_one (ps_if (pt_cmpR op_ge (k_fld (K := K) rfl (pv 2)) (pv 1) (nomark _)) (pss_one (ps_set (i := 1) nd rfl (Or.inl rfl) (pe_op op_add (k_fld (K := K) rfl (pv 2)) pe_int))) pss_nil)))
      (pss_one (ps_ret (pv 1))))), ?_⟩
  obtain ⟨p, ps, rfl, hp, hps, hq⟩ := h
  simp [tRet, tRetN, tSeq, tIfS, tDrop, tNext, tNever, tBreak, tCont, tAsg, gName, gCons, gNil, gTup, tAndV, tOrV, tNotV, tAnd, tOr, tNot, tOp, tUn, tVar, tC, tB, tTest, tIf, tCons, tNil, tCB, tTup, tLst, tFld, sFld, sFldAug, rAdd, rSub, tSl, tPart, tNoPart, rI0, rI, rU, rEq, rNe, rSlS, rSlL, rIxL, rIxT, rIxS, tChain, tFn, tMt, tM1, tM0, tBM, rAppend, rIn, tIsN, tNotN, scal_ss, scal_ii, let_nil, let_one, fig_nil, fig_one, LenV_str, L2.start, cxOf, and_assoc, tJs, tFmt, put_at, lk_at, lk_script, lk_upcoming, lk_refuse, lk_skips, lk_expect, lk_word_of, lk_name_unlike, lk_number_to, lk_finish, sp0, sp1, sp2, sp3, sp4, sp5, -List.lookup_eq_none_iff]
  refine tfor_list (xs := ps.map fun x => .ref x.2) (fun R h => ⟨_, rfl, h⟩) (fun i σ H' => ∃ u, H' = H ∧ σ = [some (.ref p), some (.int (((ps.take i).foldl (fun m x => max m (x.1.depth + 1)) 0 : Nat) : Int)), u])
    ⟨none, rfl, rfl⟩ (fun i σ H' _ h => ?_) (fun i x σ H' hi h => ?_) (fun σ H' h => ?_)
  · obtain ⟨u, rfl, _⟩ := h
    exact hp
  · obtain ⟨u, rfl, rfl⟩ := h
    rw [List.getElem?_map] at hi
    cases hx : ps[i]? with
    | none => rw [hx] at hi; cases hi
    | some y =>
      rw [hx] at hi
      cases hi
      obtain ⟨C, dx, fs, hC, _, _, cl, na, lk⟩ := PartAt.obj z (hps y (List.mem_of_getElem? hx))
      simp [tRet, tRetN, tSeq, tIfS, tDrop, tNext, tNever, tBreak, tCont, tAsg, gName, gCons, gNil, gTup, tAndV, tOrV, tNotV, tAnd, tOr, tNot, tOp, tUn, tVar, tC, tB, tTest, tIf, tCons, tNil, tCB, tTup, tLst, tFld, sFld, sFldAug, rAdd, rSub, tSl, tPart, tNoPart, rI0, rI, rU, rEq, rNe, rSlS, rSlL, rIxL, rIxT, rIxS, tChain, tFn, tMt, tM1, tM0, tBM, rAppend, rIn, tIsN, tNotN, scal_ss, scal_ii, let_nil, let_one, fig_nil, fig_one, LenV_str, L2.start, cxOf, and_assoc, tJs, tFmt, put_at, lk_at, lk_script, lk_upcoming, lk_refuse, lk_skips, lk_expect, lk_word_of, lk_name_unlike, lk_number_to, lk_finish, sp0, sp1, sp2, sp3, sp4, sp5, -List.lookup_eq_none_iff, hC, cl, na, lk]
      have e1 : ps.take (i + 1) = ps.take i ++ [y] := by
        obtain ⟨hi2, h8⟩ := List.getElem?_eq_some_iff.mp hx
        rw [← h8]
        exact List.take_succ_eq_append_getElem hi2
      rw [e1, List.foldl_append]
      simp only [List.foldl_cons, List.foldl_nil]
      split <;> omega
  · obtain ⟨u, rfl, rfl⟩ := h
    simp [tRet, tRetN, tSeq, tIfS, tDrop, tNext, tNever, tBreak, tCont, tAsg, gName, gCons, gNil, gTup, tAndV, tOrV, tNotV, tAnd, tOr, tNot, tOp, tUn, tVar, tC, tB, tTest, tIf, tCons, tNil, tCB, tTup, tLst, tFld, sFld, sFldAug, rAdd, rSub, tSl, tPart, tNoPart, rI0, rI, rU, rEq, rNe, rSlS, rSlL, rIxL, rIxT, rIxS, tChain, tFn, tMt, tM1, tM0, tBM, rAppend, rIn, tIsN, tNotN, scal_ss, scal_ii, let_nil, let_one, fig_nil, fig_one, LenV_str, L2.start, cxOf, and_assoc, tJs, tFmt, put_at, lk_at, lk_script, lk_upcoming, lk_refuse, lk_skips, lk_expect, lk_word_of, lk_name_unlike, lk_number_to, lk_finish, sp0, sp1, sp2, sp3, sp4, sp5, -List.lookup_eq_none_iff]
    exact hq
end
end Mp

set_option maxHeartbeats 4000000
/-! Kp2: a part's text -/
namespace Mp
open PySem PySem.Spec PyProof.Rows L2
open StX (tMakeR run_makeR pe_makeR)
open He (ga ma fAd)
section
variable {P : Program} {w : World} {K : PySem.W.Frag} {mg : Str → Option Value} {base : Heap}
/-- o.m() where the class is known only when it is run -/
def tMtD (P : Program) (w : World) (K : PySem.W.Frag) (mg : Str → Option Value) (base : Heap) (m : Str) (k : Nat) (E : XK) (ta : TE) : TE := fun σ H Q => ta σ H fun x H1 => ∃ a C dx fs sp, x = .ref a ∧ H1 a = some (.ins C dx fs) ∧ fs.lookup m = none ∧ Cmt P w K mg base C m k sp ∧ sp [x] H1 Q E
theorem pe_mtD {X : Cx} {m : Str} {k k0 : Nat} {E : XK} {apos pos : Pos} {o : Expr} {ta : TE} {pl : Sem Bool} (hK : X.K = K) (hmg : X.mg = mg) (hb : X.base = base) (hP : X.prog = P) (hw : X.w = w) (he : PE X o ta) (hr : Room k0 X.A) (hx : Passes (L2.CX X.prog X.w) X E) (hk : k ≤ k0 := by decide)
    (ht : eval (.Call (.Attribute o m apos) [] [] pos) X.env = (do
      let ov ← eval o X.env
      standAt apos.atName
      let (f, first) ← holding [ov] (getMethod ov m pl)
      callWith pos f first (backTo pos (starEach [] X.env)) (backToKw pos (keywordEach [] X.env))) := by rfl) :
    PE X (.Call (.Attribute o m apos) [] [] pos) (tMtD P w K mg base m k E ta) := by
  subst hK hmg hb hP hw
  refine ⟨fun pins s σ H Q I h => ?_⟩
  refine PySem.W.methodCall_KW (pl := pl) (thn (he.run pins s σ H _ I h) fun u s1 ⟨x, H1, I1, rx, a, C, dx, fs, sp, ex, hi, hl, F, q⟩ => ?_) ht
  obtain ⟨f, G, hm⟩ := F.ex
  subst ex
  obtain rfl : u = Value.ref a := rx
  refine getmeth_ok I1 hi F.cl hm hl ?_
  exact PySem.W.callWith_K0 (first := [.ref a]) I1.kIn hm.kp (wpAny_call (run_fnR (us := [.ref a]) (vs := [.ref a]) G (hr.mono hk) hx I1 (.cons rfl .nil) q))
abbrev numL (n : Nat) : List Nat := TL.numL n
mutual
def Pt.text : Pt → List Nat
  | .kind n _ => n
  | .byte => T "byte"
  | .use n => 64 :: n
  | .row n p => numL n ++ 42 :: p.text
  | .rec_ fs => 123 :: (TL.joinL [32] fs.texts ++ [125])
  | .ovl fs => 40 :: (TL.joinL [124] fs.texts ++ [41])
def Fs.texts : Fs → List (List Nat)
  | .nil => []
  | .cons n p r => (n ++ 58 :: p.text) :: r.texts
end
def Pt.isK : Pt → Bool
  | .kind _ _ => true
  | _ => false
def Pt.isB : Pt → Bool
  | .byte => true
  | _ => false
def Pt.isU : Pt → Bool
  | .use _ => true
  | _ => false
def Pt.isR : Pt → Bool
  | .row _ _ => true
  | _ => false
def Pt.isC : Pt → Bool
  | .rec_ _ => true
  | _ => false
def Pt.isO : Pt → Bool
  | .ovl _ => true
  | _ => false
/-- text of a part below the depth D -/
def spText (D : Nat) (sel : Pt → Bool) (K : PySem.W.Frag) : Sp := sp1 fun a H Q _ => ∃ p b, a = .ref b ∧ sel p = true ∧ PartAt K H p b ∧ p.depth < D ∧ p.text.length ≤ 10000 ∧ ∀ H', Ex H H' → Q (.str (S p.text)) H'
structure TxtAll (P : Program) (w : World) (K : PySem.W.Frag) (mg : Str → Option Value) (base : Heap) (D k : Nat) : Prop where
  kind : Cmt P w K mg base (ga K "Kind") "text" k (spText D Pt.isK K)
  byte : Cmt P w K mg base (ga K "Byte") "text" k (spText D Pt.isB K)
  use : Cmt P w K mg base (ga K "Use") "text" k (spText D Pt.isU K)
  row : Cmt P w K mg base (ga K "Row") "text" k (spText D Pt.isR K)
  rec_ : Cmt P w K mg base (ga K "Record") "text" k (spText D Pt.isC K)
  ovl : Cmt P w K mg base (ga K "Overlay") "text" k (spText D Pt.isO K)
theorem lkt1 {a : V} : List.lookup (Str.ofString "text") [(Str.ofString "depth", a)] = none := rfl
/-- the call of text on any part -/
theorem TxtAll.at_ {D k : Nat} {H : Hp} {p : Pt} {a : Addr} {Q : VK} {E : XK} (t : TxtAll P w K mg base D k) (h : PartAt K H p a) (hd : p.depth < D) (hl : p.text.length ≤ 10000) (hq : ∀ H', Ex H H' → Q (.str (S p.text)) H') :
    ∃ C dx fs, H a = some (.ins C dx fs) ∧ fs.lookup (Str.ofString "text") = none ∧ ∃ sp, Cmt P w K mg base C "text" k sp ∧ sp [.ref a] H Q E := by
  cases p with
  | kind n u =>
    obtain ⟨dx, h2⟩ := id h
    exact ⟨_, dx, _, h2, rfl, _, t.kind, _, a, rfl, rfl, h, hd, hl, hq⟩
  | byte =>
    obtain ⟨dx, h2⟩ := id h
    exact ⟨_, dx, _, h2, rfl, _, t.byte, _, a, rfl, rfl, h, hd, hl, hq⟩
  | use n =>
    obtain ⟨dx, h2⟩ := id h
    exact ⟨_, dx, _, h2, rfl, _, t.use, _, a, rfl, rfl, h, hd, hl, hq⟩
  | row n p =>
    obtain ⟨dx, hh, b, h2, _⟩ := id h
    exact ⟨_, dx, _, h2, rfl, _, t.row, _, a, rfl, rfl, h, hd, hl, hq⟩
  | rec_ fs =>
    obtain ⟨dx, hh, tt, xs, h2, _⟩ := id h
    exact ⟨_, dx, _, h2, rfl, _, t.rec_, _, a, rfl, rfl, h, hd, hl, hq⟩
  | ovl fs =>
    obtain ⟨dx, hh, tt, xs, h2, _⟩ := id h
    exact ⟨_, dx, _, h2, rfl, _, t.ovl, _, a, rfl, rfl, h, hd, hl, hq⟩
theorem lk_n1 {a b : V} {r : List (Str × V)} : List.lookup (Str.ofString "name") ((Str.ofString "depth", a) :: (Str.ofString "name", b) :: r) = some b := rfl
theorem lk_part {a b c : V} {r : List (Str × V)} : List.lookup (Str.ofString "part") ((Str.ofString "depth", a) :: (Str.ofString "held", b) :: (Str.ofString "part", c) :: r) = some c := rfl
theorem lk_n {a b c d : V} {r : List (Str × V)} : List.lookup (Str.ofString "n") ((Str.ofString "depth", a) :: (Str.ofString "held", b) :: (Str.ofString "part", c) :: (Str.ofString "n", d) :: r) = some d := rfl
theorem lk_fields {a b c : V} {r : List (Str × V)} : List.lookup (Str.ofString "fields") ((Str.ofString "depth", a) :: (Str.ofString "held", b) :: (Str.ofString "fields", c) :: r) = some c := rfl
theorem lk_members {a b c : V} {r : List (Str × V)} : List.lookup (Str.ofString "members") ((Str.ofString "depth", a) :: (Str.ofString "held", b) :: (Str.ofString "members", c) :: r) = some c := rfl
section
variable {D k : Nat}
theorem sc_Kind_text : FnScope ["self"] ["self"] (defScope s_Kind_text) := ⟨rfl, rfl, rfl, by decide +kernel, rfl, by decide +kernel, by decide +kernel⟩
theorem ok_Kind_text (z : Zk K mg base)   : Cmt P w K mg base (ga K "Kind") "text" 1 ((spText D Pt.isK K)) := by
  obtain ⟨fd, F⟩ := z.d_Kind_text
  refine cmt_of F z.cls_Kind z.mt_Kind_text sc_Kind_text (fun _ _ _ _ _ _ us hl => match us, hl with | [_], _ => rfl) (fun vs H Q E h => by match vs, h with | [_], _ => rfl) (fun cdv A outer s H vs Q E hr h => ?_)
  have nd := sc_Kind_text.nd
  have hu : (cxOf (L2.CX P w) P w K mg base ["self"] "Kind.text" (defScope s_Kind_text) (fAd K ("Kind", some "text")) cdv A outer s H E).A.units + 64 < cLine := hr.units
  have hu0 := hr.units0
  have hu1 := hu_of hr
  match vs, h with
  | [a0], h =>
  refine ⟨_, (pss_one (ps_ret (k_fld (K := K) rfl (pv 0)))), ?_⟩
  obtain ⟨p, b, rfl, hs, hp, hd, hl, hq⟩ := h
  cases p <;> try cases hs
  obtain ⟨dx, h2⟩ := hp
  simp [tRet, tRetN, tSeq, tIfS, tDrop, tNext, tNever, tBreak, tCont, tAsg, gName, gCons, gNil, gTup, tAndV, tOrV, tNotV, tAnd, tOr, tNot, tOp, tUn, tVar, tC, tB, tTest, tIf, tCons, tNil, tCB, tTup, tLst, tFld, sFld, sFldAug, rAdd, rSub, tSl, tPart, tNoPart, rI0, rI, rU, rEq, rNe, rSlS, rSlL, rIxL, rIxT, rIxS, tChain, tFn, tMt, tM1, tM0, tBM, rAppend, rIn, tIsN, tNotN, scal_ss, scal_ii, let_nil, let_one, fig_nil, fig_one, LenV_str, L2.start, cxOf, and_assoc, tJs, tFmt, put_at, lk_at, lk_script, lk_upcoming, lk_refuse, lk_skips, lk_expect, lk_word_of, lk_name_unlike, lk_number_to, lk_finish, sp0, sp1, sp2, sp3, sp4, sp5, -List.lookup_eq_none_iff, h2, z.cls_Kind, z.na_Kind_name, lk_n1]
  exact hq _ Ex.rfl'
theorem sc_Byte_text : FnScope ["self"] ["self"] (defScope s_Byte_text) := ⟨rfl, rfl, rfl, by decide +kernel, rfl, by decide +kernel, by decide +kernel⟩
theorem ok_Byte_text (z : Zk K mg base)   : Cmt P w K mg base (ga K "Byte") "text" 1 ((spText D Pt.isB K)) := by
  obtain ⟨fd, F⟩ := z.d_Byte_text
  refine cmt_of F z.cls_Byte z.mt_Byte_text sc_Byte_text (fun _ _ _ _ _ _ us hl => match us, hl with | [_], _ => rfl) (fun vs H Q E h => by match vs, h with | [_], _ => rfl) (fun cdv A outer s H vs Q E hr h => ?_)
  have nd := sc_Byte_text.nd
  have hu : (cxOf (L2.CX P w) P w K mg base ["self"] "Byte.text" (defScope s_Byte_text) (fAd K ("Byte", some "text")) cdv A outer s H E).A.units + 64 < cLine := hr.units
  have hu0 := hr.units0
  have hu1 := hu_of hr
  match vs, h with
  | [a0], h =>
  refine ⟨_, (pss_one (ps_ret pe_str)), ?_⟩
  obtain ⟨p, b, rfl, hs, hp, hd, hl, hq⟩ := h
  cases p <;> try cases hs
  simp [tRet, tRetN, tSeq, tIfS, tDrop, tNext, tNever, tBreak, tCont, tAsg, gName, gCons, gNil, gTup, tAndV, tOrV, tNotV, tAnd, tOr, tNot, tOp, tUn, tVar, tC, tB, tTest, tIf, tCons, tNil, tCB, tTup, tLst, tFld, sFld, sFldAug, rAdd, rSub, tSl, tPart, tNoPart, rI0, rI, rU, rEq, rNe, rSlS, rSlL, rIxL, rIxT, rIxS, tChain, tFn, tMt, tM1, tM0, tBM, rAppend, rIn, tIsN, tNotN, scal_ss, scal_ii, let_nil, let_one, fig_nil, fig_one, LenV_str, L2.start, cxOf, and_assoc, tJs, tFmt, put_at, lk_at, lk_script, lk_upcoming, lk_refuse, lk_skips, lk_expect, lk_word_of, lk_name_unlike, lk_number_to, lk_finish, sp0, sp1, sp2, sp3, sp4, sp5, -List.lookup_eq_none_iff, ofS]
  exact hq _ Ex.rfl'
theorem S_emp : Str.empty = S [] := rfl
theorem fmt_num (n : Nat) : Str.ofString (((n : Nat) : Int).repr) = S (numL n) := SX.num_S n
theorem sc_Use_text : FnScope ["self"] ["self"] (defScope s_Use_text) := ⟨rfl, rfl, rfl, by decide +kernel, rfl, by decide +kernel, by decide +kernel⟩
theorem ok_Use_text (z : Zk K mg base)   : Cmt P w K mg base (ga K "Use") "text" 1 ((spText D Pt.isU K)) := by
  obtain ⟨fd, F⟩ := z.d_Use_text
  refine cmt_of F z.cls_Use z.mt_Use_text sc_Use_text (fun _ _ _ _ _ _ us hl => match us, hl with | [_], _ => rfl) (fun vs H Q E h => by match vs, h with | [_], _ => rfl) (fun cdv A outer s H vs Q E hr h => ?_)
  have nd := sc_Use_text.nd
  have hu : (cxOf (L2.CX P w) P w K mg base ["self"] "Use.text" (defScope s_Use_text) (fAd K ("Use", some "text")) cdv A outer s H E).A.units + 64 < cLine := hr.units
  have hu0 := hr.units0
  have hu1 := hu_of hr
  match vs, h with
  | [a0], h =>
  refine ⟨_, (pss_one (ps_ret (pe_joined (.cons pe_str (.cons (pe_fmt (k_fld (K := K) rfl (pv 0))) .nil))))), ?_⟩
  obtain ⟨p, b, rfl, hs, hp, hd, hl, hq⟩ := h
  cases p <;> try cases hs
  rename_i n
  obtain ⟨dx, h2⟩ := hp
  have hl2 : n.length + 1 ≤ 10000 := by simpa [Pt.text] using hl
  simp [tRet, tRetN, tSeq, tIfS, tDrop, tNext, tNever, tBreak, tCont, tAsg, gName, gCons, gNil, gTup, tAndV, tOrV, tNotV, tAnd, tOr, tNot, tOp, tUn, tVar, tC, tB, tTest, tIf, tCons, tNil, tCB, tTup, tLst, tFld, sFld, sFldAug, rAdd, rSub, tSl, tPart, tNoPart, rI0, rI, rU, rEq, rNe, rSlS, rSlL, rIxL, rIxT, rIxS, tChain, tFn, tMt, tM1, tM0, tBM, rAppend, rIn, tIsN, tNotN, scal_ss, scal_ii, let_nil, let_one, fig_nil, fig_one, LenV_str, L2.start, cxOf, and_assoc, tJs, tFmt, put_at, lk_at, lk_script, lk_upcoming, lk_refuse, lk_skips, lk_expect, lk_word_of, lk_name_unlike, lk_number_to, lk_finish, sp0, sp1, sp2, sp3, sp4, sp5, -List.lookup_eq_none_iff, h2, z.cls_Use, z.na_Use_name, lk_n1, ofS "@", S_emp, S_app, S_len, sizeLine_eq]
  refine ⟨by omega, by omega, hq _ Ex.rfl'⟩
theorem sc_Row_text : FnScope ["self"] ["self"] (defScope s_Row_text) := ⟨rfl, rfl, rfl, by decide +kernel, rfl, by decide +kernel, by decide +kernel⟩
theorem ok_Row_text (z : Zk K mg base)  (t : TxtAll P w K mg base D k) : Cmt P w K mg base (ga K "Row") "text" (k + 1) ((spText (D+1) Pt.isR K)) := by
  obtain ⟨fd, F⟩ := z.d_Row_text
  refine cmt_of F z.cls_Row z.mt_Row_text sc_Row_text (fun _ _ _ _ _ _ us hl => match us, hl with | [_], _ => rfl) (fun vs H Q E h => by match vs, h with | [_], _ => rfl) (fun cdv A outer s H vs Q E hr h => ?_)
  have nd := sc_Row_text.nd
  have hu : (cxOf (L2.CX P w) P w K mg base ["self"] "Row.text" (defScope s_Row_text) (fAd K ("Row", some "text")) cdv A outer s H E).A.units + 64 < cLine := hr.units
  have hu0 := hr.units0
  have hu1 := hu_of hr
  match vs, h with
  | [a0], h =>
  refine ⟨_, (pss_one (ps_ret (pe_joined (.cons (pe_fmt (k_fld (K := K) rfl (pv 0))) (.cons pe_str (.cons (pe_fmt (pe_mtD (k := k) rfl rfl rfl rfl rfl (k_fld (K := K) rfl (pv 0)) hr (passD (E := E)) (by omega))) .nil)))))), ?_⟩
  obtain ⟨p, b, rfl, hs, hp, hd, hl, hq⟩ := h
  cases p <;> try cases hs
  rename_i n p
  obtain ⟨dx, hh, c, h2, hc⟩ := hp
  have hl2 : (numL n).length + (p.text.length + 1) ≤ 10000 := by simpa [Pt.text] using hl
  have hd2 : p.depth < D := by
    have : p.depth + 1 < D + 1 := hd
    omega
  simp [tRet, tRetN, tSeq, tIfS, tDrop, tNext, tNever, tBreak, tCont, tAsg, gName, gCons, gNil, gTup, tAndV, tOrV, tNotV, tAnd, tOr, tNot, tOp, tUn, tVar, tC, tB, tTest, tIf, tCons, tNil, tCB, tTup, tLst, tFld, sFld, sFldAug, rAdd, rSub, tSl, tPart, tNoPart, rI0, rI, rU, rEq, rNe, rSlS, rSlL, rIxL, rIxT, rIxS, tChain, tFn, tMt, tM1, tM0, tBM, rAppend, rIn, tIsN, tNotN, scal_ss, scal_ii, let_nil, let_one, fig_nil, fig_one, LenV_str, L2.start, cxOf, and_assoc, tJs, tFmt, put_at, lk_at, lk_script, lk_upcoming, lk_refuse, lk_skips, lk_expect, lk_word_of, lk_name_unlike, lk_number_to, lk_finish, sp0, sp1, sp2, sp3, sp4, sp5, -List.lookup_eq_none_iff, h2, z.cls_Row, z.na_Row_n, z.na_Row_part, lk_n, lk_part, tMtD, ofS "*", S_emp, S_app, S_len, fmt_num, sizeLine_eq]
  refine ⟨?_, by omega, by omega, t.at_ hc.1 hd2 (by omega) fun H' e => Or.inl ⟨_, rfl, by rw [S_len]; omega, ?_, ?_⟩⟩
  · have h64 := hc.2
    exact Nat.lt_of_le_of_lt (Nat.log2_le_self n) (by omega)
  · simp [S_app, S_len]
    omega
  · rw [S_app, List.append_assoc]
    exact hq H' e
theorem Fs.texts_len : ∀ fs : Fs, fs.texts.length = fs.len
  | .nil => rfl
  | .cons n p r => by
    show r.texts.length + 1 = r.len + 1
    rw [Fs.texts_len r]
theorem Fs.texts_get : ∀ {fs : Fs} {i : Nat} {n : List Nat} {p : Pt}, fs.toL[i]? = some (n, p) → fs.texts[i]? = some (n ++ 58 :: p.text)
  | .nil, i, n, p, h => by cases h
  | .cons m q r, 0, n, p, h => by
    cases h
    rfl
  | .cons m q r, i + 1, n, p, h => Fs.texts_get (fs := r) (i := i) h
theorem Fs.depth_get : ∀ {fs : Fs} {i : Nat} {n : List Nat} {p : Pt}, fs.toL[i]? = some (n, p) → p.depth < fs.depth
  | .nil, i, n, p, h => by cases h
  | .cons m q r, 0, n, p, h => by
    cases h
    show q.depth < max (q.depth + 1) r.depth
    omega
  | .cons m q r, i + 1, n, p, h => by
    have := Fs.depth_get (fs := r) (i := i) h
    show p.depth < max (q.depth + 1) r.depth
    omega
theorem joinL_len (sep : Nat) : ∀ ys : List (List Nat), ys ≠ [] → (TL.joinL [sep] ys).length + 1 = (ys.map (·.length)).sum + ys.length
  | [], h => absurd rfl h
  | [p], _ => by simp [TL.joinL]
  | p :: q :: r, _ => by
    have h := joinL_len sep (q :: r) (by simp)
    simp [TL.joinL] at h ⊢
    omega
theorem mem_joinL_len (sep : Nat) : ∀ {ys : List (List Nat)} {x : List Nat}, x ∈ ys → x.length ≤ (TL.joinL [sep] ys).length := by
  intro ys x hx
  have h1 := joinL_len sep ys (by intro h; rw [h] at hx; cases hx)
  have h2 : x.length + 1 ≤ (ys.map (·.length)).sum + ys.length := by
    clear h1
    induction ys with
    | nil => cases hx
    | cons y ys ih =>
      simp
      rcases List.mem_cons.mp hx with rfl | hx
      · omega
      · have := ih hx
        omega
  omega
/-- the names and the texts of pairs -/
def spPairs (D : Nat) (K : PySem.W.Frag) : Sp := sp1 fun a H Q _ => ∃ b fs xs, a = .ref b ∧ H b = some (.tup xs) ∧ FsAt K H fs xs ∧ fs.len ≤ 10000 ∧ (∀ x ∈ fs.toL, x.2.depth < D) ∧ (∀ x ∈ fs.texts, x.length ≤ 10000) ∧
  ∀ l H', Ex H H' → H l = none → H' l = some (.lst (fs.texts.map fun x => .str (S x))) → Q (.ref l) H'
theorem sc_pair_texts : FnScope ["pairs", "name", "part"] ["pairs"] (defScope s_pair_texts) := ⟨rfl, rfl, rfl, by decide +kernel, rfl, by decide +kernel, by decide +kernel⟩
theorem ok_pair_texts (z : Zk K mg base)  (t : TxtAll P w K mg base D k) (ap : Apart K) : Cal P w K mg base "pair_texts" (k + 1) ((spPairs D K)) := by
  obtain ⟨fd, F⟩ := z.d_pair_texts
  refine cal_of F z.g_pair_texts sc_pair_texts (fun _ _ _ _ _ _ us hl => match us, hl with | [_], _ => rfl) (fun vs H Q E h => by match vs, h with | [_], _ => rfl) (fun cdv A outer s H vs Q E hr h => ?_)
  have nd := sc_pair_texts.nd
  have hu : (cxOf (L2.CX P w) P w K mg base ["pairs", "name", "part"] "pair_texts" (defScope s_pair_texts) (fAd K ("pair_texts", none)) cdv A outer s H E).A.units + 64 < cLine := hr.units
  have hu0 := hr.units0
  have hu1 := hu_of hr
  match vs, h with
  | [a0], h =>
  refine ⟨_, (pss_one (ps_ret (pe_lc rfl nd (k_pi_tup (K := K) rfl (pv 0)) (blkOk_by (N := ["pairs", "name", "part"]) (sc := defScope s_pair_texts) (own := [("name", 1), ("part", 2)]) (by decide +kernel)) (fun _ _ _ _ _ => (k_pg_tup (K := K) (n := 2) rfl rfl (pgs_cons (pg_name nd (i := 1) rfl (Or.inl rfl)) (pgs_cons (pg_name nd (i := 2) rfl (Or.inl rfl)) pgs_nil)))) (fun _ _ _ _ _ => pts_nil) (fun _ _ _ _ _ => (pe_joined (.cons (pe_fmt (pv 1)) (.cons pe_str (.cons (pe_fmt (pe_mtD (k := k) rfl rfl rfl rfl rfl (pv 2) hr passL (by omega))) .nil)))))))), ?_⟩
  obtain ⟨b, fs, xs, rfl, hb, hf, hn, hd, hl, hq⟩ := h
  simp [tRet, tRetN, tSeq, tIfS, tDrop, tNext, tNever, tBreak, tCont, tAsg, gName, gCons, gNil, gTup, tAndV, tOrV, tNotV, tAnd, tOr, tNot, tOp, tUn, tVar, tC, tB, tTest, tIf, tCons, tNil, tCB, tTup, tLst, tFld, sFld, sFldAug, rAdd, rSub, tSl, tPart, tNoPart, rI0, rI, rU, rEq, rNe, rSlS, rSlL, rIxL, rIxT, rIxS, tChain, tFn, tMt, tM1, tM0, tBM, rAppend, rIn, tIsN, tNotN, scal_ss, scal_ii, let_nil, let_one, fig_nil, fig_one, LenV_str, L2.start, cxOf, and_assoc, tJs, tFmt, put_at, lk_at, lk_script, lk_upcoming, lk_refuse, lk_skips, lk_expect, lk_word_of, lk_name_unlike, lk_number_to, lk_finish, sp0, sp1, sp2, sp3, sp4, sp5, -List.lookup_eq_none_iff]
  refine lc_mapT (a := b) (xs := xs) (ys := fs.texts.map fun x => .str (S x)) (fun R h => ⟨_, rfl, h⟩) monG_tup2 monT_yes ?_ ?_ (SqT.of hb) (fun i x y H' R hi hy e hR => ?_) fun D H' e hD hl => hq D H' e hD hl
  · rw [List.length_map, Fs.texts_len]
    omega
  · rw [hf.len, List.length_map, Fs.texts_len]
  · obtain ⟨n, p, q, c, hg, rfl, hq2, hc⟩ := FsAt.get (hf.st ap (Stb.of e)) hi
    refine ⟨_, _, rfl, SqT.of hq2, rfl, _, _, rfl, _, _, rfl, rfl, rfl, ?_⟩
    have ht := Fs.texts_get hg
    have hl2 := hl _ (List.mem_of_getElem? ht)
    rw [List.getElem?_map, ht] at hy
    cases hy
    have hl3 : n.length + (p.text.length + 1) ≤ 10000 := by simpa using hl2
    simp [tRet, tRetN, tSeq, tIfS, tDrop, tNext, tNever, tBreak, tCont, tAsg, gName, gCons, gNil, gTup, tAndV, tOrV, tNotV, tAnd, tOr, tNot, tOp, tUn, tVar, tC, tB, tTest, tIf, tCons, tNil, tCB, tTup, tLst, tFld, sFld, sFldAug, rAdd, rSub, tSl, tPart, tNoPart, rI0, rI, rU, rEq, rNe, rSlS, rSlL, rIxL, rIxT, rIxS, tChain, tFn, tMt, tM1, tM0, tBM, rAppend, rIn, tIsN, tNotN, scal_ss, scal_ii, let_nil, let_one, fig_nil, fig_one, LenV_str, L2.start, cxOf, and_assoc, tJs, tFmt, put_at, lk_at, lk_script, lk_upcoming, lk_refuse, lk_skips, lk_expect, lk_word_of, lk_name_unlike, lk_number_to, lk_finish, sp0, sp1, sp2, sp3, sp4, sp5, -List.lookup_eq_none_iff, tYes, wipe, tMtD, ofS ":", S_emp, S_app, S_len, fmt_num, sizeLine_eq]
    refine ⟨by omega, by omega, t.at_ hc (hd _ (List.mem_of_getElem? hg)) (by omega) fun H4 e4 => Or.inl ⟨_, rfl, by rw [S_len]; omega, ?_, ?_⟩⟩
    · simp [S_app, S_len]
      omega
    · rw [S_app, List.append_assoc]
      exact hR H4 e4
theorem sc_Record_text : FnScope ["self"] ["self"] (defScope s_Record_text) := ⟨rfl, rfl, rfl, by decide +kernel, rfl, by decide +kernel, by decide +kernel⟩
theorem ok_Record_text (z : Zk K mg base)  (c_pair_texts : Cal P w K mg base "pair_texts" (k+1) (spPairs D K)) : Cmt P w K mg base (ga K "Record") "text" ((k+1) + 1) ((spText (D+1) Pt.isC K)) := by
  obtain ⟨fd, F⟩ := z.d_Record_text
  refine cmt_of F z.cls_Record z.mt_Record_text sc_Record_text (fun _ _ _ _ _ _ us hl => match us, hl with | [_], _ => rfl) (fun vs H Q E h => by match vs, h with | [_], _ => rfl) (fun cdv A outer s H vs Q E hr h => ?_)
  have nd := sc_Record_text.nd
  have hu : (cxOf (L2.CX P w) P w K mg base ["self"] "Record.text" (defScope s_Record_text) (fAd K ("Record", some "text")) cdv A outer s H E).A.units + 64 < cLine := hr.units
  have hu0 := hr.units0
  have hu1 := hu_of hr
  match vs, h with
  | [a0], h =>
  refine ⟨_, (pss_one (ps_ret (pe_op op_add_str (pe_op op_add_str pe_str (k_join (K := K) rfl pe_str (pe_fn c_pair_texts hr (passD (E := E)) (pa_cons (k_fld (K := K) rfl (pv 0)) pa_nil) (by omega)))) pe_str))), ?_⟩
  obtain ⟨p, b, rfl, hs, hp, hd, hl, hq⟩ := h
  cases p <;> try cases hs
  rename_i fs
  obtain ⟨dx, hh, t, xs, h2, ht, hf, hle⟩ := hp
  have hl2 : (TL.joinL [32] fs.texts).length + 1 + 1 ≤ 10000 := by simpa [Pt.text] using hl
  have hlen : fs.len ≤ 10000 := by
    by_cases h0 : fs.texts = []
    · have := Fs.texts_len fs
      rw [h0] at this
      simp at this
      omega
    · have := joinL_len 32 fs.texts h0
      rw [Fs.texts_len] at this
      omega
  simp [tRet, tRetN, tSeq, tIfS, tDrop, tNext, tNever, tBreak, tCont, tAsg, gName, gCons, gNil, gTup, tAndV, tOrV, tNotV, tAnd, tOr, tNot, tOp, tUn, tVar, tC, tB, tTest, tIf, tCons, tNil, tCB, tTup, tLst, tFld, sFld, sFldAug, rAdd, rSub, tSl, tPart, tNoPart, rI0, rI, rU, rEq, rNe, rSlS, rSlL, rIxL, rIxT, rIxS, tChain, tFn, tMt, tM1, tM0, tBM, rAppend, rIn, tIsN, tNotN, scal_ss, scal_ii, let_nil, let_one, fig_nil, fig_one, LenV_str, L2.start, cxOf, and_assoc, tJs, tFmt, put_at, lk_at, lk_script, lk_upcoming, lk_refuse, lk_skips, lk_expect, lk_word_of, lk_name_unlike, lk_number_to, lk_finish, sp0, sp1, sp2, sp3, sp4, sp5, -List.lookup_eq_none_iff, h2, z.cls_Record, z.na_Record_fields, lk_fields, spPairs]
  refine ⟨fs, xs, ht, hf, hlen, fun n p hm => ?_, fun x hx => ?_, fun l H' e hl hl3 => ?_⟩
  · obtain ⟨i, hi⟩ := List.mem_iff_getElem?.mp hm
    have h3 := Fs.depth_get hi
    have h4 : fs.depth < D + 1 := hd
    omega
  · have := mem_joinL_len 32 hx
    omega
  · refine ⟨_, l, fs.texts.map S, rfl, rfl, Or.inl ?_, ?_, ?_⟩
    · rw [List.map_map]
      exact SqL.of hl3
    · have h5 : ((fs.texts.map S).map (·.length)).sum = (fs.texts.map (·.length)).sum := by
        rw [List.map_map]
        congr 1
      rw [h5, List.length_map, Fs.texts_len, ofS " ", S_len]
      by_cases h0 : fs.texts = []
      · have h6 := Fs.texts_len fs
        rw [h0] at h6 ⊢
        simp at h6 ⊢
        rw [← h6]
        simp
      · have h6 := joinL_len 32 fs.texts h0
        rw [Fs.texts_len] at h6
        have h7 : (T " ").length = 1 := rfl
        rw [h7]
        omega
    · have h8 : Txt.join (Str.ofString " ") (fs.texts.map S) = S (TL.joinL [32] fs.texts) := SX.join_S [32] fs.texts
      refine ⟨_, rfl, ?_, ?_, ?_⟩
      · rw [h8, ofS "{", S_len, S_len, sizeLine_eq]
        simp
        omega
      · rw [h8, ofS "{", S_app, ofS "}", S_len, S_len, sizeLine_eq]
        simp
        omega
      · rw [h8, ofS "{", S_app, ofS "}", S_app]
        exact hq H' e
theorem sc_Overlay_text : FnScope ["self"] ["self"] (defScope s_Overlay_text) := ⟨rfl, rfl, rfl, by decide +kernel, rfl, by decide +kernel, by decide +kernel⟩
theorem ok_Overlay_text (z : Zk K mg base)  (c_pair_texts : Cal P w K mg base "pair_texts" (k+1) (spPairs D K)) : Cmt P w K mg base (ga K "Overlay") "text" ((k+1) + 1) ((spText (D+1) Pt.isO K)) := by
  obtain ⟨fd, F⟩ := z.d_Overlay_text
  refine cmt_of F z.cls_Overlay z.mt_Overlay_text sc_Overlay_text (fun _ _ _ _ _ _ us hl => match us, hl with | [_], _ => rfl) (fun vs H Q E h => by match vs, h with | [_], _ => rfl) (fun cdv A outer s H vs Q E hr h => ?_)
  have nd := sc_Overlay_text.nd
  have hu : (cxOf (L2.CX P w) P w K mg base ["self"] "Overlay.text" (defScope s_Overlay_text) (fAd K ("Overlay", some "text")) cdv A outer s H E).A.units + 64 < cLine := hr.units
  have hu0 := hr.units0
  have hu1 := hu_of hr
  match vs, h with
  | [a0], h =>
  refine ⟨_, (pss_one (ps_ret (pe_op op_add_str (pe_op op_add_str pe_str (k_join (K := K) rfl pe_str (pe_fn c_pair_texts hr (passD (E := E)) (pa_cons (k_fld (K := K) rfl (pv 0)) pa_nil) (by omega)))) pe_str))), ?_⟩
  obtain ⟨p, b, rfl, hs, hp, hd, hl, hq⟩ := h
  cases p <;> try cases hs
  rename_i fs
  obtain ⟨dx, hh, t, xs, h2, ht, hf, hle⟩ := hp
  have hl2 : (TL.joinL [124] fs.texts).length + 1 + 1 ≤ 10000 := by simpa [Pt.text] using hl
  have hlen : fs.len ≤ 10000 := by
    by_cases h0 : fs.texts = []
    · have := Fs.texts_len fs
      rw [h0] at this
      simp at this
      omega
    · have := joinL_len 124 fs.texts h0
      rw [Fs.texts_len] at this
      omega
  simp [tRet, tRetN, tSeq, tIfS, tDrop, tNext, tNever, tBreak, tCont, tAsg, gName, gCons, gNil, gTup, tAndV, tOrV, tNotV, tAnd, tOr, tNot, tOp, tUn, tVar, tC, tB, tTest, tIf, tCons, tNil, tCB, tTup, tLst, tFld, sFld, sFldAug, rAdd, rSub, tSl, tPart, tNoPart, rI0, rI, rU, rEq, rNe, rSlS, rSlL, rIxL, rIxT, rIxS, tChain, tFn, tMt, tM1, tM0, tBM, rAppend, rIn, tIsN, tNotN, scal_ss, scal_ii, let_nil, let_one, fig_nil, fig_one, LenV_str, L2.start, cxOf, and_assoc, tJs, tFmt, put_at, lk_at, lk_script, lk_upcoming, lk_refuse, lk_skips, lk_expect, lk_word_of, lk_name_unlike, lk_number_to, lk_finish, sp0, sp1, sp2, sp3, sp4, sp5, -List.lookup_eq_none_iff, h2, z.cls_Overlay, z.na_Overlay_members, lk_members, spPairs]
  refine ⟨fs, xs, ht, hf, hlen, fun n p hm => ?_, fun x hx => ?_, fun l H' e hl hl3 => ?_⟩
  · obtain ⟨i, hi⟩ := List.mem_iff_getElem?.mp hm
    have h3 := Fs.depth_get hi
    have h4 : fs.depth < D + 1 := hd
    omega
  · have := mem_joinL_len 124 hx
    omega
  · refine ⟨_, l, fs.texts.map S, rfl, rfl, Or.inl ?_, ?_, ?_⟩
    · rw [List.map_map]
      exact SqL.of hl3
    · have h5 : ((fs.texts.map S).map (·.length)).sum = (fs.texts.map (·.length)).sum := by
        rw [List.map_map]
        congr 1
      rw [h5, List.length_map, Fs.texts_len, ofS "|", S_len]
      by_cases h0 : fs.texts = []
      · have h6 := Fs.texts_len fs
        rw [h0] at h6 ⊢
        simp at h6 ⊢
        rw [← h6]
        simp
      · have h6 := joinL_len 124 fs.texts h0
        rw [Fs.texts_len] at h6
        have h7 : (T "|").length = 1 := rfl
        rw [h7]
        omega
    · have h8 : Txt.join (Str.ofString "|") (fs.texts.map S) = S (TL.joinL [124] fs.texts) := SX.join_S [124] fs.texts
      refine ⟨_, rfl, ?_, ?_, ?_⟩
      · rw [h8, ofS "(", S_len, S_len, sizeLine_eq]
        simp
        omega
      · rw [h8, ofS "(", S_app, ofS ")", S_len, S_len, sizeLine_eq]
        simp
        omega
      · rw [h8, ofS "(", S_app, ofS ")", S_app]
        exact hq H' e
/-- one step up -/
theorem TxtAll.up {D k : Nat} (z : Zk K mg base) (ap : Apart K) (t : TxtAll P w K mg base D k) : TxtAll P w K mg base (D + 1) (k + 2) := by
  have c := ok_pair_texts (P := P) (w := w) z t ap
  exact ⟨(ok_Kind_text (D := D + 1) z).mono (by omega), (ok_Byte_text (D := D + 1) z).mono (by omega), (ok_Use_text (D := D + 1) z).mono (by omega), (ok_Row_text z t).mono (by omega), ok_Record_text z c, ok_Overlay_text z c⟩
theorem cmt_no {C : Addr} {m : Str} {sp : Sp} {k : Nat} {f : Addr} (cl : Cls K C) (hm : Meth K C m f) (h : ∀ vs H Q E, ¬ sp vs H Q E) : Cmt P w K mg base C m k sp :=
  ⟨cl, f, fun A outer s H us vs Q E _ _ _ q => absurd q (h vs H Q E), hm⟩
theorem txt_no (sel : Pt → Bool) : ∀ vs H Q E, ¬ spText 0 sel K vs H Q E := by
  intro vs H Q E h
  match vs, h with
  | [_], ⟨p, b, _, _, _, hd, _⟩ => omega
theorem TxtAll.zero (z : Zk K mg base) : TxtAll P w K mg base 0 1 :=
  ⟨cmt_no z.cls_Kind z.mt_Kind_text (txt_no _), cmt_no z.cls_Byte z.mt_Byte_text (txt_no _), cmt_no z.cls_Use z.mt_Use_text (txt_no _), cmt_no z.cls_Row z.mt_Row_text (txt_no _), cmt_no z.cls_Record z.mt_Record_text (txt_no _), cmt_no z.cls_Overlay z.mt_Overlay_text (txt_no _)⟩
/-- parts up to the depth 4 -/
theorem txt_all (z : Zk K mg base) (ap : Apart K) : TxtAll P w K mg base 5 11 := ((((((TxtAll.zero z).up z ap).up z ap).up z ap).up z ap).up z ap)
end
end
end Mp

set_option maxHeartbeats 4000000
/-! Kx5: name = {k: v for ..}; *d in a display -/
namespace Mp
open PySem PySem.Spec PyProof.Rows L2
section
variable {X : Cx}
theorem ps_setDc {i : Nat} {y : Str} {py : Pos} {kx vx tg iter : Expr} {ifs : List Expr} {scope : Scope} {own : List (Str × Nat)} {pos spos : Pos} {wi : TI} {g : TG} {tt : TT} {tk tv : TE} (hc : X.calm = true) (hN : X.N.Nodup) (hy : X.N[i]? = some y) (hyl : X.env.scope.names.lookup y = some .local)
    (hsw : swapsWith (.DictComp kx vx [⟨tg, iter, ifs, 0⟩] scope pos) (some (.Name y py)) spos.line X.env = pure true) (hi : PI X tg iter wi) (ok : BlkOk X.N X.env.scope scope own)
    (hg : ∀ (s : Shared) (H : Hp) (C : Addr) (cl : List (Str × Addr)) (fp : List Addr), PG (X.blk s H scope (compEnvC scope cl C X.env) fp) tg g) (ht : ∀ (s : Shared) (H : Hp) (C : Addr) (cl : List (Str × Addr)) (fp : List Addr), PTs (X.blk s H scope (compEnvC scope cl C X.env) fp) ifs tt)
    (hk : ∀ (s : Shared) (H : Hp) (C : Addr) (cl : List (Str × Addr)) (fp : List Addr), PE (X.blk s H scope (compEnvC scope cl C X.env) fp) kx tk)
    (he : ∀ (s : Shared) (H : Hp) (C : Addr) (cl : List (Str × Addr)) (fp : List Addr), PE (X.blk s H scope (compEnvC scope cl C X.env) fp) vx tv) (hs : ∀ x, foldedSetIterable iter X.env x = pure x := by intro _; rfl) :
    PS X (.Assign [.Name y py] (.DictComp kx vx [⟨tg, iter, ifs, 0⟩] scope pos) spos) (tAsg (tDc wi g tt tk tv (own.map (·.2))) (gName i)) := by
  refine ⟨fun pins s σ H D I h => ?_⟩
  rw [exec_Assign_Name_used _ _ _ _ hsw]
  refine wpAny_bind (wpAny_standAt (wpAny_bind ?_))
  show wpAny _ X.A (do let _ ← comprehension (.DictComp kx vx [⟨tg, iter, ifs, 0⟩] scope pos) scope X.env (firstIterPos [⟨tg, iter, ifs, 0⟩] pos) newDict false (eval iter X.env) (some (assign (.Name y py) X.env))) _ _ s
  have h : tDc wi g tt tk tv (own.map (·.2)) σ H (fun x H1 => gName i x σ H1 D.nx) := h
  refine wpAny_bind (thn (dc_core (Qf := fun _ s' => SP X pins D .next s') hc hN I hi ok hg ht hk he hs h fun L C s' m H' I' q hn f => ?_) fun _ s' hq => wpAny_pure (wpAny_pure hq))
  show wpAny _ _ (assign (.Name y py) X.env (.ref L)) _ _ _
  refine wpAny_assign_Name (store_ok2 (v := V.ref L) I' hN hy (.inl hyl) rfl (fun s2 I2 ⟨a, sb, ha⟩ => ?_) (.inr hyl))
  obtain ⟨f0, f1, f2, f3, f4, f5⟩ := f
  have haC : C ≠ a := by
    rcases ha with z | z
    · rw [z]; exact f1
    · exact fun e => f4 y a z e.symm
  refine ⟨m, hn.sameBut sb haC, fun h3 sb3 => ?_⟩
  exact ⟨_, H', I2.turned (t' := s2.toks) (fun b o hb e => (sb3.2 b hb).trans e) f0 f1 f3 f4 f5, q⟩
theorem sw_trueD {kx vx : Expr} {gs : List Comprehension} {scope : Scope} {pos py : Pos} {y : Str} {l : Nat} {env : Env} (hk : env.scope.kind = .function) (hy : env.scope.names.lookup y = some .local) (hl : (py.line == pos.line) = true)
    (ha : (scope.names.any fun (n, k) => n == y && (k == .local || k == .cell)) = false) : swapsWith (.DictComp kx vx gs scope pos) (some (.Name y py)) l env = pure true := by
  have ky : env.kindOf y = some .local := hy
  have hb : env.blockKind = .function := by unfold Env.blockKind; rw [hk]; rfl
  unfold swapsWith
  simp only [hb, ky, ha, Expr.pos, hl]
  rfl
/-- *d in a display, d a dict: its keys -/
def tStarD (te : TE) (t : TA) : TA := fun σ H Q => te σ H fun x H1 => ∃ p kvs, x = V.ref p ∧ H1 p = some (.dK kvs) ∧ t σ H1 fun ys H2 => Q ((kvs.map fun kv => kV kv.1) ++ ys) H2
theorem star_dK {pins : List (Addr × Obj)} {σ : L2.St} {H : Hp} {s : Shared} {a : Addr} {kvs : List (Key × V)} {E : Value → Shared → Prop} {Q : List Value → Shared → Prop} (hc : X.calm = true) (I : Inv X pins σ H s) (h : H a = some (.dK kvs)) (hQ : ∀ us s', Inv X pins σ H s' → Vals (kvs.map fun kv => kV kv.1) us → Q us s') :
    PySem.W.StarOf (model X.prog X.w) X.A E (.ref a) Q s := by
  obtain ⟨z, lo, vs, rel, dd⟩ := dk_rd I.hok (Rd.of h)
  obtain ⟨ep, hat⟩ := dd.dictAt
  have ek : (kvs.map fun kv => kV kv.1) = vs.map fun p => kV p.1 := by
    have e := congrArg (List.map kV) rel.keys
    rw [List.map_map, List.map_map] at e
    exact e
  have hT : s.TypeIs (.ref a) "dict" := dd.typeIs
  have zc : wpAny (model X.prog X.w) X.A (collect (.ref a)) Q E s := by
    refine PySem.W.kdu_collect (PySem.W.kdl_dict (knd := mixKind X.prog X.w) (kvs := vs) (ep := ep) lo) (I.ok.hd hc) hat (by rw [← rel.length]; exact z) fun h' tk acc hk hacc => ?_
    have hv : Vals (vs.map fun p => kV p.1) acc.toList := keys_at (by rw [Array.length_toList]; exact hacc.1) fun j v e => hacc.2 j v (by rw [← Array.getElem?_toList]; exact e)
    exact hQ _ _ (I.kept (t' := tk) hk) (by rw [ek]; exact hv)
  unfold PySem.W.StarOf notIterableAtAll
  exact wpAny_bind (wpAny_specialOf hT PySem.F.slot_dict_iter.lookup (wpAny_pure ⟨rfl, zc⟩))
theorem pa_starD {e : Expr} {es : List Expr} {te : TE} {t : TA} {p : Pos} (hc : X.calm = true) (he : PE X e te) (hr : PA X es t) (hs : starEach (.Starred e p :: es) X.env = (true, eval e X.env) :: starEach es X.env := by rfl) : PA X (.Starred e p :: es) (tStarD te t) := by
  refine ⟨fun pos pins s σ H Q I h => ?_⟩
  refine PySem.W.items_star (thn (he.run pins s σ H _ I h) fun v s1 ⟨y, H1, I1, ry, a, kvs, ey, hx, q⟩ => ?_) hs
  subst ey
  obtain rfl : v = Value.ref a := ry
  refine star_dK hc I1 hx fun us s2 I2 rv => ?_
  exact thn (hr.run pos pins s2 σ H1 _ I2 q) fun ws s3 ⟨vs, H3, I3, r3, q3⟩ => ⟨_, H3, I3, rv.append r3, q3⟩
end
/-! ### a dict of named things, over a list or a tuple -/
section
variable {K : PySem.W.Frag} {a : Addr} {xs : List V} {g : TG} {tk tv : TE} {vs : List Nat} {σ : L2.St} {H : Hp} {Q : VK} {ks : List (Key × V)}
def DcTurn (g : TG) (tk tv : TE) (vs : List Nat) (σ : L2.St) (x : V) (H' : Hp) (R : V → V → Hp → Prop) : Prop :=
  g x (wipe σ vs) H' fun σ2 H2 => wipe σ2 vs = wipe σ vs ∧ tk σ2 H2 fun y H4 => tv σ2 H4 fun z H5 => R y z H5
/-- the keys apart -/
theorem putK_take {i : Nat} {k : Key} {v : V} (h : ks[i]? = some (k, v)) (nd : (ks.map (·.1)).Nodup) : putK (ks.take i) k v = ks.take (i + 1) := by
  have hn : valV (ks.take i) k = none := by
    cases e : valV (ks.take i) k with
    | none => rfl
    | some y =>
      have hm := valV_in e
      obtain ⟨j, hj⟩ := List.mem_iff_getElem?.mp hm
      rw [List.getElem?_map, List.getElem?_take] at hj
      split at hj
      · have h1 : (ks.map (·.1))[j]? = some k := by rw [List.getElem?_map]; exact hj
        have h2 : (ks.map (·.1))[i]? = some k := by rw [List.getElem?_map, h]; rfl
        have := L2.nd_ix nd h1 h2
        omega
      · cases hj
  rw [putK_new v hn]
  obtain ⟨hi, e⟩ := List.getElem?_eq_some_iff.mp h
  rw [← e]
  exact (List.take_succ_eq_append_getElem hi).symm
theorem dc_mapL {tl : TE} (ht : ∀ R : V → Hp → Prop, R (.ref a) H → tl σ H R) (hz : ks.length ≤ 16777215) (hlen : xs.length = ks.length) (nd : (ks.map (·.1)).Nodup) (hl : SqL K H a xs)
    (hs : ∀ (i : Nat) (x : V) (y : Key × V) (H' : Hp) (R : V → V → Hp → Prop), xs[i]? = some x → ks[i]? = some y → Ex H H' → R (kV y.1) y.2 H' → DcTurn g tk tv vs σ x H' R)
    (mg : MonG g) (hq : ∀ D H', Ex H H' → H D = none → H' D = some (.dK ks) → Q (.ref D) H') : tDc (iList K tl) g tYes tk tv vs σ H Q := by
  refine ht _ ⟨a, rfl, ⟨xs, hl⟩, fun D hD => ?_⟩
  refine ⟨fun i m H' => i ≤ xs.length ∧ m = xs.length - i ∧ Ex H H' ∧ H' D = some (.dK (ks.take i)), ⟨_, Nat.zero_le _, rfl, Ex.new hD, by rw [upd_same, List.take_zero]⟩, fun i m H' ⟨h1, h2, e, hd⟩ => ?_⟩
  by_cases hi : i = xs.length
  · subst hi
    refine Or.inl ⟨⟨xs, Ex.l e hl, Nat.le_refl _⟩, hq D H' e hD ?_⟩
    rw [hd, hlen, List.take_length]
  · have hlt : i < xs.length := by omega
    have hi : i < ks.length := by omega
    have hy : ks[i]? = some ks[i] := List.getElem?_eq_getElem hi
    have hx : xs[i]? = some xs[i] := List.getElem?_eq_getElem hlt
    refine Or.inr ⟨⟨xs, _, Ex.l e hl, hx⟩, fun H' => i + 1 ≤ xs.length ∧ Ex H H' ∧ H' D = some (.dK (ks.take (i + 1))), fun H' h => ⟨xs.length - (i + 1), by omega, h.1, rfl, h.2⟩, ?_⟩
    intro x H2 ⟨e2, hall⟩
    subst e2
    refine mg _ _ _ _ _ (fun σ2 H3 ⟨w, q⟩ => ⟨w, q⟩) (hs i x ks[i] H2 _ (hall xs (Ex.l e hl)) hy e ⟨ks.take i, ks[i].1, rfl, hd, ?_, by omega, ?_, ?_⟩)
    · rw [List.length_take, sizeLine_eq]
      omega
    · exact Ex.mut e hD
    · rw [upd_same]; exact congrArg (fun z => some (HO.dK z)) (putK_take (k := ks[i].1) (v := ks[i].2) hy nd)
theorem dc_mapT {tl : TE} (ht : ∀ R : V → Hp → Prop, R (.ref a) H → tl σ H R) (hz : ks.length ≤ 16777215) (hlen : xs.length = ks.length) (nd : (ks.map (·.1)).Nodup) (hl : SqT K H a xs)
    (hs : ∀ (i : Nat) (x : V) (y : Key × V) (H' : Hp) (R : V → V → Hp → Prop), xs[i]? = some x → ks[i]? = some y → Ex H H' → R (kV y.1) y.2 H' → DcTurn g tk tv vs σ x H' R)
    (mg : MonG g) (hq : ∀ D H', Ex H H' → H D = none → H' D = some (.dK ks) → Q (.ref D) H') : tDc (iTup K tl) g tYes tk tv vs σ H Q := by
  refine ht _ ⟨a, rfl, ⟨xs, hl⟩, fun D hD => ?_⟩
  refine ⟨fun i m H' => i ≤ xs.length ∧ m = xs.length - i ∧ Ex H H' ∧ H' D = some (.dK (ks.take i)), ⟨_, Nat.zero_le _, rfl, Ex.new hD, by rw [upd_same, List.take_zero]⟩, fun i m H' ⟨h1, h2, e, hd⟩ => ?_⟩
  by_cases hi : i = xs.length
  · subst hi
    refine Or.inl ⟨⟨xs, Ex.t e hl, Nat.le_refl _⟩, hq D H' e hD ?_⟩
    rw [hd, hlen, List.take_length]
  · have hlt : i < xs.length := by omega
    have hi : i < ks.length := by omega
    have hy : ks[i]? = some ks[i] := List.getElem?_eq_getElem hi
    have hx : xs[i]? = some xs[i] := List.getElem?_eq_getElem hlt
    refine Or.inr ⟨⟨xs, _, Ex.t e hl, hx⟩, fun H' => i + 1 ≤ xs.length ∧ Ex H H' ∧ H' D = some (.dK (ks.take (i + 1))), fun H' h => ⟨xs.length - (i + 1), by omega, h.1, rfl, h.2⟩, ?_⟩
    intro x H2 ⟨e2, hall⟩
    subst e2
    refine mg _ _ _ _ _ (fun σ2 H3 ⟨w, q⟩ => ⟨w, q⟩) (hs i x ks[i] H2 _ (hall xs (Ex.t e hl)) hy e ⟨ks.take i, ks[i].1, rfl, hd, ?_, by omega, ?_, ?_⟩)
    · rw [List.length_take, sizeLine_eq]
      omega
    · exact Ex.mut e hD
    · rw [upd_same]; exact congrArg (fun z => some (HO.dK z)) (putK_take (k := ks[i].1) (v := ks[i].2) hy nd)
/-- an object that was made -/
theorem made_ex {H H' : Hp} {x dx C : Addr} (h1 : H x = none) (h2 : H dx = none) (k : K1 x (upd (upd H dx (.own x)) x (.ins C dx [])) H') : Ex H H' := fun b o e => by
  have n1 : b ≠ x := ne_of_none e h1
  have n2 : b ≠ dx := ne_of_none e h2
  exact k b o n1 (by rw [upd_ne n1, upd_ne n2]; exact e)
theorem made_ex0 {H : Hp} {x dx C : Addr} (h1 : H x = none) (h2 : H dx = none) : Ex H (upd (upd H dx (.own x)) x (.ins C dx [])) := made_ex h1 h2 K1.rfl'
end
/-- while, its body by a word B of the state behind the test -/
theorem twhileB {c : TT} {tb : TS} {D : Ends} {σ : L2.St} {H : Hp} (W B : Nat → L2.St → Hp → Prop) (m : Nat) (h0 : W m σ H)
    (hs : ∀ m σ H (T : L2.St → Hp → Prop), W m σ H → (∀ σ H, B m σ H → T σ H) → c σ H fun b H1 => if b = true then T σ H1 else D.nx σ H1)
    (hb : ∀ m σ H, B m σ H → tb { D with nx := fun σ' H' => ∃ m', m' < m ∧ W m' σ' H', ct := fun σ' H' => ∃ m', m' < m ∧ W m' σ' H', bk := D.nx } σ H) : tWhile c tb D σ H :=
  ⟨W, ⟨m, h0⟩, fun m σ H h => hs m σ H (fun σ H1 => ∃ N : L2.St → Hp → Prop, (∀ σ' H', N σ' H' → ∃ m', m' < m ∧ W m' σ' H') ∧ tb { D with nx := N, ct := N, bk := D.nx } σ H1) h fun σ H1 b => ⟨_, fun _ _ h => h, hb m σ H1 b⟩⟩
theorem Stb.trans {K : PySem.W.Frag} {H H1 H2 : Hp} (a : Stb K H H1) (b : Stb K H1 H2) : Stb K H H2 := fun x o h s => b x o (a x o h s) s
end Mp

set_option maxHeartbeats 4000000
/-! Kx6: str(o) by an own __str__; a == b by an own __eq__; comprehensions whose items are told by a word -/
namespace Mp
open PySem PySem.Spec PyProof.Rows L2
section
open PySem.W
variable {prog : Program} {w : World} {A : Around} {E : Value → Shared → Prop} {s : Shared} {K : PySem.W.Frag} {x C f : Addr} {ox : Obj} {od : Option Obj}
open Builtin Builtin.Str in
/-- str(o), o's class with its own __str__ -/
theorem str_own {Q : Value → Shared → Prop} (hu : A.in1.in1.units < cLine) (X : K.In s.heap) (I : PySem.W.InstAt s.heap x ox C od) (hs : findIn K (.ref C) "__str__" = some (some (.ref f))) (hf : typeIn K (.ref f) = some (.type "function"))
    (h : wpAny (model prog w) A.in1.in1 (call (.ref f) [.ref x]) (StrBack Q) E s) : wpAny (model prog w) A (call (.type "str") [.ref x]) Q E s := by
  refine callType_codes (T := "str") (Bi := Builtin.«object.__init__») (Q₁ := fun r s₁ => ∃ y u, r = .str y u ∧ Q r s₁) PySem.F.called_str (PySem.F.typeCall_str_1 _) PySem.F.entry_object_init ?_ ?_
  · refine codeAny_of_tree ?_
    show wpAny _ A.in1.in1 (do checkBuiltinCall "str.__new__" ⟨[.type "str", .ref x], []⟩; again (.builtin "str.__new__" ⟨[.type "str", .ref x], []⟩)) _ _ s
    refine wpAny_bind (wpAny_of_eq (PySem.F.newCall_str_1 _) (wpAny_pure ⟨plainId_quiet (by decide +kernel) _, codeAny_builtin PySem.F.entry_str_new ?_⟩))
    rw [Around.under_plainId (by decide +kernel) _]
    rw [str_new_tree]
    refine wpAny_bind (wpAny_pure ?_)
    refine wpAny_bind (wpAny_of_eq isSubtype_str_str ?_)
    have key : wpAny (model prog w) A.in1.in1 (PySem.Builtin.Str.strOf (.ref x)) (fun r s₁ => ∃ y u, r = .str y u ∧ Q r s₁) E s := by
      unfold PySem.Builtin.Str.strOf
      rw [show isExactStr (.ref x) = false from rfl]
      refine wpAny_bind (m := cRoomFor _ _) (wpAny_cRoomFor hu ?_)
      refine wpAny_bind (m := callSpecial? (.ref x) (Str.ofString "__str__")) (special_fn X I hs hf (wpAny_mono h (fun r s' z => ?_) fun _ _ y => y))
      cases r <;> first | exact z.elim | exact wpAny_pure ⟨_, _, rfl, z⟩
    exact wpAny_bind (wpAny_mono key (fun r s₁ hr => wpAny_pure hr) fun _ _ y => y)
  · rintro obj s₁ ⟨y, u, rfl, hq⟩
    exact ⟨typeIs_str _ _ _, PySem.F.args_object_init_2 _ _, object_init_meets PySem.F.called_str.init.lookup PySem.F.called_str.made (by decide) prog w A.in1 _ s₁ ⟨typeIs_str _ _ _, rfl, hq⟩⟩
end
section
variable {X : Cx} {pins : List (Addr × Obj)} {σ : L2.St} {H : Hp} {s : Shared}
/-- a promise run two builtins deeper -/
theorem run_fn2 {k : Nat} {f : Addr} {sp : Sp} {E : XK} {Q : VK} {us : List Value} {vs : List V} (F : FnR X.prog X.w X.K X.mg X.base (L2.CX X.prog X.w) k f sp) (hr : Room (k + 2) X.A) (hx : Passes (L2.CX X.prog X.w) X E) (I : Inv X pins σ H s) (r : Vals vs us) (h : sp vs H Q E) :
    wpAny (model X.prog X.w) X.A.in1.in1 (call (.ref f) us) (EP X pins σ Q) X.xe s := by
  refine wpAny_call (codeAny_mono (F X.A.in1.in1 X.stack s H us vs Q E hr.in1.in1 I.env0.in1.in1 r h) fun r s' hq => ?_)
  cases r with
  | error e => exact hx pins σ H s e s' I hq
  | ok fl =>
    cases fl with
    | ret u => exact I.after hq
    | next => exact False.elim hq
    | brk => exact False.elim hq
    | cont => exact False.elim hq
/-- str(o): o of a class with its own __str__ at f, which keeps sp -/
theorem call_strI {K : PySem.W.Frag} {k : Nat} {E : XK} (hK : X.K = K) (hr : Room (k + 2) X.A) (hx : Passes (L2.CX X.prog X.w) X E) :
    CallR X (.type "str") (fun xs H Q => ∃ a C dx fs f sp, xs = [.ref a] ∧ H a = some (.ins C dx fs) ∧ PySem.W.findIn K (.ref C) "__str__" = some (some (.ref f)) ∧ PySem.W.typeIn K (.ref f) = some (.type "function") ∧
      FnR X.prog X.w X.K X.mg X.base (L2.CX X.prog X.w) k f sp ∧ sp [.ref a] H (fun v H' => ∃ y, v = .str y ∧ Q v H') E) := by
  subst hK
  intro pins s σ H xs us Q I r h
  obtain ⟨a, C, dx, fs, f, sp, rfl, hi, h1, h2, F, h⟩ := h
  obtain ⟨u, rfl, ru⟩ := vals1 r
  cases ru
  obtain ⟨mA, J, _⟩ := ins_get I.hok hi
  obtain ⟨od, J, _⟩ := J.look
  refine str_own (by have := hr.in1.in1.units0; exact this) I.kIn J h1 h2 (thn (run_fn2 (us := [.ref a]) (vs := [.ref a]) F hr hx I (.cons rfl .nil) h) fun v s1 ⟨x, H1, I1, rx, y, ey, q⟩ => ?_)
  subst ey
  obtain ⟨t, rfl⟩ := id rx
  exact ⟨.str y, H1, I1, rx, q⟩
/-- a == b: instances of one class with its own __eq__ at f, which keeps sp; the answer is a bool -/
theorem op_eqI {K : PySem.W.Frag} {k : Nat} {E : XK} (hK : X.K = K) (hr : Room k X.A) (hx : Passes (L2.CX X.prog X.w) X E) :
    OpR X (compareOp .Eq) (fun x y H Q => ∃ a b C dx dy fs gs f sp, x = .ref a ∧ y = .ref b ∧ H a = some (.ins C dx fs) ∧ H b = some (.ins C dy gs) ∧ PySem.W.findIn K (.ref C) "__eq__" = some (some (.ref f)) ∧ PySem.W.isFn K (.ref f) = true ∧
      FnR X.prog X.w X.K X.mg X.base (L2.CX X.prog X.w) k f sp ∧ sp [.ref a, .ref b] H (fun v H' => ∃ c, v = .bl c ∧ Q v H') E) := by
  subst hK
  intro pins s σ H x y v u Q I rx ry h
  obtain ⟨a, b, C, dx, dy, fs, gs, f, sp, rfl, rfl, ha, hb, h1, h2, F, h⟩ := h
  cases rx
  cases ry
  obtain ⟨mA, J, _⟩ := ins_get I.hok ha
  obtain ⟨mB, J', _⟩ := ins_get I.hok hb
  obtain ⟨od, J, _⟩ := J.look
  obtain ⟨od', J', _⟩ := J'.look
  obtain ⟨m, hF⟩ := I.fr
  show wpAny (model X.prog X.w) X.A (richCompare .Eq (.ref a) (.ref b)) (EP X pins σ Q) X.xe s
  refine PySem.W.cmp_K (op := .Eq) (tb := .ref C) hr.units0 hF I.ok.mod.kin J J'.type (by simp [PySem.W.notFirst]) h1 h2 ?_
  refine thn (wpAny_call (run_fnR (us := [.ref a, .ref b]) (vs := [.ref a, .ref b]) F hr hx I (.cons rfl (.cons rfl .nil)) h)) fun w s1 ⟨z, H1, I1, rz, c, ez, q⟩ => ?_
  subst ez
  cases rz
  exact ⟨.bl c, H1, I1, rfl, q⟩
end
/-! ### comprehensions by a word -/
section
variable {K : PySem.W.Frag} {a : Addr} {xs : List V} {g : TG} {tt : TT} {te : TE} {vs : List Nat} {σ : L2.St} {H : Hp} {Q : VK} {tl : TE}
theorem lc_relL (W : Nat → List V → Hp → Prop) (ht : ∀ R : V → Hp → Prop, R (.ref a) H → tl σ H R) (mg : MonG g) (mt : MonT tt) (hz : xs.length ≤ 16777215) (hl : SqL K H a xs) (h0 : W 0 [] H) (mono : ∀ i acc H1 H2, Stb K H1 H2 → W i acc H1 → W i acc H2)
    (hs : ∀ (i : Nat) (x : V) (acc : List V) (H' : Hp) (R : V → Hp → Prop), xs[i]? = some x → Ex H H' → W i acc H' → (∀ y H4, Ex H' H4 → W (i + 1) (acc ++ [y]) H4 → R y H4) → LcTurn g tt te vs σ x H' R)
    (hq : ∀ D acc H', Ex H H' → H D = none → H' D = some (.lst acc) → acc.length = xs.length → W xs.length acc H' → Q (.ref D) H') : tLc (iList K tl) g tt te vs σ H Q := by
  refine ht _ ⟨a, rfl, ⟨xs, hl⟩, fun D hD => ?_⟩
  refine lc_list (xs := xs) (Qd := fun H => Q (.ref D) H) (fun i H' => Ex H H' ∧ ∃ acc, H' D = some (.lst acc) ∧ acc.length = i ∧ W i acc H') ⟨Ex.new hD, [], upd_same, rfl, mono _ _ _ _ (Stb.of (Ex.new hD)) h0⟩ (fun i H' _ p => Ex.l p.1 hl) (fun i x H' hx p => ?_) (fun H' p => ?_)
  · obtain ⟨e, acc, hd, hal, hw⟩ := p
    have hi := (List.getElem?_eq_some_iff.mp hx).1
    refine LcTurn.weak mg mt (hs i x acc H' _ hx e hw fun y H4 e4 w4 => ⟨acc, e4 _ _ hd, ?_, Ex.mut (Ex.trans e e4) hD, acc ++ [y], upd_same, by simp [hal], mono _ _ _ _ (Stb.lst K1.upd (e4 _ _ hd)) w4⟩)
    rw [hal, sizeLine_eq]
    omega
  · obtain ⟨e, acc, hd, hal, hw⟩ := p
    exact hq D acc H' e hD hd hal hw
theorem lc_relT (W : Nat → List V → Hp → Prop) (ht : ∀ R : V → Hp → Prop, R (.ref a) H → tl σ H R) (mg : MonG g) (mt : MonT tt) (hz : xs.length ≤ 16777215) (hl : SqT K H a xs) (h0 : W 0 [] H) (mono : ∀ i acc H1 H2, Stb K H1 H2 → W i acc H1 → W i acc H2)
    (hs : ∀ (i : Nat) (x : V) (acc : List V) (H' : Hp) (R : V → Hp → Prop), xs[i]? = some x → Ex H H' → W i acc H' → (∀ y H4, Ex H' H4 → W (i + 1) (acc ++ [y]) H4 → R y H4) → LcTurn g tt te vs σ x H' R)
    (hq : ∀ D acc H', Ex H H' → H D = none → H' D = some (.lst acc) → acc.length = xs.length → W xs.length acc H' → Q (.ref D) H') : tLc (iTup K tl) g tt te vs σ H Q := by
  refine ht _ ⟨a, rfl, ⟨xs, hl⟩, fun D hD => ?_⟩
  refine lc_tup (xs := xs) (Qd := fun H => Q (.ref D) H) (fun i H' => Ex H H' ∧ ∃ acc, H' D = some (.lst acc) ∧ acc.length = i ∧ W i acc H') ⟨Ex.new hD, [], upd_same, rfl, mono _ _ _ _ (Stb.of (Ex.new hD)) h0⟩ (fun i H' _ p => Ex.t p.1 hl) (fun i x H' hx p => ?_) (fun H' p => ?_)
  · obtain ⟨e, acc, hd, hal, hw⟩ := p
    have hi := (List.getElem?_eq_some_iff.mp hx).1
    refine LcTurn.weak mg mt (hs i x acc H' _ hx e hw fun y H4 e4 w4 => ⟨acc, e4 _ _ hd, ?_, Ex.mut (Ex.trans e e4) hD, acc ++ [y], upd_same, by simp [hal], mono _ _ _ _ (Stb.lst K1.upd (e4 _ _ hd)) w4⟩)
    rw [hal, sizeLine_eq]
    omega
  · obtain ⟨e, acc, hd, hal, hw⟩ := p
    exact hq D acc H' e hD hd hal hw
end
end Mp

set_option maxHeartbeats 4000000
/-! Kp8: a part's shape -/
namespace Mp
open PySem PySem.Spec PyProof.Rows L2
open StX (tMakeR run_makeR pe_makeR)
open He (ga ma fAd)
section
variable {P : Program} {w : World} {K : PySem.W.Frag} {mg : Str → Option Value} {base : Heap}
mutual
def Pt.data : Pt → PyData
  | .kind n t => .tuple [.str "kind", .str (S n), .int t]
  | .byte => .tuple [.str "byte"]
  | .use n => .tuple [.str "use", .str (S n)]
  | .row n p => .tuple [.str "row", p.data, .int n]
  | .rec_ fs => .tuple [.str "record", .tuple fs.datas]
  | .ovl fs => .tuple [.str "overlay", .tuple fs.datas]
def Fs.datas : Fs → List PyData
  | .nil => []
  | .cons n p r => .tuple [.str (S n), p.data] :: r.datas
end
section
variable (K : PySem.W.Frag) (H : Hp)
mutual
def ShAt : Pt → V → Prop
  | .kind n t, v => ∃ a, v = .ref a ∧ H a = some (.tup [.str "kind", .str (S n), .int t])
  | .byte, v => ∃ a, v = .ref a ∧ H a = some (.tup [.str "byte"])
  | .use n, v => ∃ a, v = .ref a ∧ H a = some (.tup [.str "use", .str (S n)])
  | .row n p, v => ∃ a u, v = .ref a ∧ H a = some (.tup [.str "row", u, .int n]) ∧ ShAt p u
  | .rec_ fs, v => ∃ a b xs, v = .ref a ∧ H a = some (.tup [.str "record", .ref b]) ∧ H b = some (.tup xs) ∧ ShsAt fs xs
  | .ovl fs, v => ∃ a b xs, v = .ref a ∧ H a = some (.tup [.str "overlay", .ref b]) ∧ H b = some (.tup xs) ∧ ShsAt fs xs
def ShsAt : Fs → List V → Prop
  | .nil, xs => xs = []
  | .cons n p r, xs => ∃ q u ys, xs = .ref q :: ys ∧ H q = some (.tup [.str (S n), u]) ∧ ShAt p u ∧ ShsAt r ys
end
end
mutual
theorem ShAt.st {H H' : Hp} (e : Stb K H H') : ∀ {p : Pt} {v : V}, ShAt H p v → ShAt H' p v
  | .kind n t, v, h => by
    obtain ⟨a, h1, h⟩ := h
    exact ⟨a, h1, e _ _ h trivial⟩
  | .byte, v, h => by
    obtain ⟨a, h1, h⟩ := h
    exact ⟨a, h1, e _ _ h trivial⟩
  | .use n, v, h => by
    obtain ⟨a, h1, h⟩ := h
    exact ⟨a, h1, e _ _ h trivial⟩
  | .row n p, v, h => by
    obtain ⟨a, u, h1, h, h2⟩ := h
    exact ⟨a, u, h1, e _ _ h trivial, ShAt.st e h2⟩
  | .rec_ fs, v, h => by
    obtain ⟨a, b, xs, h1, h, h2, h3⟩ := h
    exact ⟨a, b, xs, h1, e _ _ h trivial, e _ _ h2 trivial, ShsAt.st e h3⟩
  | .ovl fs, v, h => by
    obtain ⟨a, b, xs, h1, h, h2, h3⟩ := h
    exact ⟨a, b, xs, h1, e _ _ h trivial, e _ _ h2 trivial, ShsAt.st e h3⟩
theorem ShsAt.st {H H' : Hp} (e : Stb K H H') : ∀ {fs : Fs} {xs : List V}, ShsAt H fs xs → ShsAt H' fs xs
  | .nil, xs, h => h
  | .cons n p r, xs, h => by
    obtain ⟨q, u, ys, h1, h, h2, h3⟩ := h
    exact ⟨q, u, ys, h1, e _ _ h trivial, ShAt.st e h2, ShsAt.st e h3⟩
end
mutual
theorem ShAt.dp {H : Hp} : ∀ {p : Pt} {v : V}, ShAt H p v → Dp K H v p.data
  | .kind n t, v, h => by
    obtain ⟨a, rfl, h⟩ := h
    exact .tup (SqT.of h) (.cons (.str _) (.cons (.str _) (.cons (.int _) .nil)))
  | .byte, v, h => by
    obtain ⟨a, rfl, h⟩ := h
    exact .tup (SqT.of h) (.cons (.str _) .nil)
  | .use n, v, h => by
    obtain ⟨a, rfl, h⟩ := h
    exact .tup (SqT.of h) (.cons (.str _) (.cons (.str _) .nil))
  | .row n p, v, h => by
    obtain ⟨a, u, rfl, h, h2⟩ := h
    exact .tup (SqT.of h) (.cons (.str _) (.cons (ShAt.dp h2) (.cons (.int _) .nil)))
  | .rec_ fs, v, h => by
    obtain ⟨a, b, xs, rfl, h, h2, h3⟩ := h
    exact .tup (SqT.of h) (.cons (.str _) (.cons (.tup (SqT.of h2) (ShsAt.dp h3)) .nil))
  | .ovl fs, v, h => by
    obtain ⟨a, b, xs, rfl, h, h2, h3⟩ := h
    exact .tup (SqT.of h) (.cons (.str _) (.cons (.tup (SqT.of h2) (ShsAt.dp h3)) .nil))
theorem ShsAt.dp {H : Hp} : ∀ {fs : Fs} {xs : List V}, ShsAt H fs xs → DpAll K H xs fs.datas
  | .nil, xs, h => by
    have h : xs = [] := h
    subst h
    exact .nil
  | .cons n p r, xs, h => by
    obtain ⟨q, u, ys, rfl, h, h2, h3⟩ := h
    exact .cons (.tup (SqT.of h) (.cons (.str _) (.cons (ShAt.dp h2) .nil))) (ShsAt.dp h3)
end
theorem ShsAt.snoc {H : Hp} {n : List Nat} {p : Pt} {q : Addr} {u : V} (hq : H q = some (.tup [.str (S n), u])) (hb : ShAt H p u) : ∀ {fs : Fs} {xs : List V}, ShsAt H fs xs → ShsAt H (fs.snoc n p) (xs ++ [.ref q])
  | .nil, xs, h => by
    have h : xs = [] := h
    subst h
    exact ⟨q, u, [], rfl, hq, hb, rfl⟩
  | .cons m p2 r, xs, h => by
    obtain ⟨q2, u2, ys, rfl, hq2, hb2, hr⟩ := h
    exact ⟨q2, u2, ys ++ [.ref q], rfl, hq2, hb2, ShsAt.snoc hq hb hr⟩
def Fs.ofL : List (List Nat × Pt) → Fs
  | [] => .nil
  | (n, p) :: r => .cons n p (Fs.ofL r)
theorem Fs.ofL_toL : ∀ fs : Fs, Fs.ofL fs.toL = fs
  | .nil => rfl
  | .cons n p r => by
    show Fs.cons n p (Fs.ofL r.toL) = _
    rw [Fs.ofL_toL r]
theorem Fs.ofL_snoc : ∀ (l : List (List Nat × Pt)) (n : List Nat) (p : Pt), Fs.ofL (l ++ [(n, p)]) = (Fs.ofL l).snoc n p
  | [], n, p => rfl
  | (m, q) :: l, n, p => by
    show Fs.cons m q (Fs.ofL (l ++ [(n, p)])) = Fs.cons m q ((Fs.ofL l).snoc n p)
    rw [Fs.ofL_snoc l n p]
def spShape (D : Nat) (sel : Pt → Bool) (K : PySem.W.Frag) : Sp := sp1 fun a H Q _ => ∃ p b, a = .ref b ∧ sel p = true ∧ PartAt K H p b ∧ p.depth < D ∧ ∀ v H', Ex H H' → ShAt H' p v → Q v H'
structure ShpAll (P : Program) (w : World) (K : PySem.W.Frag) (mg : Str → Option Value) (base : Heap) (D k : Nat) : Prop where
  kind : Cmt P w K mg base (ga K "Kind") "shape" k (spShape D Pt.isK K)
  byte : Cmt P w K mg base (ga K "Byte") "shape" k (spShape D Pt.isB K)
  use : Cmt P w K mg base (ga K "Use") "shape" k (spShape D Pt.isU K)
  row : Cmt P w K mg base (ga K "Row") "shape" k (spShape D Pt.isR K)
  rec_ : Cmt P w K mg base (ga K "Record") "shape" k (spShape D Pt.isC K)
  ovl : Cmt P w K mg base (ga K "Overlay") "shape" k (spShape D Pt.isO K)
theorem ShpAll.at_ {D k : Nat} {H : Hp} {p : Pt} {a : Addr} {Q : VK} {E : XK} (t : ShpAll P w K mg base D k) (h : PartAt K H p a) (hd : p.depth < D) (hq : ∀ v H', Ex H H' → ShAt H' p v → Q v H') :
    ∃ C dx fs, H a = some (.ins C dx fs) ∧ fs.lookup (Str.ofString "shape") = none ∧ ∃ sp, Cmt P w K mg base C "shape" k sp ∧ sp [.ref a] H Q E := by
  cases p with
  | kind n u =>
    obtain ⟨dx, h2⟩ := id h
    exact ⟨_, dx, _, h2, rfl, _, t.kind, _, a, rfl, rfl, h, hd, hq⟩
  | byte =>
    obtain ⟨dx, h2⟩ := id h
    exact ⟨_, dx, _, h2, rfl, _, t.byte, _, a, rfl, rfl, h, hd, hq⟩
  | use n =>
    obtain ⟨dx, h2⟩ := id h
    exact ⟨_, dx, _, h2, rfl, _, t.use, _, a, rfl, rfl, h, hd, hq⟩
  | row n p =>
    obtain ⟨dx, hh, b, h2, _⟩ := id h
    exact ⟨_, dx, _, h2, rfl, _, t.row, _, a, rfl, rfl, h, hd, hq⟩
  | rec_ fs =>
    obtain ⟨dx, hh, tt, xs, h2, _⟩ := id h
    exact ⟨_, dx, _, h2, rfl, _, t.rec_, _, a, rfl, rfl, h, hd, hq⟩
  | ovl fs =>
    obtain ⟨dx, hh, tt, xs, h2, _⟩ := id h
    exact ⟨_, dx, _, h2, rfl, _, t.ovl, _, a, rfl, rfl, h, hd, hq⟩
section
variable {D k : Nat}
theorem lk_t1 {a b c : V} {r : List (Str × V)} : List.lookup (Str.ofString "times") ((Str.ofString "depth", a) :: (Str.ofString "name", b) :: (Str.ofString "times", c) :: r) = some c := rfl
theorem sc_Kind_shape : FnScope ["self"] ["self"] (defScope s_Kind_shape) := ⟨rfl, rfl, rfl, by decide +kernel, rfl, by decide +kernel, by decide +kernel⟩
theorem ok_Kind_shape (z : Zk K mg base)   : Cmt P w K mg base (ga K "Kind") "shape" 1 ((spShape D Pt.isK K)) := by
  obtain ⟨fd, F⟩ := z.d_Kind_shape
  refine cmt_of F z.cls_Kind z.mt_Kind_shape sc_Kind_shape (fun _ _ _ _ _ _ us hl => match us, hl with | [_], _ => rfl) (fun vs H Q E h => by match vs, h with | [_], _ => rfl) (fun cdv A outer s H vs Q E hr h => ?_)
  have nd := sc_Kind_shape.nd
  have hu : (cxOf (L2.CX P w) P w K mg base ["self"] "Kind.shape" (defScope s_Kind_shape) (fAd K ("Kind", some "shape")) cdv A outer s H E).A.units + 64 < cLine := hr.units
  have hu0 := hr.units0
  have hu1 := hu_of hr
  match vs, h with
  | [a0], h =>
  refine ⟨_, (pss_one (ps_ret (pe_tup (pa_cons pe_str (pa_cons (k_fld (K := K) rfl (pv 0)) (pa_cons (k_fld (K := K) rfl (pv 0)) pa_nil)))))), ?_⟩
  obtain ⟨p, b, rfl, hs, hp, hd, hq⟩ := h
  cases p <;> try cases hs
  obtain ⟨dx, h2⟩ := hp
  simp [tRet, tRetN, tSeq, tIfS, tDrop, tNext, tNever, tBreak, tCont, tAsg, gName, gCons, gNil, gTup, tAndV, tOrV, tNotV, tAnd, tOr, tNot, tOp, tUn, tVar, tC, tB, tTest, tIf, tCons, tNil, tCB, tTup, tLst, tFld, sFld, sFldAug, rAdd, rSub, tSl, tPart, tNoPart, rI0, rI, rU, rEq, rNe, rSlS, rSlL, rIxL, rIxT, rIxS, tChain, tFn, tMt, tM1, tM0, tBM, rAppend, rIn, tIsN, tNotN, scal_ss, scal_ii, let_nil, let_one, fig_nil, fig_one, LenV_str, L2.start, cxOf, and_assoc, tJs, tFmt, put_at, lk_at, lk_script, lk_upcoming, lk_refuse, lk_skips, lk_expect, lk_word_of, lk_name_unlike, lk_number_to, lk_finish, sp0, sp1, sp2, sp3, sp4, sp5, -List.lookup_eq_none_iff, h2, z.cls_Kind, z.na_Kind_name, z.na_Kind_times, lk_n1, lk_t1]
  exact ⟨by rw [sizeLine_eq]; omega, fun a ha => hq _ _ (Ex.new ha) ⟨a, rfl, upd_same⟩⟩
theorem sc_Byte_shape : FnScope ["self"] ["self"] (defScope s_Byte_shape) := ⟨rfl, rfl, rfl, by decide +kernel, rfl, by decide +kernel, by decide +kernel⟩
theorem ok_Byte_shape (z : Zk K mg base)   : Cmt P w K mg base (ga K "Byte") "shape" 1 ((spShape D Pt.isB K)) := by
  obtain ⟨fd, F⟩ := z.d_Byte_shape
  refine cmt_of F z.cls_Byte z.mt_Byte_shape sc_Byte_shape (fun _ _ _ _ _ _ us hl => match us, hl with | [_], _ => rfl) (fun vs H Q E h => by match vs, h with | [_], _ => rfl) (fun cdv A outer s H vs Q E hr h => ?_)
  have nd := sc_Byte_shape.nd
  have hu : (cxOf (L2.CX P w) P w K mg base ["self"] "Byte.shape" (defScope s_Byte_shape) (fAd K ("Byte", some "shape")) cdv A outer s H E).A.units + 64 < cLine := hr.units
  have hu0 := hr.units0
  have hu1 := hu_of hr
  match vs, h with
  | [a0], h =>
  refine ⟨_, (pss_one (ps_ret (pe_tup (pa_cons pe_str pa_nil)))), ?_⟩
  obtain ⟨p, b, rfl, hs, hp, hd, hq⟩ := h
  cases p <;> try cases hs
  simp [tRet, tRetN, tSeq, tIfS, tDrop, tNext, tNever, tBreak, tCont, tAsg, gName, gCons, gNil, gTup, tAndV, tOrV, tNotV, tAnd, tOr, tNot, tOp, tUn, tVar, tC, tB, tTest, tIf, tCons, tNil, tCB, tTup, tLst, tFld, sFld, sFldAug, rAdd, rSub, tSl, tPart, tNoPart, rI0, rI, rU, rEq, rNe, rSlS, rSlL, rIxL, rIxT, rIxS, tChain, tFn, tMt, tM1, tM0, tBM, rAppend, rIn, tIsN, tNotN, scal_ss, scal_ii, let_nil, let_one, fig_nil, fig_one, LenV_str, L2.start, cxOf, and_assoc, tJs, tFmt, put_at, lk_at, lk_script, lk_upcoming, lk_refuse, lk_skips, lk_expect, lk_word_of, lk_name_unlike, lk_number_to, lk_finish, sp0, sp1, sp2, sp3, sp4, sp5, -List.lookup_eq_none_iff]
  exact ⟨by rw [sizeLine_eq]; omega, fun a ha => hq _ _ (Ex.new ha) ⟨a, rfl, upd_same⟩⟩
theorem sc_Use_shape : FnScope ["self"] ["self"] (defScope s_Use_shape) := ⟨rfl, rfl, rfl, by decide +kernel, rfl, by decide +kernel, by decide +kernel⟩
theorem ok_Use_shape (z : Zk K mg base)   : Cmt P w K mg base (ga K "Use") "shape" 1 ((spShape D Pt.isU K)) := by
  obtain ⟨fd, F⟩ := z.d_Use_shape
  refine cmt_of F z.cls_Use z.mt_Use_shape sc_Use_shape (fun _ _ _ _ _ _ us hl => match us, hl with | [_], _ => rfl) (fun vs H Q E h => by match vs, h with | [_], _ => rfl) (fun cdv A outer s H vs Q E hr h => ?_)
  have nd := sc_Use_shape.nd
  have hu : (cxOf (L2.CX P w) P w K mg base ["self"] "Use.shape" (defScope s_Use_shape) (fAd K ("Use", some "shape")) cdv A outer s H E).A.units + 64 < cLine := hr.units
  have hu0 := hr.units0
  have hu1 := hu_of hr
  match vs, h with
  | [a0], h =>
  refine ⟨_, (pss_one (ps_ret (pe_tup (pa_cons pe_str (pa_cons (k_fld (K := K) rfl (pv 0)) pa_nil))))), ?_⟩
  obtain ⟨p, b, rfl, hs, hp, hd, hq⟩ := h
  cases p <;> try cases hs
  obtain ⟨dx, h2⟩ := hp
  simp [tRet, tRetN, tSeq, tIfS, tDrop, tNext, tNever, tBreak, tCont, tAsg, gName, gCons, gNil, gTup, tAndV, tOrV, tNotV, tAnd, tOr, tNot, tOp, tUn, tVar, tC, tB, tTest, tIf, tCons, tNil, tCB, tTup, tLst, tFld, sFld, sFldAug, rAdd, rSub, tSl, tPart, tNoPart, rI0, rI, rU, rEq, rNe, rSlS, rSlL, rIxL, rIxT, rIxS, tChain, tFn, tMt, tM1, tM0, tBM, rAppend, rIn, tIsN, tNotN, scal_ss, scal_ii, let_nil, let_one, fig_nil, fig_one, LenV_str, L2.start, cxOf, and_assoc, tJs, tFmt, put_at, lk_at, lk_script, lk_upcoming, lk_refuse, lk_skips, lk_expect, lk_word_of, lk_name_unlike, lk_number_to, lk_finish, sp0, sp1, sp2, sp3, sp4, sp5, -List.lookup_eq_none_iff, h2, z.cls_Use, z.na_Use_name, lk_n1]
  exact ⟨by rw [sizeLine_eq]; omega, fun a ha => hq _ _ (Ex.new ha) ⟨a, rfl, upd_same⟩⟩
theorem sc_Row_shape : FnScope ["self"] ["self"] (defScope s_Row_shape) := ⟨rfl, rfl, rfl, by decide +kernel, rfl, by decide +kernel, by decide +kernel⟩
theorem ok_Row_shape (z : Zk K mg base)  (t : ShpAll P w K mg base D k) : Cmt P w K mg base (ga K "Row") "shape" (k + 1) ((spShape (D+1) Pt.isR K)) := by
  obtain ⟨fd, F⟩ := z.d_Row_shape
  refine cmt_of F z.cls_Row z.mt_Row_shape sc_Row_shape (fun _ _ _ _ _ _ us hl => match us, hl with | [_], _ => rfl) (fun vs H Q E h => by match vs, h with | [_], _ => rfl) (fun cdv A outer s H vs Q E hr h => ?_)
  have nd := sc_Row_shape.nd
  have hu : (cxOf (L2.CX P w) P w K mg base ["self"] "Row.shape" (defScope s_Row_shape) (fAd K ("Row", some "shape")) cdv A outer s H E).A.units + 64 < cLine := hr.units
  have hu0 := hr.units0
  have hu1 := hu_of hr
  match vs, h with
  | [a0], h =>
  refine ⟨_, (pss_one (ps_ret (pe_tup (pa_cons pe_str (pa_cons (pe_mtD (k := k) rfl rfl rfl rfl rfl (k_fld (K := K) rfl (pv 0)) hr (passD (E := E)) (by omega)) (pa_cons (k_fld (K := K) rfl (pv 0)) pa_nil)))))), ?_⟩
  obtain ⟨p, b, rfl, hs, hp, hd, hq⟩ := h
  cases p <;> try cases hs
  rename_i n p
  obtain ⟨dx, hh, c, h2, hc, hn⟩ := hp
  have hd2 : p.depth < D := by
    have : p.depth + 1 < D + 1 := hd
    omega
  simp [tRet, tRetN, tSeq, tIfS, tDrop, tNext, tNever, tBreak, tCont, tAsg, gName, gCons, gNil, gTup, tAndV, tOrV, tNotV, tAnd, tOr, tNot, tOp, tUn, tVar, tC, tB, tTest, tIf, tCons, tNil, tCB, tTup, tLst, tFld, sFld, sFldAug, rAdd, rSub, tSl, tPart, tNoPart, rI0, rI, rU, rEq, rNe, rSlS, rSlL, rIxL, rIxT, rIxS, tChain, tFn, tMt, tM1, tM0, tBM, rAppend, rIn, tIsN, tNotN, scal_ss, scal_ii, let_nil, let_one, fig_nil, fig_one, LenV_str, L2.start, cxOf, and_assoc, tJs, tFmt, put_at, lk_at, lk_script, lk_upcoming, lk_refuse, lk_skips, lk_expect, lk_word_of, lk_name_unlike, lk_number_to, lk_finish, sp0, sp1, sp2, sp3, sp4, sp5, -List.lookup_eq_none_iff, h2, z.cls_Row, z.na_Row_n, z.na_Row_part, lk_n, lk_part, tMtD]
  refine t.at_ hc hd2 fun v H' e hv => ?_
  have h3 := e _ _ h2
  simp [tRet, tRetN, tSeq, tIfS, tDrop, tNext, tNever, tBreak, tCont, tAsg, gName, gCons, gNil, gTup, tAndV, tOrV, tNotV, tAnd, tOr, tNot, tOp, tUn, tVar, tC, tB, tTest, tIf, tCons, tNil, tCB, tTup, tLst, tFld, sFld, sFldAug, rAdd, rSub, tSl, tPart, tNoPart, rI0, rI, rU, rEq, rNe, rSlS, rSlL, rIxL, rIxT, rIxS, tChain, tFn, tMt, tM1, tM0, tBM, rAppend, rIn, tIsN, tNotN, scal_ss, scal_ii, let_nil, let_one, fig_nil, fig_one, LenV_str, L2.start, cxOf, and_assoc, tJs, tFmt, put_at, lk_at, lk_script, lk_upcoming, lk_refuse, lk_skips, lk_expect, lk_word_of, lk_name_unlike, lk_number_to, lk_finish, sp0, sp1, sp2, sp3, sp4, sp5, -List.lookup_eq_none_iff, h3, z.cls_Row, z.na_Row_n, z.na_Row_part, lk_n, lk_part]
  exact ⟨by rw [sizeLine_eq]; omega, fun a ha => hq _ _ (Ex.trans e (Ex.new ha)) ⟨a, v, rfl, upd_same, ShAt.st (K := K) (Stb.of (Ex.new ha)) hv⟩⟩
theorem sc_Record_shape : FnScope ["self", "name", "part"] ["self"] (defScope s_Record_shape) := ⟨rfl, rfl, rfl, by decide +kernel, rfl, by decide +kernel, by decide +kernel⟩
theorem ok_Record_shape (z : Zk K mg base)  (t : ShpAll P w K mg base D k) (ap : Apart K) : Cmt P w K mg base (ga K "Record") "shape" (k + 1) ((spShape (D+1) Pt.isC K)) := by
  obtain ⟨fd, F⟩ := z.d_Record_shape
  refine cmt_of F z.cls_Record z.mt_Record_shape sc_Record_shape (fun _ _ _ _ _ _ us hl => match us, hl with | [_], _ => rfl) (fun vs H Q E h => by match vs, h with | [_], _ => rfl) (fun cdv A outer s H vs Q E hr h => ?_)
  have nd := sc_Record_shape.nd
  have hu : (cxOf (L2.CX P w) P w K mg base ["self", "name", "part"] "Record.shape" (defScope s_Record_shape) (fAd K ("Record", some "shape")) cdv A outer s H E).A.units + 64 < cLine := hr.units
  have hu0 := hr.units0
  have hu1 := hu_of hr
  match vs, h with
  | [a0], h =>
  refine ⟨_, (pss_one (ps_ret (pe_tup (pa_cons pe_str (pa_cons (pe_callTy (k_tuple_of (K := K) rfl) rfl z.b_tuple boot_tuple (pa_cons (pe_lc rfl nd (k_pi_tup (K := K) rfl (k_fld (K := K) rfl (pv 0))) (blkOk_by (N := ["self", "name", "part"]) (sc := defScope s_Record_shape) (own := [("name", 1), ("part", 2)]) (by decide +kernel)) (fun _ _ _ _ _ => (k_pg_tup (K := K) (n := 2) rfl rfl (pgs_cons (pg_name nd (i := 1) rfl (Or.inl rfl)) (pgs_cons (pg_name nd (i := 2) rfl (Or.inl rfl)) pgs_nil)))) (fun _ _ _ _ _ => pts_nil) (fun _ _ _ _ _ => (pe_tup (pa_cons (pv 1) (pa_cons (pe_mtD (k := k) rfl rfl rfl rfl rfl (pv 2) hr passL (by omega)) pa_nil))))) pa_nil)) pa_nil))))), ?_⟩
  obtain ⟨p, b, rfl, hs, hp, hd, hq⟩ := h
  cases p <;> try cases hs
  rename_i fs
  obtain ⟨dx, hh, tt, xs, h2, ht, hf, hle⟩ := hp
  have hfl := hf.len
  simp [tRet, tRetN, tSeq, tIfS, tDrop, tNext, tNever, tBreak, tCont, tAsg, gName, gCons, gNil, gTup, tAndV, tOrV, tNotV, tAnd, tOr, tNot, tOp, tUn, tVar, tC, tB, tTest, tIf, tCons, tNil, tCB, tTup, tLst, tFld, sFld, sFldAug, rAdd, rSub, tSl, tPart, tNoPart, rI0, rI, rU, rEq, rNe, rSlS, rSlL, rIxL, rIxT, rIxS, tChain, tFn, tMt, tM1, tM0, tBM, rAppend, rIn, tIsN, tNotN, scal_ss, scal_ii, let_nil, let_one, fig_nil, fig_one, LenV_str, L2.start, cxOf, and_assoc, tJs, tFmt, put_at, lk_at, lk_script, lk_upcoming, lk_refuse, lk_skips, lk_expect, lk_word_of, lk_name_unlike, lk_number_to, lk_finish, sp0, sp1, sp2, sp3, sp4, sp5, -List.lookup_eq_none_iff, h2, z.cls_Record, z.na_Record_fields, lk_fields, tMtD]
  refine lc_relT (a := tt) (xs := xs) (fun i acc H' => ShsAt H' (Fs.ofL (fs.toL.take i)) acc) (fun R h => by simp [tRet, tRetN, tSeq, tIfS, tDrop, tNext, tNever, tBreak, tCont, tAsg, gName, gCons, gNil, gTup, tAndV, tOrV, tNotV, tAnd, tOr, tNot, tOp, tUn, tVar, tC, tB, tTest, tIf, tCons, tNil, tCB, tTup, tLst, tFld, sFld, sFldAug, rAdd, rSub, tSl, tPart, tNoPart, rI0, rI, rU, rEq, rNe, rSlS, rSlL, rIxL, rIxT, rIxS, tChain, tFn, tMt, tM1, tM0, tBM, rAppend, rIn, tIsN, tNotN, scal_ss, scal_ii, let_nil, let_one, fig_nil, fig_one, LenV_str, L2.start, cxOf, and_assoc, tJs, tFmt, put_at, lk_at, lk_script, lk_upcoming, lk_refuse, lk_skips, lk_expect, lk_word_of, lk_name_unlike, lk_number_to, lk_finish, sp0, sp1, sp2, sp3, sp4, sp5, -List.lookup_eq_none_iff, h2, z.cls_Record, z.na_Record_fields, lk_fields]; exact h) monG_tup2 monT_yes (by omega) (SqT.of ht) rfl (fun i acc H1 H2 e h => h.st e) (fun i x acc H' R hi e hw hR => ?_) fun D2 acc H' e hD hl hlen hw => ?_
  · obtain ⟨n, pp, q2, c, hg, rfl, hq2, hc⟩ := FsAt.get (hf.st ap (Stb.of e)) hi
    have hdp := Fs.depth_get hg
    have hd2 : fs.depth < D + 1 := hd
    refine ⟨_, _, rfl, SqT.of hq2, rfl, _, _, rfl, _, _, rfl, rfl, rfl, ?_⟩
    simp [tRet, tRetN, tSeq, tIfS, tDrop, tNext, tNever, tBreak, tCont, tAsg, gName, gCons, gNil, gTup, tAndV, tOrV, tNotV, tAnd, tOr, tNot, tOp, tUn, tVar, tC, tB, tTest, tIf, tCons, tNil, tCB, tTup, tLst, tFld, sFld, sFldAug, rAdd, rSub, tSl, tPart, tNoPart, rI0, rI, rU, rEq, rNe, rSlS, rSlL, rIxL, rIxT, rIxS, tChain, tFn, tMt, tM1, tM0, tBM, rAppend, rIn, tIsN, tNotN, scal_ss, scal_ii, let_nil, let_one, fig_nil, fig_one, LenV_str, L2.start, cxOf, and_assoc, tJs, tFmt, put_at, lk_at, lk_script, lk_upcoming, lk_refuse, lk_skips, lk_expect, lk_word_of, lk_name_unlike, lk_number_to, lk_finish, sp0, sp1, sp2, sp3, sp4, sp5, -List.lookup_eq_none_iff, tYes, wipe, tMtD]
    refine t.at_ hc (by omega) fun v H4 e4 hv => ⟨by rw [sizeLine_eq]; omega, fun a ha => hR _ _ (Ex.trans e4 (Ex.new ha)) ?_⟩
    have e1 : fs.toL.take (i + 1) = fs.toL.take i ++ [(n, pp)] := by
      obtain ⟨hi2, h8⟩ := List.getElem?_eq_some_iff.mp hg
      rw [← h8]
      exact List.take_succ_eq_append_getElem hi2
    rw [e1, Fs.ofL_snoc]
    exact ShsAt.snoc upd_same (ShAt.st (K := K) (Stb.of (Ex.new ha)) hv) (ShsAt.st (K := K) (Stb.of (Ex.new ha)) (ShsAt.st (K := K) (Stb.of e4) hw))
  · refine ⟨D2, rfl, acc, Or.inl ⟨SqL.of hl, fun b2 hb2 => ⟨by rw [sizeLine_eq]; omega, fun a ha => ?_⟩⟩⟩
    have e2 : Ex H' (upd H' b2 (.tup acc)) := Ex.new hb2
    have hba : b2 ≠ a := fun e => by rw [← e, upd_same] at ha; cases ha
    have e3 : Ex (upd H' b2 (.tup acc)) (upd (upd H' b2 (.tup acc)) a (.tup [.str "record", .ref b2])) := Ex.new ha
    have hw2 : ShsAt H' fs acc := by
      rw [hfl, ← Fs.toL_len, List.take_length, Fs.ofL_toL] at hw
      exact hw
    exact hq _ _ (Ex.trans e (Ex.trans e2 e3)) ⟨a, b2, acc, rfl, upd_same, by rw [upd_ne hba, upd_same], ShsAt.st (K := K) (Stb.of e3) (ShsAt.st (K := K) (Stb.of e2) hw2)⟩
theorem sc_Overlay_shape : FnScope ["self", "name", "part"] ["self"] (defScope s_Overlay_shape) := ⟨rfl, rfl, rfl, by decide +kernel, rfl, by decide +kernel, by decide +kernel⟩
theorem ok_Overlay_shape (z : Zk K mg base)  (t : ShpAll P w K mg base D k) (ap : Apart K) : Cmt P w K mg base (ga K "Overlay") "shape" (k + 1) ((spShape (D+1) Pt.isO K)) := by
  obtain ⟨fd, F⟩ := z.d_Overlay_shape
  refine cmt_of F z.cls_Overlay z.mt_Overlay_shape sc_Overlay_shape (fun _ _ _ _ _ _ us hl => match us, hl with | [_], _ => rfl) (fun vs H Q E h => by match vs, h with | [_], _ => rfl) (fun cdv A outer s H vs Q E hr h => ?_)
  have nd := sc_Overlay_shape.nd
  have hu : (cxOf (L2.CX P w) P w K mg base ["self", "name", "part"] "Overlay.shape" (defScope s_Overlay_shape) (fAd K ("Overlay", some "shape")) cdv A outer s H E).A.units + 64 < cLine := hr.units
  have hu0 := hr.units0
  have hu1 := hu_of hr
  match vs, h with
  | [a0], h =>
  refine ⟨_, (pss_one (ps_ret (pe_tup (pa_cons pe_str (pa_cons (pe_callTy (k_tuple_of (K := K) rfl) rfl z.b_tuple boot_tuple (pa_cons (pe_lc rfl nd (k_pi_tup (K := K) rfl (k_fld (K := K) rfl (pv 0))) (blkOk_by (N := ["self", "name", "part"]) (sc := defScope s_Overlay_shape) (own := [("name", 1), ("part", 2)]) (by decide +kernel)) (fun _ _ _ _ _ => (k_pg_tup (K := K) (n := 2) rfl rfl (pgs_cons (pg_name nd (i := 1) rfl (Or.inl rfl)) (pgs_cons (pg_name nd (i := 2) rfl (Or.inl rfl)) pgs_nil)))) (fun _ _ _ _ _ => pts_nil) (fun _ _ _ _ _ => (pe_tup (pa_cons (pv 1) (pa_cons (pe_mtD (k := k) rfl rfl rfl rfl rfl (pv 2) hr passL (by omega)) pa_nil))))) pa_nil)) pa_nil))))), ?_⟩
  obtain ⟨p, b, rfl, hs, hp, hd, hq⟩ := h
  cases p <;> try cases hs
  rename_i fs
  obtain ⟨dx, hh, tt, xs, h2, ht, hf, hle⟩ := hp
  have hfl := hf.len
  simp [tRet, tRetN, tSeq, tIfS, tDrop, tNext, tNever, tBreak, tCont, tAsg, gName, gCons, gNil, gTup, tAndV, tOrV, tNotV, tAnd, tOr, tNot, tOp, tUn, tVar, tC, tB, tTest, tIf, tCons, tNil, tCB, tTup, tLst, tFld, sFld, sFldAug, rAdd, rSub, tSl, tPart, tNoPart, rI0, rI, rU, rEq, rNe, rSlS, rSlL, rIxL, rIxT, rIxS, tChain, tFn, tMt, tM1, tM0, tBM, rAppend, rIn, tIsN, tNotN, scal_ss, scal_ii, let_nil, let_one, fig_nil, fig_one, LenV_str, L2.start, cxOf, and_assoc, tJs, tFmt, put_at, lk_at, lk_script, lk_upcoming, lk_refuse, lk_skips, lk_expect, lk_word_of, lk_name_unlike, lk_number_to, lk_finish, sp0, sp1, sp2, sp3, sp4, sp5, -List.lookup_eq_none_iff, h2, z.cls_Overlay, z.na_Overlay_members, lk_members, tMtD]
  refine lc_relT (a := tt) (xs := xs) (fun i acc H' => ShsAt H' (Fs.ofL (fs.toL.take i)) acc) (fun R h => by simp [tRet, tRetN, tSeq, tIfS, tDrop, tNext, tNever, tBreak, tCont, tAsg, gName, gCons, gNil, gTup, tAndV, tOrV, tNotV, tAnd, tOr, tNot, tOp, tUn, tVar, tC, tB, tTest, tIf, tCons, tNil, tCB, tTup, tLst, tFld, sFld, sFldAug, rAdd, rSub, tSl, tPart, tNoPart, rI0, rI, rU, rEq, rNe, rSlS, rSlL, rIxL, rIxT, rIxS, tChain, tFn, tMt, tM1, tM0, tBM, rAppend, rIn, tIsN, tNotN, scal_ss, scal_ii, let_nil, let_one, fig_nil, fig_one, LenV_str, L2.start, cxOf, and_assoc, tJs, tFmt, put_at, lk_at, lk_script, lk_upcoming, lk_refuse, lk_skips, lk_expect, lk_word_of, lk_name_unlike, lk_number_to, lk_finish, sp0, sp1, sp2, sp3, sp4, sp5, -List.lookup_eq_none_iff, h2, z.cls_Overlay, z.na_Overlay_members, lk_members]; exact h) monG_tup2 monT_yes (by omega) (SqT.of ht) rfl (fun i acc H1 H2 e h => h.st e) (fun i x acc H' R hi e hw hR => ?_) fun D2 acc H' e hD hl hlen hw => ?_
  · obtain ⟨n, pp, q2, c, hg, rfl, hq2, hc⟩ := FsAt.get (hf.st ap (Stb.of e)) hi
    have hdp := Fs.depth_get hg
    have hd2 : fs.depth < D + 1 := hd
    refine ⟨_, _, rfl, SqT.of hq2, rfl, _, _, rfl, _, _, rfl, rfl, rfl, ?_⟩
    simp [tRet, tRetN, tSeq, tIfS, tDrop, tNext, tNever, tBreak, tCont, tAsg, gName, gCons, gNil, gTup, tAndV, tOrV, tNotV, tAnd, tOr, tNot, tOp, tUn, tVar, tC, tB, tTest, tIf, tCons, tNil, tCB, tTup, tLst, tFld, sFld, sFldAug, rAdd, rSub, tSl, tPart, tNoPart, rI0, rI, rU, rEq, rNe, rSlS, rSlL, rIxL, rIxT, rIxS, tChain, tFn, tMt, tM1, tM0, tBM, rAppend, rIn, tIsN, tNotN, scal_ss, scal_ii, let_nil, let_one, fig_nil, fig_one, LenV_str, L2.start, cxOf, and_assoc, tJs, tFmt, put_at, lk_at, lk_script, lk_upcoming, lk_refuse, lk_skips, lk_expect, lk_word_of, lk_name_unlike, lk_number_to, lk_finish, sp0, sp1, sp2, sp3, sp4, sp5, -List.lookup_eq_none_iff, tYes, wipe, tMtD]
    refine t.at_ hc (by omega) fun v H4 e4 hv => ⟨by rw [sizeLine_eq]; omega, fun a ha => hR _ _ (Ex.trans e4 (Ex.new ha)) ?_⟩
    have e1 : fs.toL.take (i + 1) = fs.toL.take i ++ [(n, pp)] := by
      obtain ⟨hi2, h8⟩ := List.getElem?_eq_some_iff.mp hg
      rw [← h8]
      exact List.take_succ_eq_append_getElem hi2
    rw [e1, Fs.ofL_snoc]
    exact ShsAt.snoc upd_same (ShAt.st (K := K) (Stb.of (Ex.new ha)) hv) (ShsAt.st (K := K) (Stb.of (Ex.new ha)) (ShsAt.st (K := K) (Stb.of e4) hw))
  · refine ⟨D2, rfl, acc, Or.inl ⟨SqL.of hl, fun b2 hb2 => ⟨by rw [sizeLine_eq]; omega, fun a ha => ?_⟩⟩⟩
    have e2 : Ex H' (upd H' b2 (.tup acc)) := Ex.new hb2
    have hba : b2 ≠ a := fun e => by rw [← e, upd_same] at ha; cases ha
    have e3 : Ex (upd H' b2 (.tup acc)) (upd (upd H' b2 (.tup acc)) a (.tup [.str "overlay", .ref b2])) := Ex.new ha
    have hw2 : ShsAt H' fs acc := by
      rw [hfl, ← Fs.toL_len, List.take_length, Fs.ofL_toL] at hw
      exact hw
    exact hq _ _ (Ex.trans e (Ex.trans e2 e3)) ⟨a, b2, acc, rfl, upd_same, by rw [upd_ne hba, upd_same], ShsAt.st (K := K) (Stb.of e3) (ShsAt.st (K := K) (Stb.of e2) hw2)⟩
theorem ShpAll.up {D k : Nat} (z : Zk K mg base) (ap : Apart K) (t : ShpAll P w K mg base D k) : ShpAll P w K mg base (D + 1) (k + 1) :=
  ⟨(ok_Kind_shape (D := D + 1) z).mono (by omega), (ok_Byte_shape (D := D + 1) z).mono (by omega), (ok_Use_shape (D := D + 1) z).mono (by omega), ok_Row_shape z t, ok_Record_shape z t ap, ok_Overlay_shape z t ap⟩
theorem shp_no (sel : Pt → Bool) : ∀ vs H Q E, ¬ spShape 0 sel K vs H Q E := by
  intro vs H Q E h
  match vs, h with
  | [_], ⟨p, b, _, _, _, hd, _⟩ => omega
theorem ShpAll.zero (z : Zk K mg base) : ShpAll P w K mg base 0 1 :=
  ⟨cmt_no z.cls_Kind z.mt_Kind_shape (shp_no _), cmt_no z.cls_Byte z.mt_Byte_shape (shp_no _), cmt_no z.cls_Use z.mt_Use_shape (shp_no _), cmt_no z.cls_Row z.mt_Row_shape (shp_no _), cmt_no z.cls_Record z.mt_Record_shape (shp_no _), cmt_no z.cls_Overlay z.mt_Overlay_shape (shp_no _)⟩
theorem shp_all (z : Zk K mg base) (ap : Apart K) : ShpAll P w K mg base 5 6 := ((((((ShpAll.zero z).up z ap).up z ap).up z ap).up z ap).up z ap)
end
end
end Mp

set_option maxHeartbeats 4000000
/-! Kp9: parts compared, shown -/
namespace Mp
open PySem PySem.Spec PyProof.Rows L2
open StX (tMakeR run_makeR pe_makeR)
open He (ga ma fAd)
section
variable {P : Program} {w : World} {K : PySem.W.Frag} {mg : Str → Option Value} {base : Heap}
/-- what the head says of == and str -/
structure Ze (K : PySem.W.Frag) : Prop where
  eq_ : ∀ C ∈ [ga K "Kind", ga K "Byte", ga K "Use", ga K "Row", ga K "Record", ga K "Overlay"], PySem.W.findIn K (.ref C) "__eq__" = some (some (.ref (fAd K ("Part", some "__eq__")))) ∧ PySem.W.findIn K (.ref C) "__str__" = some (some (.ref (fAd K ("Part", some "__str__"))))
  eqf : PySem.W.isFn K (.ref (fAd K ("Part", some "__eq__"))) = true
  strf : PySem.W.typeIn K (.ref (fAd K ("Part", some "__str__"))) = some (.type "function")
theorem PartAt.cls {H : Hp} : ∀ {p : Pt} {a : Addr}, PartAt K H p a → ∃ C dx fs, H a = some (.ins C dx fs) ∧ C ∈ [ga K "Kind", ga K "Byte", ga K "Use", ga K "Row", ga K "Record", ga K "Overlay"] ∧ ∀ b, PartAt K H p b → ∃ dy gs, H b = some (.ins C dy gs)
  | .kind n t, a, h => by
    obtain ⟨dx, h⟩ := h
    exact ⟨_, dx, _, h, by simp, fun b ⟨dy, h2⟩ => ⟨dy, _, h2⟩⟩
  | .byte, a, h => by
    obtain ⟨dx, h⟩ := h
    exact ⟨_, dx, _, h, by simp, fun b ⟨dy, h2⟩ => ⟨dy, _, h2⟩⟩
  | .use n, a, h => by
    obtain ⟨dx, h⟩ := h
    exact ⟨_, dx, _, h, by simp, fun b ⟨dy, h2⟩ => ⟨dy, _, h2⟩⟩
  | .row n p, a, h => by
    obtain ⟨dx, hh, c, h, _⟩ := h
    exact ⟨_, dx, _, h, by simp, fun b ⟨dy, _, _, h2, _⟩ => ⟨dy, _, h2⟩⟩
  | .rec_ fs, a, h => by
    obtain ⟨dx, hh, t, xs, h, _⟩ := h
    exact ⟨_, dx, _, h, by simp, fun b ⟨dy, _, _, _, h2, _⟩ => ⟨dy, _, h2⟩⟩
  | .ovl fs, a, h => by
    obtain ⟨dx, hh, t, xs, h, _⟩ := h
    exact ⟨_, dx, _, h, by simp, fun b ⟨dy, _, _, _, h2, _⟩ => ⟨dy, _, h2⟩⟩
def Pt.small : Pt → Prop
  | .kind n _ => n.length ≤ 8 | .byte => True | .use n => n.length ≤ 8
  | .row _ p => True | .rec_ _ => True | .ovl _ => True
/-- == of two parts -/
def spEqP (K : PySem.W.Frag) : Sp := sp2 fun a b H Q _ => ∃ p x y, a = .ref x ∧ b = .ref y ∧ PartAt K H p x ∧ PartAt K H p y ∧ p.depth < 5 ∧ SeqAt.shaped p.data = true ∧ ∀ H', Ex H H' → Q (.bl true) H'
theorem sc_Part___eq__ : FnScope ["self", "other"] ["self", "other"] (defScope s_Part___eq__) := ⟨rfl, rfl, rfl, by decide +kernel, rfl, by decide +kernel, by decide +kernel⟩
theorem ok_Part___eq__ (z : Zk K mg base) (ap : Apart K) (t : ShpAll P w K mg base 5 6) : FnR P w K mg base (L2.CX P w) 7 (fAd K ("Part", some "__eq__")) (spEqP K) := by
  obtain ⟨fd, F⟩ := z.d_Part___eq__
  refine fnr_of (k := 6) F sc_Part___eq__ (fun _ _ _ _ _ _ us hl => match us, hl with | [_, _], _ => rfl) (fun vs H Q E h => by match vs, h with | [_, _], _ => rfl) (fun cdv A outer s H vs Q E hr h => ?_)
  have nd := sc_Part___eq__.nd
  have hu : (cxOf (L2.CX P w) P w K mg base ["self", "other"] "Part.__eq__" (defScope s_Part___eq__) (fAd K ("Part", some "__eq__")) cdv A outer s H E).A.units + 64 < cLine := hr.units
  match vs, h with
  | [a0, a1], h =>
  refine ⟨_, (pss_one (ps_ret (pe_and (pe_callB (k_isi (K := K) rfl) rfl z.b_isinstance boot_isinstance (pa_cons (pv 1) (pa_cons (pe_gref z.g_Part) pa_nil)))
    (pe_one (pe_cmpR (k_eqD (K := K) rfl hu) (pe_mtD (k := 6) rfl rfl rfl rfl rfl (pv 0) hr (passD (E := E)) (by omega)) (pe_mtD (k := 6) rfl rfl rfl rfl rfl (pv 1) hr (passD (E := E)) (by omega)) (nomark _)))))), ?_⟩
  obtain ⟨p, x, y, rfl, rfl, hx, hy, hd, hsh, hq⟩ := h
  obtain ⟨C, dx, fs, hC, hT, hK, _⟩ := PartAt.obj z hy
  simp [tRet, tRetN, tSeq, tIfS, tDrop, tNext, tNever, tBreak, tCont, tAsg, gName, gCons, gNil, gTup, tAndV, tOrV, tNotV, tAnd, tOr, tNot, tOp, tUn, tVar, tC, tB, tTest, tIf, tCons, tNil, tCB, tTup, tLst, tFld, sFld, sFldAug, rAdd, rSub, tSl, tPart, tNoPart, rI0, rI, rU, rEq, rNe, rSlS, rSlL, rIxL, rIxT, rIxS, tChain, tFn, tMt, tM1, tM0, tBM, rAppend, rIn, tIsN, tNotN, scal_ss, scal_ii, let_nil, let_one, fig_nil, fig_one, LenV_str, L2.start, cxOf, and_assoc, tJs, tFmt, put_at, lk_at, lk_script, lk_upcoming, lk_refuse, lk_skips, lk_expect, lk_word_of, lk_name_unlike, lk_number_to, lk_finish, sp0, sp1, sp2, sp3, sp4, sp5, -List.lookup_eq_none_iff, rIsi, tMtD]
  refine ⟨_, _, .own _, hT, Or.inr ⟨hK, ?_⟩⟩
  refine t.at_ hx hd fun v H1 e1 hv => ?_
  refine t.at_ (hy.st ap (Stb.of e1)) hd fun u H2 e2 hu2 => ?_
  refine ⟨p.data, p.data, ShAt.dp (ShAt.st (K := K) (Stb.of e2) hv), ShAt.dp hu2, hsh, hsh, ?_⟩
  rw [SeqAt.eqv_refl _ (SeqAt.canLay_of_shaped hsh)]
  exact hq H2 (Ex.trans e1 e2)
/-- str(part) -/
def spStrP (K : PySem.W.Frag) : Sp := sp1 fun a H Q _ => ∃ p x, a = .ref x ∧ PartAt K H p x ∧ p.depth < 5 ∧ p.text.length ≤ 10000 ∧ ∀ H', Ex H H' → Q (.str (S p.text)) H'
theorem sc_Part___str__ : FnScope ["self"] ["self"] (defScope s_Part___str__) := ⟨rfl, rfl, rfl, by decide +kernel, rfl, by decide +kernel, by decide +kernel⟩
theorem ok_Part___str__ (z : Zk K mg base) (t : TxtAll P w K mg base 5 11) : FnR P w K mg base (L2.CX P w) 12 (fAd K ("Part", some "__str__")) (spStrP K) := by
  obtain ⟨fd, F⟩ := z.d_Part___str__
  refine fnr_of (k := 11) F sc_Part___str__ (fun _ _ _ _ _ _ us hl => match us, hl with | [_], _ => rfl) (fun vs H Q E h => by match vs, h with | [_], _ => rfl) (fun cdv A outer s H vs Q E hr h => ?_)
  match vs, h with
  | [a0], h =>
  refine ⟨_, (pss_one (ps_ret (pe_joined1 (pe_fmt (pe_mtD (k := 11) rfl rfl rfl rfl rfl (pv 0) hr (passD (E := E)) (by omega)))))), ?_⟩
  obtain ⟨p, x, rfl, hx, hd, hl, hq⟩ := h
  simp [tRet, tRetN, tSeq, tIfS, tDrop, tNext, tNever, tBreak, tCont, tAsg, gName, gCons, gNil, gTup, tAndV, tOrV, tNotV, tAnd, tOr, tNot, tOp, tUn, tVar, tC, tB, tTest, tIf, tCons, tNil, tCB, tTup, tLst, tFld, sFld, sFldAug, rAdd, rSub, tSl, tPart, tNoPart, rI0, rI, rU, rEq, rNe, rSlS, rSlL, rIxL, rIxT, rIxS, tChain, tFn, tMt, tM1, tM0, tBM, rAppend, rIn, tIsN, tNotN, scal_ss, scal_ii, let_nil, let_one, fig_nil, fig_one, LenV_str, L2.start, cxOf, and_assoc, tJs, tFmt, put_at, lk_at, lk_script, lk_upcoming, lk_refuse, lk_skips, lk_expect, lk_word_of, lk_name_unlike, lk_number_to, lk_finish, sp0, sp1, sp2, sp3, sp4, sp5, -List.lookup_eq_none_iff, tMtD]
  refine t.at_ hx hd hl fun H' e => Or.inl ⟨_, rfl, by rw [S_len, sizeLine_eq]; omega, hq H' e⟩
end
end Mp

set_option maxHeartbeats 4000000
/-! Kq1: what the reader gives is well made -/
namespace Mp
theorem Res.bind_ok {α β : Type} {a : Res α} {f : α → List Nat → Res β} {v : β} {r : List Nat} (h : a.bind f = .ok v r) : ∃ u q, a = .ok u q ∧ f u q = .ok v r := by
  cases a with
  | ok u q => exact ⟨u, q, rfl, h⟩
  | bad q => cases h
theorem nameEnd_ok {taken : List (List Nat)} {f r n r' : List Nat} (hl : f.all isLet = true) (h8 : f.length ≤ 8) (h : nameEnd taken f r = .ok n r') : nameOk n = true ∧ n ∉ taken := by
  unfold nameEnd at h
  split at h
  · cases h
  · rename_i hc
    have h1 : f ≠ [] := fun e => hc (Or.inl e)
    have h2 : f ∉ taken := fun e => hc (Or.inr (Or.inl e))
    have h3 : f ∉ barred := fun e => hc (Or.inr (Or.inr e))
    have h4 : 1 ≤ f.length := List.length_pos_iff.mpr h1
    have h5 : nameOk f = true := by
      unfold nameOk
      rw [hl]
      simp [h4, h8, h3]
    cases h
    exact ⟨h5, h2⟩
theorem nameGo_ok {taken : List (List Nat)} : ∀ {r f n r' : List Nat}, f.all isLet = true → f.length ≤ 8 → nameGo taken f r = .ok n r' → nameOk n = true ∧ n ∉ taken
  | [], f, n, r', hl, h8, h => by
    rw [nameGo] at h
    exact nameEnd_ok hl h8 h
  | x :: r, f, n, r', hl, h8, h => by
    rw [nameGo] at h
    split at h
    · rename_i hc
      split at h
      · cases h
      · exact nameGo_ok (by simp [hc.1]; simpa using hl) (by simp; omega) h
    · exact nameEnd_ok hl h8 h
theorem numGo_ok {most : Nat} : ∀ {r : List Nat} {v : Nat} {st : Bool} {n : Nat} {r' : List Nat}, (st = true → 1 ≤ v ∧ v ≤ most) → numGo 1 most v st r = .ok n r' → 1 ≤ n ∧ n ≤ most
  | [], v, st, n, r', hv, h => by
    rw [numGo] at h
    unfold numEnd at h
    split at h
    · cases h
      exact hv (by assumption)
    · cases h
  | x :: r, v, st, n, r', hv, h => by
    rw [numGo] at h
    split at h
    · rename_i hc
      exact numGo_ok (fun _ => by omega) h
    · unfold numEnd at h
      split at h
      · cases h
        exact hv (by assumption)
      · cases h
structure FsOk (most d : Nat) (fs : Fs) : Prop where
  lo : 1 ≤ fs.len
  hi : fs.len ≤ most
  nd : fs.names.Nodup
  ok : ∀ n ∈ fs.names, nameOk n = true
  dp : fs.depth ≤ d
theorem Fs.depth_snoc : ∀ (fs : Fs) (n : List Nat) (p : Pt), (fs.snoc n p).depth = max fs.depth (p.depth + 1)
  | .nil, n, p => by simp [Fs.snoc, Fs.depth]
  | .cons m q r, n, p => by
    show max (q.depth + 1) (r.snoc n p).depth = max (max (q.depth + 1) r.depth) (p.depth + 1)
    rw [Fs.depth_snoc r n p]
    omega
theorem entry_ok {rd : List Nat → Res Pt} {d : Nat} (hrd : ∀ r p r', rd r = .ok p r' → p.depth + 1 ≤ d) {found fs : Fs} {r r' : List Nat} (hnd : found.names.Nodup) (hok : ∀ n ∈ found.names, nameOk n = true) (hd : found.depth ≤ d) (h : entry rd found r = .ok fs r') :
    fs.len = found.len + 1 ∧ fs.names.Nodup ∧ (∀ n ∈ fs.names, nameOk n = true) ∧ fs.depth ≤ d := by
  unfold entry at h
  obtain ⟨n, q1, e1, h⟩ := Res.bind_ok h
  obtain ⟨_, q2, e2, h⟩ := Res.bind_ok h
  obtain ⟨p, q3, e3, h⟩ := Res.bind_ok h
  cases h
  obtain ⟨a1, a2⟩ := nameGo_ok rfl (by simp) e1
  rw [Fs.names_snoc, Fs.depth_snoc, Fs.len_snoc]
  refine ⟨rfl, L2.nd_snoc hnd a2, fun n' hn' => ?_, ?_⟩
  · rcases List.mem_append.mp hn' with h | h
    · exact hok n' h
    · rw [List.mem_singleton.mp h]
      exact a1
  · have := hrd _ _ _ e3
    omega
theorem close_ok {cl : Nat} {fs fs' : Fs} {r r' : List Nat} (h : close cl fs r = .ok fs' r') : fs' = fs := by
  unfold close at h
  obtain ⟨_, q, e, h⟩ := Res.bind_ok h
  cases h
  rfl
theorem named_ok {rd : List Nat → Res Pt} {sep cl d : Nat} (hrd : ∀ r p r', rd r = .ok p r' → p.depth + 1 ≤ d) : ∀ {fuel : Nat} {found : Fs} {r : List Nat} {fs : Fs} {r' : List Nat} {most : Nat}, fuel + found.len + 1 = most → found.names.Nodup → (∀ n ∈ found.names, nameOk n = true) → found.depth ≤ d →
    named rd sep cl fuel found r = .ok fs r' → FsOk most d fs := by
  intro fuel
  induction fuel with
  | zero =>
    intro found r fs r' most hm hnd hok hd h
    rw [named] at h
    obtain ⟨f, q1, e1, h⟩ := Res.bind_ok h
    obtain ⟨s0, s1, s2, s3⟩ := entry_ok hrd hnd hok hd e1
    rw [close_ok h]
    exact ⟨by omega, by omega, s1, s2, s3⟩
  | succ fuel ih =>
    intro found r fs r' most hm hnd hok hd h
    rw [named] at h
    obtain ⟨f, q1, e1, h⟩ := Res.bind_ok h
    obtain ⟨s0, s1, s2, s3⟩ := entry_ok hrd hnd hok hd e1
    cases q1 with
    | nil =>
      rw [close_ok h]
      exact ⟨by omega, by omega, s1, s2, s3⟩
    | cons x q =>
      dsimp only at h
      split at h
      · exact ih (by omega) s1 s2 s3 h
      · rw [close_ok h]
        exact ⟨by omega, by omega, s1, s2, s3⟩
theorem leaf_depth {ks : List Knd} {r : List Nat} {p : Pt} {r' : List Nat} (h : leaf ks r = .ok p r') : p.depth = 0 := by
  unfold leaf at h
  split at h
  · obtain ⟨n, q, e, h⟩ := Res.bind_ok h
    cases h
    rfl
  · obtain ⟨n, q, e, h⟩ := Res.bind_ok h
    cases h
    split <;> rfl
theorem readInner_depth {ks : List Knd} : ∀ {m : Nat} {r : List Nat} {p : Pt} {r' : List Nat}, readInner ks m r = .ok p r' → p.depth ≤ m
  | 0, r, p, r', h => by
    rw [readInner] at h
    rw [leaf_depth h]
    exact Nat.le_refl _
  | m + 1, r, p, r', h => by
    cases r with
    | nil =>
      have h : leaf ks [] = .ok p r' := h
      rw [leaf_depth h]
      omega
    | cons x q =>
      rw [readInner] at h
      split at h
      · obtain ⟨n, q1, e1, h⟩ := Res.bind_ok h
        obtain ⟨_, q2, e2, h⟩ := Res.bind_ok h
        obtain ⟨p2, q3, e3, h⟩ := Res.bind_ok h
        cases h
        have := readInner_depth e3
        show p2.depth + 1 ≤ m + 1
        omega
      · split at h
        · obtain ⟨fs, q1, e1, h⟩ := Res.bind_ok h
          cases h
          have := named_ok (d := m + 1) (fun r p r' e => by have := readInner_depth e; omega) (most := 8) (by rfl) (by simp [Fs.names]) (by simp [Fs.names]) (by simp [Fs.depth]) e1
          exact this.dp
        · split at h
          · obtain ⟨fs, q1, e1, h⟩ := Res.bind_ok h
            cases h
            have := named_ok (d := m + 1) (fun r p r' e => by have := readInner_depth e; omega) (most := 4) (by rfl) (by simp [Fs.names]) (by simp [Fs.names]) (by simp [Fs.depth]) e1
            exact this.dp
          · rw [leaf_depth h]
            omega
end Mp

set_option maxHeartbeats 4000000
/-! Kq2: the reader gives back the part whose text it reads; a spoiled text is refused where it was spoiled -/
namespace Mp
mutual
def PtOk (ks : List Knd) : Pt → Prop
  | .kind n t => nameOk n = true ∧ (n, t) ∈ ks
  | .byte => True
  | .use n => nameOk n = true
  | .row n p => 1 ≤ n ∧ n ≤ 64 ∧ PtOk ks p
  | .rec_ fs => 1 ≤ fs.len ∧ fs.len ≤ 8 ∧ fs.names.Nodup ∧ FsOkk ks fs
  | .ovl fs => 1 ≤ fs.len ∧ fs.len ≤ 4 ∧ fs.names.Nodup ∧ FsOkk ks fs
def FsOkk (ks : List Knd) : Fs → Prop
  | .nil => True
  | .cons n p r => nameOk n = true ∧ PtOk ks p ∧ FsOkk ks r
end
/-- what stands behind a token -/
def StopAt (r : List Nat) : Prop := ∀ x q, r = x :: q → isLet x = false ∧ isFig x = false
theorem nameOk_let {n : List Nat} (h : nameOk n = true) : n.all isLet = true := by
  unfold nameOk at h
  simp only [Bool.and_eq_true] at h
  exact h.2
theorem nameOk_barred {n : List Nat} (h : nameOk n = true) : n ∉ barred := by
  unfold nameOk at h
  simp only [Bool.and_eq_true] at h
  simpa using h.1.2
theorem nameOk_le {n : List Nat} (h : nameOk n = true) : 1 ≤ n.length ∧ n.length ≤ 8 := by
  unfold nameOk at h
  simp at h
  omega
/-- reading on in a name -/
theorem nameGo_run {taken : List (List Nat)} {n : List Nat} (hn : nameOk n = true) (ht : n ∉ taken) : ∀ (g f rest : List Nat), (f ++ g) <+: n → StopAt rest → nameGo taken f (g ++ rest) = nameEnd taken (f ++ g) rest
  | [], f, rest, hp, hs => by
    rw [List.nil_append, List.append_nil]
    cases rest with
    | nil => rw [nameGo]
    | cons x r =>
      have := (hs x r rfl).1
      rw [nameGo, if_neg (by simp [this])]
  | x :: g, f, rest, hp, hs => by
    have hl := hp.length_le
    have h8 := (nameOk_le hn).2
    have hx : isLet x = true := by
      have h1 := nameOk_let hn
      rw [List.all_eq_true] at h1
      exact h1 x (hp.subset (by simp))
    have hlen : f.length < 8 := by
      rw [List.length_append, List.length_cons] at hl
      omega
    rw [List.cons_append, nameGo, if_pos ⟨hx, hlen⟩]
    have hp2 : (f ++ [x]) ++ g <+: n := by simpa using hp
    rw [if_neg, nameGo_run hn ht g (f ++ [x]) rest hp2 hs]
    · simp
    · rintro ⟨h7, h9⟩
      have hl2 := hp2.length_le
      rw [List.length_append, List.length_append] at hl2
      simp at hl2
      have hg : g = [] := List.eq_nil_of_length_eq_zero (by omega)
      have he : f ++ [x] = n := by
        subst hg
        rw [List.append_nil] at hp2
        exact hp2.eq_of_length (by simp; omega)
      rw [he] at h9
      exact h9.elim ht (nameOk_barred hn)
theorem nameGo_all {taken : List (List Nat)} {n rest : List Nat} (hn : nameOk n = true) (ht : n ∉ taken) (hs : StopAt rest) : nameGo taken [] (n ++ rest) = .ok n rest := by
  rw [nameGo_run hn ht n [] rest (by simp) hs, List.nil_append]
  unfold nameEnd
  rw [if_neg]
  rintro (h | h | h)
  · have := (nameOk_le hn).1
    rw [h] at this
    simp at this
  · exact ht h
  · exact nameOk_barred hn h
/-- reading on in a word -/
theorem begins_pre {words : List (List Nat)} {w f : List Nat} (hw : w ∈ words) (h : f <+: w) : begins words f = true := by
  unfold begins
  rw [List.any_eq_true]
  refine ⟨w, hw, ?_⟩
  rw [beq_iff_eq]
  exact (List.prefix_iff_eq_take.mp h).symm
theorem begins_let {words : List (List Nat)} {f : List Nat} {x : Nat} (hl : ∀ w ∈ words, w.all isLet = true) (h : isLet x = false) : begins words (f ++ [x]) = false := by
  cases e : begins words (f ++ [x]) with
  | false => rfl
  | true =>
    unfold begins at e
    obtain ⟨w, hw, h2⟩ := List.any_eq_true.mp e
    have h3 := eq_of_beq h2
    have h4 : x ∈ w := by
      have : x ∈ f ++ [x] := by simp
      rw [← h3] at this
      exact List.mem_of_mem_take this
    have h5 := List.all_eq_true.mp (hl w hw) x h4
    rw [h] at h5
    cases h5
theorem wordGo_run {words : List (List Nat)} {w : List Nat} (hl : ∀ w ∈ words, w.all isLet = true) (hw : w ∈ words) : ∀ (g f rest : List Nat), (f ++ g) <+: w → StopAt rest → wordGo words f (g ++ rest) = if f ++ g ∈ words then .ok (f ++ g) rest else .bad rest
  | [], f, rest, hp, hs => by
    rw [List.nil_append, List.append_nil]
    cases rest with
    | nil => rw [wordGo]
    | cons x r =>
      rw [wordGo, begins_let hl (hs x r rfl).1]
      rfl
  | x :: g, f, rest, hp, hs => by
    have hp2 : (f ++ [x]) ++ g <+: w := by simpa using hp
    rw [List.cons_append, wordGo, begins_pre hw (List.IsPrefix.trans (List.prefix_append _ _) hp2), if_pos rfl, wordGo_run hl hw g (f ++ [x]) rest hp2 hs]
    simp
theorem wordGo_all {words : List (List Nat)} {w rest : List Nat} (hl : ∀ w ∈ words, w.all isLet = true) (hw : w ∈ words) (hs : StopAt rest) : wordGo words [] (w ++ rest) = .ok w rest := by
  rw [wordGo_run hl hw w [] rest (by simp) hs, List.nil_append, if_pos hw]
theorem byte_let : (T "byte").all isLet = true := by decide
theorem words_let {ks : List Knd} (hk : ∀ q ∈ ks, nameOk q.1 = true) : ∀ w ∈ T "byte" :: ks.map (·.1), w.all isLet = true := by
  intro w hw
  rcases List.mem_cons.mp hw with rfl | hw
  · exact byte_let
  · obtain ⟨q, hq, rfl⟩ := List.mem_map.mp hw
    exact nameOk_let (hk q hq)
end Mp

set_option maxHeartbeats 4000000
/-! Kq3: round trip and spoiled texts -/
namespace Mp
theorem isLet_facts {x : Nat} (h : isLet x = true) : isFig x = false ∧ x ≠ 123 ∧ x ≠ 40 ∧ x ≠ 64 := by
  have h1 : 97 ≤ x ∧ x ≤ 122 := by simpa [isLet] using h
  refine ⟨?_, by omega, by omega, by omega⟩
  simp [isFig]
  omega
theorem inner_leaf {ks : List Knd} {x : Nat} {r : List Nat} (h1 : isFig x = false) (h2 : x ≠ 123) (h3 : x ≠ 40) : ∀ m, readInner ks m (x :: r) = leaf ks (x :: r)
  | 0 => by rw [readInner]
  | m + 1 => by rw [readInner, if_neg (by simp [h1]), if_neg h2, if_neg h3]
theorem inner_nil {ks : List Knd} : ∀ m, readInner ks m [] = leaf ks []
  | 0 => by rw [readInner]
  | m + 1 => rfl
theorem leaf_word {ks : List Knd} {r : List Nat} (h : ∀ q, r ≠ 64 :: q) : leaf ks r = (wordGo (T "byte" :: ks.map (·.1)) [] r).bind fun w r => .ok (if w = T "byte" then .byte else .kind w ((ks.lookup w).getD 0)) r := by
  unfold leaf
  split
  · exact absurd rfl (h _)
  · rfl
/-- numbers -/
theorem numL_two {n : Nat} (h1 : 10 ≤ n) (h2 : n ≤ 64) : TL.numL n = [48 + n / 10, 48 + n % 10] := by
  rw [TL.numL_step h1, TL.numL_lt (by omega)]
  rfl
theorem numGo_stop {v : Nat} {rest : List Nat} (hs : StopAt rest) (st : Bool) : numGo 1 64 v st rest = numEnd v st rest := by
  cases rest with
  | nil => rw [numGo]
  | cons x r => rw [numGo, if_neg (by simp [(hs x r rfl).2])]
theorem numGo_take {n i : Nat} {rest : List Nat} (h1 : 1 ≤ n) (h2 : n ≤ 64) (hs : StopAt rest) : (numGo 1 64 0 false ((TL.numL n).take i ++ rest) = .bad rest ∧ i = 0) ∨ ∃ v, numGo 1 64 0 false ((TL.numL n).take i ++ rest) = .ok v rest ∧ ((TL.numL n).length ≤ i → v = n) := by
  by_cases hn : n < 10
  · rw [TL.numL_lt hn]
    cases i with
    | zero =>
      left
      refine ⟨?_, rfl⟩
      rw [List.take_zero, List.nil_append, numGo_stop hs]
      rfl
    | succ i =>
      right
      refine ⟨n, ?_, fun _ => rfl⟩
      have hf : isFig (48 + n) = true := by simp [isFig]; omega
      rw [List.take_succ_cons, List.take_nil, List.cons_append, List.nil_append, numGo, if_pos ⟨hf, by simp; omega⟩, numGo_stop hs]
      simp [numEnd]
  · have hn : 10 ≤ n := by omega
    rw [numL_two hn h2]
    have hf1 : isFig (48 + n / 10) = true := by simp [isFig]; omega
    have hf2 : isFig (48 + n % 10) = true := by simp [isFig]; omega
    match i with
    | 0 =>
      left
      refine ⟨?_, rfl⟩
      rw [List.take_zero, List.nil_append, numGo_stop hs]
      rfl
    | 1 =>
      right
      refine ⟨n / 10, ?_, fun h => by simp at h⟩
      show numGo 1 64 0 false ((48 + n / 10) :: rest) = _
      rw [numGo, if_pos ⟨hf1, by simp; omega⟩, numGo_stop hs]
      simp [numEnd]
    | i + 2 =>
      right
      refine ⟨n, ?_, fun _ => rfl⟩
      show numGo 1 64 0 false ((48 + n / 10) :: (48 + n % 10) :: (([] : List Nat).take i ++ rest)) = _
      rw [List.take_nil, List.nil_append, numGo, if_pos ⟨hf1, by simp; omega⟩]
      have e1 : 10 * 0 + (48 + n / 10 - 48) = n / 10 := by omega
      rw [e1, numGo, if_pos ⟨hf2, by simp; omega⟩, numGo_stop hs]
      have e2 : 10 * (n / 10) + (48 + n % 10 - 48) = n := by omega
      rw [e2]
      simp [numEnd]
/-- the text of pairs, from the second on -/
def tailT (sep cl : Nat) : Fs → List Nat
  | .nil => [cl]
  | .cons n p r => sep :: (n ++ 58 :: (p.text ++ tailT sep cl r))
theorem join_tail (sep cl : Nat) : ∀ (r : Fs) (n : List Nat) (p : Pt), TL.joinL [sep] (Fs.cons n p r).texts ++ [cl] = n ++ 58 :: (p.text ++ tailT sep cl r)
  | .nil, n, p => by simp [Fs.texts, TL.joinL, tailT]
  | .cons m q r, n, p => by
    have h := join_tail sep cl r m q
    show TL.joinL [sep] ((n ++ 58 :: p.text) :: (m ++ 58 :: q.text) :: r.texts) ++ [cl] = _
    rw [TL.joinL]
    have h2 : TL.joinL [sep] ((m ++ 58 :: q.text) :: r.texts) ++ [cl] = m ++ 58 :: (q.text ++ tailT sep cl r) := h
    have h3 : n ++ 58 :: p.text ++ ([sep] ++ TL.joinL [sep] ((m ++ 58 :: q.text) :: r.texts)) ++ [cl] = n ++ 58 :: (p.text ++ sep :: (TL.joinL [sep] ((m ++ 58 :: q.text) :: r.texts) ++ [cl])) := by simp
    exact (congrArg (· ++ [cl]) rfl).trans ((h3).trans (by rw [h2]; rfl))
def Fs.app : Fs → Fs → Fs
  | .nil, b => b
  | .cons n p r, b => .cons n p (r.app b)
theorem Fs.snoc_app : ∀ (a : Fs) (n : List Nat) (p : Pt) (b : Fs), (a.snoc n p).app b = a.app (.cons n p b)
  | .nil, n, p, b => rfl
  | .cons m q r, n, p, b => by
    show Fs.cons m q ((r.snoc n p).app b) = Fs.cons m q (r.app (.cons n p b))
    rw [Fs.snoc_app r n p b]
theorem Fs.app_nil : ∀ a : Fs, a.app .nil = a
  | .nil => rfl
  | .cons m q r => by
    show Fs.cons m q (r.app .nil) = _
    rw [Fs.app_nil r]
def RT (ks : List Knd) (p : Pt) : Prop := ∀ m, p.depth ≤ m → ∀ rest, StopAt rest → readInner ks m (p.text ++ rest) = .ok p rest
def RTs (ks : List Knd) : Fs → Prop
  | .nil => True
  | .cons n p r => RT ks p ∧ nameOk n = true ∧ RTs ks r
def Sign (c : Nat) : Prop := isLet c = false ∧ isFig c = false
theorem stop_tail {sep cl : Nat} (h1 : Sign sep) (h2 : Sign cl) (r : Fs) (rest : List Nat) : StopAt (tailT sep cl r ++ rest) := by
  intro x q e
  cases r with
  | nil =>
    have e : cl :: rest = x :: q := e
    cases e
    exact h2
  | cons n p r =>
    have e : sep :: ((n ++ 58 :: (p.text ++ tailT sep cl r)) ++ rest) = x :: q := e
    injection e with e1 e2
    rw [← e1]
    exact h1
theorem stop58 (r : List Nat) : StopAt (58 :: r) := by
  intro x q e
  cases e
  exact ⟨rfl, rfl⟩
theorem entry_run {ks : List Knd} {m : Nat} {found : Fs} {n : List Nat} {p : Pt} {rest : List Nat} (hn : nameOk n = true) (ht : n ∉ found.names) : entry (readInner ks m) found (n ++ 58 :: rest) = (readInner ks m rest).bind fun p r => .ok (found.snoc n p) r := by
  unfold entry
  rw [nameGo_all hn ht (stop58 _)]
  simp only [Res.bind]
  rw [expect, if_pos rfl]
theorem named_all {ks : List Knd} {m sep cl : Nat} (h1 : Sign sep) (h2 : Sign cl) (h3 : cl ≠ sep) : ∀ (r : Fs) (n : List Nat) (p : Pt) (found : Fs) (fuel : Nat) (rest : List Nat), r.len ≤ fuel → RT ks p → nameOk n = true → RTs ks r → p.depth ≤ m → r.depth ≤ m + 1 → (found.names ++ n :: r.names).Nodup →
    named (readInner ks m) sep cl fuel found (n ++ 58 :: (p.text ++ tailT sep cl r) ++ rest) = .ok (found.app (.cons n p r)) rest
  | .nil, n, p, found, fuel, rest, hf, hp, hn, hr, hd, hd2, hnd => by
    have ht : n ∉ found.names := fun h => by
      rw [List.nodup_append] at hnd
      exact hnd.2.2 n h n (by simp) rfl
    have e0 : n ++ 58 :: (p.text ++ tailT sep cl .nil) ++ rest = n ++ 58 :: (p.text ++ (cl :: rest)) := by simp [tailT]
    have hs : StopAt (cl :: rest) := fun x q e => by cases e; exact h2
    rw [e0]
    cases fuel with
    | zero =>
      rw [named, entry_run (p := p) hn ht, hp m hd _ hs]
      simp only [Res.bind, close]
      rw [expect, if_pos rfl]
      simp only [Res.bind]
      rw [← Fs.snoc_app, Fs.app_nil]
    | succ fuel =>
      rw [named, entry_run (p := p) hn ht, hp m hd _ hs]
      simp only [Res.bind]
      rw [if_neg h3]
      simp only [close]
      rw [expect, if_pos rfl]
      simp only [Res.bind]
      rw [← Fs.snoc_app, Fs.app_nil]
  | .cons n2 p2 r, n, p, found, fuel, rest, hf, hp, hn, hr, hd, hd2, hnd => by
    have ht : n ∉ found.names := fun h => by
      rw [List.nodup_append] at hnd
      exact hnd.2.2 n h n (by simp) rfl
    obtain ⟨hr1, hr2, hr3⟩ := hr
    have hf2 : r.len + 1 ≤ fuel := hf
    have hdd : max (p2.depth + 1) r.depth ≤ m + 1 := hd2
    cases fuel with
    | zero => omega
    | succ fuel =>
      have e0 : n ++ 58 :: (p.text ++ tailT sep cl (.cons n2 p2 r)) ++ rest = n ++ 58 :: (p.text ++ (tailT sep cl (.cons n2 p2 r) ++ rest)) := by simp
      rw [e0, named, entry_run (p := p) hn ht, hp m hd _ (stop_tail h1 h2 _ _)]
      simp only [Res.bind]
      show (if sep = sep then named (readInner ks m) sep cl fuel (found.snoc n p) ((n2 ++ 58 :: (p2.text ++ tailT sep cl r)) ++ rest) else _) = _
      rw [if_pos rfl, named_all h1 h2 h3 r n2 p2 (found.snoc n p) fuel rest (by omega) hr1 hr2 hr3 (by omega) (by omega) (by rw [Fs.names_snoc]; simpa [Fs.names] using hnd)]
      rw [Fs.snoc_app]
theorem lookup_nd2 {α β : Type} [BEq α] [LawfulBEq α] : ∀ {l : List (α × β)} {a : α} {b : β}, (l.map (·.1)).Nodup → (a, b) ∈ l → l.lookup a = some b
  | (c, d) :: l, a, b, nd, h => by
    rw [List.map_cons, List.nodup_cons] at nd
    rcases List.mem_cons.mp h with e | h
    · cases e
      simp [List.lookup]
    · have hne : (a == c) = false := by
        cases e : a == c with
        | false => rfl
        | true =>
          have e2 := eq_of_beq e
          exact absurd (by rw [← e2]; exact List.mem_map_of_mem (f := (·.1)) h) nd.1
      simp only [List.lookup, hne]
      exact lookup_nd2 nd.2 h
structure KsP (ks : List Knd) : Prop where
  nd : (ks.map (·.1)).Nodup
  ok : ∀ q ∈ ks, nameOk q.1 = true
theorem name_head {n : List Nat} (h : nameOk n = true) : ∃ x r, n = x :: r ∧ isLet x = true := by
  cases n with
  | nil =>
    have := (nameOk_le h).1
    simp at this
  | cons x r =>
    have h1 := nameOk_let h
    rw [List.all_cons, Bool.and_eq_true] at h1
    exact ⟨x, r, rfl, h1.1⟩
mutual
theorem rt_p {ks : List Knd} (hk : KsP ks) : ∀ p, PtOk ks p → RT ks p
  | .kind n t, h, m, hd, rest, hs => by
    obtain ⟨x, r, e, hx⟩ := name_head h.1
    obtain ⟨f1, f2, f3, f4⟩ := isLet_facts hx
    show readInner ks m (n ++ rest) = _
    have e1 : n ++ rest = x :: (r ++ rest) := by rw [e]; rfl
    rw [e1, inner_leaf f1 f2 f3, leaf_word (fun q e => f4 (by injection e)), ← e1, wordGo_all (words_let hk.ok) (List.mem_cons_of_mem _ (List.mem_map_of_mem (f := (·.1)) h.2)) hs]
    simp only [Res.bind]
    have hb : n ≠ T "byte" := fun e2 => nameOk_barred h.1 (by rw [e2]; simp [barred])
    rw [if_neg hb, lookup_nd2 hk.nd h.2]
    rfl
  | .byte, h, m, hd, rest, hs => by
    show readInner ks m (98 :: (([121, 116, 101] : List Nat) ++ rest)) = _
    rw [inner_leaf rfl (by decide) (by decide), leaf_word (fun q e => by injection e with e1 e2; exact absurd e1 (by decide))]
    have e1 : (98 :: (([121, 116, 101] : List Nat) ++ rest)) = T "byte" ++ rest := rfl
    rw [e1, wordGo_all (words_let hk.ok) (by simp) hs]
    simp only [Res.bind]
    rw [if_pos trivial]
  | .use n, h, m, hd, rest, hs => by
    show readInner ks m (64 :: (n ++ rest)) = _
    rw [inner_leaf rfl (by decide) (by decide)]
    show (nameGo [] [] (n ++ rest)).bind _ = _
    rw [nameGo_all h (by simp) hs]
    rfl
  | .row n p, h, m, hd, rest, hs => by
    obtain ⟨g1, g2, g3⟩ := h
    have hd1 : p.depth + 1 ≤ m := hd
    cases m with
    | zero => omega
    | succ m =>
      have h42 : StopAt (42 :: (p.text ++ rest)) := fun x q e => by cases e; exact ⟨rfl, rfl⟩
      have hn := numGo_take (i := (TL.numL n).length) g1 g2 h42
      rw [List.take_length] at hn
      obtain ⟨x, q, e⟩ : ∃ x q, TL.numL n = x :: q := by
        cases e : TL.numL n with
        | nil => exact absurd e (TL.numL_ne n)
        | cons x q => exact ⟨x, q, rfl⟩
      have hx : isFig x = true := by
        have := TL.numL_digits n x (by rw [e]; simp)
        simp [isFig]
        omega
      have e1 : (Pt.row n p).text ++ rest = x :: (q ++ (42 :: (p.text ++ rest))) := by
        show (TL.numL n ++ 42 :: p.text) ++ rest = _
        rw [e]
        simp
      have e2 : x :: (q ++ (42 :: (p.text ++ rest))) = TL.numL n ++ 42 :: (p.text ++ rest) := by rw [e]; rfl
      rw [e1, readInner, if_pos hx, e2]
      rcases hn with ⟨_, h0⟩ | ⟨v, hv, hvn⟩
      · have := TL.numL_ne n
        exact absurd (List.eq_nil_of_length_eq_zero h0) this
      · rw [hv, hvn (Nat.le_refl _)]
        simp only [Res.bind]
        rw [expect, if_pos rfl]
        simp only [Res.bind]
        rw [rt_p hk p g3 m (by omega) rest hs]
  | .rec_ fs, h, m, hd, rest, hs => by
    obtain ⟨g1, g2, g3, g4⟩ := h
    match fs, g1, g2, g3, g4, hd with
    | .cons n p r, g1, g2, g3, g4, hd =>
      have hd1 : max (p.depth + 1) r.depth ≤ m := hd
      cases m with
      | zero => omega
      | succ m =>
        have e1 : (Pt.rec_ (.cons n p r)).text ++ rest = 123 :: (n ++ 58 :: (p.text ++ tailT 32 125 r) ++ rest) := by
          show 123 :: (TL.joinL [32] (Fs.cons n p r).texts ++ [125]) ++ rest = _
          rw [join_tail]
          simp
        have g2' : r.len + 1 ≤ 8 := g2
        rw [e1, readInner, if_neg (by decide), if_pos rfl, named_all ⟨rfl, rfl⟩ ⟨rfl, rfl⟩ (by decide) r n p .nil 7 rest (by omega) (rt_p hk p g4.2.1) g4.1 (rt_f hk r g4.2.2) (by omega) (by omega) (by simpa [Fs.names] using g3)]
        rfl
  | .ovl fs, h, m, hd, rest, hs => by
    obtain ⟨g1, g2, g3, g4⟩ := h
    match fs, g1, g2, g3, g4, hd with
    | .cons n p r, g1, g2, g3, g4, hd =>
      have hd1 : max (p.depth + 1) r.depth ≤ m := hd
      cases m with
      | zero => omega
      | succ m =>
        have e1 : (Pt.ovl (.cons n p r)).text ++ rest = 40 :: (n ++ 58 :: (p.text ++ tailT 124 41 r) ++ rest) := by
          show 40 :: (TL.joinL [124] (Fs.cons n p r).texts ++ [41]) ++ rest = _
          rw [join_tail]
          simp
        have g2' : r.len + 1 ≤ 4 := g2
        rw [e1, readInner, if_neg (by decide), if_neg (by decide), if_pos rfl, named_all ⟨rfl, rfl⟩ ⟨rfl, rfl⟩ (by decide) r n p .nil 3 rest (by omega) (rt_p hk p g4.2.1) g4.1 (rt_f hk r g4.2.2) (by omega) (by omega) (by simpa [Fs.names] using g3)]
        rfl
theorem rt_f {ks : List Knd} (hk : KsP ks) : ∀ fs, FsOkk ks fs → RTs ks fs
  | .nil, _ => trivial
  | .cons n p r, h => ⟨rt_p hk p h.2.1, h.1, rt_f hk r h.2.2⟩
end
end Mp

set_option maxHeartbeats 4000000
/-! Kq4: spoiled texts -/
namespace Mp
/-- a tail that no text of a part goes on with: nothing, or a strange sign ahead -/
def BadT (t : List Nat) : Prop := ∀ x q, t = x :: q → isLet x = false ∧ isFig x = false ∧ x ≠ 64 ∧ x ≠ 123 ∧ x ≠ 40 ∧ x ≠ 58 ∧ x ≠ 42 ∧ x ≠ 32 ∧ x ≠ 124 ∧ x ≠ 125 ∧ x ≠ 41
theorem BadT.nil : BadT [] := fun _ _ e => nomatch e
theorem BadT.stop {t : List Nat} (h : BadT t) : StopAt t := fun x q e => ⟨(h x q e).1, (h x q e).2.1⟩
theorem expect_bad {s : Nat} {t : List Nat} (h : ∀ q, t ≠ s :: q) : expect s t = .bad t := by
  cases t with
  | nil => rfl
  | cons x q => rw [expect, if_neg (fun e => h q (by rw [e]))]
theorem close_bad {cl : Nat} {fs : Fs} {t : List Nat} (h : ∀ q, t ≠ cl :: q) : close cl fs t = .bad t := by
  unfold close
  rw [expect_bad h]
  rfl
theorem word_bad {ks : List Knd} (hk : KsP ks) {w f t : List Nat} (hw : w ∈ T "byte" :: ks.map (·.1)) (hf : f <+: w) (ht : BadT t) (h64 : ∀ q, f ++ t ≠ 64 :: q) :
    (∃ q, leaf ks (f ++ t) = .ok q t) ∨ leaf ks (f ++ t) = .bad t := by
  rw [leaf_word h64]
  have := wordGo_run (words_let hk.ok) hw f [] t (by simpa using hf) ht.stop
  rw [this, List.nil_append]
  split
  · exact Or.inl ⟨_, rfl⟩
  · exact Or.inr rfl
theorem leaf_bad {ks : List Knd} (hk : KsP ks) {t : List Nat} (ht : BadT t) : leaf ks t = .bad t := by
  rw [leaf_word (fun q e => (ht 64 q e).2.2.1 rfl)]
  have := wordGo_run (words_let hk.ok) (List.mem_cons_self (a := T "byte")) [] [] t (by simp) ht.stop
  rw [List.nil_append] at this
  rw [this, if_neg]
  · rfl
  · intro h
    rcases List.mem_cons.mp h with h | h
    · exact absurd h (by decide)
    · obtain ⟨q, hq, e⟩ := List.mem_map.mp h
      have := (nameOk_le (hk.ok q hq)).1
      simp [e] at this
theorem inner_bad {ks : List Knd} (hk : KsP ks) {t : List Nat} (ht : BadT t) (m : Nat) : readInner ks m t = .bad t := by
  cases t with
  | nil => rw [inner_nil, leaf_bad hk ht]
  | cons x q =>
    obtain ⟨_, h2, h3, h4, h5, _⟩ := ht x q rfl
    rw [inner_leaf h2 h4 h5, leaf_bad hk ht]
theorem name_bad {taken : List (List Nat)} {n t : List Nat} (hn : nameOk n = true) (ht : n ∉ taken) (i : Nat) (hs : BadT t) : (∃ f, nameGo taken [] (n.take i ++ t) = .ok f t) ∨ nameGo taken [] (n.take i ++ t) = .bad t := by
  rw [nameGo_run hn ht (n.take i) [] t (by simpa using List.take_prefix i n) hs.stop, List.nil_append]
  unfold nameEnd
  split
  · exact Or.inr rfl
  · exact Or.inl ⟨_, rfl⟩
def SP (ks : List Knd) (p : Pt) : Prop := ∀ m, p.depth ≤ m → ∀ i, i < p.text.length → ∀ t, BadT t → (∃ q, readInner ks m (p.text.take i ++ t) = .ok q t) ∨ readInner ks m (p.text.take i ++ t) = .bad t
def SPs (ks : List Knd) : Fs → Prop
  | .nil => True
  | .cons _ p r => SP ks p ∧ SPs ks r
theorem entry_bad {ks : List Knd} {m : Nat} {found : Fs} {n : List Nat} {t : List Nat} (hn : nameOk n = true) (ht : n ∉ found.names) (hs : BadT t) (i : Nat) : entry (readInner ks m) found (n.take i ++ t) = .bad t := by
  unfold entry
  rcases name_bad hn ht i hs with ⟨f, e⟩ | e
  · rw [e]
    simp only [Res.bind]
    rw [expect_bad (fun q e => (hs 58 q e).2.2.2.2.2.1 rfl)]
  · rw [e]
    rfl
structure Sep (sep cl : Nat) : Prop where
  s1 : Sign sep
  s2 : Sign cl
  ne : cl ≠ sep
  b1 : ∀ t, BadT t → ∀ q, t ≠ sep :: q
  b2 : ∀ t, BadT t → ∀ q, t ≠ cl :: q
theorem sepR : Sep 32 125 := ⟨⟨rfl, rfl⟩, ⟨rfl, rfl⟩, by decide, fun t h q e => (h _ _ e).2.2.2.2.2.2.2.1 rfl, fun t h q e => (h _ _ e).2.2.2.2.2.2.2.2.2.1 rfl⟩
theorem sepO : Sep 124 41 := ⟨⟨rfl, rfl⟩, ⟨rfl, rfl⟩, by decide, fun t h q e => (h _ _ e).2.2.2.2.2.2.2.2.1 rfl, fun t h q e => (h _ _ e).2.2.2.2.2.2.2.2.2.2 rfl⟩
theorem after_bad {rd : List Nat → Res Pt} {sep cl : Nat} (S : Sep sep cl) {found : Fs} {l t : List Nat} (ht : BadT t) (h : entry rd found l = .bad t ∨ ∃ fs, entry rd found l = .ok fs t) : ∀ fuel, named rd sep cl fuel found l = .bad t
  | 0 => by
    rw [named]
    rcases h with h | ⟨fs, h⟩
    · rw [h]; rfl
    · rw [h]
      exact close_bad (S.b2 t ht)
  | fuel + 1 => by
    rw [named]
    rcases h with h | ⟨fs, h⟩
    · rw [h]; rfl
    · rw [h]
      cases t with
      | nil => exact close_bad (fs := fs) (S.b2 [] ht)
      | cons x q =>
        show (if x = sep then _ else _) = _
        rw [if_neg (fun e => S.b1 _ ht q (by rw [e]))]
        exact close_bad (S.b2 _ ht)
theorem named_spoil {ks : List Knd} {m sep cl : Nat} (S : Sep sep cl) : ∀ (r : Fs) (n : List Nat) (p : Pt) (found : Fs) (fuel : Nat) (i : Nat) (t : List Nat), r.len ≤ fuel → RT ks p → SP ks p → nameOk n = true → RTs ks r → SPs ks r → p.depth ≤ m → r.depth ≤ m + 1 → (found.names ++ n :: r.names).Nodup → BadT t →
    i < (n ++ 58 :: (p.text ++ tailT sep cl r)).length → named (readInner ks m) sep cl fuel found ((n ++ 58 :: (p.text ++ tailT sep cl r)).take i ++ t) = .bad t := by
  intro r
  induction r using Fs.rec (motive_1 := fun _ => True) with
  | kind => trivial
  | byte => trivial
  | use => trivial
  | row => trivial
  | rec_ => trivial
  | ovl => trivial
  | nil =>
    intro n p found fuel i t hf hp hsp hn hr hsr hd hd2 hnd ht hi
    have hnt : n ∉ found.names := fun h => by
      rw [List.nodup_append] at hnd
      exact hnd.2.2 n h n (by simp) rfl
    by_cases h1 : i ≤ n.length
    · rw [List.take_append_of_le_length h1]
      exact after_bad S ht (Or.inl (entry_bad hn hnt ht i)) fuel
    · obtain ⟨j, rfl⟩ : ∃ j, i = n.length + (j + 1) := ⟨i - n.length - 1, by omega⟩
      rw [List.take_length_add_append, List.take_succ_cons, List.append_assoc, List.cons_append]
      have hj : j ≤ p.text.length := by simp [tailT] at hi; omega
      rw [List.take_append_of_le_length hj]
      by_cases hj2 : j < p.text.length
      · refine after_bad S ht ?_ fuel
        rw [entry_run (p := p) hn hnt]
        rcases hsp m hd j hj2 t ht with ⟨q, e⟩ | e
        · rw [e]
          exact Or.inr ⟨_, rfl⟩
        · rw [e]
          exact Or.inl rfl
      · have : j = p.text.length := by omega
        rw [this, List.take_length]
        refine after_bad S ht (Or.inr ⟨found.snoc n p, ?_⟩) fuel
        rw [entry_run (p := p) hn hnt, hp m hd t ht.stop]
        rfl
  | cons n2 p2 r ih0 ih =>
    intro n p found fuel i t hf hp hsp hn hr hsr hd hd2 hnd ht hi
    have hnt : n ∉ found.names := fun h => by
      rw [List.nodup_append] at hnd
      exact hnd.2.2 n h n (by simp) rfl
    obtain ⟨hr1, hr2, hr3⟩ := hr
    have hf2 : r.len + 1 ≤ fuel := hf
    have hdd : max (p2.depth + 1) r.depth ≤ m + 1 := hd2
    by_cases h1 : i ≤ n.length
    · rw [List.take_append_of_le_length h1]
      exact after_bad S ht (Or.inl (entry_bad hn hnt ht i)) fuel
    · obtain ⟨j, rfl⟩ : ∃ j, i = n.length + (j + 1) := ⟨i - n.length - 1, by omega⟩
      rw [List.take_length_add_append, List.take_succ_cons, List.append_assoc, List.cons_append]
      by_cases hj2 : j < p.text.length
      · rw [List.take_append_of_le_length (by omega)]
        refine after_bad S ht ?_ fuel
        rw [entry_run (p := p) hn hnt]
        rcases hsp m hd j hj2 t ht with ⟨q, e⟩ | e
        · rw [e]
          exact Or.inr ⟨_, rfl⟩
        · rw [e]
          exact Or.inl rfl
      · obtain ⟨k, rfl⟩ : ∃ k, j = p.text.length + k := ⟨j - p.text.length, by omega⟩
        rw [List.take_length_add_append]
        cases k with
        | zero =>
          rw [List.take_zero, List.append_nil]
          refine after_bad S ht (Or.inr ⟨found.snoc n p, ?_⟩) fuel
          rw [entry_run (p := p) hn hnt, hp m hd t ht.stop]
          rfl
        | succ k =>
          cases fuel with
          | zero => omega
          | succ fuel =>
            have e1 : (tailT sep cl (.cons n2 p2 r)).take (k + 1) = sep :: (n2 ++ 58 :: (p2.text ++ tailT sep cl r)).take k := rfl
            have hs : StopAt (sep :: (n2 ++ 58 :: (p2.text ++ tailT sep cl r)).take k ++ t) := fun x q e => by
              injection e with e _
              rw [← e]
              exact S.s1
            rw [named, e1, List.append_assoc, entry_run (p := p) hn hnt, hp m hd _ hs]
            show (if sep = sep then named (readInner ks m) sep cl fuel (found.snoc n p) ((n2 ++ 58 :: (p2.text ++ tailT sep cl r)).take k ++ t) else _) = _
            rw [if_pos rfl]
            refine ih n2 p2 (found.snoc n p) fuel k t (by omega) hr1 hsr.1 hr2 hr3 hsr.2 (by omega) (by omega) (by rw [Fs.names_snoc]; simpa [Fs.names] using hnd) ht ?_
            simp [tailT] at hi ⊢
            omega
theorem open_spoil {ks : List Knd} {m sep cl most : Nat} (S : Sep sep cl) {n : List Nat} {p : Pt} {r : Fs} (hl : r.len ≤ most) (hp : RT ks p) (hsp : SP ks p) (hn : nameOk n = true) (hr : RTs ks r) (hsr : SPs ks r) (hd : p.depth ≤ m) (hd2 : r.depth ≤ m + 1) (hnd : (n :: r.names).Nodup) {i : Nat} {t : List Nat} (ht : BadT t) (hi : i < (TL.joinL [sep] (Fs.cons n p r).texts ++ [cl]).length) :
    named (readInner ks m) sep cl most .nil ((TL.joinL [sep] (Fs.cons n p r).texts ++ [cl]).take i ++ t) = .bad t := by
  rw [join_tail] at hi ⊢
  exact named_spoil S r n p .nil most i t hl hp hsp hn hr hsr hd hd2 (by simpa [Fs.names] using hnd) ht hi
/-- a part that begins with a bracket -/
def Pt.open_ : Pt → Bool
  | .rec_ _ => true
  | .ovl _ => true
  | _ => false
def SPb (ks : List Knd) (p : Pt) : Prop := p.open_ = true → ∀ m, p.depth ≤ m → ∀ i, i < p.text.length → ∀ t, BadT t → readInner ks m (p.text.take i ++ t) = .bad t
theorem SP.of_open {ks : List Knd} {p : Pt} (h : p.open_ = true) (hb : SPb ks p) : SP ks p := fun m hd i hi t ht => Or.inr (hb h m hd i hi t ht)
theorem row_bind {ks : List Knd} {m v : Nat} {l : List Nat} : ((Res.ok v (42 :: l)).bind fun n r => (expect 42 r).bind fun _ r => (readInner ks m r).bind fun p r => Res.ok (Pt.row n p) r) = (readInner ks m l).bind fun p r => Res.ok (Pt.row v p) r := by
  simp only [Res.bind]
  rw [expect, if_pos rfl]
mutual
theorem sp_p {ks : List Knd} (hk : KsP ks) : ∀ p, PtOk ks p → SP ks p ∧ SPb ks p
  | .kind n t0, h => by
    refine ⟨fun m hd i hi t ht => ?_, fun h => nomatch h⟩
    have hi : i < n.length := hi
    cases i with
    | zero =>
      rw [List.take_zero, List.nil_append]
      exact Or.inr (inner_bad hk ht m)
    | succ i =>
      obtain ⟨x, r, e, hx⟩ := name_head h.1
      obtain ⟨f1, f2, f3, f4⟩ := isLet_facts hx
      have e1 : n.take (i + 1) ++ t = x :: (r.take i ++ t) := by rw [e]; rfl
      show (∃ q, readInner ks m (n.take (i + 1) ++ t) = _) ∨ readInner ks m (n.take (i + 1) ++ t) = _
      rw [e1, inner_leaf f1 f2 f3, ← e1]
      exact word_bad hk (List.mem_cons_of_mem _ (List.mem_map_of_mem (f := (·.1)) h.2)) (List.take_prefix _ _) ht (fun q e => by
        rw [e1] at e
        injection e with e _
        exact f4 e)
  | .byte, h => by
    refine ⟨fun m hd i hi t ht => ?_, fun h => nomatch h⟩
    cases i with
    | zero =>
      rw [List.take_zero, List.nil_append]
      exact Or.inr (inner_bad hk ht m)
    | succ i =>
      have e1 : (T "byte").take (i + 1) ++ t = 98 :: (([121, 116, 101] : List Nat).take i ++ t) := rfl
      show (∃ q, readInner ks m ((T "byte").take (i + 1) ++ t) = _) ∨ readInner ks m ((T "byte").take (i + 1) ++ t) = _
      rw [e1, inner_leaf rfl (by decide) (by decide), ← e1]
      exact word_bad hk (by simp) (List.take_prefix _ _) ht (fun q e => by
        rw [e1] at e
        injection e with e _
        exact absurd e (by decide))
  | .use n, h => by
    refine ⟨fun m hd i hi t ht => ?_, fun h => nomatch h⟩
    cases i with
    | zero =>
      rw [List.take_zero, List.nil_append]
      exact Or.inr (inner_bad hk ht m)
    | succ i =>
      show (∃ q, readInner ks m (64 :: (n.take i ++ t)) = _) ∨ readInner ks m (64 :: (n.take i ++ t)) = _
      rw [inner_leaf rfl (by decide) (by decide)]
      show (∃ q, (nameGo [] [] (n.take i ++ t)).bind _ = _) ∨ (nameGo [] [] (n.take i ++ t)).bind _ = _
      rcases name_bad (taken := []) h (fun h => nomatch h) i ht with ⟨f, e⟩ | e
      · rw [e]
        exact Or.inl ⟨_, rfl⟩
      · rw [e]
        exact Or.inr rfl
  | .row n p, h => by
    refine ⟨fun m hd i hi t ht => ?_, fun h => nomatch h⟩
    obtain ⟨g1, g2, g3⟩ := h
    have hd1 : p.depth + 1 ≤ m := hd
    cases i with
    | zero =>
      rw [List.take_zero, List.nil_append]
      exact Or.inr (inner_bad hk ht m)
    | succ i =>
      cases m with
      | zero => omega
      | succ m =>
        obtain ⟨x, q, e⟩ : ∃ x q, TL.numL n = x :: q := by
          cases e : TL.numL n with
          | nil => exact absurd e (TL.numL_ne n)
          | cons x q => exact ⟨x, q, rfl⟩
        have hx : isFig x = true := by
          have := TL.numL_digits n x (by rw [e]; simp)
          simp [isFig]
          omega
        have e1 : (Pt.row n p).text.take (i + 1) ++ t = x :: ((q ++ 42 :: p.text).take i ++ t) := by
          show (TL.numL n ++ 42 :: p.text).take (i + 1) ++ t = _
          rw [e]
          rfl
        rw [e1, readInner, if_pos hx, ← e1]
        show (∃ q, (numGo 1 64 0 false ((TL.numL n ++ 42 :: p.text).take (i + 1) ++ t)).bind _ = _) ∨ (numGo 1 64 0 false ((TL.numL n ++ 42 :: p.text).take (i + 1) ++ t)).bind _ = _
        by_cases hi2 : i + 1 ≤ (TL.numL n).length
        · rw [List.take_append_of_le_length hi2]
          rcases numGo_take (i := i + 1) g1 g2 ht.stop with ⟨h0, h1⟩ | ⟨v, hv, _⟩
          · omega
          · rw [hv]
            refine Or.inr ?_
            show (expect 42 t).bind _ = _
            rw [expect_bad (fun q e => (ht 42 q e).2.2.2.2.2.2.1 rfl)]
            rfl
        · obtain ⟨j, hj⟩ : ∃ j, i + 1 = (TL.numL n).length + (j + 1) := ⟨i - (TL.numL n).length, by omega⟩
          have hjl : j < p.text.length := by
            have : i + 1 < (TL.numL n ++ 42 :: p.text).length := hi
            simp at this
            omega
          rw [hj, List.take_length_add_append, List.take_succ_cons, List.append_assoc, List.cons_append]
          have h42 : StopAt (42 :: (p.text.take j ++ t)) := fun x q e => by cases e; exact ⟨rfl, rfl⟩
          have hn := numGo_take (i := (TL.numL n).length) g1 g2 h42
          rw [List.take_length] at hn
          rcases hn with ⟨_, h0⟩ | ⟨v, hv, hvn⟩
          · exact absurd (List.eq_nil_of_length_eq_zero h0) (TL.numL_ne n)
          · rw [hv]
            rw [row_bind]
            rcases (sp_p hk p g3).1 m (by omega) j hjl t ht with ⟨q, e⟩ | e
            · rw [e]
              exact Or.inl ⟨_, rfl⟩
            · rw [e]
              exact Or.inr rfl
  | .rec_ fs, h => by
    have hb : SPb ks (.rec_ fs) := by
      intro _ m hd i hi t ht
      obtain ⟨g1, g2, g3, g4⟩ := h
      cases i with
      | zero =>
        rw [List.take_zero, List.nil_append]
        exact inner_bad hk ht m
      | succ i =>
        match fs, g1, g2, g3, g4, hd, hi with
        | .cons n p r, g1, g2, g3, g4, hd, hi =>
          have hd1 : max (p.depth + 1) r.depth ≤ m := hd
          cases m with
          | zero => omega
          | succ m =>
            have g2' : r.len + 1 ≤ 8 := g2
            show readInner ks (m + 1) (123 :: ((TL.joinL [32] (Fs.cons n p r).texts ++ [125]).take i ++ t)) = _
            rw [readInner, if_neg (by decide), if_pos rfl, open_spoil sepR (by omega) (rt_p hk p g4.2.1) (sp_p hk p g4.2.1).1 g4.1 (rt_f hk r g4.2.2) (sp_f hk r g4.2.2) (by omega) (by omega) g3 ht (Nat.lt_of_succ_lt_succ hi)]
            rfl
    exact ⟨SP.of_open rfl hb, hb⟩
  | .ovl fs, h => by
    have hb : SPb ks (.ovl fs) := by
      intro _ m hd i hi t ht
      obtain ⟨g1, g2, g3, g4⟩ := h
      cases i with
      | zero =>
        rw [List.take_zero, List.nil_append]
        exact inner_bad hk ht m
      | succ i =>
        match fs, g1, g2, g3, g4, hd, hi with
        | .cons n p r, g1, g2, g3, g4, hd, hi =>
          have hd1 : max (p.depth + 1) r.depth ≤ m := hd
          cases m with
          | zero => omega
          | succ m =>
            have g2' : r.len + 1 ≤ 4 := g2
            show readInner ks (m + 1) (40 :: ((TL.joinL [124] (Fs.cons n p r).texts ++ [41]).take i ++ t)) = _
            rw [readInner, if_neg (by decide), if_neg (by decide), if_pos rfl, open_spoil sepO (by omega) (rt_p hk p g4.2.1) (sp_p hk p g4.2.1).1 g4.1 (rt_f hk r g4.2.2) (sp_f hk r g4.2.2) (by omega) (by omega) g3 ht (Nat.lt_of_succ_lt_succ hi)]
            rfl
    exact ⟨SP.of_open rfl hb, hb⟩
theorem sp_f {ks : List Knd} (hk : KsP ks) : ∀ fs, FsOkk ks fs → SPs ks fs
  | .nil, _ => trivial
  | .cons n p r, h => ⟨(sp_p hk p h.2.1).1, sp_f hk r h.2.2⟩
end
/-! what read_part makes of them -/
theorem read_ok {ks : List Knd} (hk : KsP ks) {p : Pt} (h : PtOk ks p) (hd : p.depth ≤ 4) : readPart ks p.text = .ok p [] := by
  have := rt_p hk p h 4 hd [] (fun _ _ e => nomatch e)
  rw [List.append_nil] at this
  unfold readPart
  rw [this]
  rfl
theorem read_more {ks : List Knd} (hk : KsP ks) {p : Pt} (h : PtOk ks p) (hd : p.depth ≤ 4) {x : Nat} (h1 : isLet x = false) (h2 : isFig x = false) : readPart ks (p.text ++ [x]) = .bad [x] := by
  have := rt_p hk p h 4 hd [x] (fun _ _ e => by cases e; exact ⟨h1, h2⟩)
  unfold readPart
  rw [this]
  rfl
theorem read_spoilt {ks : List Knd} (hk : KsP ks) {p : Pt} (h : PtOk ks p) (hd : p.depth ≤ 4) {i : Nat} (hi : i < p.text.length) {x : Nat} {q : List Nat} (ht : BadT (x :: q)) : readPart ks (p.text.take i ++ x :: q) = .bad (x :: q) := by
  unfold readPart
  rcases (sp_p hk p h).1 4 hd i hi _ ht with ⟨r, e⟩ | e
  · rw [e]
    rfl
  · rw [e]
    rfl
theorem read_cut {ks : List Knd} (hk : KsP ks) {p : Pt} (h : PtOk ks p) (hd : p.depth ≤ 4) (ho : p.open_ = true) {i : Nat} (hi : i < p.text.length) : readPart ks (p.text.take i) = .bad [] := by
  have := (sp_p hk p h).2 ho 4 hd i hi [] BadT.nil
  rw [List.append_nil] at this
  unfold readPart
  rw [this]
  rfl
end Mp

set_option maxHeartbeats 4000000
/-! Kx7: readings of lists that lie in the heap as they are -/
namespace Mp
open PySem PySem.Spec PyProof.Rows L2
section
variable {X : Cx}
def rIxH : R2 := fun x y H Q => ∃ p xs i, x = .ref p ∧ y = .int i ∧ H p = some (.lst xs) ∧ ∃ v, atI xs i = some v ∧ Q v H
theorem ix_H : IxR X rIxH := by
  intro value slice pins s σ H x y v u Q I rx ry h
  obtain ⟨p, xs, i, e1, e2, h1, c, h2, q⟩ := h
  exact ix_list value slice pins s σ H x y v u Q I rx ry ⟨p, xs, i, c, e1, e2, Or.inl (Or.inl h1), h2, q⟩
def rLenH : List V → Hp → VK → Prop := fun vs H Q => ∃ p xs, vs = [.ref p] ∧ H p = some (.lst xs) ∧ Q (.int xs.length) H
theorem call_lenH : CallR X (.builtin "len") rLenH := by
  intro pins s σ H xs us Q I r h
  obtain ⟨p, ys, e, h1, q⟩ := h
  exact call_len_seq pins s σ H xs us Q I r ⟨p, ys, e, Or.inl (Or.inl (Or.inl h1)), q⟩
/-- != [] of a list of ints -/
def rNeInts (K : PySem.W.Frag) : R2 := fun x y H Q => ∃ a b ns, x = .ref a ∧ y = .ref b ∧ H a = some (.lst (List.map V.int ns)) ∧ H b = some (.lst []) ∧ Q (.bl !(List.isEmpty ns)) H
theorem dpAll_ints {K : PySem.W.Frag} {H : Hp} : ∀ ns : List Int, DpAll K H (ns.map V.int) (ns.map PyData.int)
  | [] => .nil
  | n :: ns => .cons (.int n) (dpAll_ints ns)
theorem lay_ints : ∀ ns : List Int, PyData.canLayAll0 (ns.map PyData.int) = true
  | [] => rfl
  | n :: ns => by
    rw [List.map_cons, PyData.canLayAll0, lay_ints ns]
    rfl
theorem depth_ints : ∀ ns : List Int, PyData.depthAll (ns.map PyData.int) = 0
  | [] => rfl
  | n :: ns => by
    rw [List.map_cons, PyData.depthAll, depth_ints ns]
    rfl
theorem op_neInts (hu : X.A.units + 64 < cLine) : OpR X (compareOp .NotEq) (rNeInts X.K) := by
  intro pins s σ H x y v u Q I rx ry h
  obtain ⟨a, b, ns, e1, e2, h1, h2, q⟩ := h
  refine op_neD hu pins s σ H x y v u Q I rx ry ⟨.list (ns.map .int), .list [], ?_, ?_, ?_, ?_, ?_⟩
  · rw [e1]
    exact .lst (Or.inl (Or.inl h1)) (dpAll_ints ns)
  · rw [e2]
    exact .lst (Or.inl (Or.inl h2)) .nil
  · unfold SeqAt.shaped
    rw [PyData.canLay0, lay_ints, PyData.depth, depth_ints]
    rfl
  · decide
  · have e : PyData.eqv (.list (ns.map .int)) (.list []) = ns.isEmpty := by
      rw [PyData.eqv]
      cases ns <;> rfl
    rw [e]
    exact q
theorem k_ix_seq {K : PySem.W.Frag} (h : X.K = K) : IxR X (rIx K) := h ▸ ix_seq
theorem k_neInts {K : PySem.W.Frag} (h : X.K = K) (hu : X.A.units + 64 < cLine) : OpR X (compareOp .NotEq) (rNeInts K) := h ▸ op_neInts hu
/-- 'q' * int(b) -/
def rMulS : R2 := fun x y H Q => ∃ a i, x = .str a ∧ y = .int i ∧ 0 ≤ i ∧ i ≤ 1 ∧ Q (.str (if i = 1 then a else Str.empty)) H
theorem op_mulStr : OpR X (binaryOp .Mult) rMulS := by
  intro pins s σ H x y v u Q I rx ry h
  obtain ⟨a, i, rfl, rfl, h0, h1, q⟩ := h
  obtain ⟨t, rfl⟩ := rx
  obtain ⟨t2, rfl⟩ := ry
  refine SB.mul ⟨?_, ?_, ?_⟩ (fun t' k => ⟨.str (Txt.mul a i), H, I.tok k, ⟨t', rfl⟩, ?_⟩)
  · have : i = 0 ∨ i = 1 := by omega
    rcases this with rfl | rfl <;> decide
  · intro e1 e2
    have : i = 1 := by omega
    subst this
    simp at e2
  · intro e1 e2
    have : i = 1 := by omega
    subst this
    simp at e2
  · have : i = 0 ∨ i = 1 := by omega
    rcases this with rfl | rfl
    · exact q
    · exact q
end
end Mp

set_option maxHeartbeats 4000000
/-! Ky1: the law's pen -/
namespace Mp
open PySem PySem.Spec PyProof.Rows L2
open StX (tMakeR run_makeR pe_makeR)
open He (ga ma fAd)
section
variable {P : Program} {w : World} {K : PySem.W.Frag} {mg : Str → Option Value} {base : Heap}
/-- a pen that has drawn n times at most -/
def PenAt (H : Hp) (c l : Addr) (n : Nat) : Prop := ∃ (ns : List Int) (at_ w : Nat), H c = some (.lst [.ref l, .int (at_ : Nat), .int (w : Nat)]) ∧ at_ ≤ n ∧ H l = some (.lst (ns.map V.int)) ∧ l ≠ c ∧ ns.length ≤ 63
theorem PenAt.ex {H H' : Hp} {c l : Addr} {n : Nat} (h : PenAt H c l n) (e : Ex H H') : PenAt H' c l n := let ⟨ns, a, w, h1, h2, h3, h4⟩ := h; ⟨ns, a, w, e _ _ h1, h2, e _ _ h3, h4⟩
theorem PenAt.le {H : Hp} {c l : Addr} {n m : Nat} (h : PenAt H c l n) (e : n ≤ m) : PenAt H c l m := let ⟨ns, a, w, h1, h2, h3⟩ := h; ⟨ns, a, w, h1, Nat.le_trans h2 e, h3⟩
theorem PenAt.stb {H H' : Hp} {c l : Addr} {n : Nat} (h : PenAt H c l n) (k : K1 c H H') : Stb K H H' := let ⟨ns, a, w, h1, h2, h3⟩ := h; Stb.lst k h1
def cutV1 (ns : List Int) : List Int := (ns.drop (HT.sIx ns.length 0 none)).take (HT.sIx ns.length ns.length (some 63) - HT.sIx ns.length 0 none)
def spPen (K : PySem.W.Frag) : Sp := sp1 fun a H Q _ => ∃ (s : Addr) (ns : List Int), a = .ref s ∧ SqL K H s (ns.map V.int) ∧ ∀ c l H', Ex H H' → H c = none → PenAt H' c l 0 → Q (.ref c) H'
theorem sc__law_pen : FnScope ["script"] ["script"] (defScope s__law_pen) := ⟨rfl, rfl, rfl, by decide +kernel, rfl, by decide +kernel, by decide +kernel⟩
theorem ok__law_pen (z : Zk K mg base)   : Cal P w K mg base "_law_pen" 2 ((spPen K)) := by
  obtain ⟨fd, F⟩ := z.d__law_pen
  refine cal_of F z.g__law_pen sc__law_pen (fun _ _ _ _ _ _ us hl => match us, hl with | [_], _ => rfl) (fun vs H Q E h => by match vs, h with | [_], _ => rfl) (fun cdv A outer s H vs Q E hr h => ?_)
  have nd := sc__law_pen.nd
  have hu : (cxOf (L2.CX P w) P w K mg base ["script"] "_law_pen" (defScope s__law_pen) (fAd K ("_law_pen", none)) cdv A outer s H E).A.units + 64 < cLine := hr.units
  have hu0 := hr.units0
  have hu1 := hu_of hr
  match vs, h with
  | [a0], h =>
  refine ⟨_, (pss_one (ps_ret (pe_lst (pa_cons (pe_callTy (k_list_of (K := K) rfl) rfl z.b_list boot_list (pa_cons (pe_slice (k_sl_list (K := K) rfl) (pv 0) po_none (po_some pe_int)) pa_nil)) (pa_cons pe_int (pa_cons pe_int pa_nil)))))), ?_⟩
  obtain ⟨s, ns, rfl, hs, hq⟩ := h
  simp [tRet, tRetN, tSeq, tIfS, tDrop, tNext, tNever, tBreak, tCont, tAsg, gName, gCons, gNil, gTup, tAndV, tOrV, tNotV, tAnd, tOr, tNot, tOp, tUn, tVar, tC, tB, tTest, tIf, tCons, tNil, tCB, tTup, tLst, tFld, sFld, sFldAug, rAdd, rSub, tSl, tPart, tNoPart, rI0, rI, rU, rEq, rNe, rSlS, rSlL, rIxL, rIxT, rIxS, tChain, tFn, tMt, tM1, tM0, tBM, rAppend, rIn, tIsN, tNotN, scal_ss, scal_ii, let_nil, let_one, fig_nil, fig_one, LenV_str, L2.start, cxOf, and_assoc, tJs, tFmt, put_at, lk_at, lk_script, lk_upcoming, lk_refuse, lk_skips, lk_expect, lk_word_of, lk_name_unlike, lk_number_to, lk_finish, sp0, sp1, sp2, sp3, sp4, sp5, -List.lookup_eq_none_iff]
  refine ⟨_, hs, fun p hp => ⟨_, Or.inl (Or.inl (Or.inl upd_same)), fun l hl => ⟨by decide, fun c hc => ?_⟩⟩⟩
  have hpl : p ≠ l := fun e => by rw [e, upd_same] at hl; cases hl
  have hcl : l ≠ c := fun e => by rw [e, upd_same] at hc; cases hc
  have hl0 : H l = none := by rw [upd_ne (fun e => hpl e.symm)] at hl; exact hl
  have hcp : c ≠ p := fun e => by
    rw [e, upd_ne hpl, upd_same] at hc
    cases hc
  have hc0 : H c = none := by rw [upd_ne (fun e => hcl e.symm), upd_ne hcp] at hc; exact hc
  refine hq c l _ (Ex.trans (Ex.new hp) (Ex.trans (Ex.new hl) (Ex.new hc))) hc0 ⟨cutV1 ns, 0, 0, upd_same, Nat.le_refl _, ?_, hcl, ?_⟩
  · rw [upd_ne hcl, upd_same]
    simp [cutV, cutV1, List.map_take, List.map_drop]
  · simp only [cutV1, List.length_take]
    have : HT.sIx ns.length ns.length (some 63) ≤ 63 := by simp [HT.sIx]; omega
    omega
def spDraw : Sp := sp2 fun a b H Q _ => ∃ (c l : Addr) (n m : Nat), a = .ref c ∧ b = .int (m : Nat) ∧ PenAt H c l n ∧ n < 1000000 ∧ 1 ≤ m ∧ m < 1000000000 ∧ ∀ (d : Nat) H', d < m → K1 c H H' → PenAt H' c l (n + 1) → Q (.int (d : Nat)) H'
theorem atI_nat {α : Type} {xs : List α} {j : Nat} (h : j < xs.length) : atI xs ((j : Nat) : Int) = some xs[j] := by
  have h1 : ixN xs.length ((j : Nat) : Int) = some j := by
    unfold ixN
    rw [if_pos (by omega), if_pos (by omega)]
    rfl
  unfold atI
  rw [h1]
  show xs[j]? = _
  rw [List.getElem?_eq_getElem h]
theorem atI_map (ns : List Int) {j : Nat} (h : j < ns.length) : atI (ns.map V.int) ((j : Nat) : Int) = some (.int ns[j]) := by
  rw [atI_nat (by simpa using h)]
  simp
theorem mod_place {i : Int} {n : Nat} (h : 0 < n) : (i % (n : Int)).toNat < n ∧ (((i % (n : Int)).toNat : Nat) : Int) = i % (n : Int) := by
  have h1 : 0 ≤ i % (n : Int) := Int.emod_nonneg i (by omega)
  have h2 : i % (n : Int) < (n : Int) := Int.emod_lt_of_pos i (by omega)
  omega
theorem Q_int {Q : VK} {H : Hp} {i : Int} {m : Nat} (hm : (0 : Int) < m) (h : ∀ d : Nat, d < m → Q (.int (d : Nat)) H) : Q (.int (i % (m : Int))) H := by
  have h1 := Int.emod_nonneg i (b := (m : Int)) (by omega)
  have h2 := Int.emod_lt_of_pos i (b := (m : Int)) hm
  obtain ⟨d, hd⟩ := Int.eq_ofNat_of_zero_le h1
  rw [hd]
  exact h d (by omega)
theorem sc__law_draw : FnScope ["pen", "many", "at", "cell", "mixed", "digit", "great"] ["pen", "many"] (defScope s__law_draw) := ⟨rfl, rfl, rfl, by decide +kernel, rfl, by decide +kernel, by decide +kernel⟩
theorem ok__law_draw (z : Zk K mg base)   : Cal P w K mg base "_law_draw" 2 spDraw := by
  obtain ⟨fd, F⟩ := z.d__law_draw
  refine cal_of F z.g__law_draw sc__law_draw (fun _ _ _ _ _ _ us hl => match us, hl with | [_, _], _ => rfl) (fun vs H Q E h => by match vs, h with | [_, _], _ => rfl) (fun cdv A outer s H vs Q E hr h => ?_)
  have nd := sc__law_draw.nd
  have hu : (cxOf (L2.CX P w) P w K mg base ["pen", "many", "at", "cell", "mixed", "digit", "great"] "_law_draw" (defScope s__law_draw) (fAd K ("_law_draw", none)) cdv A outer s H E).A.units + 64 < cLine := hr.units
  have hu0 := hr.units0
  have hu1 := hu_of hr
  match vs, h with
  | [a0, a1], h =>
  obtain ⟨c, l, n, m, rfl, rfl, ⟨ns, at_, wd, h1, h2, h3, h4, h5⟩, hn, hm, hm2, hq⟩ := h
  have i0 : ∀ {a b c : V}, atI [a, b, c] 0 = some a := rfl
  have i1 : ∀ {a b c : V}, atI [a, b, c] 1 = some b := rfl
  have i2 : ∀ {a b c : V}, atI [a, b, c] 2 = some c := rfl
  have n1 : ixN 3 1 = some 1 := rfl
  have n2 : ixN 3 2 = some 2 := rfl
  have hm0 : (0 : Int) < m := by omega
  have hmm : (m : Int) < 1073741824 := by omega
  have hl1 : ∀ o, upd H c o l = some (.lst (ns.map V.int)) := fun o => by rw [upd_ne h4]; exact h3
  obtain ⟨t6, hT6, hR6⟩ : ∃ t, PSs (cxOf (L2.CX P w) P w K mg base ["pen", "many", "at", "cell", "mixed", "digit", "great"] "_law_draw" (defScope s__law_draw) (fAd K ("_law_draw", none)) cdv A outer s H E) ((defBody s__law_draw).drop 6) t ∧ ∀ (cl : Int) (x4 x5 x6 : Option V) H2, K1 c H H2 → PenAt H2 c l (n + 1) → t { nx := fun _ H' => Q .non H', rt := Q } [some (.ref c), some (.int (m : Nat)), some (.int (at_ : Nat)), some (.int cl), x4, x5, x6] H2 := by
    refine ⟨_, (pss_cons (ps_set (i := 4) nd rfl (Or.inl rfl) (pe_op op_mod (pe_callTy call_int1 rfl z.b_int boot_int (pa_cons (pe_op op_pow (pe_op op_add (pe_op op_add (pe_op op_mod (pe_callTy call_int1 rfl z.b_int boot_int (pa_cons (pv 3) pa_nil)) pe_int) (pe_op op_mul pe_int (pv 2))) pe_int) pe_int) pa_nil)) pe_int))
      (pss_cons (ps_set (i := 4) nd rfl (Or.inl rfl) (pe_op op_mod (pe_callTy call_int1 rfl z.b_int boot_int (pa_cons (pe_op op_pow (pe_op op_add (pe_op op_add (pe_op op_mul (pv 4) (pe_op op_add (pe_op op_mul pe_int (pv 2)) pe_int)) (pe_op op_mul (pe_op op_mul pe_int (pv 2)) (pv 2))) pe_int) pe_int) pa_nil)) pe_int))
      (pss_one (ps_ret (pe_op op_mod (pe_callTy call_int1 rfl z.b_int boot_int (pa_cons (pe_op op_fdiv (pv 4) pe_int) pa_nil)) (pv 1)))))), fun cl x4 x5 x6 H2 k1 hp2 => ?_⟩
    simp [tRet, tRetN, tSeq, tIfS, tDrop, tNext, tNever, tBreak, tCont, tAsg, gName, gCons, gNil, gTup, tAndV, tOrV, tNotV, tAnd, tOr, tNot, tOp, tUn, tVar, tC, tB, tTest, tIf, tCons, tNil, tCB, tTup, tLst, tFld, sFld, sFldAug, rAdd, rSub, tSl, tPart, tNoPart, rI0, rI, rU, rEq, rNe, rSlS, rSlL, rIxL, rIxT, rIxS, tChain, tFn, tMt, tM1, tM0, tBM, rAppend, rIn, tIsN, tNotN, scal_ss, scal_ii, let_nil, let_one, fig_nil, fig_one, LenV_str, L2.start, cxOf, and_assoc, tJs, tFmt, put_at, lk_at, lk_script, lk_upcoming, lk_refuse, lk_skips, lk_expect, lk_word_of, lk_name_unlike, lk_number_to, lk_finish, sp0, sp1, sp2, sp3, sp4, sp5, -List.lookup_eq_none_iff, CDiv, CMul, CPow, hm0, hmm]
    obtain ⟨A, eA, hA0, hA1⟩ : ∃ A, (cl % 2147483563 + 62057 * (at_ : Int) + 157) ^ 5 % 2147483629 = A ∧ 0 ≤ A ∧ A < 2147483629 := ⟨_, rfl, Int.emod_nonneg _ (by decide), Int.emod_lt_of_pos _ (by decide)⟩
    rw [eA]
    have c0 := Int.emod_nonneg cl (b := 2147483563) (by decide)
    have c1 := Int.emod_lt_of_pos cl (b := 2147483563) (by decide)
    have b1 : A * (2 * (at_ : Int) + 171) ≤ 2147483629 * 2000171 := Int.mul_le_mul (by omega) (by omega) (by omega) (by omega)
    have b1' : 0 ≤ A * (2 * (at_ : Int) + 171) := Int.mul_nonneg hA0 (by omega)
    have b2 : 50159 * (at_ : Int) * (at_ : Int) ≤ 50159000000 * 1000000 := Int.mul_le_mul (by omega) (by omega) (by omega) (by omega)
    have b2' : 0 ≤ 50159 * (at_ : Int) * (at_ : Int) := Int.mul_nonneg (by omega) (by omega)
    refine ⟨by omega, Or.inl ⟨by omega, by omega⟩, Or.inl ⟨by omega, by omega⟩, by omega, by omega, ?_⟩
    exact Q_int hm0 (fun d hd => hq d H2 hd k1 hp2)
  obtain ⟨t5, hT5, hR5⟩ : ∃ t, PSs (cxOf (L2.CX P w) P w K mg base ["pen", "many", "at", "cell", "mixed", "digit", "great"] "_law_draw" (defScope s__law_draw) (fAd K ("_law_draw", none)) cdv A outer s H E) ((defBody s__law_draw).drop 5) t ∧ ∀ (cl : Int) (x4 x5 x6 : Option V) H2, K1 c H H2 → H2 c = some (.lst [.ref l, .int (at_ + 1 : Nat), .int 0]) → H2 l = some (.lst (ns.map V.int)) → t { nx := fun _ H' => Q .non H', rt := Q } [some (.ref c), some (.int (m : Nat)), some (.int (at_ : Nat)), some (.int cl), x4, x5, x6] H2 := by
    refine ⟨_, (pss_cons (ps_if (PW.pt (pw_and (pt_cmpR op_lt (pv 2) (pe_callB call_lenH rfl z.b_len boot_len (pa_cons (pe_ix ix_H (pv 0) pe_int fun _ _ => rfl) pa_nil)) (nomark _)) (pw_and1 (pt_cmpR op_ge (pe_callB call_abs rfl z.b_abs boot_abs (pa_cons (pv 3) pa_nil)) (pe_op op_pow pe_int pe_int) (nomark _))))) (pss_cons (ps_set (i := 6) nd rfl (Or.inl rfl) (pe_op op_add (pe_op op_mul pe_int (pe_op op_sub (pe_callB call_abs rfl z.b_abs boot_abs (pa_cons (pv 3) pa_nil)) (pe_op op_pow pe_int pe_int))) (pe_callTy call_int1 rfl z.b_int boot_int (pa_cons (pe_cmpR op_lt (pv 3) pe_int (nomark _)) pa_nil))))
      (pss_cons (ps_asg (pe_op op_fdiv (pe_callTy call_int1 rfl z.b_int boot_int (pa_cons (pv 6) pa_nil)) (pv 1)) (pg_sub (pv 0) pe_int set_list))
      (pss_one (ps_ret (pe_op op_mod (pe_callTy call_int1 rfl z.b_int boot_int (pa_cons (pv 6) pa_nil)) (pv 1)))))) pss_nil)
      hT6), fun cl x4 x5 x6 H2 k1 g1 g2 => ?_⟩
    simp [tRet, tRetN, tSeq, tIfS, tDrop, tNext, tNever, tBreak, tCont, tAsg, gName, gCons, gNil, gTup, tAndV, tOrV, tNotV, tAnd, tOr, tNot, tOp, tUn, tVar, tC, tB, tTest, tIf, tCons, tNil, tCB, tTup, tLst, tFld, sFld, sFldAug, rAdd, rSub, tSl, tPart, tNoPart, rI0, rI, rU, rEq, rNe, rSlS, rSlL, rIxL, rIxT, rIxS, tChain, tFn, tMt, tM1, tM0, tBM, rAppend, rIn, tIsN, tNotN, scal_ss, scal_ii, let_nil, let_one, fig_nil, fig_one, LenV_str, L2.start, cxOf, and_assoc, tJs, tFmt, put_at, lk_at, lk_script, lk_upcoming, lk_refuse, lk_skips, lk_expect, lk_word_of, lk_name_unlike, lk_number_to, lk_finish, sp0, sp1, sp2, sp3, sp4, sp5, -List.lookup_eq_none_iff, CDiv, CMul, CPow, hm0, hmm, rIxH, rLenH, i0, i1, i2, g1, g2]
    have hp2 : PenAt H2 c l (n + 1) := ⟨ns, at_ + 1, 0, g1, by omega, g2, h4, h5⟩
    obtain ⟨ab, hab⟩ : ∃ ab, (if cl < 0 then -cl else cl) = ab := ⟨_, rfl⟩
    obtain ⟨bb, hbb⟩ : ∃ bb, (if cl < 0 then (1 : Int) else 0) = bb := ⟨_, rfl⟩
    have hb0 : 0 ≤ bb := by rw [← hbb]; split <;> decide
    rw [hab, hbb]
    by_cases q1 : at_ < ns.length
    · rw [if_pos q1]
      by_cases q2 : 1000000000000000000 ≤ ab
      · rw [if_pos q2]
        obtain ⟨g, eg⟩ : ∃ g : Nat, 2 * (ab - 1000000000000000000) + bb = (g : Int) := ⟨_, (Int.toNat_of_nonneg (by omega)).symm⟩
        rw [eg]
        refine ⟨by omega, ?_⟩
        simp [tRet, tRetN, tSeq, tIfS, tDrop, tNext, tNever, tBreak, tCont, tAsg, gName, gCons, gNil, gTup, tAndV, tOrV, tNotV, tAnd, tOr, tNot, tOp, tUn, tVar, tC, tB, tTest, tIf, tCons, tNil, tCB, tTup, tLst, tFld, sFld, sFldAug, rAdd, rSub, tSl, tPart, tNoPart, rI0, rI, rU, rEq, rNe, rSlS, rSlL, rIxL, rIxT, rIxS, tChain, tFn, tMt, tM1, tM0, tBM, rAppend, rIn, tIsN, tNotN, scal_ss, scal_ii, let_nil, let_one, fig_nil, fig_one, LenV_str, L2.start, cxOf, and_assoc, tJs, tFmt, put_at, lk_at, lk_script, lk_upcoming, lk_refuse, lk_skips, lk_expect, lk_word_of, lk_name_unlike, lk_number_to, lk_finish, sp0, sp1, sp2, sp3, sp4, sp5, -List.lookup_eq_none_iff, gSub, rSetL, g1, n2, hm0]
        refine ⟨by omega, Q_int hm0 fun d hd => hq d _ hd (K1.trans k1 K1.upd) ⟨ns, at_ + 1, g / m, ?_, by omega, ?_, h4, h5⟩⟩
        · rw [upd_same, Int.natCast_ediv]
          rfl
        · rw [upd_ne h4, g2]
      · rw [if_neg q2]
        exact hR6 _ _ _ _ _ k1 hp2
    · rw [if_neg q1]
      exact hR6 _ _ _ _ _ k1 hp2
  refine ⟨_, (pss_cons (ps_if (pt_cmpR op_gt (pe_ix ix_H (pv 0) pe_int fun _ _ => rfl) pe_int (nomark _)) (pss_cons (ps_set (i := 5) nd rfl (Or.inl rfl) (pe_op op_mod (pe_callTy call_int1 rfl z.b_int boot_int (pa_cons (pe_ix ix_H (pv 0) pe_int fun _ _ => rfl) pa_nil)) (pv 1)))
      (pss_cons (ps_asg (pe_op op_fdiv (pe_callTy call_int1 rfl z.b_int boot_int (pa_cons (pe_ix ix_H (pv 0) pe_int fun _ _ => rfl) pa_nil)) (pv 1)) (pg_sub (pv 0) pe_int set_list))
      (pss_one (ps_ret (pv 5))))) pss_nil)
      (pss_cons (ps_set (i := 2) nd rfl (Or.inl rfl) (pe_ix ix_H (pv 0) pe_int fun _ _ => rfl))
      (pss_cons (ps_asg (pe_op op_add (pv 2) pe_int) (pg_sub (pv 0) pe_int set_list))
      (pss_cons (ps_set (i := 3) nd rfl (Or.inl rfl) (pe_op op_add (pe_op op_mul pe_int (pv 2)) pe_int))
      (pss_cons (ps_if (pt_cmpR (k_neInts (K := K) rfl hu) (pe_ix ix_H (pv 0) pe_int fun _ _ => rfl) (pe_lst pa_nil) (nomark _)) (pss_one (ps_set (i := 3) nd rfl (Or.inl rfl) (pe_ix ix_H (pe_ix ix_H (pv 0) pe_int fun _ _ => rfl) (pe_op op_mod (pe_callTy call_int1 rfl z.b_int boot_int (pa_cons (pv 2) pa_nil)) (pe_callB call_lenH rfl z.b_len boot_len (pa_cons (pe_ix ix_H (pv 0) pe_int fun _ _ => rfl) pa_nil))) fun _ _ => rfl))) pss_nil)
      hT5))))), ?_⟩
  by_cases hw : 0 < wd
  · simp [tRet, tRetN, tSeq, tIfS, tDrop, tNext, tNever, tBreak, tCont, tAsg, gName, gCons, gNil, gTup, tAndV, tOrV, tNotV, tAnd, tOr, tNot, tOp, tUn, tVar, tC, tB, tTest, tIf, tCons, tNil, tCB, tTup, tLst, tFld, sFld, sFldAug, rAdd, rSub, tSl, tPart, tNoPart, rI0, rI, rU, rEq, rNe, rSlS, rSlL, rIxL, rIxT, rIxS, tChain, tFn, tMt, tM1, tM0, tBM, rAppend, rIn, tIsN, tNotN, scal_ss, scal_ii, let_nil, let_one, fig_nil, fig_one, LenV_str, L2.start, cxOf, and_assoc, tJs, tFmt, put_at, lk_at, lk_script, lk_upcoming, lk_refuse, lk_skips, lk_expect, lk_word_of, lk_name_unlike, lk_number_to, lk_finish, sp0, sp1, sp2, sp3, sp4, sp5, -List.lookup_eq_none_iff, h1, h3, hl1, rIxH, rSetL, rLenH, gSub, i0, i1, i2, n1, n2, hw, CDiv, hm0, hmm]
    refine ⟨by omega, Q_int hm0 fun d hd => hq d _ hd K1.upd ⟨ns, at_, wd / m, ?_, by omega, ?_, h4, h5⟩⟩
    · rw [upd_same, Int.natCast_ediv]
    · exact hl1 _
  · have hw0 : wd = 0 := by omega
    subst hw0
    simp [tRet, tRetN, tSeq, tIfS, tDrop, tNext, tNever, tBreak, tCont, tAsg, gName, gCons, gNil, gTup, tAndV, tOrV, tNotV, tAnd, tOr, tNot, tOp, tUn, tVar, tC, tB, tTest, tIf, tCons, tNil, tCB, tTup, tLst, tFld, sFld, sFldAug, rAdd, rSub, tSl, tPart, tNoPart, rI0, rI, rU, rEq, rNe, rSlS, rSlL, rIxL, rIxT, rIxS, tChain, tFn, tMt, tM1, tM0, tBM, rAppend, rIn, tIsN, tNotN, scal_ss, scal_ii, let_nil, let_one, fig_nil, fig_one, LenV_str, L2.start, cxOf, and_assoc, tJs, tFmt, put_at, lk_at, lk_script, lk_upcoming, lk_refuse, lk_skips, lk_expect, lk_word_of, lk_name_unlike, lk_number_to, lk_finish, sp0, sp1, sp2, sp3, sp4, sp5, -List.lookup_eq_none_iff, h1, h3, hl1, rIxH, rSetL, rLenH, gSub, i0, i1, i2, n1, n2, CDiv, hm0, hmm, upd_same, CMul, rNeInts]
    intro p hp
    have hpc : p ≠ c := fun e => by rw [e, upd_same] at hp; cases hp
    have hpl : p ≠ l := fun e => by rw [e, hl1] at hp; cases hp
    have g1 : upd (upd H c (.lst [.ref l, .int ((at_ : Int) + 1), .int 0])) p (.lst []) c = some (.lst [.ref l, .int ((at_ : Int) + 1), .int 0]) := by rw [upd_ne (fun e => hpc e.symm), upd_same]
    have g2 : upd (upd H c (.lst [.ref l, .int ((at_ : Int) + 1), .int 0])) p (.lst []) l = some (.lst (ns.map V.int)) := by rw [upd_ne (fun e => hpl e.symm), hl1]
    have k1 : K1 c H (upd (upd H c (.lst [.ref l, .int ((at_ : Int) + 1), .int 0])) p (.lst [])) := K1.trans K1.upd (K1.of (Ex.new hp))
    have fin := fun (cl : Int) (x4 x5 x6 : Option V) => hR5 cl x4 x5 x6 _ k1 g1 g2
    refine ⟨ns, g2, ?_⟩
    by_cases hns : ns = []
    · exact Or.inl ⟨hns, fin _ _ _ _⟩
    · refine Or.inr ⟨hns, ?_⟩
      simp [g1, g2, i0]
      have hn0 : 0 < ns.length := List.length_pos_iff.mpr hns
      obtain ⟨m1, m2⟩ := mod_place (i := (at_ : Int)) hn0
      refine ⟨hn0, .int (ns[((at_ : Int) % (ns.length : Int)).toNat]), ?_, fin _ _ _ _⟩
      have := atI_map ns m1
      rw [m2] at this
      exact this
def spPick : Sp := sp2 fun a b H Q _ => ∃ (c l : Addr) (n : Nat), a = .ref c ∧ PenAt H c l n ∧ n < 1000000 ∧
  ((∃ (p : Addr) (xs : List V), b = .ref p ∧ p ≠ c ∧ H p = some (.lst xs) ∧ xs ≠ [] ∧ xs.length < 1000000000 ∧ ∀ v H', v ∈ xs → K1 c H H' → PenAt H' c l (n + 1) → Q v H') ∨
   (∃ w : List Nat, b = .str (S w) ∧ w ≠ [] ∧ w.length < 1000 ∧ ∀ x H', x ∈ w → K1 c H H' → PenAt H' c l (n + 1) → Q (.str (S [x])) H'))
theorem sc__law_pick : FnScope ["pen", "some"] ["pen", "some"] (defScope s__law_pick) := ⟨rfl, rfl, rfl, by decide +kernel, rfl, by decide +kernel, by decide +kernel⟩
theorem ok__law_pick (z : Zk K mg base) (c__law_draw : Cal P w K mg base "_law_draw" 2 spDraw)  : Cal P w K mg base "_law_pick" 3 spPick := by
  obtain ⟨fd, F⟩ := z.d__law_pick
  refine cal_of F z.g__law_pick sc__law_pick (fun _ _ _ _ _ _ us hl => match us, hl with | [_, _], _ => rfl) (fun vs H Q E h => by match vs, h with | [_, _], _ => rfl) (fun cdv A outer s H vs Q E hr h => ?_)
  have nd := sc__law_pick.nd
  have hu : (cxOf (L2.CX P w) P w K mg base ["pen", "some"] "_law_pick" (defScope s__law_pick) (fAd K ("_law_pick", none)) cdv A outer s H E).A.units + 64 < cLine := hr.units
  have hu0 := hr.units0
  have hu1 := hu_of hr
  match vs, h with
  | [a0, a1], h =>
  refine ⟨_, (pss_one (ps_ret (pe_ix (k_ix_seq (K := K) rfl) (pv 1) (pe_fn c__law_draw hr (passD (E := E)) (pa_cons (pv 0) (pa_cons (pe_callB (k_len (K := K) rfl) rfl z.b_len boot_len (pa_cons (pv 1) pa_nil)) pa_nil)) (by omega)) fun _ _ => rfl))), ?_⟩
  obtain ⟨c, l, n, rfl, hp, hn, h⟩ := h
  rcases h with ⟨p, xs, rfl, hpc, h1, h2, h3, hq⟩ | ⟨ls, rfl, h2, h3, hq⟩
  · simp [tRet, tRetN, tSeq, tIfS, tDrop, tNext, tNever, tBreak, tCont, tAsg, gName, gCons, gNil, gTup, tAndV, tOrV, tNotV, tAnd, tOr, tNot, tOp, tUn, tVar, tC, tB, tTest, tIf, tCons, tNil, tCB, tTup, tLst, tFld, sFld, sFldAug, rAdd, rSub, tSl, tPart, tNoPart, rI0, rI, rU, rEq, rNe, rSlS, rSlL, rIxL, rIxT, rIxS, tChain, tFn, tMt, tM1, tM0, tBM, rAppend, rIn, tIsN, tNotN, scal_ss, scal_ii, let_nil, let_one, fig_nil, fig_one, LenV_str, L2.start, cxOf, and_assoc, tJs, tFmt, put_at, lk_at, lk_script, lk_upcoming, lk_refuse, lk_skips, lk_expect, lk_word_of, lk_name_unlike, lk_number_to, lk_finish, sp0, sp1, sp2, sp3, sp4, sp5, -List.lookup_eq_none_iff, rIx]
    refine ⟨xs.length, Or.inl ⟨xs, Or.inl (Or.inl h1), rfl⟩, c, l, n, xs.length, rfl, rfl, hp, hn, List.length_pos_iff.mpr h2, h3, fun d H' hd k1 hp2 => Or.inl ⟨xs, _, rfl, Or.inl (Or.inl (k1 _ _ hpc h1)), _, atI_nat hd, hq _ _ (List.getElem_mem _) k1 hp2⟩⟩
  · simp [tRet, tRetN, tSeq, tIfS, tDrop, tNext, tNever, tBreak, tCont, tAsg, gName, gCons, gNil, gTup, tAndV, tOrV, tNotV, tAnd, tOr, tNot, tOp, tUn, tVar, tC, tB, tTest, tIf, tCons, tNil, tCB, tTup, tLst, tFld, sFld, sFldAug, rAdd, rSub, tSl, tPart, tNoPart, rI0, rI, rU, rEq, rNe, rSlS, rSlL, rIxL, rIxT, rIxS, tChain, tFn, tMt, tM1, tM0, tBM, rAppend, rIn, tIsN, tNotN, scal_ss, scal_ii, let_nil, let_one, fig_nil, fig_one, LenV_str, L2.start, cxOf, and_assoc, tJs, tFmt, put_at, lk_at, lk_script, lk_upcoming, lk_refuse, lk_skips, lk_expect, lk_word_of, lk_name_unlike, lk_number_to, lk_finish, sp0, sp1, sp2, sp3, sp4, sp5, -List.lookup_eq_none_iff, rIx]
    refine ⟨by rw [S_len, sizeLine_eq]; omega, c, l, n, ls.length, rfl, by rw [S_len], hp, hn, List.length_pos_iff.mpr h2, by omega, fun d H' hd k1 hp2 => ⟨_, rfl, by rw [S_len, sizeLine_eq]; omega, ls[d], ?_, hq _ _ (List.getElem_mem _) k1 hp2⟩⟩
    rw [S_cps]
    exact atI_nat hd
end
end Mp

set_option maxHeartbeats 4000000
/-! Ky2: comprehensions whose items move the pen -/
namespace Mp
open PySem PySem.Spec PyProof.Rows L2
section
variable {K : PySem.W.Frag} {a c l : Addr} {xs : List V} {g : TG} {tt : TT} {te : TE} {vs : List Nat} {σ : L2.St} {H H1 H2 H3 : Hp} {Q : VK} {n q : Nat}
/-- all but a list stays -/
def K2 (d : Addr) (H H' : Hp) : Prop := (∀ a o, a ≠ d → H a = some o → H' a = some o) ∧ ∀ a xs, H a = some (.tup xs) → H' a = some (.tup xs)
theorem K2.upd {d : Addr} {o : HO} (h : H d = none ∨ ∃ xs, H d = some (.lst xs)) : K2 d H (upd H d o) :=
  ⟨fun a u n h => by rw [upd_ne n]; exact h, fun a xs e => by
    have n : a ≠ d := fun z => by
      rw [z] at e
      rcases h with h | ⟨ys, h⟩
      · rw [h] at e; cases e
      · rw [h] at e; cases e
    rw [upd_ne n]
    exact e⟩
theorem PenAt.upd {d : Addr} {o : HO} (h : PenAt H c l n) (h1 : d ≠ c) (h2 : d ≠ l) : PenAt (upd H d o) c l n := by
  obtain ⟨ns, at_, w, e1, e2, e3, e4, e5⟩ := h
  exact ⟨ns, at_, w, by rw [upd_ne (fun e => h1 e.symm)]; exact e1, e2, by rw [upd_ne (fun e => h2 e.symm)]; exact e3, e4, e5⟩
theorem PenAt.has (h : PenAt H c l n) : (∃ o, H c = some o) ∧ ∃ o, H l = some o := let ⟨_, _, _, h1, _, h2, _⟩ := h; ⟨⟨_, h1⟩, ⟨_, h2⟩⟩
/-- what a comprehension does behind its iterated expression -/
def LcFrom (J : It) (g : TG) (tt : TT) (te : TE) (vs : List Nat) (σ : L2.St) (H1 : Hp) (Q : VK) : Prop :=
  ∀ D, H1 D = none → ∃ W : Nat → Nat → Hp → Prop, (∃ m, W 0 m (L2.upd H1 D (.lst []))) ∧ ∀ i m H, W i m H →
  (J.stop i H ∧ Q (.ref D) H) ∨ (J.go i H ∧ ∃ Nx : Hp → Prop, (∀ H', Nx H' → ∃ m', m' < m ∧ W (i + 1) m' H') ∧ ∀ x H', J.yld i H x H' → g x (wipe σ vs) H' fun σ2 H2 => wipe σ2 vs = wipe σ vs ∧ tt σ2 H2 fun b H3 =>
    if b = true then te σ2 H3 fun y H4 => ∃ acc, H4 D = some (.lst acc) ∧ acc.length < sizeLine ∧ Nx (L2.upd H4 D (.lst (acc ++ [y]))) else Nx H3)
theorem lc_from {wi : TI} : tLc wi g tt te vs σ H Q = wi σ H fun J H1 => LcFrom J g tt te vs σ H1 Q := rfl
/-- what the turns of a comprehension are to keep: i turns done, the list at D -/
def PenI (c l : Addr) (n q : Nat) (W : Addr → Nat → List V → Hp → Prop) (H1 : Hp) (D : Addr) (i : Nat) (H' : Hp) : Prop :=
  K1 c H1 H' ∧ PenAt H' c l (n + q * i) ∧ ∃ acc, H' D = some (.lst acc) ∧ acc.length = i ∧ W D i acc H'
def PenTurn (c l : Addr) (n q : Nat) (W : Addr → Nat → List V → Hp → Prop) (H1 : Hp) (g : TG) (tt : TT) (te : TE) (vs : List Nat) (σ : L2.St) (i : Nat) (x : V) : Prop :=
  ∀ D acc H' R, H1 D = none → D ≠ c → K1 c H1 H' → PenAt H' c l (n + q * i) → H' D = some (.lst acc) → W D i acc H' → (∀ y H4, K1 c H' H4 → PenAt H4 c l (n + q * (i + 1)) → W D (i + 1) (acc ++ [y]) H4 → R y H4) → LcTurn g tt te vs σ x H' R
theorem pen_ne {D : Addr} (hp : PenAt H1 c l n) (hD : H1 D = none) : D ≠ c ∧ D ≠ l := by
  obtain ⟨⟨o, h1⟩, ⟨u, h2⟩⟩ := hp.has
  exact ⟨fun e => (by rw [e, h1] at hD; cases hD), fun e => (by rw [e, h2] at hD; cases hD)⟩
theorem peni_zero {W : Addr → Nat → List V → Hp → Prop} (hp : PenAt H1 c l n) (h0 : ∀ D, W D 0 [] H1) (mono : ∀ D i acc H2 H3, K2 D H2 H3 → W D i acc H2 → W D i acc H3) {D : Addr} (hD : H1 D = none) : PenI c l n q W H1 D 0 (L2.upd H1 D (.lst [])) :=
  ⟨K1.of (Ex.new hD), hp.upd (pen_ne hp hD).1 (pen_ne hp hD).2, [], upd_same, rfl, mono _ _ _ _ _ (K2.upd (Or.inl hD)) (h0 D)⟩
theorem peni_step {W : Addr → Nat → List V → Hp → Prop} (hp : PenAt H1 c l n) (mono : ∀ D i acc H2 H3, K2 D H2 H3 → W D i acc H2 → W D i acc H3) (mg : MonG g) (mt : MonT tt) {D : Addr} {i m : Nat} {x : V} {H' : Hp} (hz : m ≤ 16777215) (hi : i < m) (hD : H1 D = none)
    (ht : PenTurn c l n q W H1 g tt te vs σ i x) (h : PenI c l n q W H1 D i H') :
    g x (wipe σ vs) H' fun σ2 H2 => wipe σ2 vs = wipe σ vs ∧ tt σ2 H2 fun b H3 =>
      if b = true then te σ2 H3 fun y H4 => ∃ acc, H4 D = some (.lst acc) ∧ acc.length < sizeLine ∧ PenI c l n q W H1 D (i + 1) (L2.upd H4 D (.lst (acc ++ [y]))) else PenI c l n q W H1 D (i + 1) H3 := by
  obtain ⟨k1, hp2, acc, hd, hal, hw⟩ := h
  obtain ⟨n1, n2⟩ := pen_ne hp hD
  refine LcTurn.weak mg mt (ht D acc H' _ hD n1 k1 hp2 hd hw fun y H4 k4 p4 w4 => ⟨acc, k4 _ _ n1 hd, ?_, fun a o ha h => ?_, p4.upd n1 n2, acc ++ [y], upd_same, by simp [hal], mono _ _ _ _ _ (K2.upd (Or.inr ⟨_, k4 _ _ n1 hd⟩)) w4⟩)
  · rw [hal, sizeLine_eq]
    omega
  · have : a ≠ D := fun e => by rw [e, hD] at h; cases h
    rw [upd_ne this]
    exact k4 _ _ ha (k1 _ _ ha h)
/-- .. over a list -/
theorem lcf_penL (W : Addr → Nat → List V → Hp → Prop) (q : Nat) (mg : MonG g) (mt : MonT tt) (hl : H1 a = some (.lst xs)) (hac : a ≠ c) (hz : xs.length ≤ 16777215) (hp : PenAt H1 c l n) (h0 : ∀ D, W D 0 [] H1)
    (mono : ∀ D i acc H2 H3, K2 D H2 H3 → W D i acc H2 → W D i acc H3) (ht : ∀ (i : Nat) (x : V), xs[i]? = some x → PenTurn c l n q W H1 g tt te vs σ i x)
    (hq : ∀ D acc H', H1 D = none → D ≠ c → K1 c H1 H' → PenAt H' c l (n + q * xs.length) → H' D = some (.lst acc) → acc.length = xs.length → W D xs.length acc H' → Q (.ref D) H') : LcFrom (Itl K a) g tt te vs σ H1 Q := by
  intro D hD
  refine lc_list (xs := xs) (Qd := fun H => Q (.ref D) H) (PenI c l n q W H1 D) (peni_zero hp h0 mono hD) (fun i H' _ p => Or.inl (Or.inl (p.1 _ _ hac hl))) (fun i x H' hx p => ?_) (fun H' p => ?_)
  · exact peni_step hp mono mg mt hz (List.getElem?_eq_some_iff.mp hx).1 hD (ht i x hx) p
  · obtain ⟨k1, hp2, acc, hd, hal, hw⟩ := p
    exact hq D acc H' hD (pen_ne hp hD).1 k1 hp2 hd hal hw
/-- .. over a range -/
theorem lcf_penR {m : Nat} (W : Addr → Nat → List V → Hp → Prop) (q : Nat) (mg : MonG g) (mt : MonT tt) (hz : m ≤ 16777215) (hp : PenAt H1 c l n) (h0 : ∀ D, W D 0 [] H1)
    (mono : ∀ D i acc H2 H3, K2 D H2 H3 → W D i acc H2 → W D i acc H3) (ht : ∀ (i : Nat), i < m → PenTurn c l n q W H1 g tt te vs σ i (.int (0 + (i : Nat))))
    (hq : ∀ D acc H', H1 D = none → D ≠ c → K1 c H1 H' → PenAt H' c l (n + q * m) → H' D = some (.lst acc) → acc.length = m → W D m acc H' → Q (.ref D) H') : LcFrom (Itr 0 m) g tt te vs σ H1 Q := by
  intro D hD
  refine lc_range (Qd := fun H => Q (.ref D) H) (PenI c l n q W H1 D) (peni_zero hp h0 mono hD) (fun i H' hi p => ?_) (fun H' p => ?_)
  · exact peni_step hp mono mg mt hz hi hD (ht i hi) p
  · obtain ⟨k1, hp2, acc, hd, hal, hw⟩ := p
    exact hq D acc H' hD (pen_ne hp hD).1 k1 hp2 hd hal hw
end
end Mp

set_option maxHeartbeats 4000000
/-! Kq5: the names that the law draws -/
namespace Mp
open PySem PySem.Spec PyProof.Rows L2
/-- a row of names as the law makes them -/
structure NamesOk (m : Nat) (ns : List (List Nat)) : Prop where
  len : ns.length = m
  nd : ns.Nodup
  ok : ∀ n ∈ ns, nameOk n = true
  sz : ∃ L, (L = 1 ∨ L = 2 ∨ L = 3 ∨ L = 4 ∨ L = 7) ∧ ∀ n ∈ ns, n.length = L ∨ (n.length = L + 1 ∧ ∃ w ∈ barred, n = w ++ [113] ∧ w.length = L)
def baseN (st : List Nat) (spot front k : Nat) : List Nat := st.take spot ++ [97 + (front + 7 * k) % 26] ++ st.drop spot
def fixN (n : List Nat) : List Nat := if n ∈ barred then n ++ [113] else n
theorem baseN_len {st : List Nat} {spot front k : Nat} (h : spot ≤ st.length) : (baseN st spot front k).length = st.length + 1 := by
  simp [baseN]
  omega
theorem baseN_let {st : List Nat} {spot front k : Nat} (h : st.all isLet = true) : (baseN st spot front k).all isLet = true := by
  rw [List.all_eq_true] at h ⊢
  intro x hx
  simp only [baseN, List.mem_append, List.mem_singleton] at hx
  rcases hx with (hx | hx) | hx
  · exact h x (List.mem_of_mem_take hx)
  · rw [hx]
    simp [isLet]
    omega
  · exact h x (List.mem_of_mem_drop hx)
theorem baseN_inj {st : List Nat} {spot front i j : Nat} (hi : i < 8) (hj : j < 8) (h : baseN st spot front i = baseN st spot front j) : i = j := by
  unfold baseN at h
  have h1 := List.append_cancel_right h
  have h2 := List.append_cancel_left h1
  simp at h2
  omega
theorem barred_q : ∀ w ∈ barred, w ++ [113] ∉ barred := by decide
theorem fixN_inj {a b : List Nat} (hl : a.length = b.length) (h : fixN a = fixN b) : a = b := by
  unfold fixN at h
  split at h
  · split at h
    · exact List.append_cancel_right h
    · have := congrArg List.length h
      simp at this
      omega
  · split at h
    · have := congrArg List.length h
      simp at this
      omega
    · exact h
theorem barred_len : ∀ w ∈ barred, w.length ≤ 6 := by decide
theorem fixN_ok {n : List Nat} (h1 : n.all isLet = true) (h2 : 1 ≤ n.length) (h3 : n.length ≤ 7) : nameOk (fixN n) = true := by
  unfold fixN
  split
  · rename_i hb
    have := barred_len n hb
    unfold nameOk
    have h4 := barred_q n hb
    simp [h4, h1]
    exact ⟨by omega, rfl⟩
  · rename_i hb
    unfold nameOk
    simp [hb]
    refine ⟨by omega, ?_⟩
    simpa using h1
theorem names_ok {st : List Nat} {spot front m : Nat} (hl : st.all isLet = true) (hz : st.length = 0 ∨ st.length = 1 ∨ st.length = 2 ∨ st.length = 3 ∨ st.length = 6) (hs : spot ≤ st.length) (hm : m ≤ 8) : NamesOk m ((List.range m).map fun k => fixN (baseN st spot front k)) := by
  refine ⟨by simp, ?_, ?_, st.length + 1, by omega, ?_⟩
  · rw [List.nodup_iff_pairwise_ne, List.pairwise_map]
    refine List.Pairwise.imp_of_mem ?_ List.pairwise_lt_range
    intro i j hi hj hij e
    have hi := List.mem_range.mp hi
    have hj := List.mem_range.mp hj
    have := baseN_inj (by omega) (by omega) (fixN_inj (by rw [baseN_len hs, baseN_len hs]) e)
    omega
  · intro n hn
    obtain ⟨k, hk, rfl⟩ := List.mem_map.mp hn
    exact fixN_ok (baseN_let hl) (by rw [baseN_len hs]; omega) (by rw [baseN_len hs]; omega)
  · intro n hn
    obtain ⟨k, hk, rfl⟩ := List.mem_map.mp hn
    have hb := baseN_len (front := front) (k := k) hs
    unfold fixN
    split
    · rename_i h
      exact Or.inr ⟨by simp [hb], _, h, rfl, hb⟩
    · exact Or.inl hb
end Mp

set_option maxHeartbeats 4000000
/-! Ky3: the law's names -/
namespace Mp
open PySem PySem.Spec PyProof.Rows L2
open StX (tMakeR run_makeR pe_makeR)
open He (ga ma fAd)
theorem split_barred : Txt.split "byte size align place end packed and or not yes no for nogap notail leaf" " " = barred.map S := by decide +kernel
section
variable {P : Program} {w : World} {K : PySem.W.Frag} {mg : Str → Option Value} {base : Heap}
theorem tfor_rng {ta : TA} {g : TG} {tb : TS} {D : Ends} {σ : L2.St} {H : Hp} {m : Nat} (ht : ∀ R : List V → Hp → Prop, R [.int (m : Nat)] H → ta σ H R) (hm : m < 1000000000) (Pv : Nat → L2.St → Hp → Prop) (h0 : Pv 0 σ H)
    (hs : ∀ i σ H, i < m → Pv i σ H → g (.int ((i : Nat) : Int)) σ H fun σ2 H2 => tb { D with nx := Pv (i + 1), ct := Pv (i + 1), bk := D.nx } σ2 H2) (hd : ∀ σ H, Pv m σ H → D.nx σ H) : tFor (iRng1 ta) g tb D σ H :=
  ht _ ⟨_, rfl, by omega, by omega, for_range Pv h0 (fun i σ H hi h => by
    rw [Int.zero_add]
    exact hs i σ H hi h) hd⟩
theorem cut_pre {l : List Nat} {k : Nat} (h : k ≤ l.length) : cutS (S l) none (some ((k : Nat) : Int)) = S (l.take k) := by
  unfold cutS
  rw [HT.sIx_nat, HT.sIx_none, S_len, S_cps, Nat.min_eq_left h]
  rfl
theorem cut_suf {l : List Nat} {k : Nat} (h : k ≤ l.length) : cutS (S l) (some ((k : Nat) : Int)) none = S (l.drop k) := by
  unfold cutS
  rw [HT.sIx_nat, HT.sIx_none, S_len, S_cps, Nat.min_eq_left h, List.take_of_length_le (by simp)]
  rfl
theorem K1.free {c d : Addr} {H H' : Hp} (k : K1 c H H') (n : d ≠ c) (h : H' d = none) : H d = none := by
  cases e : H d with
  | none => rfl
  | some o =>
    rw [k _ _ n e] at h
    cases h
theorem PenAt.nec {H : Hp} {c l d : Addr} {n : Nat} (h : PenAt H c l n) (hd : H d = none) : d ≠ c := (pen_ne h hd).1
theorem sum_ones : ∀ ls : List Nat, (ls.map ((fun x : Str => x.length) ∘ fun x => S [x])).sum = ls.length
  | [] => rfl
  | x :: ls => by
    rw [List.map_cons, List.sum_cons, sum_ones ls]
    have : ((fun x : Str => x.length) ∘ fun x => S [x]) x = 1 := rfl
    rw [this, List.length_cons]
    omega
theorem joinL_ones : ∀ ls : List Nat, TL.joinL [] (ls.map fun x => [x]) = ls
  | [] => rfl
  | [x] => rfl
  | x :: y :: ls => by
    have h := joinL_ones (y :: ls)
    show [x] ++ ([] ++ TL.joinL [] ((y :: ls).map fun x => [x])) = _
    rw [h]
    rfl
theorem letters_at : ∀ j, j < 26 → atI (Str.ofString "abcdefghijklmnopqrstuvwxyz").cps.toList ((j : Nat) : Int) = some (97 + j) := by decide +kernel
theorem S_one (x : Nat) : ({ cps := #[x] } : Str) = S [x] := rfl
def spNames : Sp := sp2 fun a b H Q _ => ∃ (c l : Addr) (n m : Nat), a = .ref c ∧ b = .int (m : Nat) ∧ m ≤ 8 ∧ PenAt H c l n ∧ n + 20 < 1000000 ∧ ∀ D ns H', NamesOk m ns → K1 c H H' → H D = none → D ≠ c → H' D = some (.lst (ns.map fun n => .str (S n))) → PenAt H' c l (n + 20) → Q (.ref D) H'
theorem sc__law_names : FnScope ["pen", "many", "letters", "barred", "stem", "found", "k", "spot", "front", "sign", "word"] ["pen", "many"] (defScope s__law_names) := ⟨rfl, rfl, rfl, by decide +kernel, rfl, by decide +kernel, by decide +kernel⟩
theorem ok__law_names (z : Zk K mg base) (c__law_draw : Cal P w K mg base "_law_draw" 2 spDraw) (c__law_pick : Cal P w K mg base "_law_pick" 3 spPick)  : Cal P w K mg base "_law_names" 4 spNames := by
  obtain ⟨fd, F⟩ := z.d__law_names
  refine cal_of F z.g__law_names sc__law_names (fun _ _ _ _ _ _ us hl => match us, hl with | [_, _], _ => rfl) (fun vs H Q E h => by match vs, h with | [_, _], _ => rfl) (fun cdv A outer s H vs Q E hr h => ?_)
  have nd := sc__law_names.nd
  have hu : (cxOf (L2.CX P w) P w K mg base ["pen", "many", "letters", "barred", "stem", "found", "k", "spot", "front", "sign", "word"] "_law_names" (defScope s__law_names) (fAd K ("_law_names", none)) cdv A outer s H E).A.units + 64 < cLine := hr.units
  have hu0 := hr.units0
  have hu1 := hu_of hr
  match vs, h with
  | [a0, a1], h =>
  obtain ⟨c, l, n, m, rfl, rfl, hm, hp, hn, hq⟩ := h
  obtain ⟨t5, hT5, hR5⟩ : ∃ t, PSs (cxOf (L2.CX P w) P w K mg base ["pen", "many", "letters", "barred", "stem", "found", "k", "spot", "front", "sign", "word"] "_law_names" (defScope s__law_names) (fAd K ("_law_names", none)) cdv A outer s H E) ((defBody s__law_names).drop 5) t ∧ ∀ (st : List Nat) (spot front : Nat) (x5 x6 x9 x10 : Option V) H2, st.all isLet = true → (st.length = 0 ∨ st.length = 1 ∨ st.length = 2 ∨ st.length = 3 ∨ st.length = 6) → spot ≤ st.length → front < 26 → K1 c H H2 → PenAt H2 c l (n + 20) →
      t { nx := fun _ H' => Q .non H', rt := Q } [some (.ref c), some (.int (m : Nat)), some (.str "abcdefghijklmnopqrstuvwxyz"), some (.str "byte size align place end packed and or not yes no for nogap notail leaf"), some (.str (S st)), x5, x6, some (.int (spot : Nat)), some (.int (front : Nat)), x9, x10] H2 := by
    refine ⟨_, (pss_cons (ps_set (i := 5) nd rfl (Or.inl rfl) (pe_lst pa_nil))
      (pss_cons (ps_for (passes_of rfl) rfl (pi_range1 rfl z.b_range (pa_cons (pv 1) pa_nil)) (pg_name nd (i := 6) rfl (Or.inl rfl)) (pss_cons (ps_set (i := 9) nd rfl (Or.inl rfl) (pe_ix ix_str (pv 2) (pe_op op_mod (pe_callTy call_int1 rfl z.b_int boot_int (pa_cons (pe_op op_add (pv 8) (pe_op op_mul pe_int (pv 6))) pa_nil)) pe_int) fun _ _ => rfl))
      (pss_one (ps_expr (k_append (K := K) rfl (pv 5) (pe_op op_add_str (pe_op op_add_str (pe_slice sl_str (pv 4) po_none (po_some (pv 7))) (pv 9)) (pe_slice sl_str (pv 4) (po_some (pv 7)) po_none)))))))
      (pss_one (ps_ret (pe_lc rfl nd (k_pi_list (K := K) rfl (pv 5)) (blkOk_by (N := ["pen", "many", "letters", "barred", "stem", "found", "k", "spot", "front", "sign", "word"]) (sc := defScope s__law_names) (own := [("word", 10)]) (by decide +kernel)) (fun _ _ _ _ _ => (pg_name nd (i := 10) rfl (Or.inl rfl))) (fun _ _ _ _ _ => pts_nil) (fun _ _ _ _ _ => (pe_op op_add_str (pv 10) (pe_op op_mulStr pe_str (pe_callTy call_int1 rfl z.b_int boot_int (pa_cons (pe_cmpR (k_in_seq (K := K) rfl) (pv 10) (pe_split (pv 3) pe_str) (by with_unfolding_all rfl)) pa_nil)))))))))), fun st spot front x5 x6 x9 x10 H2 hl hz hs hf k1 hp2 => ?_⟩
    simp [tRet, tRetN, tSeq, tIfS, tDrop, tNext, tNever, tBreak, tCont, tAsg, gName, gCons, gNil, gTup, tAndV, tOrV, tNotV, tAnd, tOr, tNot, tOp, tUn, tVar, tC, tB, tTest, tIf, tCons, tNil, tCB, tTup, tLst, tFld, sFld, sFldAug, rAdd, rSub, tSl, tPart, tNoPart, rI0, rI, rU, rEq, rNe, rSlS, rSlL, rIxL, rIxT, rIxS, tChain, tFn, tMt, tM1, tM0, tBM, rAppend, rIn, tIsN, tNotN, scal_ss, scal_ii, let_nil, let_one, fig_nil, fig_one, LenV_str, L2.start, cxOf, and_assoc, tJs, tFmt, put_at, lk_at, lk_script, lk_upcoming, lk_refuse, lk_skips, lk_expect, lk_word_of, lk_name_unlike, lk_number_to, lk_finish, sp0, sp1, sp2, sp3, sp4, sp5, -List.lookup_eq_none_iff]
    intro fa hfa
    have e0 : Ex H2 (upd H2 fa (.lst [])) := Ex.new hfa
    refine tfor_rng (m := m) (fun R h => ⟨_, rfl, h⟩) (by omega) (fun i σ H3 => ∃ x6 x9, σ = [some (.ref c), some (.int (m : Nat)), some (.str "abcdefghijklmnopqrstuvwxyz"), some (.str "byte size align place end packed and or not yes no for nogap notail leaf"), some (.str (S st)), some (.ref fa), x6, some (.int (spot : Nat)), some (.int (front : Nat)), x9, x10] ∧ Ex H2 H3 ∧ H3 fa = some (.lst ((List.range i).map fun k => .str (S (baseN st spot front k))))) ⟨_, _, rfl, e0, upd_same⟩ (fun i σ H3 hi h => ?_) (fun σ H3 h => ?_)
    · obtain ⟨y6, y9, rfl, e3, h3⟩ := h
      simp [tRet, tRetN, tSeq, tIfS, tDrop, tNext, tNever, tBreak, tCont, tAsg, gName, gCons, gNil, gTup, tAndV, tOrV, tNotV, tAnd, tOr, tNot, tOp, tUn, tVar, tC, tB, tTest, tIf, tCons, tNil, tCB, tTup, tLst, tFld, sFld, sFldAug, rAdd, rSub, tSl, tPart, tNoPart, rI0, rI, rU, rEq, rNe, rSlS, rSlL, rIxL, rIxT, rIxS, tChain, tFn, tMt, tM1, tM0, tBM, rAppend, rIn, tIsN, tNotN, scal_ss, scal_ii, let_nil, let_one, fig_nil, fig_one, LenV_str, L2.start, cxOf, and_assoc, tJs, tFmt, put_at, lk_at, lk_script, lk_upcoming, lk_refuse, lk_skips, lk_expect, lk_word_of, lk_name_unlike, lk_number_to, lk_finish, sp0, sp1, sp2, sp3, sp4, sp5, -List.lookup_eq_none_iff]
      have hi2 : ((front : Int) + 7 * (i : Int)) % 26 = (((front + 7 * i) % 26 : Nat) : Int) := by omega
      rw [hi2, cut_pre hs, cut_suf hs]
      refine ⟨Or.inl ⟨by omega, by omega⟩, by decide, _, letters_at _ (Nat.mod_lt _ (by omega)), Or.inl ⟨rfl, _, Or.inl (Or.inl h3)⟩, ?_, ?_, ?_, ?_, _, h3, ?_, ?_, ?_⟩
      · rw [S_len, sizeLine_eq]; omega
      · rw [S_one, S_len, S_len, sizeLine_eq, List.length_take]; simp; omega
      · rw [S_len, sizeLine_eq]; omega
      · rw [S_one, S_app, S_len, S_len, sizeLine_eq]; simp; omega
      · simp [sizeLine_eq]; omega
      · exact Ex.mut e3 hfa
      · rw [upd_same, S_one, S_app, S_app, List.range_succ, List.map_append]
        rfl
    · obtain ⟨y6, y9, rfl, e3, h3⟩ := h
      simp [tRet, tRetN, tSeq, tIfS, tDrop, tNext, tNever, tBreak, tCont, tAsg, gName, gCons, gNil, gTup, tAndV, tOrV, tNotV, tAnd, tOr, tNot, tOp, tUn, tVar, tC, tB, tTest, tIf, tCons, tNil, tCB, tTup, tLst, tFld, sFld, sFldAug, rAdd, rSub, tSl, tPart, tNoPart, rI0, rI, rU, rEq, rNe, rSlS, rSlL, rIxL, rIxT, rIxS, tChain, tFn, tMt, tM1, tM0, tBM, rAppend, rIn, tIsN, tNotN, scal_ss, scal_ii, let_nil, let_one, fig_nil, fig_one, LenV_str, L2.start, cxOf, and_assoc, tJs, tFmt, put_at, lk_at, lk_script, lk_upcoming, lk_refuse, lk_skips, lk_expect, lk_word_of, lk_name_unlike, lk_number_to, lk_finish, sp0, sp1, sp2, sp3, sp4, sp5, -List.lookup_eq_none_iff]
      refine lc_mapL (a := fa) (xs := (List.range m).map fun k => .str (S (baseN st spot front k))) (ys := (List.range m).map fun k => .str (S (fixN (baseN st spot front k)))) (fun R h => ⟨_, rfl, h⟩) monG_name monT_yes (by simp; omega) (by simp) (SqL.of h3) (fun i x y H4 R hx hy e4 hR => ?_) (fun D H4 e4 hD hDl => ?_)
      · obtain ⟨k, hk, rfl, rfl⟩ : ∃ k, k < m ∧ x = .str (S (baseN st spot front k)) ∧ y = .str (S (fixN (baseN st spot front k))) := by
          have hi : i < m := by simpa using (List.getElem?_eq_some_iff.mp hx).1
          rw [List.getElem?_map, List.getElem?_range hi] at hx hy
          exact ⟨i, hi, (Option.some.inj hx).symm, (Option.some.inj hy).symm⟩
        simp [tRet, tRetN, tSeq, tIfS, tDrop, tNext, tNever, tBreak, tCont, tAsg, gName, gCons, gNil, gTup, tAndV, tOrV, tNotV, tAnd, tOr, tNot, tOp, tUn, tVar, tC, tB, tTest, tIf, tCons, tNil, tCB, tTup, tLst, tFld, sFld, sFldAug, rAdd, rSub, tSl, tPart, tNoPart, rI0, rI, rU, rEq, rNe, rSlS, rSlL, rIxL, rIxT, rIxS, tChain, tFn, tMt, tM1, tM0, tBM, rAppend, rIn, tIsN, tNotN, scal_ss, scal_ii, let_nil, let_one, fig_nil, fig_one, LenV_str, L2.start, cxOf, and_assoc, tJs, tFmt, put_at, lk_at, lk_script, lk_upcoming, lk_refuse, lk_skips, lk_expect, lk_word_of, lk_name_unlike, lk_number_to, lk_finish, sp0, sp1, sp2, sp3, sp4, sp5, -List.lookup_eq_none_iff, LcTurn, tYes, wipe, rMulS, rNewStrs, split_barred]
        refine ⟨by decide, by decide, fun p hp3 => ⟨barred.map fun x => .str (S x), Or.inl (SqL.of upd_same), rfl, by simp [flatV], ?_⟩⟩
        have hbl := baseN_len (front := front) (k := k) hs
        have hR2 := hR _ (Ex.new (o := .lst (barred.map fun x => .str (S x))) hp3)
        rw [inV_strs]
        unfold fixN at hR2
        by_cases hb : baseN st spot front k ∈ barred
        · rw [if_pos hb, ← S_app] at hR2
          refine Or.inr ⟨by simp [hb], ?_, hR2⟩
          rw [S_len, sizeLine_eq, hbl]
          have : (Str.ofString "q").length = 1 := rfl
          omega
        · rw [if_neg hb] at hR2
          refine Or.inl ⟨by simp [hb], ?_, ?_⟩
          · rw [S_len, sizeLine_eq, hbl]
            have : Str.empty.length = 0 := rfl
            omega
          · have e9 : S (baseN st spot front k) ++ Str.empty = S (baseN st spot front k) := by
              show S _ ++ S [] = _
              rw [S_app, List.append_nil]
            rw [e9]
            exact hR2
      · have hp3 := (hp2.ex e3).nec hD
        have hDH : H D = none := K1.free k1 hp3 (Ex.free e3 hD)
        refine hq D _ H4 (names_ok (spot := spot) (front := front) hl hz hs hm) (K1.trans k1 (K1.of (Ex.trans e3 e4))) hDH hp3 ?_ (hp2.ex (Ex.trans e3 e4))
        rw [hDl, List.map_map]
        rfl
  obtain ⟨t3, hT3, hR3⟩ : ∃ t, PSs (cxOf (L2.CX P w) P w K mg base ["pen", "many", "letters", "barred", "stem", "found", "k", "spot", "front", "sign", "word"] "_law_names" (defScope s__law_names) (fAd K ("_law_names", none)) cdv A outer s H E) ((defBody s__law_names).drop 3) t ∧ ∀ (st : List Nat) (x5 x6 x7 x8 x9 x10 : Option V) H2, st.all isLet = true → (st.length = 0 ∨ st.length = 1 ∨ st.length = 2 ∨ st.length = 3 ∨ st.length = 6) → K1 c H H2 → PenAt H2 c l (n + 17) →
      t { nx := fun _ H' => Q .non H', rt := Q } [some (.ref c), some (.int (m : Nat)), some (.str "abcdefghijklmnopqrstuvwxyz"), some (.str "byte size align place end packed and or not yes no for nogap notail leaf"), some (.str (S st)), x5, x6, x7, x8, x9, x10] H2 := by
    refine ⟨_, (pss_cons (ps_set (i := 4) nd rfl (Or.inl rfl) (pe_fn c__law_pick hr (passD (E := E)) (pa_cons (pv 0) (pa_cons (pe_lst (pa_cons (pv 4) (pa_cons (pv 4) (pa_cons (pv 4) (pa_cons pe_str (pa_cons pe_str (pa_cons pe_str pa_nil))))))) pa_nil))))
      (pss_cons (ps_par (i := 7) (j := 8) rfl nd rfl rfl (by decide) rfl rfl (pa_cons (pe_fn c__law_draw hr (passD (E := E)) (pa_cons (pv 0) (pa_cons (pe_op op_add (pe_callB (k_len (K := K) rfl) rfl z.b_len boot_len (pa_cons (pv 4) pa_nil)) pe_int) pa_nil))) (pa_cons (pe_fn c__law_draw hr (passD (E := E)) (pa_cons (pv 0) (pa_cons pe_int pa_nil))) pa_nil)) (by first | rfl | with_unfolding_all rfl))
      hT5)), fun st x5 x6 x7 x8 x9 x10 H2 hl hz k1 hp2 => ?_⟩
    simp [tRet, tRetN, tSeq, tIfS, tDrop, tNext, tNever, tBreak, tCont, tAsg, gName, gCons, gNil, gTup, tAndV, tOrV, tNotV, tAnd, tOr, tNot, tOp, tUn, tVar, tC, tB, tTest, tIf, tCons, tNil, tCB, tTup, tLst, tFld, sFld, sFldAug, rAdd, rSub, tSl, tPart, tNoPart, rI0, rI, rU, rEq, rNe, rSlS, rSlL, rIxL, rIxT, rIxS, tChain, tFn, tMt, tM1, tM0, tBM, rAppend, rIn, tIsN, tNotN, scal_ss, scal_ii, let_nil, let_one, fig_nil, fig_one, LenV_str, L2.start, cxOf, and_assoc, tJs, tFmt, put_at, lk_at, lk_script, lk_upcoming, lk_refuse, lk_skips, lk_expect, lk_word_of, lk_name_unlike, lk_number_to, lk_finish, sp0, sp1, sp2, sp3, sp4, sp5, -List.lookup_eq_none_iff]
    refine ⟨by decide, fun p hp3 => ?_⟩
    have hpc := hp2.nec hp3
    refine ⟨c, l, n + 17, rfl, hp2.ex (Ex.new hp3), by omega, Or.inl ⟨p, _, rfl, hpc, upd_same, by simp, by simp, fun v H4 hv k4 hp4 => ?_⟩⟩
    obtain ⟨st2, rfl, hl2, hz2⟩ : ∃ st2, v = .str (S st2) ∧ st2.all isLet = true ∧ (st2.length = 0 ∨ st2.length = 1 ∨ st2.length = 2 ∨ st2.length = 3 ∨ st2.length = 6) := by
      simp at hv
      rcases hv with rfl | rfl | rfl | rfl
      · exact ⟨st, rfl, hl, hz⟩
      · exact ⟨[111, 116], rfl, rfl, by decide⟩
      · exact ⟨[108, 101, 97], rfl, rfl, by decide⟩
      · exact ⟨[110, 100], rfl, rfl, by decide⟩
    simp [tRet, tRetN, tSeq, tIfS, tDrop, tNext, tNever, tBreak, tCont, tAsg, gName, gCons, gNil, gTup, tAndV, tOrV, tNotV, tAnd, tOr, tNot, tOp, tUn, tVar, tC, tB, tTest, tIf, tCons, tNil, tCB, tTup, tLst, tFld, sFld, sFldAug, rAdd, rSub, tSl, tPart, tNoPart, rI0, rI, rU, rEq, rNe, rSlS, rSlL, rIxL, rIxT, rIxS, tChain, tFn, tMt, tM1, tM0, tBM, rAppend, rIn, tIsN, tNotN, scal_ss, scal_ii, let_nil, let_one, fig_nil, fig_one, LenV_str, L2.start, cxOf, and_assoc, tJs, tFmt, put_at, lk_at, lk_script, lk_upcoming, lk_refuse, lk_skips, lk_expect, lk_word_of, lk_name_unlike, lk_number_to, lk_finish, sp0, sp1, sp2, sp3, sp4, sp5, -List.lookup_eq_none_iff, tPar]
    refine ⟨by rw [S_len, sizeLine_eq]; omega, c, l, n + 17 + 1, st2.length + 1, rfl, by rw [S_len]; rfl, hp4, by omega, by omega, by omega, fun d H5 hd k5 hp5 => ?_⟩
    refine ⟨c, l, n + 17 + 1 + 1, 26, rfl, rfl, hp5, by omega, by omega, by omega, fun f H6 hf k6 hp6 => ?_⟩
    exact hR5 st2 d f _ _ _ _ H6 hl2 hz2 (by omega) hf (K1.trans (K1.trans k1 (K1.of (Ex.new hp3))) (K1.trans k4 (K1.trans k5 k6))) (hp6.le (by omega))
  refine ⟨_, (pss_cons (ps_set (i := 2) nd rfl (Or.inr rfl) pe_str)
      (pss_cons (ps_set (i := 3) nd rfl (Or.inr rfl) pe_str)
      (pss_cons (ps_set (i := 4) nd rfl (Or.inl rfl) (k_join (K := K) rfl pe_str (pe_lc rfl nd (pi_range1 rfl z.b_range (pa_cons (pe_fn c__law_pick hr (passD (E := E)) (pa_cons (pv 0) (pa_cons (pe_lst (pa_cons pe_int (pa_cons pe_int (pa_cons pe_int (pa_cons pe_int (pa_cons pe_int pa_nil)))))) pa_nil))) pa_nil)) (blkOk_by (N := ["pen", "many", "letters", "barred", "stem", "found", "k", "spot", "front", "sign", "word"]) (sc := defScope s__law_names) (own := [("k", 6)]) (by decide +kernel)) (fun _ _ _ _ _ => (pg_name nd (i := 6) rfl (Or.inl rfl))) (fun _ _ _ _ _ => pts_nil) (fun _ _ _ _ _ => (pe_fn c__law_pick hr passL (pa_cons (pv 0) (pa_cons (pv 2) pa_nil)))))))
      hT3))), ?_⟩
  simp [tRet, tRetN, tSeq, tIfS, tDrop, tNext, tNever, tBreak, tCont, tAsg, gName, gCons, gNil, gTup, tAndV, tOrV, tNotV, tAnd, tOr, tNot, tOp, tUn, tVar, tC, tB, tTest, tIf, tCons, tNil, tCB, tTup, tLst, tFld, sFld, sFldAug, rAdd, rSub, tSl, tPart, tNoPart, rI0, rI, rU, rEq, rNe, rSlS, rSlL, rIxL, rIxT, rIxS, tChain, tFn, tMt, tM1, tM0, tBM, rAppend, rIn, tIsN, tNotN, scal_ss, scal_ii, let_nil, let_one, fig_nil, fig_one, LenV_str, L2.start, cxOf, and_assoc, tJs, tFmt, put_at, lk_at, lk_script, lk_upcoming, lk_refuse, lk_skips, lk_expect, lk_word_of, lk_name_unlike, lk_number_to, lk_finish, sp0, sp1, sp2, sp3, sp4, sp5, -List.lookup_eq_none_iff]
  rw [lc_from]
  simp [tRet, tRetN, tSeq, tIfS, tDrop, tNext, tNever, tBreak, tCont, tAsg, gName, gCons, gNil, gTup, tAndV, tOrV, tNotV, tAnd, tOr, tNot, tOp, tUn, tVar, tC, tB, tTest, tIf, tCons, tNil, tCB, tTup, tLst, tFld, sFld, sFldAug, rAdd, rSub, tSl, tPart, tNoPart, rI0, rI, rU, rEq, rNe, rSlS, rSlL, rIxL, rIxT, rIxS, tChain, tFn, tMt, tM1, tM0, tBM, rAppend, rIn, tIsN, tNotN, scal_ss, scal_ii, let_nil, let_one, fig_nil, fig_one, LenV_str, L2.start, cxOf, and_assoc, tJs, tFmt, put_at, lk_at, lk_script, lk_upcoming, lk_refuse, lk_skips, lk_expect, lk_word_of, lk_name_unlike, lk_number_to, lk_finish, sp0, sp1, sp2, sp3, sp4, sp5, -List.lookup_eq_none_iff, iRng1]
  refine ⟨by decide, fun p hp3 => ?_⟩
  have hpc := hp.nec hp3
  have k0 : K1 c H (upd H p (.lst [.int 0, .int 1, .int 2, .int 3, .int 6])) := K1.of (Ex.new hp3)
  refine ⟨c, l, n, rfl, hp.ex (Ex.new hp3), by omega, Or.inl ⟨p, _, rfl, hpc, upd_same, by simp, by simp, fun v H4 hv k4 hp4 => ?_⟩⟩
  obtain ⟨j, rfl, hj⟩ : ∃ j : Nat, v = .int (j : Nat) ∧ (j = 0 ∨ j = 1 ∨ j = 2 ∨ j = 3 ∨ j = 6) := by
    simp at hv
    rcases hv with rfl | rfl | rfl | rfl | rfl
    · exact ⟨0, rfl, by omega⟩
    · exact ⟨1, rfl, by omega⟩
    · exact ⟨2, rfl, by omega⟩
    · exact ⟨3, rfl, by omega⟩
    · exact ⟨6, rfl, by omega⟩
  refine ⟨(j : Nat), rfl, by omega, by omega, ?_⟩
  rw [Int.toNat_natCast]
  refine lcf_penR (fun _ i acc _ => ∃ ls : List Nat, acc = ls.map (fun x => .str (S [x])) ∧ ls.length = i ∧ ls.all isLet = true) 1 monG_name monT_yes (by omega) hp4 (fun _ => ⟨[], rfl, rfl, rfl⟩) (fun _ _ _ _ _ _ h => h) (fun i hi => ?_) (fun D acc H5 hD hDc k5 hp5 hDl hal h => ?_)
  · intro D acc H5 R hD hDc k5 hp5 hDl ⟨ls, ha, hl2, hl3⟩ hR
    simp [tRet, tRetN, tSeq, tIfS, tDrop, tNext, tNever, tBreak, tCont, tAsg, gName, gCons, gNil, gTup, tAndV, tOrV, tNotV, tAnd, tOr, tNot, tOp, tUn, tVar, tC, tB, tTest, tIf, tCons, tNil, tCB, tTup, tLst, tFld, sFld, sFldAug, rAdd, rSub, tSl, tPart, tNoPart, rI0, rI, rU, rEq, rNe, rSlS, rSlL, rIxL, rIxT, rIxS, tChain, tFn, tMt, tM1, tM0, tBM, rAppend, rIn, tIsN, tNotN, scal_ss, scal_ii, let_nil, let_one, fig_nil, fig_one, LenV_str, L2.start, cxOf, and_assoc, tJs, tFmt, put_at, lk_at, lk_script, lk_upcoming, lk_refuse, lk_skips, lk_expect, lk_word_of, lk_name_unlike, lk_number_to, lk_finish, sp0, sp1, sp2, sp3, sp4, sp5, -List.lookup_eq_none_iff, LcTurn, tYes, wipe]
    refine ⟨c, l, n + 1 + 1 * i, rfl, hp5, by omega, Or.inr ⟨(Str.ofString "abcdefghijklmnopqrstuvwxyz").cps.toList, congrArg V.str (S_of _), by decide, by decide, fun x H6 hx k6 hp6 => ?_⟩⟩
    refine hR _ _ k6 (hp6.le (by omega)) ⟨ls ++ [x], by rw [ha]; simp, by simp [hl2], ?_⟩
    rw [List.all_append, hl3]
    have hxl : ∀ x ∈ (Str.ofString "abcdefghijklmnopqrstuvwxyz").cps.toList, isLet x = true := by decide +kernel
    simp [hxl x hx]
  · obtain ⟨ls, rfl, hl2, hl3⟩ := h
    refine ⟨_, D, ls.map fun x => S [x], rfl, rfl, Or.inl (SqL.of (by rw [hDl, List.map_map]; rfl)), ?_, ?_⟩
    · have e1 : (Str.ofString "").length = 0 := rfl
      rw [e1, List.map_map]
      have e2 : (ls.map ((fun x => x.length) ∘ fun x => S [x])).sum = ls.length := sum_ones ls
      rw [e2]
      omega
    · have e3 : Txt.join (Str.ofString "") (ls.map fun x => S [x]) = S ls := by
        have := SX.join_S [] (ls.map fun x => [x])
        rw [List.map_map, joinL_ones] at this
        exact this
      rw [e3]
      exact hR3 ls _ _ _ _ _ _ H5 hl3 (by omega) (K1.trans k0 (K1.trans k4 k5)) (hp5.le (by omega))
end
end Mp

set_option maxHeartbeats 4000000
/-! Kq6: signs and kinds of the law -/
namespace Mp
open PySem PySem.Spec PyProof.Rows L2
structure SignsOk (m : Nat) (ns : List (List Nat)) : Prop where
  len : ns.length = m
  nd : ns.Nodup
  ok : ∀ n ∈ ns, nameOk n = true
structure KNames (ns ks : List (List Nat)) : Prop where
  nd : ks.Nodup
  ok : ∀ n ∈ ks, nameOk n = true
  ne : 1 ≤ ks.length
  le : ks.length ≤ 3
  t : ∀ t r, ns = t :: r → t ∈ ks ∧ ∀ n ∈ ks, n ∈ ns ∨ n = t ++ [120] ∨ n = T "bytes"
theorem last_ne {a b : List Nat} {x y : Nat} (h : x ≠ y) : a ++ [x] ≠ b ++ [y] := fun e => by
  have := congrArg List.getLast? e
  simp at this
  exact h this
theorem barred_ax : ∀ w ∈ barred, w.getLast? ≠ some 97 ∧ w.getLast? ≠ some 120 := by decide
theorem name_plus {n : List Nat} {x : Nat} (h : nameOk n = true) (h7 : n.length ≤ 7) (hx : x = 97 ∨ x = 120) : nameOk (n ++ [x]) = true := by
  have h1 := nameOk_let h
  have h2 : n ++ [x] ∉ barred := fun hb => by
    have := barred_ax _ hb
    rcases hx with rfl | rfl <;> simp at this
  unfold nameOk
  simp [h2]
  refine ⟨h7, ?_, ?_⟩
  · simpa using h1
  · rcases hx with rfl | rfl <;> rfl
theorem NamesOk.le7 {m : Nat} {ns : List (List Nat)} (h : NamesOk m ns) : ∀ n ∈ ns, n.length ≤ 7 := by
  obtain ⟨L, hL, hs⟩ := h.sz
  intro n hn
  rcases hs n hn with e | ⟨e, w, hw, _, hwl⟩
  · omega
  · have := barred_len w hw
    omega
theorem NamesOk.plus {m : Nat} {t : List Nat} {r : List (List Nat)} (h : NamesOk m (t :: r)) {x : Nat} (hx : x ≠ 113) : t ++ [x] ∉ t :: r := by
  obtain ⟨L, hL, hs⟩ := h.sz
  intro hn
  have h1 := hs _ hn
  have h2 := hs t (by simp)
  rw [List.length_append, List.length_singleton] at h1
  rcases h1 with e | ⟨e, w, hw, ew, _⟩
  · omega
  · exact last_ne hx ew
theorem signs_ok {m : Nat} {t : List Nat} {r : List (List Nat)} (h : NamesOk m (t :: r)) (hm : 2 ≤ m) (b : Bool) : SignsOk m ((if b then [t, t ++ [97]] else [t ++ [97], t]) ++ r.take (m - 2)) := by
  have hl := h.len
  have hn := h.nd
  have h7 := h.le7 t (by simp)
  have hp := h.plus (x := 97) (by decide)
  rw [List.length_cons] at hl
  rw [List.nodup_cons] at hn
  have hr : (r.take (m - 2)).Nodup := hn.2.sublist (List.take_sublist _ _)
  have h1 : t ∉ r.take (m - 2) := fun e => hn.1 (List.mem_of_mem_take e)
  have h2 : t ++ [97] ∉ r.take (m - 2) := fun e => hp (List.mem_cons_of_mem _ (List.mem_of_mem_take e))
  have h3 : t ++ [97] ≠ t := fun e => by have := congrArg List.length e; simp at this
  have ha := name_plus (x := 97) (h.ok t (by simp)) h7 (Or.inl rfl)
  refine ⟨?_, ?_, ?_⟩
  · cases b <;> simp <;> omega
  · cases b
    · show ((t ++ [97]) :: t :: r.take (m - 2)).Nodup
      rw [List.nodup_cons, List.nodup_cons]
      exact ⟨fun e => (List.mem_cons.mp e).elim h3 h2, h1, hr⟩
    · show (t :: (t ++ [97]) :: r.take (m - 2)).Nodup
      rw [List.nodup_cons, List.nodup_cons]
      exact ⟨fun e => (List.mem_cons.mp e).elim (fun e => h3 e.symm) h1, h2, hr⟩
  · intro n hn2
    rw [List.mem_append] at hn2
    rcases hn2 with h4 | h4
    · have : n = t ∨ n = t ++ [97] := by
        cases b
        · have h4 : n ∈ [t ++ [97], t] := h4
          simp only [List.mem_cons, List.not_mem_nil, or_false] at h4
          exact h4.symm
        · have h4 : n ∈ [t, t ++ [97]] := h4
          simpa only [List.mem_cons, List.not_mem_nil, or_false] using h4
      rcases this with rfl | rfl
      · exact h.ok _ (by simp)
      · exact ha
    · exact h.ok _ (List.mem_cons_of_mem _ (List.mem_of_mem_take h4))
theorem kinds_take {m j : Nat} {ns : List (List Nat)} (h : NamesOk m ns) (hm : 1 ≤ m) (h1 : 1 ≤ j) (h3 : j ≤ 3) : KNames ns (ns.take j) := by
  refine ⟨h.nd.sublist (List.take_sublist _ _), fun n hn => h.ok n (List.mem_of_mem_take hn), ?_, ?_, fun t r e => ⟨?_, fun n hn => Or.inl (List.mem_of_mem_take hn)⟩⟩
  · rw [List.length_take, h.len]; omega
  · rw [List.length_take]; omega
  · rw [e]
    cases j with
    | zero => omega
    | succ j => simp
theorem nd_rev {α : Type} {l : List α} (h : l.Nodup) : l.reverse.Nodup := by
  rw [List.nodup_iff_pairwise_ne] at h ⊢
  rw [List.pairwise_reverse]
  exact h.imp fun e => e.symm
theorem KNames.rev {ns ks : List (List Nat)} (h : KNames ns ks) : KNames ns ks.reverse :=
  ⟨nd_rev h.nd, fun n hn => h.ok n (List.mem_reverse.mp hn), by simpa using h.ne, by simpa using h.le, fun t r e => ⟨List.mem_reverse.mpr (h.t t r e).1, fun n hn => (h.t t r e).2 n (List.mem_reverse.mp hn)⟩⟩
theorem kinds_odd {m j : Nat} {t : List Nat} {r : List (List Nat)} (h : NamesOk m (t :: r)) (h1 : 1 ≤ j) : KNames (t :: r) ([t, t ++ [120], T "bytes"].take j) := by
  have h7 := h.le7 t (by simp)
  have h3 : t ≠ t ++ [120] := fun e => by have := congrArg List.length e; simp at this
  have h4 : t ++ [120] ≠ T "bytes" := fun e => last_ne (a := t) (b := [98, 121, 116, 101]) (x := 120) (y := 115) (by decide) e
  have h5 : t ≠ T "bytes" := fun e => by
    obtain ⟨L, hL, hs⟩ := h.sz
    have el : t.length = 5 := by rw [e]; rfl
    rcases hs t (by simp) with h6 | ⟨h6, w, hw, ew, _⟩
    · omega
    · exact last_ne (a := w) (b := [98, 121, 116, 101]) (x := 113) (y := 115) (by decide) (ew.symm.trans e)
  have hx := name_plus (x := 120) (h.ok t (by simp)) h7 (Or.inr rfl)
  have hnd : [t, t ++ [120], T "bytes"].Nodup := by
    rw [List.nodup_cons, List.nodup_cons, List.nodup_cons]
    refine ⟨?_, ?_, by simp⟩
    · exact fun e => (List.mem_cons.mp e).elim h3 fun e => h5 (List.mem_singleton.mp e)
    · exact fun e => h4 (List.mem_singleton.mp e)
  refine ⟨hnd.sublist (List.take_sublist _ _), fun n hn => ?_, by rw [List.length_take]; simp; omega, by rw [List.length_take]; simp; omega, fun t' r' e => ?_⟩
  · have := List.mem_of_mem_take hn
    simp only [List.mem_cons, List.not_mem_nil, or_false] at this
    rcases this with rfl | rfl | rfl
    · exact h.ok _ (by simp)
    · exact hx
    · decide
  · injection e with e1 e2
    subst e1
    refine ⟨?_, fun n hn => ?_⟩
    · cases j with
      | zero => omega
      | succ j => simp
    · have := List.mem_of_mem_take hn
      simp only [List.mem_cons, List.not_mem_nil, or_false] at this
      rcases this with rfl | h | h
      · exact Or.inl (by simp)
      · exact Or.inr (Or.inl h)
      · exact Or.inr (Or.inr h)
end Mp

set_option maxHeartbeats 4000000
/-! Ky4: the law's signs and kinds -/
namespace Mp
open PySem PySem.Spec PyProof.Rows L2
open StX (tMakeR run_makeR pe_makeR)
open He (ga ma fAd)
section
variable {P : Program} {w : World} {K : PySem.W.Frag} {mg : Str → Option Value} {base : Heap}
def txV (ns : List (List Nat)) : List V := ns.map fun n => .str (S n)
theorem cutV_pre {xs : List V} {j : Nat} : cutV xs none (some ((j : Nat) : Int)) = xs.take j := by
  unfold cutV
  rw [HT.sIx_nat, HT.sIx_none]
  show (xs.drop 0).take _ = _
  rw [List.drop_zero]
  by_cases h : j ≤ xs.length
  · rw [Nat.min_eq_left h, Nat.sub_zero]
  · rw [Nat.min_eq_right (by omega), Nat.sub_zero, List.take_of_length_le (Nat.le_refl _), List.take_of_length_le (by omega)]
theorem cutV_mid {x : V} {xs : List V} {j : Nat} (h : j ≤ xs.length) : cutV (x :: xs) (some 1) (some (((j + 1 : Nat) : Nat) : Int)) = xs.take j := by
  have e1 : HT.sIx (x :: xs).length 0 (some 1) = 1 := by
    have := HT.sIx_nat (x :: xs).length 0 1
    rw [show (some ((1 : Nat) : Int)) = some 1 from rfl] at this
    rw [this, List.length_cons]
    omega
  unfold cutV
  rw [HT.sIx_nat, e1, List.length_cons, Nat.min_eq_left (by omega)]
  show xs.take _ = _
  rw [Nat.add_sub_cancel]
theorem at_zero {t : List Nat} {r : List (List Nat)} : atI (List.map (fun n => V.str (S n)) (t :: r)) 0 = some (.str (S t)) := by
  have := atI_nat (xs := List.map (fun n => V.str (S n)) (t :: r)) (j := 0) (by simp)
  exact this
theorem txV_take (ns : List (List Nat)) (j : Nat) : (txV ns).take j = txV (ns.take j) := by
  unfold txV
  rw [List.map_take]
theorem pen_new {H H' : Hp} {c l p : Addr} {n : Nat} {o : HO} (k : K1 c H H') (hp : PenAt H' c l n) (h : H' p = none) : K1 c H (upd H' p o) ∧ PenAt (upd H' p o) c l n ∧ H p = none ∧ p ≠ c :=
  ⟨K1.trans k (K1.of (Ex.new h)), hp.ex (Ex.new h), K1.free k (hp.nec h) h, hp.nec h⟩
def spSigns : Sp := sp2 fun a b H Q _ => ∃ (c l : Addr) (n m : Nat), a = .ref c ∧ b = .int (m : Nat) ∧ 2 ≤ m ∧ m ≤ 8 ∧ PenAt H c l n ∧ n + 30 < 1000000 ∧ ∀ D ns H', SignsOk m ns → K1 c H H' → H D = none → D ≠ c → H' D = some (.lst (txV ns)) → PenAt H' c l (n + 22) → Q (.ref D) H'
theorem sc__law_signs : FnScope ["pen", "many", "some", "both"] ["pen", "many"] (defScope s__law_signs) := ⟨rfl, rfl, rfl, by decide +kernel, rfl, by decide +kernel, by decide +kernel⟩
theorem ok__law_signs (z : Zk K mg base) (c__law_draw : Cal P w K mg base "_law_draw" 2 spDraw) (c__law_names : Cal P w K mg base "_law_names" 4 spNames)  : Cal P w K mg base "_law_signs" 5 spSigns := by
  obtain ⟨fd, F⟩ := z.d__law_signs
  refine cal_of F z.g__law_signs sc__law_signs (fun _ _ _ _ _ _ us hl => match us, hl with | [_, _], _ => rfl) (fun vs H Q E h => by match vs, h with | [_, _], _ => rfl) (fun cdv A outer s H vs Q E hr h => ?_)
  have nd := sc__law_signs.nd
  have hu : (cxOf (L2.CX P w) P w K mg base ["pen", "many", "some", "both"] "_law_signs" (defScope s__law_signs) (fAd K ("_law_signs", none)) cdv A outer s H E).A.units + 64 < cLine := hr.units
  have hu0 := hr.units0
  have hu1 := hu_of hr
  match vs, h with
  | [a0, a1], h =>
  refine ⟨_, (pss_cons (ps_set (i := 2) nd rfl (Or.inl rfl) (pe_fn c__law_names hr (passD (E := E)) (pa_cons (pv 0) (pa_cons (pv 1) pa_nil))))
      (pss_cons (ps_if (pt_cmpR op_eq (pe_fn c__law_draw hr (passD (E := E)) (pa_cons (pv 0) (pa_cons pe_int pa_nil))) pe_int (nomark _)) (pss_one (ps_ret (pv 2))) pss_nil)
      (pss_cons (ps_set (i := 3) nd rfl (Or.inl rfl) (pe_lst (pa_cons (pe_ix ix_H (pv 2) pe_int fun _ _ => rfl) (pa_cons (pe_op op_add_str (pe_ix ix_H (pv 2) pe_int fun _ _ => rfl) pe_str) pa_nil))))
      (pss_one (ps_ret (pe_op op_cat (pe_ifExp (pt_cmpR op_eq (pe_fn c__law_draw hr (passD (E := E)) (pa_cons (pv 0) (pa_cons pe_int pa_nil))) pe_int (nomark _)) (pv 3) (k_revL (K := K) rfl (pv 3))) (pe_slice (k_sl_list (K := K) rfl) (pv 2) (po_some pe_int) (po_some (pe_op op_sub (pv 1) pe_int))))))))), ?_⟩
  obtain ⟨c, l, n, m, rfl, rfl, hm1, hm, hp, hn, hq⟩ := h
  simp [tRet, tRetN, tSeq, tIfS, tDrop, tNext, tNever, tBreak, tCont, tAsg, gName, gCons, gNil, gTup, tAndV, tOrV, tNotV, tAnd, tOr, tNot, tOp, tUn, tVar, tC, tB, tTest, tIf, tCons, tNil, tCB, tTup, tLst, tFld, sFld, sFldAug, rAdd, rSub, tSl, tPart, tNoPart, rI0, rI, rU, rEq, rNe, rSlS, rSlL, rIxL, rIxT, rIxS, tChain, tFn, tMt, tM1, tM0, tBM, rAppend, rIn, tIsN, tNotN, scal_ss, scal_ii, let_nil, let_one, fig_nil, fig_one, LenV_str, L2.start, cxOf, and_assoc, tJs, tFmt, put_at, lk_at, lk_script, lk_upcoming, lk_refuse, lk_skips, lk_expect, lk_word_of, lk_name_unlike, lk_number_to, lk_finish, sp0, sp1, sp2, sp3, sp4, sp5, -List.lookup_eq_none_iff]
  refine ⟨c, l, n, m, rfl, rfl, hm, hp, by omega, fun D ns H1 hok k1 hD hDc hDl hp1 => ?_⟩
  refine ⟨c, l, n + 20, 2, rfl, rfl, hp1, by omega, by omega, by omega, fun d H2 hd k2 hp2 => ?_⟩
  have hDl2 := k2 _ _ hDc hDl
  simp [tRet, tRetN, tSeq, tIfS, tDrop, tNext, tNever, tBreak, tCont, tAsg, gName, gCons, gNil, gTup, tAndV, tOrV, tNotV, tAnd, tOr, tNot, tOp, tUn, tVar, tC, tB, tTest, tIf, tCons, tNil, tCB, tTup, tLst, tFld, sFld, sFldAug, rAdd, rSub, tSl, tPart, tNoPart, rI0, rI, rU, rEq, rNe, rSlS, rSlL, rIxL, rIxT, rIxS, tChain, tFn, tMt, tM1, tM0, tBM, rAppend, rIn, tIsN, tNotN, scal_ss, scal_ii, let_nil, let_one, fig_nil, fig_one, LenV_str, L2.start, cxOf, and_assoc, tJs, tFmt, put_at, lk_at, lk_script, lk_upcoming, lk_refuse, lk_skips, lk_expect, lk_word_of, lk_name_unlike, lk_number_to, lk_finish, sp0, sp1, sp2, sp3, sp4, sp5, -List.lookup_eq_none_iff, rIxH, hDl2]
  obtain ⟨t, r, rfl⟩ : ∃ t r, ns = t :: r := by
    cases ns with
    | nil => have := hok.len; simp at this; omega
    | cons t r => exact ⟨t, r, rfl⟩
  have ht7 := hok.le7 t (by simp)
  have hrl : r.length + 1 = m := hok.len
  split
  · exact hq D _ H2 ⟨hok.len, hok.nd, hok.ok⟩ (K1.trans k1 k2) hD hDc hDl2 (hp2.le (by omega))
  · refine ⟨_, at_zero, _, at_zero, _, rfl, ?_, by decide, fun p hp3 => ?_⟩
    · rw [S_len, sizeLine_eq]
      have : (Str.ofString "a").length = 1 := rfl
      omega
    have ex : S t ++ Str.ofString "a" = S (t ++ [97]) := S_app t [97]
    rw [ex]
    obtain ⟨g1, g2, g3, g4⟩ := pen_new (o := .lst [.str (S t), .str (S (t ++ [97]))]) (K1.trans k1 k2) hp2 hp3
    refine ⟨c, l, n + 20 + 1, 2, rfl, rfl, g2, by omega, by omega, by omega, fun d2 H3 hd2 k3 hp4 => ⟨rfl, ?_⟩⟩
    have hl3 := k3 _ _ g4 upd_same
    have hD3 := k3 _ _ hDc (Ex.new hp3 _ _ hDl2)
    have em : (m : Int) - 1 = ((m - 2 + 1 : Nat) : Int) := by omega
    have hcut : cutV (List.map (fun n => V.str (S n)) (t :: r)) (some 1) (some ((m : Int) - 1)) = txV (r.take (m - 2)) := by
      rw [em, List.map_cons, cutV_mid (by simp; omega)]
      exact txV_take r (m - 2)
    split
    · refine ⟨_, SqL.of hD3, fun p2 hp5 => ?_⟩
      rw [hcut]
      obtain ⟨w1, w2, w3, w4⟩ := pen_new (o := .lst (txV (r.take (m - 2)))) (K1.trans g1 k3) hp4 hp5
      refine ⟨p, p2, _, _, rfl, rfl, Ex.new hp5 _ _ hl3, upd_same, ?_, fun p6 hp6 => ?_⟩
      · simp [txV, sizeLine_eq]; omega
      obtain ⟨y1, y2, y3, y4⟩ := pen_new (o := .lst ([.str (S t), .str (S (t ++ [97]))] ++ txV (r.take (m - 2)))) w1 w2 hp6
      exact hq p6 _ _ (signs_ok hok hm1 true) y1 y3 y4 upd_same (y2.le (by omega))
    · simp only [tRevL, tVar]
      refine ⟨_, rfl, p, _, rfl, SqL.of hl3, fun p1 hp1' => ?_⟩
      obtain ⟨v1, v2, v3, v4⟩ := pen_new (o := .lst [V.str (S t), .str (S (t ++ [97]))].reverse) (K1.trans g1 k3) hp4 hp1'
      refine ⟨_, SqL.of (Ex.new hp1' _ _ hD3), fun p2 hp5 => ?_⟩
      rw [hcut]
      obtain ⟨w1, w2, w3, w4⟩ := pen_new (o := .lst (txV (r.take (m - 2)))) v1 v2 hp5
      refine ⟨p1, p2, _, _, rfl, rfl, Ex.new hp5 _ _ upd_same, upd_same, ?_, fun p6 hp6 => ?_⟩
      · simp [txV, sizeLine_eq]; omega
      obtain ⟨y1, y2, y3, y4⟩ := pen_new (o := .lst ([V.str (S t), .str (S (t ++ [97]))].reverse ++ txV (r.take (m - 2)))) w1 w2 hp6
      exact hq p6 _ _ (signs_ok hok hm1 false) y1 y3 y4 upd_same (y2.le (by omega))
def spKinds : Sp := sp2 fun a b H Q _ => ∃ (c l q : Addr) (n : Nat) (ns : List (List Nat)), a = .ref c ∧ b = .ref q ∧ q ≠ c ∧ H q = some (.lst (txV ns)) ∧ NamesOk 6 ns ∧ PenAt H c l n ∧ n + 30 < 1000000 ∧ ∀ D ks H', KNames ns ks → K1 c H H' → H D = none → D ≠ c → H' D = some (.lst (txV ks)) → PenAt H' c l (n + 3) → Q (.ref D) H'
theorem sc__law_kinds : FnScope ["pen", "names", "some"] ["pen", "names"] (defScope s__law_kinds) := ⟨rfl, rfl, rfl, by decide +kernel, rfl, by decide +kernel, by decide +kernel⟩
theorem ok__law_kinds (z : Zk K mg base) (c__law_draw : Cal P w K mg base "_law_draw" 2 spDraw)  : Cal P w K mg base "_law_kinds" 3 spKinds := by
  obtain ⟨fd, F⟩ := z.d__law_kinds
  refine cal_of F z.g__law_kinds sc__law_kinds (fun _ _ _ _ _ _ us hl => match us, hl with | [_, _], _ => rfl) (fun vs H Q E h => by match vs, h with | [_, _], _ => rfl) (fun cdv A outer s H vs Q E hr h => ?_)
  have nd := sc__law_kinds.nd
  have hu : (cxOf (L2.CX P w) P w K mg base ["pen", "names", "some"] "_law_kinds" (defScope s__law_kinds) (fAd K ("_law_kinds", none)) cdv A outer s H E).A.units + 64 < cLine := hr.units
  have hu0 := hr.units0
  have hu1 := hu_of hr
  match vs, h with
  | [a0, a1], h =>
  refine ⟨_, (pss_cons (ps_if (pt_cmpR op_eq (pe_fn c__law_draw hr (passD (E := E)) (pa_cons (pv 0) (pa_cons pe_int pa_nil))) pe_int (nomark _)) (pss_one (ps_ret (pe_slice (k_sl_list (K := K) rfl) (pv 1) po_none (po_some (pe_op op_add pe_int (pe_fn c__law_draw hr (passD (E := E)) (pa_cons (pv 0) (pa_cons pe_int pa_nil)))))))) pss_nil)
      (pss_cons (ps_set (i := 2) nd rfl (Or.inl rfl) (pe_slice (k_sl_list (K := K) rfl) (pe_lst (pa_cons (pe_ix ix_H (pv 1) pe_int fun _ _ => rfl) (pa_cons (pe_op op_add_str (pe_ix ix_H (pv 1) pe_int fun _ _ => rfl) pe_str) (pa_cons pe_str pa_nil)))) po_none (po_some (pe_op op_add pe_int (pe_fn c__law_draw hr (passD (E := E)) (pa_cons (pv 0) (pa_cons pe_int pa_nil)))))))
      (pss_one (ps_ret (pe_ifExp (pt_cmpR op_eq (pe_fn c__law_draw hr (passD (E := E)) (pa_cons (pv 0) (pa_cons pe_int pa_nil))) pe_int (nomark _)) (pv 2) (k_revL (K := K) rfl (pv 2))))))), ?_⟩
  obtain ⟨c, l, q, n, ns, rfl, rfl, hqc, hql, hok, hp, hn, hq⟩ := h
  simp [tRet, tRetN, tSeq, tIfS, tDrop, tNext, tNever, tBreak, tCont, tAsg, gName, gCons, gNil, gTup, tAndV, tOrV, tNotV, tAnd, tOr, tNot, tOp, tUn, tVar, tC, tB, tTest, tIf, tCons, tNil, tCB, tTup, tLst, tFld, sFld, sFldAug, rAdd, rSub, tSl, tPart, tNoPart, rI0, rI, rU, rEq, rNe, rSlS, rSlL, rIxL, rIxT, rIxS, tChain, tFn, tMt, tM1, tM0, tBM, rAppend, rIn, tIsN, tNotN, scal_ss, scal_ii, let_nil, let_one, fig_nil, fig_one, LenV_str, L2.start, cxOf, and_assoc, tJs, tFmt, put_at, lk_at, lk_script, lk_upcoming, lk_refuse, lk_skips, lk_expect, lk_word_of, lk_name_unlike, lk_number_to, lk_finish, sp0, sp1, sp2, sp3, sp4, sp5, -List.lookup_eq_none_iff]
  refine ⟨c, l, n, 2, rfl, rfl, hp, by omega, by omega, by omega, fun d H1 hd k1 hp1 => ?_⟩
  have hql1 := k1 _ _ hqc hql
  simp [tRet, tRetN, tSeq, tIfS, tDrop, tNext, tNever, tBreak, tCont, tAsg, gName, gCons, gNil, gTup, tAndV, tOrV, tNotV, tAnd, tOr, tNot, tOp, tUn, tVar, tC, tB, tTest, tIf, tCons, tNil, tCB, tTup, tLst, tFld, sFld, sFldAug, rAdd, rSub, tSl, tPart, tNoPart, rI0, rI, rU, rEq, rNe, rSlS, rSlL, rIxL, rIxT, rIxS, tChain, tFn, tMt, tM1, tM0, tBM, rAppend, rIn, tIsN, tNotN, scal_ss, scal_ii, let_nil, let_one, fig_nil, fig_one, LenV_str, L2.start, cxOf, and_assoc, tJs, tFmt, put_at, lk_at, lk_script, lk_upcoming, lk_refuse, lk_skips, lk_expect, lk_word_of, lk_name_unlike, lk_number_to, lk_finish, sp0, sp1, sp2, sp3, sp4, sp5, -List.lookup_eq_none_iff, rIxH, hql1]
  obtain ⟨t, r, rfl⟩ : ∃ t r, ns = t :: r := by
    cases ns with
    | nil => have := hok.len; simp at this
    | cons t r => exact ⟨t, r, rfl⟩
  have ht7 := hok.le7 t (by simp)
  split
  · refine ⟨c, l, n + 1, 3, rfl, rfl, hp1, by omega, by omega, by omega, fun d2 H2 hd2 k2 hp2 => ⟨_, rfl, _, SqL.of (k2 _ _ hqc hql1), fun p hp3 => ?_⟩⟩
    have e : (1 : Int) + (d2 : Int) = ((1 + d2 : Nat) : Int) := by omega
    rw [e, cutV_pre, txV_take]
    obtain ⟨g1, g2, g3, g4⟩ := pen_new (o := .lst (txV ((t :: r).take (1 + d2)))) (K1.trans k1 k2) hp2 hp3
    exact hq p _ _ (kinds_take hok (by omega) (by omega) (by omega)) g1 g3 g4 upd_same (g2.le (by omega))
  · refine ⟨_, at_zero, _, at_zero, _, rfl, ?_, by decide, fun p hp3 => ?_⟩
    · rw [S_len, sizeLine_eq]
      have : (Str.ofString "x").length = 1 := rfl
      omega
    have ex : S t ++ Str.ofString "x" = S (t ++ [120]) := S_app t [120]
    rw [ex]
    obtain ⟨g1, g2, g3, g4⟩ := pen_new (o := .lst [.str (S t), .str (S (t ++ [120])), .str (Str.ofString "bytes")]) k1 hp1 hp3
    refine ⟨c, l, n + 1, 2, rfl, rfl, g2, by omega, by omega, by omega, fun d2 H2 hd2 k2 hp2 => ⟨_, rfl, _, SqL.of (k2 _ _ g4 upd_same), fun p2 hp4 => ?_⟩⟩
    have e : (2 : Int) + (d2 : Int) = ((2 + d2 : Nat) : Int) := by omega
    have ev : [V.str (S t), .str (S (t ++ [120])), .str (Str.ofString "bytes")] = txV [t, t ++ [120], T "bytes"] := rfl
    rw [e, cutV_pre, ev, txV_take]
    have hkn := kinds_odd (j := 2 + d2) hok (by omega)
    obtain ⟨w1, w2, w3, w4⟩ := pen_new (o := .lst (txV ([t, t ++ [120], T "bytes"].take (2 + d2)))) (K1.trans g1 k2) hp2 hp4
    refine ⟨c, l, n + 1 + 1, 2, rfl, rfl, w2, by omega, by omega, by omega, fun d3 H3 hd3 k3 hp5 => ⟨rfl, ?_⟩⟩
    have hl3 := k3 _ _ w4 upd_same
    split
    · exact hq p2 _ _ hkn (K1.trans w1 k3) w3 w4 hl3 (hp5.le (by omega))
    · simp only [tRevL, tVar]
      refine ⟨_, rfl, p2, _, rfl, SqL.of hl3, fun p6 hp6 => ?_⟩
      obtain ⟨y1, y2, y3, y4⟩ := pen_new (o := .lst (txV ([t, t ++ [120], T "bytes"].take (2 + d2))).reverse) (K1.trans w1 k3) hp5 hp6
      refine hq p6 _ _ hkn.rev y1 y3 y4 ?_ (y2.le (by omega))
      rw [upd_same]
      unfold txV
      rw [List.map_reverse]
end
end Mp

set_option maxHeartbeats 4000000
/-! Ky6: rows of pairs that grow -/
namespace Mp
open PySem PySem.Spec PyProof.Rows L2
/-- the length of a joined text and one more -/
def Fs.long : Fs → Nat
  | .nil => 0
  | .cons n p r => n.length + 1 + p.text.length + 1 + r.long
theorem Fs.long_snoc : ∀ (fs : Fs) (n : List Nat) (p : Pt), (fs.snoc n p).long = fs.long + (n.length + 1 + p.text.length + 1)
  | .nil, n, p => by simp [Fs.snoc, Fs.long]
  | .cons m q r, n, p => by
    show m.length + 1 + q.text.length + 1 + (r.snoc n p).long = m.length + 1 + q.text.length + 1 + r.long + _
    rw [Fs.long_snoc r n p]
    omega
theorem tail_long (sep cl : Nat) : ∀ r : Fs, (tailT sep cl r).length = r.long + 1
  | .nil => rfl
  | .cons n p r => by
    have := tail_long sep cl r
    simp [tailT, Fs.long, this]
    omega
theorem join_long (sep cl : Nat) : ∀ fs : Fs, 1 ≤ fs.len → (TL.joinL [sep] fs.texts ++ [cl]).length = fs.long
  | .nil, h => by
    have h : (1 : Nat) ≤ 0 := h
    omega
  | .cons n p r, _ => by
    rw [join_tail]
    have := tail_long sep cl r
    simp [Fs.long, this]
    omega
theorem FsOkk.snoc {ks : List Knd} : ∀ {fs : Fs} {n : List Nat} {p : Pt}, FsOkk ks fs → nameOk n = true → PtOk ks p → FsOkk ks (fs.snoc n p)
  | .nil, n, p, h, hn, hp => ⟨hn, hp, trivial⟩
  | .cons m q r, n, p, h, hn, hp => ⟨h.1, h.2.1, FsOkk.snoc h.2.2 hn hp⟩
end Mp

set_option maxHeartbeats 4000000
/-! Ky5: plans of parts -/
namespace Mp
open PySem PySem.Spec PyProof.Rows L2
open StX (tMakeR run_makeR pe_makeR)
open He (ga ma fAd)
/-- how often a plan of that depth draws; how long its text is -/
def drawsOf : Nat → Nat | 0 => 3 | 1 => 27 | 2 => 84 | 3 => 171 | _ => 345
def longOf : Nat → Nat | 0 => 9 | 1 => 154 | 2 => 494 | 3 => 1010 | _ => 2042
section
variable {P : Program} {w : World} {K : PySem.W.Frag} {mg : Str → Option Value} {base : Heap}
mutual
def PlanAt (F : Addr → Prop) (H : Hp) : Pt → Addr → Prop
  | .kind n t, a => H a = some (.tup [.str "kind", .str (S n), .int (t : Nat)])
  | .byte, a => H a = some (.tup [.str "byte"])
  | .use n, a => H a = some (.tup [.str "use", .str (S n)])
  | .row n p, a => ∃ b, H a = some (.tup [.str "row", .int (n : Nat), .ref b]) ∧ PlanAt F H p b
  | .rec_ fs, a => ∃ t xs, H a = some (.tup [.str "record", .ref t]) ∧ F t ∧ H t = some (.lst xs) ∧ FsPl F H fs xs
  | .ovl fs, a => ∃ t xs, H a = some (.tup [.str "overlay", .ref t]) ∧ F t ∧ H t = some (.lst xs) ∧ FsPl F H fs xs
def FsPl (F : Addr → Prop) (H : Hp) : Fs → List V → Prop
  | .nil, xs => xs = []
  | .cons n p r, xs => ∃ q b ys, xs = .ref q :: ys ∧ H q = some (.tup [.str (S n), .ref b]) ∧ PlanAt F H p b ∧ FsPl F H r ys
end
mutual
theorem PlanAt.mono {F G : Addr → Prop} {H H' : Hp} (s : ∀ a xs, H a = some (.tup xs) → H' a = some (.tup xs)) (g : ∀ a o, F a → H a = some o → H' a = some o ∧ G a) : ∀ {p : Pt} {a : Addr}, PlanAt F H p a → PlanAt G H' p a
  | .kind n t, a, h => s a _ h
  | .byte, a, h => s a _ h
  | .use n, a, h => s a _ h
  | .row n p, a, h => by
    obtain ⟨b, h1, h2⟩ := h
    exact ⟨b, s a _ h1, PlanAt.mono s g h2⟩
  | .rec_ fs, a, h => by
    obtain ⟨t, xs, h1, h2, h3, h4⟩ := h
    exact ⟨t, xs, s a _ h1, (g t _ h2 h3).2, (g t _ h2 h3).1, FsPl.mono s g h4⟩
  | .ovl fs, a, h => by
    obtain ⟨t, xs, h1, h2, h3, h4⟩ := h
    exact ⟨t, xs, s a _ h1, (g t _ h2 h3).2, (g t _ h2 h3).1, FsPl.mono s g h4⟩
theorem FsPl.mono {F G : Addr → Prop} {H H' : Hp} (s : ∀ a xs, H a = some (.tup xs) → H' a = some (.tup xs)) (g : ∀ a o, F a → H a = some o → H' a = some o ∧ G a) : ∀ {fs : Fs} {xs : List V}, FsPl F H fs xs → FsPl G H' fs xs
  | .nil, xs, h => h
  | .cons n p r, xs, h => by
    obtain ⟨q, b, ys, e, h1, h2, h3⟩ := h
    exact ⟨q, b, ys, e, s q _ h1, PlanAt.mono s g h2, FsPl.mono s g h3⟩
end
theorem FsPl.snoc {F : Addr → Prop} {H : Hp} {n : List Nat} {p : Pt} {q b : Addr} (hq : H q = some (.tup [.str (S n), .ref b])) (hp : PlanAt F H p b) : ∀ {fs : Fs} {xs : List V}, FsPl F H fs xs → FsPl F H (fs.snoc n p) (xs ++ [.ref q])
  | .nil, xs, h => by
    have h : xs = [] := h
    subst h
    exact ⟨q, b, [], rfl, hq, hp, rfl⟩
  | .cons m r fs, xs, h => by
    obtain ⟨q2, b2, ys, rfl, h1, h2, h3⟩ := h
    exact ⟨q2, b2, _, rfl, h1, h2, FsPl.snoc hq hp h3⟩
def PairAt (H : Hp) (k : Knd) (x : V) : Prop := ∃ q, x = .ref q ∧ H q = some (.tup [.str (S k.1), .int (k.2 : Nat)])
structure PlanEnv (H : Hp) (c l qp qt qs : Addr) (n : Nat) (ks : List Knd) (ts ss : List (List Nat)) (ps : List V) : Prop where
  pen : PenAt H c l n
  np : qp ≠ c
  nt : qt ≠ c
  ns : qs ≠ c
  hp : H qp = some (.lst ps)
  ht : H qt = some (.lst (txV ts))
  hs : H qs = some (.lst (txV ss))
  each : ∀ x ∈ ps, ∃ k ∈ ks, PairAt H k x
  kok : ∀ k ∈ ks, nameOk k.1 = true ∧ 1 ≤ k.2 ∧ k.2 ≤ 8
  tok : ∀ t ∈ ts, nameOk t = true
  sok : SignsOk 8 ss
  pne : ps ≠ []
  pl : ps.length ≤ 3
  tne : ts ≠ []
  tl : ts.length ≤ 8
theorem PlanEnv.k1 {H H' : Hp} {c l qp qt qs : Addr} {n m : Nat} {ks : List Knd} {ts ss : List (List Nat)} {ps : List V} (h : PlanEnv H c l qp qt qs n ks ts ss ps) (k : K1 c H H') (hp : PenAt H' c l m) : PlanEnv H' c l qp qt qs m ks ts ss ps := by
  refine { h with pen := hp, hp := k _ _ h.np h.hp, ht := k _ _ h.nt h.ht, hs := k _ _ h.ns h.hs, each := fun x hx => ?_ }
  obtain ⟨kk, hk, q, e, hq⟩ := h.each x hx
  refine ⟨kk, hk, q, e, k _ _ (fun z => ?_) hq⟩
  obtain ⟨_, _, _, h1, _⟩ := h.pen
  rw [z, h1] at hq
  cases hq
def spPlan (d : Nat) (K : PySem.W.Frag) : Sp := sp5 fun a b e f g H Q _ => ∃ (c l qp qt qs : Addr) (n : Nat) (ks : List Knd) (ts ss : List (List Nat)) (ps : List V), a = .ref c ∧ b = .ref qp ∧ e = .ref qt ∧ f = .ref qs ∧ g = .int ((d : Nat) : Int) ∧ PlanEnv H c l qp qt qs n ks ts ss ps ∧ n + drawsOf d < 1000000 ∧
  ∀ a p H', K1 c H H' → PenAt H' c l (n + drawsOf d) → PlanAt (fun t => H t = none) H' p a → PtOk ks p → p.depth ≤ d → p.text.length ≤ longOf d → Q (.ref a) H'
theorem draws_step : ∀ d, d ≤ 3 → 2 + drawsOf d ≤ drawsOf (d + 1) ∧ longOf d + 3 ≤ longOf (d + 1)
  | 0, _ => by decide
  | 1, _ => by decide
  | 2, _ => by decide
  | 3, _ => by decide
  | n + 4, h => by omega
theorem draws_many {d1 n many : Nat} (h : d1 ≤ 3) (h1 : 1 ≤ many) (hm : many ≤ 3 - (if d1 + 1 > 2 then 1 else 0) ∨ d1 + 1 = 1 ∧ many ≤ 8) : n + 3 + drawsOf d1 * many ≤ n + drawsOf (d1 + 1) := by
  have : ∀ d1, d1 ≤ 3 → ∀ many, many ≤ 8 → (many ≤ 3 - (if d1 + 1 > 2 then 1 else 0) ∨ d1 + 1 = 1) → 3 + drawsOf d1 * many ≤ drawsOf (d1 + 1) := by decide
  have h2 := this d1 h many (by rcases hm with h | h; · omega
                                · exact h.2) (hm.imp id fun h => h.1)
  omega
theorem long_many {d1 many v : Nat} (h : d1 ≤ 3) (h1 : 1 ≤ many) (hm : many ≤ 3 - (if d1 + 1 > 2 then 1 else 0) ∨ d1 + 1 = 1 ∧ many ≤ 8) (hv : v ≤ many * (10 + longOf d1)) : v + 1 ≤ longOf (d1 + 1) := by
  have : ∀ d1, d1 ≤ 3 → ∀ many, many ≤ 8 → (many ≤ 3 - (if d1 + 1 > 2 then 1 else 0) ∨ d1 + 1 = 1) → many * (10 + longOf d1) + 1 ≤ longOf (d1 + 1) := by decide
  have h2 := this d1 h many (by rcases hm with h | h; · omega
                                · exact h.2) (hm.imp id fun h => h.1)
  omega
theorem PlanAt.up {H H2 H3 H4 : Hp} {c l : Addr} {n : Nat} {p : Pt} {a : Addr} (k : K1 c H H2) (hp : PenAt H2 c l n) (h : PlanAt (fun t => H2 t = none) H3 p a) (e : Ex H3 H4) : PlanAt (fun t => H t = none) H4 p a :=
  PlanAt.mono (fun _ _ h => e _ _ h) (fun _ _ f h => ⟨e _ _ h, K1.free k (hp.nec f) f⟩) h
theorem numL_short {n : Nat} (h1 : 1 ≤ n) (h2 : n ≤ 64) : (TL.numL n).length ≤ 2 := by
  by_cases h : n < 10
  · rw [TL.numL_lt h]; simp
  · rw [numL_two (by omega) h2]; simp
theorem draws_ge (d : Nat) : 3 ≤ drawsOf d ∧ 9 ≤ longOf d := by
  unfold drawsOf longOf
  split <;> simp
theorem leaf_end {d n n3 way : Nat} {c l p p1 p2 p3 : Addr} {H Hx : Hp} {Q : VK} {ks : List Knd} {k : Knd} {t : List Nat}
    (hq : ∀ a p H', K1 c H H' → PenAt H' c l (n + drawsOf d) → PlanAt (fun t => H t = none) H' p a → PtOk ks p → p.depth ≤ d → p.text.length ≤ longOf d → Q (.ref a) H')
    (k1 : K1 c H (upd Hx p3 (.lst [.ref p, .ref p1, .ref p2]))) (hp : PenAt (upd Hx p3 (.lst [.ref p, .ref p1, .ref p2])) c l n3) (hn : n3 ≤ n + 3)
    (h1 : upd Hx p3 (.lst [.ref p, .ref p1, .ref p2]) p = some (.tup [.str "byte"])) (h2 : upd Hx p3 (.lst [.ref p, .ref p1, .ref p2]) p1 = some (.tup [.str "kind", .str (S k.1), .int (k.2 : Nat)])) (h3 : upd Hx p3 (.lst [.ref p, .ref p1, .ref p2]) p2 = some (.tup [.str "use", .str (S t)]))
    (hk : nameOk k.1 = true ∧ k ∈ ks) (ht : nameOk t = true) : ∃ x, SqL K (upd Hx p3 (.lst [.ref p, .ref p1, .ref p2])) p3 x ∧ ∃ x_1, atI x ((way : Int) % 3) = some x_1 ∧ Q x_1 (upd Hx p3 (.lst [.ref p, .ref p1, .ref p2])) := by
  obtain ⟨hd1, hd2⟩ := draws_ge d
  have hp' := hp.le (m := n + drawsOf d) (by omega)
  refine ⟨_, SqL.of upd_same, ?_⟩
  have hw : (way : Int) % 3 = 0 ∨ (way : Int) % 3 = 1 ∨ (way : Int) % 3 = 2 := by omega
  rcases hw with e | e | e
  · rw [e]
    exact ⟨.ref p, rfl, hq p .byte _ k1 hp' h1 trivial (Nat.zero_le _) (by show 4 ≤ _; omega)⟩
  · rw [e]
    exact ⟨.ref p1, rfl, hq p1 (.kind k.1 k.2) _ k1 hp' h2 hk (Nat.zero_le _) (by have := (nameOk_le hk.1).2; show k.1.length ≤ _; omega)⟩
  · rw [e]
    exact ⟨.ref p2, rfl, hq p2 (.use t) _ k1 hp' h3 ht (Nat.zero_le _) (by have := (nameOk_le ht).2; show t.length + 1 ≤ _; omega)⟩
def spPlanLow (K : PySem.W.Frag) : Nat → Sp
  | 0 => fun _ _ _ _ => False
  | d + 1 => spPlan d K
theorem sc__law_plan : FnScope ["pen", "pairs", "titles", "signs", "depth", "way", "many", "some", "title", "times", "sign"] ["pen", "pairs", "titles", "signs", "depth"] (defScope s__law_plan) := ⟨rfl, rfl, rfl, by decide +kernel, rfl, by decide +kernel, by decide +kernel⟩
theorem ok__law_plan (z : Zk K mg base) (c__law_draw : Cal P w K mg base "_law_draw" 2 spDraw) (c__law_pick : Cal P w K mg base "_law_pick" 3 spPick) {d : Nat} {k : Nat} (c__law_plan : Cal P w K mg base "_law_plan" k (spPlanLow K d)) (hk : 3 ≤ k) (hd : d ≤ 4) : Cal P w K mg base "_law_plan" (k + 1) ((spPlan d K)) := by
  obtain ⟨fd, F⟩ := z.d__law_plan
  refine cal_of F z.g__law_plan sc__law_plan (fun _ _ _ _ _ _ us hl => match us, hl with | [_, _, _, _, _], _ => rfl) (fun vs H Q E h => by match vs, h with | [_, _, _, _, _], _ => rfl) (fun cdv A outer s H vs Q E hr h => ?_)
  have nd := sc__law_plan.nd
  have hu : (cxOf (L2.CX P w) P w K mg base ["pen", "pairs", "titles", "signs", "depth", "way", "many", "some", "title", "times", "sign"] "_law_plan" (defScope s__law_plan) (fAd K ("_law_plan", none)) cdv A outer s H E).A.units + 64 < cLine := hr.units
  have hu0 := hr.units0
  have hu1 := hu_of hr
  match vs, h with
  | [a0, a1, a2, a3, a4], h =>
  obtain ⟨c, l, qp, qt, qs, n, ks, ts, ss, ps, rfl, rfl, rfl, rfl, rfl, env, hn, hq⟩ := h
  have hdg := (draws_ge d).1
  obtain ⟨t5, hT5, hR5⟩ : ∃ t, PSs (cxOf (L2.CX P w) P w K mg base ["pen", "pairs", "titles", "signs", "depth", "way", "many", "some", "title", "times", "sign"] "_law_plan" (defScope s__law_plan) (fAd K ("_law_plan", none)) cdv A outer s H E) ((defBody s__law_plan).drop 5) t ∧ ∀ (d1 way many : Nat) (x7 x8 x9 x10 : Option V) H2, d = d1 + 1 → 1 ≤ many → (many ≤ 3 - (if d > 2 then 1 else 0) ∨ d = 1 ∧ many ≤ 8 ∧ (way = 4 → many ≤ 4)) → K1 c H H2 → PenAt H2 c l (n + 3) →
      t { nx := fun _ H' => Q .non H', rt := Q } [some (.ref c), some (.ref qp), some (.ref qt), some (.ref qs), some (.int (d : Nat)), some (.int (way : Nat)), some (.int (many : Nat)), x7, x8, x9, x10] H2 := by
    refine ⟨_, (pss_cons (ps_setLc (i := 7) rfl nd rfl rfl (sw_true rfl rfl rfl rfl) (k_pi_list (K := K) rfl (pe_slice (k_sl_list (K := K) rfl) (pv 3) po_none (po_some (pv 6)))) (blkOk_by (N := ["pen", "pairs", "titles", "signs", "depth", "way", "many", "some", "title", "times", "sign"]) (sc := defScope s__law_plan) (own := [("sign", 10)]) (by decide +kernel)) (fun _ _ _ _ _ => (pg_name nd (i := 10) rfl (Or.inl rfl))) (fun _ _ _ _ _ => pts_nil) (fun _ _ _ _ _ => (pe_tup (pa_cons (pv 10) (pa_cons (pe_fn c__law_plan hr passL (pa_cons (pv 0) (pa_cons (pv 1) (pa_cons (pv 2) (pa_cons (pv 3) (pa_cons (pe_op op_sub (pv 4) pe_int) pa_nil))))) (by omega)) pa_nil)))))
      (pss_one (ps_ret (pe_tup (pa_cons (pe_ifExp (pt_cmpR op_eq (pv 5) pe_int (nomark _)) pe_str pe_str) (pa_cons (pv 7) pa_nil)))))), fun d1 way many x7 x8 x9 x10 H2 hd1 hm1 hm k1 hp2 => ?_⟩
    subst hd1
    have hst := draws_step d1 (by omega)
    have hm8 : many ≤ 8 := by
      rcases hm with h | ⟨_, h, _⟩
      · omega
      · exact h
    have hmq : n + 3 + drawsOf d1 * many ≤ n + drawsOf (d1 + 1) := draws_many (by omega) hm1 (hm.imp id fun h => ⟨h.1, h.2.1⟩)
    simp [tRet, tRetN, tSeq, tIfS, tDrop, tNext, tNever, tBreak, tCont, tAsg, gName, gCons, gNil, gTup, tAndV, tOrV, tNotV, tAnd, tOr, tNot, tOp, tUn, tVar, tC, tB, tTest, tIf, tCons, tNil, tCB, tTup, tLst, tFld, sFld, sFldAug, rAdd, rSub, tSl, tPart, tNoPart, rI0, rI, rU, rEq, rNe, rSlS, rSlL, rIxL, rIxT, rIxS, tChain, tFn, tMt, tM1, tM0, tBM, rAppend, rIn, tIsN, tNotN, scal_ss, scal_ii, let_nil, let_one, fig_nil, fig_one, LenV_str, L2.start, cxOf, and_assoc, tJs, tFmt, put_at, lk_at, lk_script, lk_upcoming, lk_refuse, lk_skips, lk_expect, lk_word_of, lk_name_unlike, lk_number_to, lk_finish, sp0, sp1, sp2, sp3, sp4, sp5, -List.lookup_eq_none_iff]
    rw [lc_from]
    simp [tRet, tRetN, tSeq, tIfS, tDrop, tNext, tNever, tBreak, tCont, tAsg, gName, gCons, gNil, gTup, tAndV, tOrV, tNotV, tAnd, tOr, tNot, tOp, tUn, tVar, tC, tB, tTest, tIf, tCons, tNil, tCB, tTup, tLst, tFld, sFld, sFldAug, rAdd, rSub, tSl, tPart, tNoPart, rI0, rI, rU, rEq, rNe, rSlS, rSlL, rIxL, rIxT, rIxS, tChain, tFn, tMt, tM1, tM0, tBM, rAppend, rIn, tIsN, tNotN, scal_ss, scal_ii, let_nil, let_one, fig_nil, fig_one, LenV_str, L2.start, cxOf, and_assoc, tJs, tFmt, put_at, lk_at, lk_script, lk_upcoming, lk_refuse, lk_skips, lk_expect, lk_word_of, lk_name_unlike, lk_number_to, lk_finish, sp0, sp1, sp2, sp3, sp4, sp5, -List.lookup_eq_none_iff, iList]
    have env2 := env.k1 k1 hp2
    refine ⟨_, SqL.of env2.hs, fun pp hpp => ⟨⟨_, SqL.of upd_same⟩, ?_⟩⟩
    rw [cutV_pre, txV_take]
    obtain ⟨g1, g2, g3, g4⟩ := pen_new (o := .lst (txV (ss.take many))) k1 hp2 hpp
    have env3 := env.k1 g1 g2
    have hlen : (txV (ss.take many)).length = many := by
      have := env.sok.len
      simp [txV]
      omega
    refine lcf_penL (c := c) (l := l) (n := n + 3) (fun D i acc H' => ∃ fs : Fs, FsPl (fun t => upd H2 pp (.lst (txV (ss.take many))) t = none ∧ t ≠ D) H' fs acc ∧ fs.names = ss.take i ∧ fs.len = i ∧ FsOkk ks fs ∧ fs.depth ≤ d1 + 1 ∧ fs.long ≤ i * (10 + longOf d1)) (drawsOf d1) monG_name monT_yes upd_same g4 (by omega) g2 (fun D => ⟨.nil, rfl, rfl, rfl, trivial, Nat.zero_le _, Nat.zero_le _⟩) (fun D i acc H3 H4 k3 ⟨fs, a1, a2⟩ => ⟨fs, ?_, a2⟩) (fun i x hx => ?_) (fun D acc H3 hD hDc k3 hp3 hDl hal ⟨fs, a1, a2, a3, a4, a5, a6⟩ => ?_)
    · exact FsPl.mono k3.2 (fun t o f h => ⟨k3.1 t o f.2 h, f⟩) a1
    · intro D acc H3 R hD hDc k3 hp3 hDl ⟨fs, a1, a2, a3, a4, a5, a6⟩ hR
      have hi : i < many := by
        have := (List.getElem?_eq_some_iff.mp hx).1
        omega
      obtain ⟨nm, hnm, rfl⟩ : ∃ nm, (ss.take many)[i]? = some nm ∧ x = .str (S nm) := by
        unfold txV at hx
        rw [List.getElem?_map] at hx
        cases e : (ss.take many)[i]? with
        | none => rw [e] at hx; cases hx
        | some nm => rw [e] at hx; exact ⟨nm, rfl, (Option.some.inj hx).symm⟩
      have hnm2 : ss[i]? = some nm := by
        rw [List.getElem?_take_of_lt hi] at hnm
        exact hnm
      have hnok := env.sok.ok nm (List.mem_of_getElem? hnm2)
      have hmul : drawsOf d1 * (i + 1) ≤ drawsOf d1 * many := Nat.mul_le_mul_left _ (by omega)
      have hmul2 : drawsOf d1 * (i + 1) = drawsOf d1 * i + drawsOf d1 := Nat.mul_succ _ _
      have ed : ((d1 : Int) + 1) - 1 = (d1 : Int) := by omega
      simp [tRet, tRetN, tSeq, tIfS, tDrop, tNext, tNever, tBreak, tCont, tAsg, gName, gCons, gNil, gTup, tAndV, tOrV, tNotV, tAnd, tOr, tNot, tOp, tUn, tVar, tC, tB, tTest, tIf, tCons, tNil, tCB, tTup, tLst, tFld, sFld, sFldAug, rAdd, rSub, tSl, tPart, tNoPart, rI0, rI, rU, rEq, rNe, rSlS, rSlL, rIxL, rIxT, rIxS, tChain, tFn, tMt, tM1, tM0, tBM, rAppend, rIn, tIsN, tNotN, scal_ss, scal_ii, let_nil, let_one, fig_nil, fig_one, LenV_str, L2.start, cxOf, and_assoc, tJs, tFmt, put_at, lk_at, lk_script, lk_upcoming, lk_refuse, lk_skips, lk_expect, lk_word_of, lk_name_unlike, lk_number_to, lk_finish, sp0, sp1, sp2, sp3, sp4, sp5, -List.lookup_eq_none_iff, LcTurn, tYes, wipe, spPlanLow, ed]
      refine ⟨c, l, qp, qt, qs, n + 3 + drawsOf d1 * i, ks, ts, ss, ps, rfl, rfl, rfl, rfl, rfl, env3.k1 k3 hp3, by omega, fun a p H4 k4 hp4 hpl hpo hpd hpt => ⟨by decide, fun b hb => ?_⟩⟩
      have hbc := hp4.nec hb
      refine hR _ _ (K1.trans k4 (K1.of (Ex.new hb))) ((hp4.ex (Ex.new hb)).le (by omega)) ⟨fs.snoc nm p, ?_, ?_, ?_, a4.snoc hnok hpo, ?_, ?_⟩
      · have tup_ne : ∀ t xs, H3 t = some (.tup xs) → t ≠ c := fun t xs e z => by
          obtain ⟨_, _, _, h1, _⟩ := hp3
          rw [z, h1] at e
          cases e
        refine FsPl.snoc upd_same (PlanAt.mono (fun _ _ h => Ex.new hb _ _ h) (fun t o f h => ⟨Ex.new hb _ _ h, K1.free k3 (hp3.nec f) f, fun z => ?_⟩) hpl) (FsPl.mono (fun t xs e => Ex.new hb _ _ (k4 _ _ (tup_ne t xs e) e)) (fun t o f h => ⟨Ex.new hb _ _ (k4 _ _ (g2.nec f.1) h), f⟩) a1)
        rw [z, hDl] at f
        cases f
      · rw [Fs.names_snoc, a2, List.take_add_one, hnm2]
        rfl
      · rw [Fs.len_snoc, a3]
      · rw [Fs.depth_snoc]; omega
      · rw [Fs.long_snoc, Nat.succ_mul]
        have := (nameOk_le hnok).2
        omega
    · rw [hlen] at a2 a3 a6 hp3
      have hfl : 1 ≤ fs.len := by omega
      have hnd : fs.names.Nodup := by
        rw [a2]
        exact env.sok.nd.sublist (List.take_sublist _ _)
      have k4 := K1.trans g1 k3
      have hlong : fs.long + 1 ≤ longOf (d1 + 1) := long_many (by omega) hm1 (hm.imp id fun h => ⟨h.1, h.2.1⟩) a6
      have hD0 : H D = none := K1.free g1 hDc hD
      have up : ∀ b o, H3 b = none → FsPl (fun t => H t = none) (upd H3 b o) fs acc := fun b o hb => FsPl.mono (fun _ _ h => Ex.new hb _ _ h) (fun t o f h => ⟨Ex.new hb _ _ h, K1.free g1 (g2.nec f.1) f.1⟩) a1
      split
      · rename_i hw4
        have hw : way = 4 := by omega
        have h4 : many ≤ 4 := by
          rcases hm with h | ⟨_, _, h⟩
          · omega
          · exact h hw
        refine ⟨by decide, fun b hb => ?_⟩
        obtain ⟨y1, y2, y3, y4⟩ := pen_new (o := .tup [.str "overlay", .ref D]) k4 hp3 hb
        refine hq b (.ovl fs) _ y1 (y2.le (by omega)) ⟨D, acc, upd_same, hD0, Ex.new hb _ _ hDl, up _ _ hb⟩ ⟨hfl, by omega, hnd, a4⟩ a5 ?_
        show (40 :: (TL.joinL [124] fs.texts ++ [41])).length ≤ _
        rw [List.length_cons, join_long 124 41 fs hfl]
        exact hlong
      · refine ⟨by decide, fun b hb => ?_⟩
        obtain ⟨y1, y2, y3, y4⟩ := pen_new (o := .tup [.str "record", .ref D]) k4 hp3 hb
        refine hq b (.rec_ fs) _ y1 (y2.le (by omega)) ⟨D, acc, upd_same, hD0, Ex.new hb _ _ hDl, up _ _ hb⟩ ⟨hfl, by omega, hnd, a4⟩ a5 ?_
        show (123 :: (TL.joinL [32] fs.texts ++ [125])).length ≤ _
        rw [List.length_cons, join_long 32 125 fs hfl]
        exact hlong
  refine ⟨_, (pss_cons (ps_set (i := 5) nd rfl (Or.inl rfl) (pe_fn c__law_draw hr (passD (E := E)) (pa_cons (pv 0) (pa_cons pe_int pa_nil)) (by omega)))
      (pss_cons (ps_if (PW.pt (pw_or (pt_cmpR op_eq (pv 4) pe_int (nomark _)) (pw_or1 (pt_cmpR op_lt (pv 5) pe_int (nomark _))))) (pss_cons (ps_asg (pe_fn c__law_pick hr (passD (E := E)) (pa_cons (pv 0) (pa_cons (pv 1) pa_nil)) (by omega)) (k_pg_tup (K := K) (n := 2) rfl rfl (pgs_cons (pg_name nd (i := 8) rfl (Or.inl rfl)) (pgs_cons (pg_name nd (i := 9) rfl (Or.inl rfl)) pgs_nil))))
      (pss_one (ps_ret (pe_ix (k_ix_list (K := K) rfl) (pe_lst (pa_cons (pe_tup (pa_cons pe_str pa_nil)) (pa_cons (pe_tup (pa_cons pe_str (pa_cons (pv 8) (pa_cons (pv 9) pa_nil)))) (pa_cons (pe_tup (pa_cons pe_str (pa_cons (pe_fn c__law_pick hr (passD (E := E)) (pa_cons (pv 0) (pa_cons (pv 2) pa_nil)) (by omega)) pa_nil))) pa_nil)))) (pe_op op_mod (pe_callTy call_int1 rfl z.b_int boot_int (pa_cons (pv 5) pa_nil)) pe_int) fun _ _ => rfl)))) pss_nil)
      (pss_cons (ps_if (pt_cmpR op_eq (pv 5) pe_int (nomark _)) (pss_one (ps_ret (pe_tup (pa_cons pe_str (pa_cons (pe_op op_add pe_int (pe_fn c__law_draw hr (passD (E := E)) (pa_cons (pv 0) (pa_cons pe_int pa_nil)) (by omega))) (pa_cons (pe_fn c__law_plan hr (passD (E := E)) (pa_cons (pv 0) (pa_cons (pv 1) (pa_cons (pv 2) (pa_cons (pv 3) (pa_cons (pe_op op_sub (pv 4) pe_int) pa_nil))))) (by omega)) pa_nil)))))) pss_nil)
      (pss_cons (ps_set (i := 6) nd rfl (Or.inl rfl) (pe_op op_add pe_int (pe_fn c__law_draw hr (passD (E := E)) (pa_cons (pv 0) (pa_cons (pe_op op_sub pe_int (pe_callTy call_int1 rfl z.b_int boot_int (pa_cons (pe_cmpR op_gt (pv 4) pe_int (nomark _)) pa_nil))) pa_nil)) (by omega))))
      (pss_cons (ps_if (PW.pt (pw_and (pt_cmpR op_eq (pv 4) pe_int (nomark _)) (pw_and1 (pt_cmpR op_eq (pe_fn c__law_draw hr (passD (E := E)) (pa_cons (pv 0) (pa_cons pe_int pa_nil)) (by omega)) pe_int (nomark _))))) (pss_one (ps_set (i := 6) nd rfl (Or.inl rfl) (pe_op op_add pe_int (pe_op op_mul pe_int (pe_callTy call_int1 rfl z.b_int boot_int (pa_cons (pe_cmpR op_gt (pv 5) pe_int (nomark _)) pa_nil)))))) pss_nil)
      hT5))))), ?_⟩
  simp [tRet, tRetN, tSeq, tIfS, tDrop, tNext, tNever, tBreak, tCont, tAsg, gName, gCons, gNil, gTup, tAndV, tOrV, tNotV, tAnd, tOr, tNot, tOp, tUn, tVar, tC, tB, tTest, tIf, tCons, tNil, tCB, tTup, tLst, tFld, sFld, sFldAug, rAdd, rSub, tSl, tPart, tNoPart, rI0, rI, rU, rEq, rNe, rSlS, rSlL, rIxL, rIxT, rIxS, tChain, tFn, tMt, tM1, tM0, tBM, rAppend, rIn, tIsN, tNotN, scal_ss, scal_ii, let_nil, let_one, fig_nil, fig_one, LenV_str, L2.start, cxOf, and_assoc, tJs, tFmt, put_at, lk_at, lk_script, lk_upcoming, lk_refuse, lk_skips, lk_expect, lk_word_of, lk_name_unlike, lk_number_to, lk_finish, sp0, sp1, sp2, sp3, sp4, sp5, -List.lookup_eq_none_iff]
  refine ⟨c, l, n, 8, rfl, rfl, env.pen, by omega, by omega, by omega, fun way H1 hway k1 hp1 => ?_⟩
  have env1 := env.k1 k1 hp1
  simp [tRet, tRetN, tSeq, tIfS, tDrop, tNext, tNever, tBreak, tCont, tAsg, gName, gCons, gNil, gTup, tAndV, tOrV, tNotV, tAnd, tOr, tNot, tOp, tUn, tVar, tC, tB, tTest, tIf, tCons, tNil, tCB, tTup, tLst, tFld, sFld, sFldAug, rAdd, rSub, tSl, tPart, tNoPart, rI0, rI, rU, rEq, rNe, rSlS, rSlL, rIxL, rIxT, rIxS, tChain, tFn, tMt, tM1, tM0, tBM, rAppend, rIn, tIsN, tNotN, scal_ss, scal_ii, let_nil, let_one, fig_nil, fig_one, LenV_str, L2.start, cxOf, and_assoc, tJs, tFmt, put_at, lk_at, lk_script, lk_upcoming, lk_refuse, lk_skips, lk_expect, lk_word_of, lk_name_unlike, lk_number_to, lk_finish, sp0, sp1, sp2, sp3, sp4, sp5, -List.lookup_eq_none_iff]
  split
  · refine ⟨c, l, n + 1, rfl, hp1, by omega, Or.inl ⟨qp, ps, rfl, env.np, env1.hp, env.pne, by have := env.pl; omega, fun v H2 hv k2 hp2 => ?_⟩⟩
    have env2 := env1.k1 k2 hp2
    obtain ⟨kk, hkk, qq, rfl, hqq⟩ := env2.each v hv
    refine ⟨qq, rfl, _, SqT.of hqq, rfl, _, _, rfl, _, _, rfl, rfl, by decide, fun p hp3 => ⟨by decide, fun p1 hp4 => ?_⟩⟩
    obtain ⟨g1, g2, g3, g4⟩ := pen_new (o := .tup [.str "byte"]) (K1.trans k1 k2) hp2 hp3
    obtain ⟨w1, w2, w3, w4⟩ := pen_new (o := .tup [.str "kind", .str (S kk.1), .int (kk.2 : Nat)]) g1 g2 hp4
    refine ⟨c, l, n + 1 + 1, rfl, w2, by omega, Or.inl ⟨qt, txV ts, rfl, env.nt, Ex.new hp4 _ _ (Ex.new hp3 _ _ env2.ht), by have := env.tne; simpa [txV] using this, by have := env.tl; simp [txV]; omega, fun v2 H3 hv2 k3 hp5 => ⟨by decide, fun p2 hp6 => ⟨by decide, fun p3 hp7 => ?_⟩⟩⟩⟩
    obtain ⟨tt, htt, rfl⟩ := List.mem_map.mp hv2
    obtain ⟨y1, y2, y3, y4⟩ := pen_new (o := .tup [.str "use", .str (S tt)]) (K1.trans w1 k3) hp5 hp6
    obtain ⟨u1, u2, u3, u4⟩ := pen_new (o := .lst [.ref p, .ref p1, .ref p2]) y1 y2 hp7
    exact leaf_end (hq := hq) (n3 := n + 1 + 1 + 1) u1 u2 (by omega) (Ex.new hp7 _ _ (Ex.new hp6 _ _ (k3 _ _ g4 (Ex.new hp4 _ _ upd_same)))) (Ex.new hp7 _ _ (Ex.new hp6 _ _ (k3 _ _ w4 upd_same))) (Ex.new hp7 _ _ upd_same) ⟨(env.kok _ hkk).1, hkk⟩ (env.tok _ htt)
  · split
    · refine ⟨c, l, n + 1, rfl, hp1, by omega, Or.inl ⟨qp, ps, rfl, env.np, env1.hp, env.pne, by have := env.pl; omega, fun v H2 hv k2 hp2 => ?_⟩⟩
      have env2 := env1.k1 k2 hp2
      obtain ⟨kk, hkk, qq, rfl, hqq⟩ := env2.each v hv
      refine ⟨qq, rfl, _, SqT.of hqq, rfl, _, _, rfl, _, _, rfl, rfl, by decide, fun p hp3 => ⟨by decide, fun p1 hp4 => ?_⟩⟩
      obtain ⟨g1, g2, g3, g4⟩ := pen_new (o := .tup [.str "byte"]) (K1.trans k1 k2) hp2 hp3
      obtain ⟨w1, w2, w3, w4⟩ := pen_new (o := .tup [.str "kind", .str (S kk.1), .int (kk.2 : Nat)]) g1 g2 hp4
      refine ⟨c, l, n + 1 + 1, rfl, w2, by omega, Or.inl ⟨qt, txV ts, rfl, env.nt, Ex.new hp4 _ _ (Ex.new hp3 _ _ env2.ht), by have := env.tne; simpa [txV] using this, by have := env.tl; simp [txV]; omega, fun v2 H3 hv2 k3 hp5 => ⟨by decide, fun p2 hp6 => ⟨by decide, fun p3 hp7 => ?_⟩⟩⟩⟩
      obtain ⟨tt, htt, rfl⟩ := List.mem_map.mp hv2
      obtain ⟨y1, y2, y3, y4⟩ := pen_new (o := .tup [.str "use", .str (S tt)]) (K1.trans w1 k3) hp5 hp6
      obtain ⟨u1, u2, u3, u4⟩ := pen_new (o := .lst [.ref p, .ref p1, .ref p2]) y1 y2 hp7
      exact leaf_end (hq := hq) (n3 := n + 1 + 1 + 1) u1 u2 (by omega) (Ex.new hp7 _ _ (Ex.new hp6 _ _ (k3 _ _ g4 (Ex.new hp4 _ _ upd_same)))) (Ex.new hp7 _ _ (Ex.new hp6 _ _ (k3 _ _ w4 upd_same))) (Ex.new hp7 _ _ upd_same) ⟨(env.kok _ hkk).1, hkk⟩ (env.tok _ htt)
    · obtain ⟨d1, rfl⟩ : ∃ d1, d = d1 + 1 := ⟨d - 1, by omega⟩
      have hst := draws_step d1 (by omega)
      have ed : ((d1 + 1 : Nat) : Int) - 1 = ((d1 : Nat) : Int) := by omega
      split
      · refine ⟨c, l, n + 1, 64, rfl, rfl, hp1, by omega, by omega, by omega, fun x H2 hx k2 hp2 => ⟨_, rfl, ?_⟩⟩
        have k12 := K1.trans k1 k2
        rw [ed]
        refine ⟨c, l, qp, qt, qs, n + 1 + 1, ks, ts, ss, ps, rfl, rfl, rfl, rfl, rfl, env.k1 k12 hp2, by omega, fun a p H3 k3 hp3 hpl hpo hpd hpt => ⟨by decide, fun b hb => ?_⟩⟩
        obtain ⟨g1, g2, g3, g4⟩ := pen_new (o := .tup [.str "row", .int (1 + (x : Int)), .ref a]) (K1.trans k12 k3) hp3 hb
        have h2 := numL_short (n := 1 + x) (by omega) (by omega)
        refine hq b (.row (1 + x) p) _ g1 (g2.le (by omega)) ⟨a, ?_, PlanAt.up k12 hp2 hpl (Ex.new hb)⟩ ⟨by omega, by omega, hpo⟩ (by show p.depth + 1 ≤ _; omega) ?_
        · rw [upd_same, Int.natCast_add]
          rfl
        · show (TL.numL (1 + x) ++ 42 :: p.text).length ≤ _
          rw [List.length_append, List.length_cons]
          omega
      · obtain ⟨mm, em, hmm⟩ : ∃ mm : Nat, (3 : Int) - (if (2 : Int) < ((d1 + 1 : Nat) : Int) then 1 else 0) = ((mm : Nat) : Int) ∧ mm = 3 - (if d1 + 1 > 2 then 1 else 0) := by
          refine ⟨3 - (if d1 + 1 > 2 then 1 else 0), ?_, rfl⟩
          by_cases h : d1 + 1 > 2
          · rw [if_pos (by omega), if_pos h]; rfl
          · rw [if_neg (by omega), if_neg h]; rfl
        rw [em]
        have hm2 : 2 ≤ mm ∧ mm ≤ 3 := by rw [hmm]; split <;> omega
        refine ⟨c, l, n + 1, mm, rfl, rfl, hp1, by omega, by omega, by omega, fun x H2 hx k2 hp2 => ⟨_, rfl, ?_⟩⟩
        have k12 := K1.trans k1 k2
        have e1 : (1 : Int) + ((x : Nat) : Int) = ((1 + x : Nat) : Int) := by omega
        rw [e1]
        split
        · rename_i hd1
          have hd0 : d1 = 0 := by omega
          refine ⟨c, l, n + 1 + 1, 3, rfl, rfl, hp2, by omega, by omega, by omega, fun y H3 hy k3 hp3 => ⟨rfl, ?_⟩⟩
          split
          · refine ⟨?_, ?_⟩
            · left; decide
            · have e4 : (4 : Int) + 4 * (if (4 : Int) < ((way : Nat) : Int) then 1 else 0) = ((4 + 4 * (if 4 < way then 1 else 0) : Nat) : Int) := by
                by_cases h : 4 < way
                · rw [if_pos (by omega), if_pos h]; rfl
                · rw [if_neg (by omega), if_neg h]; rfl
              rw [e4]
              refine hR5 d1 way _ _ _ _ _ H3 rfl (by omega) (Or.inr ⟨by omega, by split <;> omega, fun h => by rw [if_neg (by omega)]; exact Nat.le_refl 4⟩) (K1.trans k12 k3) (hp3.le (by omega))
          · exact hR5 d1 way _ _ _ _ _ H3 rfl (by omega) (Or.inl (by rw [← hmm]; omega)) (K1.trans k12 k3) (hp3.le (by omega))
        · exact hR5 d1 way _ _ _ _ _ H2 rfl (by omega) (Or.inl (by rw [← hmm]; omega)) k12 (hp2.le (by omega))
end
end Mp

set_option maxHeartbeats 4000000
/-! Kx4: a method that captures __class__, from its body -/
namespace Mp
open PySem PySem.Spec PyProof.Rows L2
/-- such a method as it stands behind the top: its class at D -/
structure SupD (prog : Program) (K : PySem.W.Frag) (D : Addr) (x qual : Str) (params : Arguments) (body : List Stmt) (scope : Scope) (dvs : List V) (f : Addr) : Prop where
  ex : ∃ (oc : Value) (od : Option Addr) (dV kV doc pm : Value) (an : Option Addr) (cda cc : Addr) (ct : Value) (osl : Array (Option Value)),
    K.lookup f = some ⟨oc, od, .func (PySem.W.fnX x qual params body scope [("__class__", cc)] dV kV doc pm an (.ref cda) ct), osl⟩ ∧ PySem.W.codeIn K (.ref cda) qual = true ∧ DflV K dV dvs ∧
    (∃ (ccl : Value) (cdd : Option Addr) (vs : Array Value) (ccs : Array (Option Value)) (tf : Tok), K.lookup cda = some ⟨ccl, cdd, .fields vs, ccs⟩ ∧ vs[2]? = some (.str prog.main.file tf)) ∧
    ∃ (cl : Value) (cld : Option Addr) (csl : Array (Option Value)), K.lookup cc = some ⟨cl, cld, .cell (some (.ref D)), csl⟩
/-- what super() asks of the whole text -/
structure SupG (prog : Program) (K : PySem.W.Frag) : Prop where
  nosup : PySem.W.nsIn K mainGlobals "super" = some none
  top : (prog.main.scope.names.lookup ("super" : Str)).isSome = false
  opq : PySem.W.nsIn K PySem.cStatics "thirdparty.any" = some none
section
variable {P : Program} {w : World} {K : PySem.W.Frag} {mg : Str → Option Value} {base : Heap} {n qual : Str} {params : Arguments} {body : List Stmt} {scope : Scope} {f D : Addr} {N ps : List Str} {k : Nat} {sp : Sp}
abbrev BodS (P : Program) (w : World) (K : PySem.W.Frag) (mg : Str → Option Value) (base : Heap) (D : Addr) (qual : Str) (scope : Scope) (body : List Stmt) (f : Addr) (N : List Str) (k : Nat) (sp : Sp) : Prop :=
  ∀ (cd : Value) (cc : Addr) (A : Around) (outer : List Env) (s : Shared) (H : Hp) (vs : List V) (Q : VK) (E : XK), SupC P K D f cc cd → Room k (A.deeper (envS qual scope s.heap.objs.size f cd cc)) → sp vs H Q E →
      ∃ t, PSA (cxS P w K mg base N qual scope f cd cc A outer s H E) (.func body (envS qual scope s.heap.objs.size f cd cc)) body t ∧ t { nx := fun _ H' => Q .non H', rt := Q } (L2.start N vs) H
abbrev BindX (qual : Str) (n : Str) (params : Arguments) (body : List Stmt) (scope : Scope) (ps : List Str) : Prop :=
  ∀ (cc : Addr) (kV doc pm : Value) (an : Option Addr) (cdv ct : Value) (us : List Value), us.length = ps.length → bindArgs (PySem.W.fnX n qual params body scope [("__class__", cc)] .none kV doc pm an cdv ct) ⟨us, []⟩ = pure (ps.zip us)
theorem fnr_ofS {sup : SupG P K} (F : SupD P K D n qual params body scope [] f) (S : ScS N ps scope) (hself : ∃ ar : Arg, (params.posonlyargs ++ params.args).head? = some ar ∧ ar.arg = "self") (hD : ∃ cdD, PySem.W.clsIn K D = some cdD)
    (hb : BindX qual n params body scope ps) (len : ∀ vs H Q E, sp vs H Q E → vs.length = ps.length) (hbody : BodS P w K mg base D qual scope body f N k sp) : FnR P w K mg base (L2.CX P w) (k + 1) f sp := by
  obtain ⟨oc, od, dV, kV, doc, pm, an, cda, cc, ct, osl, lk, hcd, hd, hcode, hcell⟩ := F.ex
  have hdn : dV = .none := by
    rcases hd with ⟨_, h⟩ | ⟨h, _⟩
    · exact h
    · exact absurd rfl h
  subst hdn
  have hC : SupC P K D f cc (.ref cda) := by
    obtain ⟨ar, h1, h2⟩ := hself
    obtain ⟨ccl, cdd, vs, ccs, tf, h3, h4⟩ := hcode
    exact ⟨⟨_, _, _, _, ar, lk, h1, h2⟩, ⟨cda, ccl, cdd, vs, ccs, tf, rfl, h3, h4⟩, hcell, hD, sup.nosup, sup.top, sup.opq⟩
  have hcc : ∃ (cl : Value) (cld : Option Addr) (v : Option Value) (csl : Array (Option Value)), K.lookup cc = some ⟨cl, cld, .cell v, csl⟩ := by
    obtain ⟨cl, cld, csl, h⟩ := hcell
    exact ⟨cl, cld, _, csl, h⟩
  have G := fn_ofS (P := P) (w := w) (mg := mg) (base := base) lk hcd S hcc len fun A outer s H vs Q E hr h => hbody (.ref cda) cc A outer s H vs Q E hC hr h
  have b : Binds K _ ps [] := Binds.all fun us hl => hb cc kV doc pm an (.ref cda) ct us hl
  refine (G.raw b .nil).imp fun vs H Q E h => ?_
  show sp (vs ++ []) H Q E
  rw [List.append_nil]
  exact h
/-- .. with one default, all parameters written -/
abbrev BindX1 (qual : Str) (n : Str) (params : Arguments) (body : List Stmt) (scope : Scope) (ps : List Str) : Prop :=
  ∀ (cc T : Addr) (kV doc pm : Value) (an : Option Addr) (cdv ct : Value) (us its : List Value), us.length = ps.length → its.length = 1 →
    ∃ k, bindArgs (PySem.W.fnX n qual params body scope [("__class__", cc)] (.ref T) kV doc pm an cdv ct) ⟨us, []⟩ = seqItems? (.ref T) >>= k ∧ k (some its.toArray) = pure (ps.zip us)
theorem fnr_ofS1 {sup : SupG P K} {dv : V} (F : SupD P K D n qual params body scope [dv] f) (S : ScS N ps scope) (hself : ∃ ar : Arg, (params.posonlyargs ++ params.args).head? = some ar ∧ ar.arg = "self") (hD : ∃ cdD, PySem.W.clsIn K D = some cdD)
    (hb : BindX1 qual n params body scope ps) (len : ∀ vs H Q E, sp vs H Q E → vs.length = ps.length) (hbody : BodS P w K mg base D qual scope body f N k sp) : FnR P w K mg base (L2.CX P w) (k + 1) f sp := by
  obtain ⟨oc, od, dV, kV, doc, pm, an, cda, cc, ct, osl, lk, hcd, hd, hcode, hcell⟩ := F.ex
  rcases hd with ⟨h, _⟩ | ⟨_, T, o, its, nn, rfl, lT, oT, rv⟩
  · cases h
  have hC : SupC P K D f cc (.ref cda) := by
    obtain ⟨ar, h1, h2⟩ := hself
    obtain ⟨ccl, cdd, vs, ccs, tf, h3, h4⟩ := hcode
    exact ⟨⟨_, _, _, _, ar, lk, h1, h2⟩, ⟨cda, ccl, cdd, vs, ccs, tf, rfl, h3, h4⟩, hcell, hD, sup.nosup, sup.top, sup.opq⟩
  have hcc : ∃ (cl : Value) (cld : Option Addr) (v : Option Value) (csl : Array (Option Value)), K.lookup cc = some ⟨cl, cld, .cell v, csl⟩ := by
    obtain ⟨cl, cld, csl, h⟩ := hcell
    exact ⟨cl, cld, _, csl, h⟩
  have G := fn_ofS (P := P) (w := w) (mg := mg) (base := base) lk hcd S hcc len fun A outer s H vs Q E hr h => hbody (.ref cda) cc A outer s H vs Q E hC hr h
  have b : Binds K (PySem.W.fnX n qual params body scope [("__class__", cc)] (.ref T) kV doc pm an (.ref cda) ct) ps [] := by
    intro s us X hl
    rw [List.append_nil] at hl ⊢
    obtain ⟨kk, e1, e2⟩ := hb cc T kV doc pm an (.ref cda) ct us its hl rv.length.symm
    refine BindsTo.of_looks fun M => ?_
    rw [e1]
    refine looks_items X lT oT ?_
    rw [e2]
    exact PySem.W.Looks.now
  refine (G.raw b .nil).imp fun vs H Q E h => ?_
  show sp (vs ++ []) H Q E
  rw [List.append_nil]
  exact h
end
end Mp

set_option maxHeartbeats 4000000
/-! Kp3: parts made -/
namespace Mp
open PySem PySem.Spec PyProof.Rows L2
open StX (tMakeR run_makeR pe_makeR)
open He (ga ma fAd)
section
variable {P : Program} {w : World} {K : PySem.W.Frag} {mg : Str → Option Value} {base : Heap}
/-- what the head says of super() -/
structure Zs (P : Program) (K : PySem.W.Frag) : Prop where
  sup : SupG P K
  s_Kind___init__ : SupD P K (ga K "Kind") "__init__" "Kind.__init__" (defArgs s_Kind___init__) (defBody s_Kind___init__) (defScope s_Kind___init__) [.int 1] (fAd K ("Kind", some "__init__"))
  s_Byte___init__ : SupD P K (ga K "Byte") "__init__" "Byte.__init__" (defArgs s_Byte___init__) (defBody s_Byte___init__) (defScope s_Byte___init__) [] (fAd K ("Byte", some "__init__"))
  s_Use___init__ : SupD P K (ga K "Use") "__init__" "Use.__init__" (defArgs s_Use___init__) (defBody s_Use___init__) (defScope s_Use___init__) [] (fAd K ("Use", some "__init__"))
  s_Group___init__ : SupD P K (ga K "Group") "__init__" "Group.__init__" (defArgs s_Group___init__) (defBody s_Group___init__) (defScope s_Group___init__) [] (fAd K ("Group", some "__init__"))
  s_Row___init__ : SupD P K (ga K "Row") "__init__" "Row.__init__" (defArgs s_Row___init__) (defBody s_Row___init__) (defScope s_Row___init__) [] (fAd K ("Row", some "__init__"))
  s_Record___init__ : SupD P K (ga K "Record") "__init__" "Record.__init__" (defArgs s_Record___init__) (defBody s_Record___init__) (defScope s_Record___init__) [] (fAd K ("Record", some "__init__"))
  s_Overlay___init__ : SupD P K (ga K "Overlay") "__init__" "Overlay.__init__" (defArgs s_Overlay___init__) (defBody s_Overlay___init__) (defScope s_Overlay___init__) [] (fAd K ("Overlay", some "__init__"))
  cd_Kind : ∃ cd, PySem.W.clsIn K (ga K "Kind") = some cd
  cd_Byte : ∃ cd, PySem.W.clsIn K (ga K "Byte") = some cd
  cd_Use : ∃ cd, PySem.W.clsIn K (ga K "Use") = some cd
  cd_Group : ∃ cd, PySem.W.clsIn K (ga K "Group") = some cd
  cd_Row : ∃ cd, PySem.W.clsIn K (ga K "Row") = some cd
  cd_Record : ∃ cd, PySem.W.clsIn K (ga K "Record") = some cd
  cd_Overlay : ∃ cd, PySem.W.clsIn K (ga K "Overlay") = some cd
  sm_Kind_Kind : SupM K (ga K "Kind") (ga K "Kind") "__init__" (fAd K ("Part", some "__init__"))
  sm_Byte_Byte : SupM K (ga K "Byte") (ga K "Byte") "__init__" (fAd K ("Part", some "__init__"))
  sm_Use_Use : SupM K (ga K "Use") (ga K "Use") "__init__" (fAd K ("Part", some "__init__"))
  sm_Row_Row : SupM K (ga K "Row") (ga K "Row") "__init__" (fAd K ("Group", some "__init__"))
  sm_Record_Record : SupM K (ga K "Record") (ga K "Record") "__init__" (fAd K ("Group", some "__init__"))
  sm_Overlay_Overlay : SupM K (ga K "Overlay") (ga K "Overlay") "__init__" (fAd K ("Group", some "__init__"))
  sm_Row_Group : SupM K (ga K "Row") (ga K "Group") "__init__" (fAd K ("Part", some "__init__"))
  sm_Record_Group : SupM K (ga K "Record") (ga K "Group") "__init__" (fAd K ("Part", some "__init__"))
  sm_Overlay_Group : SupM K (ga K "Overlay") (ga K "Group") "__init__" (fAd K ("Part", some "__init__"))
/-- Part.__init__ of any part that is being made -/
def spPart (K : PySem.W.Frag) : Sp := sp2 fun a b H Q _ => ∃ (C x dx : Addr) (d : Nat), a = .ref x ∧ b = .int ((d : Nat) : Int) ∧ H x = some (.ins C dx []) ∧ Cls K C ∧ NoAttr K C "depth" ∧ d ≤ 4 ∧ Q .non (upd H x (.ins C dx [("depth", .int ((d : Nat) : Int))]))
theorem sc_Part___init__ : FnScope ["self", "depth"] ["self", "depth"] (defScope s_Part___init__) := ⟨rfl, rfl, rfl, by decide +kernel, rfl, by decide +kernel, by decide +kernel⟩
theorem ok_Part___init__ (z : Zk K mg base) : FnR P w K mg base (L2.CX P w) 1 (fAd K ("Part", some "__init__")) (spPart K) := by
  obtain ⟨fd, F⟩ := z.d_Part___init__
  refine fnr_of F sc_Part___init__ (fun _ _ _ _ _ _ us hl => match us, hl with | [_, _], _ => rfl) (fun vs H Q E h => by match vs, h with | [_, _], _ => rfl) (fun cdv A outer s H vs Q E hr h => ?_)
  have nd := sc_Part___init__.nd
  match vs, h with
  | [a0, a1], h =>
  refine ⟨_, (pss_cons (ps_if (pt_cmpR op_gt (pv 1) (k_cval (K := K) rfl (pe_gref z.g_Part)) (nomark _)) (pss_one ps_never) pss_nil) (pss_one (ks_fld (K := K) rfl (pv 0) (pv 1)))), ?_⟩
  obtain ⟨C, x, dx, d, rfl, rfl, hx, cl, na, hd, hq⟩ := h
  obtain ⟨mc, u, c1, c2⟩ := z.k_Part_DEPTH
  simp [tRet, tRetN, tSeq, tIfS, tDrop, tNext, tNever, tBreak, tCont, tAsg, gName, gCons, gNil, gTup, tAndV, tOrV, tNotV, tAnd, tOr, tNot, tOp, tUn, tVar, tC, tB, tTest, tIf, tCons, tNil, tCB, tTup, tLst, tFld, sFld, sFldAug, rAdd, rSub, tSl, tPart, tNoPart, rI0, rI, rU, rEq, rNe, rSlS, rSlL, rIxL, rIxT, rIxS, tChain, tFn, tMt, tM1, tM0, tBM, rAppend, rIn, tIsN, tNotN, scal_ss, scal_ii, let_nil, let_one, fig_nil, fig_one, LenV_str, L2.start, cxOf, and_assoc, tJs, tFmt, put_at, lk_at, lk_script, lk_upcoming, lk_refuse, lk_skips, lk_expect, lk_word_of, lk_name_unlike, lk_number_to, lk_finish, sp0, sp1, sp2, sp3, sp4, sp5, -List.lookup_eq_none_iff, ClX.tCVal, hx, cl, na, put1]
  exact ⟨mc, c1, _, ⟨u, c2⟩, _, rfl, by omega, hq⟩
/-- what is left of a part that was made: its promise -/
def spByte (K : PySem.W.Frag) : Sp := sp1 fun a H Q _ => ∃ (x dx : Addr), a = .ref x ∧ H x = some (.ins (ga K "Byte") dx []) ∧ ∀ H', K1 x H H' → PartAt K H' .byte x → Q .non H'
theorem sc_Byte___init__ : ScS ["self"] ["self"] (defScope s_Byte___init__) := ⟨rfl, rfl, rfl, by decide +kernel, rfl, by decide +kernel, by decide +kernel, by decide +kernel⟩
theorem ok_Byte___init__ (z : Zk K mg base) (y : Zs P K)   : FnR P w K mg base (L2.CX P w) 2 (fAd K ("Byte", some "__init__")) ((spByte K)) := by
  refine fnr_ofS (sup := y.sup) y.s_Byte___init__ sc_Byte___init__ ⟨_, rfl, rfl⟩ y.cd_Byte (fun _ _ _ _ _ _ _ us hl => match us, hl with | [_], _ => rfl) (fun vs H Q E h => by match vs, h with | [_], _ => rfl) (fun cd cc A outer s H vs Q E hT hr h => ?_)
  have nd := sc_Byte___init__.nd
  have hu0 := hr.units0
  match vs, h with
  | [a0], h =>
  refine ⟨_, (psa_sup (k := 1) hT rfl rfl rfl rfl rfl hr (passD (E := E)) (pa_cons pe_int pa_nil)
      (psa_of pss_nil) (by omega)), ?_⟩
  obtain ⟨x, dx, rfl, hx, hq⟩ := h
  simp only [tSup]
  refine ⟨x, _, dx, _, _, _, rfl, hx, y.sm_Byte_Byte, ok_Part___init__ z, ?_⟩
  simp [tRet, tRetN, tSeq, tIfS, tDrop, tNext, tNever, tBreak, tCont, tAsg, gName, gCons, gNil, gTup, tAndV, tOrV, tNotV, tAnd, tOr, tNot, tOp, tUn, tVar, tC, tB, tTest, tIf, tCons, tNil, tCB, tTup, tLst, tFld, sFld, sFldAug, rAdd, rSub, tSl, tPart, tNoPart, rI0, rI, rU, rEq, rNe, rSlS, rSlL, rIxL, rIxT, rIxS, tChain, tFn, tMt, tM1, tM0, tBM, rAppend, rIn, tIsN, tNotN, scal_ss, scal_ii, let_nil, let_one, fig_nil, fig_one, LenV_str, L2.start, cxOf, and_assoc, tJs, tFmt, put_at, lk_at, lk_script, lk_upcoming, lk_refuse, lk_skips, lk_expect, lk_word_of, lk_name_unlike, lk_number_to, lk_finish, sp0, sp1, sp2, sp3, sp4, sp5, -List.lookup_eq_none_iff]
  exact ⟨_, _, dx, 0, rfl, rfl, hx, z.cls_Byte, z.na_Byte_depth, by omega, hq _ K1.upd ⟨dx, upd_same⟩⟩
def spUse (K : PySem.W.Frag) : Sp := sp2 fun a b H Q _ => ∃ (x dx : Addr) (n : List Nat), a = .ref x ∧ b = .str (S n) ∧ H x = some (.ins (ga K "Use") dx []) ∧ nameOk n = true ∧ ∀ H', K1 x H H' → PartAt K H' (.use n) x → Q .non H'
theorem put_name {a v : V} : putF (Str.ofString "name") v [(Str.ofString "depth", a)] = [(Str.ofString "depth", a), (Str.ofString "name", v)] := rfl
theorem put_times {a b v : V} : putF (Str.ofString "times") v [(Str.ofString "depth", a), (Str.ofString "name", b)] = [(Str.ofString "depth", a), (Str.ofString "name", b), (Str.ofString "times", v)] := rfl
theorem nameOk_len {n : List Nat} (h : nameOk n = true) : 1 ≤ n.length ∧ n.length ≤ 8 := by
  simp [nameOk] at h
  omega
theorem sc_Use___init__ : ScS ["self", "name"] ["self", "name"] (defScope s_Use___init__) := ⟨rfl, rfl, rfl, by decide +kernel, rfl, by decide +kernel, by decide +kernel, by decide +kernel⟩
theorem ok_Use___init__ (z : Zk K mg base) (y : Zs P K) (c_is_name : Cal P w K mg base "is_name" 1 (sp_is_name K))  : FnR P w K mg base (L2.CX P w) 2 (fAd K ("Use", some "__init__")) ((spUse K)) := by
  refine fnr_ofS (sup := y.sup) y.s_Use___init__ sc_Use___init__ ⟨_, rfl, rfl⟩ y.cd_Use (fun _ _ _ _ _ _ _ us hl => match us, hl with | [_, _], _ => rfl) (fun vs H Q E h => by match vs, h with | [_, _], _ => rfl) (fun cd cc A outer s H vs Q E hT hr h => ?_)
  have nd := sc_Use___init__.nd
  have hu0 := hr.units0
  match vs, h with
  | [a0, a1], h =>
  refine ⟨_, (psa_cons (ps_if (pt_not (pt_val (pe_fn c_is_name hr (passD (E := E)) (pa_cons (pv 1) pa_nil)))) (pss_one ps_never) pss_nil)
      (psa_sup (k := 1) hT rfl rfl rfl rfl rfl hr (passD (E := E)) (pa_cons pe_int pa_nil)
      (psa_of (pss_one (ks_fld (K := K) rfl (pv 0) (pv 1)))) (by omega))), ?_⟩
  obtain ⟨x, dx, n, rfl, rfl, hx, hn, hq⟩ := h
  have hl := nameOk_len hn
  simp [tRet, tRetN, tSeq, tIfS, tDrop, tNext, tNever, tBreak, tCont, tAsg, gName, gCons, gNil, gTup, tAndV, tOrV, tNotV, tAnd, tOr, tNot, tOp, tUn, tVar, tC, tB, tTest, tIf, tCons, tNil, tCB, tTup, tLst, tFld, sFld, sFldAug, rAdd, rSub, tSl, tPart, tNoPart, rI0, rI, rU, rEq, rNe, rSlS, rSlL, rIxL, rIxT, rIxS, tChain, tFn, tMt, tM1, tM0, tBM, rAppend, rIn, tIsN, tNotN, scal_ss, scal_ii, let_nil, let_one, fig_nil, fig_one, LenV_str, L2.start, cxOf, and_assoc, tJs, tFmt, put_at, lk_at, lk_script, lk_upcoming, lk_refuse, lk_skips, lk_expect, lk_word_of, lk_name_unlike, lk_number_to, lk_finish, sp0, sp1, sp2, sp3, sp4, sp5, -List.lookup_eq_none_iff]
  refine ⟨n, rfl, by omega, fun H1 e => ⟨by rw [hn], ?_⟩⟩
  have hx1 := e _ _ hx
  simp only [tSup]
  refine ⟨x, _, dx, _, _, _, rfl, hx1, y.sm_Use_Use, ok_Part___init__ z, ?_⟩
  simp [tRet, tRetN, tSeq, tIfS, tDrop, tNext, tNever, tBreak, tCont, tAsg, gName, gCons, gNil, gTup, tAndV, tOrV, tNotV, tAnd, tOr, tNot, tOp, tUn, tVar, tC, tB, tTest, tIf, tCons, tNil, tCB, tTup, tLst, tFld, sFld, sFldAug, rAdd, rSub, tSl, tPart, tNoPart, rI0, rI, rU, rEq, rNe, rSlS, rSlL, rIxL, rIxT, rIxS, tChain, tFn, tMt, tM1, tM0, tBM, rAppend, rIn, tIsN, tNotN, scal_ss, scal_ii, let_nil, let_one, fig_nil, fig_one, LenV_str, L2.start, cxOf, and_assoc, tJs, tFmt, put_at, lk_at, lk_script, lk_upcoming, lk_refuse, lk_skips, lk_expect, lk_word_of, lk_name_unlike, lk_number_to, lk_finish, sp0, sp1, sp2, sp3, sp4, sp5, -List.lookup_eq_none_iff]
  refine ⟨_, _, dx, 0, rfl, rfl, hx1, z.cls_Use, z.na_Use_depth, by omega, ?_⟩
  simp [tRet, tRetN, tSeq, tIfS, tDrop, tNext, tNever, tBreak, tCont, tAsg, gName, gCons, gNil, gTup, tAndV, tOrV, tNotV, tAnd, tOr, tNot, tOp, tUn, tVar, tC, tB, tTest, tIf, tCons, tNil, tCB, tTup, tLst, tFld, sFld, sFldAug, rAdd, rSub, tSl, tPart, tNoPart, rI0, rI, rU, rEq, rNe, rSlS, rSlL, rIxL, rIxT, rIxS, tChain, tFn, tMt, tM1, tM0, tBM, rAppend, rIn, tIsN, tNotN, scal_ss, scal_ii, let_nil, let_one, fig_nil, fig_one, LenV_str, L2.start, cxOf, and_assoc, tJs, tFmt, put_at, lk_at, lk_script, lk_upcoming, lk_refuse, lk_skips, lk_expect, lk_word_of, lk_name_unlike, lk_number_to, lk_finish, sp0, sp1, sp2, sp3, sp4, sp5, -List.lookup_eq_none_iff, upd_same, z.cls_Use, z.na_Use_name, put_name, upd_upd]
  exact hq _ (K1.trans (K1.of e) K1.upd) ⟨dx, upd_same⟩
def spKind (K : PySem.W.Frag) : Sp := sp3 fun a b c H Q _ => ∃ (x dx : Addr) (n : List Nat) (t : Nat), a = .ref x ∧ b = .str (S n) ∧ c = .int ((t : Nat) : Int) ∧ H x = some (.ins (ga K "Kind") dx []) ∧ nameOk n = true ∧ 1 ≤ t ∧ t ≤ 8 ∧ ∀ H', K1 x H H' → PartAt K H' (.kind n t) x → Q .non H'
theorem sc_Kind___init__ : ScS ["self", "name", "times"] ["self", "name", "times"] (defScope s_Kind___init__) := ⟨rfl, rfl, rfl, by decide +kernel, rfl, by decide +kernel, by decide +kernel, by decide +kernel⟩
theorem ok_Kind___init__ (z : Zk K mg base) (y : Zs P K) (c_is_name : Cal P w K mg base "is_name" 1 (sp_is_name K)) (c_is_between : Cal P w K mg base "is_between" 2 (sp_is_between K))  : FnR P w K mg base (L2.CX P w) 3 (fAd K ("Kind", some "__init__")) ((spKind K)) := by
  refine fnr_ofS1 (sup := y.sup) y.s_Kind___init__ sc_Kind___init__ ⟨_, rfl, rfl⟩ y.cd_Kind (fun _ _ _ _ _ _ _ _ us its hl hl1 => match us, its, hl, hl1 with | [_, _, _], [_], _, _ => ⟨_, rfl, rfl⟩) (fun vs H Q E h => by match vs, h with | [_, _, _], _ => rfl) (fun cd cc A outer s H vs Q E hT hr h => ?_)
  have nd := sc_Kind___init__.nd
  have hu0 := hr.units0
  match vs, h with
  | [a0, a1, a2], h =>
  refine ⟨_, (psa_cons (ps_if (pt_not (pt_val (pe_fn c_is_name hr (passD (E := E)) (pa_cons (pv 1) pa_nil)))) (pss_one ps_never) pss_nil)
      (psa_cons (ps_if (pt_not (pt_val (pe_fn c_is_between hr (passD (E := E)) (pa_cons (pv 2) (pa_cons pe_int (pa_cons (pe_gint z.v_MOST_TIMES) pa_nil)))))) (pss_one ps_never) pss_nil)
      (psa_sup (k := 1) hT rfl rfl rfl rfl rfl hr (passD (E := E)) (pa_cons pe_int pa_nil)
      (psa_of (pss_cons (ks_fld (K := K) rfl (pv 0) (pv 1))
      (pss_one (ks_fld (K := K) rfl (pv 0) (pv 2))))) (by omega)))), ?_⟩
  obtain ⟨x, dx, n, t, rfl, rfl, rfl, hx, hn, ht1, ht2, hq⟩ := h
  have hl := nameOk_len hn
  simp [tRet, tRetN, tSeq, tIfS, tDrop, tNext, tNever, tBreak, tCont, tAsg, gName, gCons, gNil, gTup, tAndV, tOrV, tNotV, tAnd, tOr, tNot, tOp, tUn, tVar, tC, tB, tTest, tIf, tCons, tNil, tCB, tTup, tLst, tFld, sFld, sFldAug, rAdd, rSub, tSl, tPart, tNoPart, rI0, rI, rU, rEq, rNe, rSlS, rSlL, rIxL, rIxT, rIxS, tChain, tFn, tMt, tM1, tM0, tBM, rAppend, rIn, tIsN, tNotN, scal_ss, scal_ii, let_nil, let_one, fig_nil, fig_one, LenV_str, L2.start, cxOf, and_assoc, tJs, tFmt, put_at, lk_at, lk_script, lk_upcoming, lk_refuse, lk_skips, lk_expect, lk_word_of, lk_name_unlike, lk_number_to, lk_finish, sp0, sp1, sp2, sp3, sp4, sp5, -List.lookup_eq_none_iff]
  refine ⟨n, rfl, by omega, fun H1 e => ⟨by rw [hn], ?_⟩⟩
  refine ⟨_, _, _, rfl, rfl, rfl, ⟨by simp; omega, ?_⟩⟩
  have hx1 := e _ _ hx
  simp only [tSup]
  refine ⟨x, _, dx, _, _, _, rfl, hx1, y.sm_Kind_Kind, ok_Part___init__ z, ?_⟩
  simp [tRet, tRetN, tSeq, tIfS, tDrop, tNext, tNever, tBreak, tCont, tAsg, gName, gCons, gNil, gTup, tAndV, tOrV, tNotV, tAnd, tOr, tNot, tOp, tUn, tVar, tC, tB, tTest, tIf, tCons, tNil, tCB, tTup, tLst, tFld, sFld, sFldAug, rAdd, rSub, tSl, tPart, tNoPart, rI0, rI, rU, rEq, rNe, rSlS, rSlL, rIxL, rIxT, rIxS, tChain, tFn, tMt, tM1, tM0, tBM, rAppend, rIn, tIsN, tNotN, scal_ss, scal_ii, let_nil, let_one, fig_nil, fig_one, LenV_str, L2.start, cxOf, and_assoc, tJs, tFmt, put_at, lk_at, lk_script, lk_upcoming, lk_refuse, lk_skips, lk_expect, lk_word_of, lk_name_unlike, lk_number_to, lk_finish, sp0, sp1, sp2, sp3, sp4, sp5, -List.lookup_eq_none_iff]
  refine ⟨_, _, dx, 0, rfl, rfl, hx1, z.cls_Kind, z.na_Kind_depth, by omega, ?_⟩
  simp [tRet, tRetN, tSeq, tIfS, tDrop, tNext, tNever, tBreak, tCont, tAsg, gName, gCons, gNil, gTup, tAndV, tOrV, tNotV, tAnd, tOr, tNot, tOp, tUn, tVar, tC, tB, tTest, tIf, tCons, tNil, tCB, tTup, tLst, tFld, sFld, sFldAug, rAdd, rSub, tSl, tPart, tNoPart, rI0, rI, rU, rEq, rNe, rSlS, rSlL, rIxL, rIxT, rIxS, tChain, tFn, tMt, tM1, tM0, tBM, rAppend, rIn, tIsN, tNotN, scal_ss, scal_ii, let_nil, let_one, fig_nil, fig_one, LenV_str, L2.start, cxOf, and_assoc, tJs, tFmt, put_at, lk_at, lk_script, lk_upcoming, lk_refuse, lk_skips, lk_expect, lk_word_of, lk_name_unlike, lk_number_to, lk_finish, sp0, sp1, sp2, sp3, sp4, sp5, -List.lookup_eq_none_iff, upd_same, z.cls_Kind, z.na_Kind_name, z.na_Kind_times, put_name, put_times, upd_upd]
  exact hq _ (K1.trans (K1.of e) K1.upd) ⟨dx, upd_same⟩
/-- Group.__init__ -/
def spGroup (K : PySem.W.Frag) : Sp := sp3 fun a b c H Q _ => ∃ (C x dx p : Addr) (ys : List V) (d : Nat), a = .ref x ∧ b = .ref p ∧ c = .int ((d : Nat) : Int) ∧ H x = some (.ins C dx []) ∧ H p = some (.lst ys) ∧ Cls K C ∧ NoAttr K C "depth" ∧ NoAttr K C "held" ∧
  SupM K C (ga K "Group") "__init__" (fAd K ("Part", some "__init__")) ∧ d ≤ 4 ∧ ∀ l H', K1 x H H' → H' x = some (.ins C dx [("depth", .int ((d : Nat) : Int)), ("held", .ref l)]) → Q .non H'
theorem put_held {a v : V} : putF (Str.ofString "held") v [(Str.ofString "depth", a)] = [(Str.ofString "depth", a), (Str.ofString "held", v)] := rfl
theorem sc_Group___init__ : ScS ["self", "held", "depth"] ["self", "held", "depth"] (defScope s_Group___init__) := ⟨rfl, rfl, rfl, by decide +kernel, rfl, by decide +kernel, by decide +kernel, by decide +kernel⟩
theorem ok_Group___init__ (z : Zk K mg base) (y : Zs P K)   : FnR P w K mg base (L2.CX P w) 2 (fAd K ("Group", some "__init__")) ((spGroup K)) := by
  refine fnr_ofS (sup := y.sup) y.s_Group___init__ sc_Group___init__ ⟨_, rfl, rfl⟩ y.cd_Group (fun _ _ _ _ _ _ _ us hl => match us, hl with | [_, _, _], _ => rfl) (fun vs H Q E h => by match vs, h with | [_, _, _], _ => rfl) (fun cd cc A outer s H vs Q E hT hr h => ?_)
  have nd := sc_Group___init__.nd
  have hu0 := hr.units0
  match vs, h with
  | [a0, a1, a2], h =>
  refine ⟨_, (psa_sup (k := 1) hT rfl rfl rfl rfl rfl hr (passD (E := E)) (pa_cons (pv 2) pa_nil)
      (psa_of (pss_one (ks_fld (K := K) rfl (pv 0) (pe_callTy (k_list_of (K := K) rfl) rfl z.b_list boot_list (pa_cons (pv 1) pa_nil))))) (by omega)), ?_⟩
  obtain ⟨C, x, dx, p, ys, d, rfl, rfl, rfl, hx, hp, cl, na1, na2, sm, hd, hq⟩ := h
  simp only [tSup]
  refine ⟨x, C, dx, _, _, _, rfl, hx, sm, ok_Part___init__ z, ?_⟩
  simp [tRet, tRetN, tSeq, tIfS, tDrop, tNext, tNever, tBreak, tCont, tAsg, gName, gCons, gNil, gTup, tAndV, tOrV, tNotV, tAnd, tOr, tNot, tOp, tUn, tVar, tC, tB, tTest, tIf, tCons, tNil, tCB, tTup, tLst, tFld, sFld, sFldAug, rAdd, rSub, tSl, tPart, tNoPart, rI0, rI, rU, rEq, rNe, rSlS, rSlL, rIxL, rIxT, rIxS, tChain, tFn, tMt, tM1, tM0, tBM, rAppend, rIn, tIsN, tNotN, scal_ss, scal_ii, let_nil, let_one, fig_nil, fig_one, LenV_str, L2.start, cxOf, and_assoc, tJs, tFmt, put_at, lk_at, lk_script, lk_upcoming, lk_refuse, lk_skips, lk_expect, lk_word_of, lk_name_unlike, lk_number_to, lk_finish, sp0, sp1, sp2, sp3, sp4, sp5, -List.lookup_eq_none_iff]
  refine ⟨C, x, dx, d, rfl, rfl, hx, cl, na1, hd, ?_⟩
  have hpx : p ≠ x := fun e => by rw [e, hx] at hp; cases hp
  refine ⟨ys, Or.inl (SqL.of (by rw [upd_ne hpx]; exact hp)), fun l hl => ?_⟩
  have hlx : l ≠ x := fun e => by rw [e, upd_same] at hl; cases hl
  have e1 : upd (upd H x (.ins C dx [("depth", .int ((d : Nat) : Int))])) l (.lst ys) x = some (.ins C dx [("depth", .int ((d : Nat) : Int))]) := by rw [upd_ne (Ne.symm hlx), upd_same]
  simp [tRet, tRetN, tSeq, tIfS, tDrop, tNext, tNever, tBreak, tCont, tAsg, gName, gCons, gNil, gTup, tAndV, tOrV, tNotV, tAnd, tOr, tNot, tOp, tUn, tVar, tC, tB, tTest, tIf, tCons, tNil, tCB, tTup, tLst, tFld, sFld, sFldAug, rAdd, rSub, tSl, tPart, tNoPart, rI0, rI, rU, rEq, rNe, rSlS, rSlL, rIxL, rIxT, rIxS, tChain, tFn, tMt, tM1, tM0, tBM, rAppend, rIn, tIsN, tNotN, scal_ss, scal_ii, let_nil, let_one, fig_nil, fig_one, LenV_str, L2.start, cxOf, and_assoc, tJs, tFmt, put_at, lk_at, lk_script, lk_upcoming, lk_refuse, lk_skips, lk_expect, lk_word_of, lk_name_unlike, lk_number_to, lk_finish, sp0, sp1, sp2, sp3, sp4, sp5, -List.lookup_eq_none_iff, e1, cl, na2, put_held]
  refine hq l _ (fun a o n ha => ?_) upd_same
  have hal : a ≠ l := fun e => by
    rw [upd_ne hlx] at hl
    rw [e, hl] at ha
    cases ha
  rw [upd_ne n, upd_ne hal, upd_ne n]
  exact ha
end
end Mp

set_option maxHeartbeats 4000000
/-! Kp4: rows, records, overlays made -/
namespace Mp
open PySem PySem.Spec PyProof.Rows L2
open StX (tMakeR run_makeR pe_makeR)
open He (ga ma fAd)
section
variable {P : Program} {w : World} {K : PySem.W.Frag} {mg : Str → Option Value} {base : Heap}
/-- the parts of a list of pairs -/
theorem FsAt.parts {H : Hp} : ∀ {fs : Fs} {xs : List V}, FsAt K H fs xs → ∃ bs : List (Pt × Addr), bs.length = xs.length ∧ bs.map (·.1) = fs.toL.map (·.2) ∧ (∀ x ∈ bs, PartAt K H x.1 x.2) ∧
    ∀ (i : Nat) (x : V) (y : Pt × Addr), xs[i]? = some x → bs[i]? = some y → ∃ q n, x = .ref q ∧ H q = some (.tup [.str (S n), .ref y.2])
  | .nil, xs, h => by
    have h : xs = [] := h
    subst h
    exact ⟨[], rfl, rfl, by simp, by simp⟩
  | .cons n p r, xs, h => by
    obtain ⟨q, b, ys, rfl, hq, hb, hr⟩ := h
    obtain ⟨bs, h1, h2, h3, h4⟩ := FsAt.parts hr
    refine ⟨(p, b) :: bs, by simp [h1], by simp [Fs.toL, h2], ?_, ?_⟩
    · intro x hx
      rcases List.mem_cons.mp hx with rfl | hx
      · exact hb
      · exact h3 x hx
    · intro i x y hx hy
      cases i with
      | zero =>
        cases hx
        cases hy
        exact ⟨q, n, rfl, hq⟩
      | succ i => exact h4 i x y hx hy
theorem foldl_max (l : List Pt) : ∀ m : Nat, l.foldl (fun m x => max m (x.depth + 1)) m = max m (l.foldl (fun m x => max m (x.depth + 1)) 0) := by
  induction l with
  | nil => intro m; simp
  | cons p l ih =>
    intro m
    simp only [List.foldl_cons]
    rw [ih (max m (p.depth + 1)), ih (max 0 (p.depth + 1))]
    omega
theorem Fs.depth_fold : ∀ fs : Fs, (fs.toL.map (·.2)).foldl (fun m x => max m (x.depth + 1)) 0 = fs.depth
  | .nil => rfl
  | .cons n p r => by
    simp only [Fs.toL, List.map_cons, List.foldl_cons]
    rw [foldl_max, Fs.depth_fold r]
    show max (max 0 (p.depth + 1)) r.depth = max (p.depth + 1) r.depth
    omega
theorem lk_h1 {a b : V} {r : List (Str × V)} : List.lookup (Str.ofString "held") ((Str.ofString "depth", a) :: (Str.ofString "held", b) :: r) = some b := rfl
theorem put_part {a b v : V} : putF (Str.ofString "part") v [(Str.ofString "depth", a), (Str.ofString "held", b)] = [(Str.ofString "depth", a), (Str.ofString "held", b), (Str.ofString "part", v)] := rfl
theorem put_n {a b c v : V} : putF (Str.ofString "n") v [(Str.ofString "depth", a), (Str.ofString "held", b), (Str.ofString "part", c)] = [(Str.ofString "depth", a), (Str.ofString "held", b), (Str.ofString "part", c), (Str.ofString "n", v)] := rfl
theorem put_fields {a b v : V} : putF (Str.ofString "fields") v [(Str.ofString "depth", a), (Str.ofString "held", b)] = [(Str.ofString "depth", a), (Str.ofString "held", b), (Str.ofString "fields", v)] := rfl
theorem put_members {a b v : V} : putF (Str.ofString "members") v [(Str.ofString "depth", a), (Str.ofString "held", b)] = [(Str.ofString "depth", a), (Str.ofString "held", b), (Str.ofString "members", v)] := rfl
def spRow (K : PySem.W.Frag) : Sp := sp3 fun a b c H Q _ => ∃ (x dx pb : Addr) (p : Pt) (n : Nat), a = .ref x ∧ b = .ref pb ∧ c = .int ((n : Nat) : Int) ∧ H x = some (.ins (ga K "Row") dx []) ∧ PartAt K H p pb ∧ p.depth < 4 ∧ 1 ≤ n ∧ n ≤ 64 ∧ ∀ H', K1 x H H' → PartAt K H' (.row n p) x → Q .non H'
theorem sc_Row___init__ : ScS ["self", "part", "n"] ["self", "part", "n"] (defScope s_Row___init__) := ⟨rfl, rfl, rfl, by decide +kernel, rfl, by decide +kernel, by decide +kernel, by decide +kernel⟩
theorem ok_Row___init__ (z : Zk K mg base) (y : Zs P K) (c_is_between : Cal P w K mg base "is_between" 2 (sp_is_between K)) (c_depth_over : Cal P w K mg base "depth_over" 1 (sp_depth_over K)) (ap : Apart K) : FnR P w K mg base (L2.CX P w) 3 (fAd K ("Row", some "__init__")) ((spRow K)) := by
  refine fnr_ofS (sup := y.sup) y.s_Row___init__ sc_Row___init__ ⟨_, rfl, rfl⟩ y.cd_Row (fun _ _ _ _ _ _ _ us hl => match us, hl with | [_, _, _], _ => rfl) (fun vs H Q E h => by match vs, h with | [_, _, _], _ => rfl) (fun cd cc A outer s H vs Q E hT hr h => ?_)
  have nd := sc_Row___init__.nd
  have hu0 := hr.units0
  match vs, h with
  | [a0, a1, a2], h =>
  refine ⟨_, (psa_cons (ps_if (pt_not (pt_val (pe_callB (k_isi (K := K) rfl) rfl z.b_isinstance boot_isinstance (pa_cons (pv 1) (pa_cons (pe_gref z.g_Part) pa_nil))))) (pss_one ps_never) pss_nil)
      (psa_cons (ps_if (pt_not (pt_val (pe_fn c_is_between hr (passD (E := E)) (pa_cons (pv 2) (pa_cons pe_int (pa_cons (k_cval (K := K) rfl (pe_gref z.g_Row)) pa_nil)))))) (pss_one ps_never) pss_nil)
      (psa_sup (k := 2) hT rfl rfl rfl rfl rfl hr (passD (E := E)) (pa_cons (pe_op op_rep (pe_lst (pa_cons (pv 1) pa_nil)) (pv 2)) (pa_cons (pe_fn c_depth_over hr (passD (E := E)) (pa_cons (pe_lst (pa_cons (pv 1) pa_nil)) pa_nil)) pa_nil))
      (psa_of (pss_cons (ks_fld (K := K) rfl (pv 0) (pv 1))
      (pss_one (ks_fld (K := K) rfl (pv 0) (pv 2))))) (by omega)))), ?_⟩
  obtain ⟨x, dx, pb, p, n, rfl, rfl, rfl, hx, hp, hd, h1, h2, hq⟩ := h
  obtain ⟨C, dp, fp, hC, hT, hK, _⟩ := PartAt.obj z hp
  obtain ⟨mc, u, c1, c2⟩ := z.k_Row_MOST
  simp [tRet, tRetN, tSeq, tIfS, tDrop, tNext, tNever, tBreak, tCont, tAsg, gName, gCons, gNil, gTup, tAndV, tOrV, tNotV, tAnd, tOr, tNot, tOp, tUn, tVar, tC, tB, tTest, tIf, tCons, tNil, tCB, tTup, tLst, tFld, sFld, sFldAug, rAdd, rSub, tSl, tPart, tNoPart, rI0, rI, rU, rEq, rNe, rSlS, rSlL, rIxL, rIxT, rIxS, tChain, tFn, tMt, tM1, tM0, tBM, rAppend, rIn, tIsN, tNotN, scal_ss, scal_ii, let_nil, let_one, fig_nil, fig_one, LenV_str, L2.start, cxOf, and_assoc, tJs, tFmt, put_at, lk_at, lk_script, lk_upcoming, lk_refuse, lk_skips, lk_expect, lk_word_of, lk_name_unlike, lk_number_to, lk_finish, sp0, sp1, sp2, sp3, sp4, sp5, -List.lookup_eq_none_iff, rIsi, ClX.tCVal]
  refine ⟨_, _, .own _, hT, hK, mc, c1, _, ⟨u, c2⟩, _, _, _, rfl, rfl, rfl, ⟨by simp; omega, ?_⟩⟩
  simp only [tSup]
  refine ⟨x, _, dx, _, _, _, rfl, hx, y.sm_Row_Row, ok_Group___init__ z y, ?_⟩
  simp [tRet, tRetN, tSeq, tIfS, tDrop, tNext, tNever, tBreak, tCont, tAsg, gName, gCons, gNil, gTup, tAndV, tOrV, tNotV, tAnd, tOr, tNot, tOp, tUn, tVar, tC, tB, tTest, tIf, tCons, tNil, tCB, tTup, tLst, tFld, sFld, sFldAug, rAdd, rSub, tSl, tPart, tNoPart, rI0, rI, rU, rEq, rNe, rSlS, rSlL, rIxL, rIxT, rIxS, tChain, tFn, tMt, tM1, tM0, tBM, rAppend, rIn, tIsN, tNotN, scal_ss, scal_ii, let_nil, let_one, fig_nil, fig_one, LenV_str, L2.start, cxOf, and_assoc, tJs, tFmt, put_at, lk_at, lk_script, lk_upcoming, lk_refuse, lk_skips, lk_expect, lk_word_of, lk_name_unlike, lk_number_to, lk_finish, sp0, sp1, sp2, sp3, sp4, sp5, -List.lookup_eq_none_iff, rRep]
  refine ⟨by rw [sizeLine_eq]; omega, fun a ha => ⟨_, upd_same, by omega, by simp [sizeLine_eq]; omega, fun b hb => ⟨by rw [sizeLine_eq]; omega, fun c hc => ?_⟩⟩⟩
  have e1 : Ex H (upd H a (.lst [.ref pb])) := Ex.new ha
  have hb0 : H b = none := Ex.free e1 hb
  have e2 : Ex H (upd (upd H a (.lst [.ref pb])) b (.lst (List.replicate n [V.ref pb]).flatten)) := Ex.mut e1 hb0
  have hc0 : H c = none := Ex.free e2 hc
  have e3 := Ex.mut (p := c) (o := .lst [.ref pb]) e2 hc0
  have hbc : b ≠ c := fun e => by rw [← e, upd_same] at hc; cases hc
  refine ⟨c, [(p, pb)], rfl, SqL.of upd_same, fun q hq => ?_, ?_⟩
  · obtain rfl : q = (p, pb) := by simpa using hq
    exact hp.st ap (Stb.of e3)
  refine ⟨_, x, dx, b, (List.replicate n [V.ref pb]).flatten, p.depth + 1, rfl, rfl, by simp, e3 _ _ hx, by rw [upd_ne hbc, upd_same], z.cls_Row, z.na_Row_depth, z.na_Row_held, y.sm_Row_Group, by omega, fun l H' k1 hx' => ?_⟩
  simp [tRet, tRetN, tSeq, tIfS, tDrop, tNext, tNever, tBreak, tCont, tAsg, gName, gCons, gNil, gTup, tAndV, tOrV, tNotV, tAnd, tOr, tNot, tOp, tUn, tVar, tC, tB, tTest, tIf, tCons, tNil, tCB, tTup, tLst, tFld, sFld, sFldAug, rAdd, rSub, tSl, tPart, tNoPart, rI0, rI, rU, rEq, rNe, rSlS, rSlL, rIxL, rIxT, rIxS, tChain, tFn, tMt, tM1, tM0, tBM, rAppend, rIn, tIsN, tNotN, scal_ss, scal_ii, let_nil, let_one, fig_nil, fig_one, LenV_str, L2.start, cxOf, and_assoc, tJs, tFmt, put_at, lk_at, lk_script, lk_upcoming, lk_refuse, lk_skips, lk_expect, lk_word_of, lk_name_unlike, lk_number_to, lk_finish, sp0, sp1, sp2, sp3, sp4, sp5, -List.lookup_eq_none_iff, hx', upd_same, z.cls_Row, z.na_Row_part, z.na_Row_n, put_part, put_n, upd_upd]
  have k2 : K1 x H (upd H' x (.ins (ga K "Row") dx [("depth", .int ((p.depth : Int) + 1)), ("held", .ref l), ("part", .ref pb), ("n", .int ((n : Nat) : Int))])) := K1.trans (K1.of e3) (K1.trans k1 K1.upd)
  exact hq _ k2 ⟨dx, l, pb, upd_same, hp.st ap (Stb.made k2 hx), h2⟩
/-- .. of pairs -/
def spRec (C : Str) (most : Nat) (con : Fs → Pt) (K : PySem.W.Frag) : Sp := sp2 fun a b H Q _ => ∃ (x dx pb : Addr) (fs : Fs), a = .ref x ∧ b = .ref pb ∧ H x = some (.ins (ga K C) dx []) ∧ PairsAt K H fs pb ∧ fs.depth ≤ 4 ∧ 1 ≤ fs.len ∧ fs.len ≤ most ∧ fs.names.Nodup ∧ (∀ n ∈ fs.names, nameOk n = true) ∧
  ∀ H', K1 x H H' → PartAt K H' (con fs) x → Q .non H'
theorem sc_Record___init__ : ScS ["self", "fields", "name", "part"] ["self", "fields"] (defScope s_Record___init__) := ⟨rfl, rfl, rfl, by decide +kernel, rfl, by decide +kernel, by decide +kernel, by decide +kernel⟩
theorem ok_Record___init__ (z : Zk K mg base) (y : Zs P K) (c_need_pairs : Cal P w K mg base "need_pairs" 3 (sp_need_pairs K)) (c_depth_over : Cal P w K mg base "depth_over" 1 (sp_depth_over K)) (ap : Apart K) : FnR P w K mg base (L2.CX P w) 4 (fAd K ("Record", some "__init__")) ((spRec "Record" 8 .rec_ K)) := by
  refine fnr_ofS (sup := y.sup) y.s_Record___init__ sc_Record___init__ ⟨_, rfl, rfl⟩ y.cd_Record (fun _ _ _ _ _ _ _ us hl => match us, hl with | [_, _], _ => rfl) (fun vs H Q E h => by match vs, h with | [_, _], _ => rfl) (fun cd cc A outer s H vs Q E hT hr h => ?_)
  have nd := sc_Record___init__.nd
  have hu0 := hr.units0
  match vs, h with
  | [a0, a1], h =>
  refine ⟨_, (psa_cons (ps_expr (pe_fn c_need_pairs hr (passD (E := E)) (pa_cons (pv 1) (pa_cons (k_cval (K := K) rfl (pe_gref z.g_Record)) pa_nil))))
      (psa_sup (k := 2) hT rfl rfl rfl rfl rfl hr (passD (E := E)) (pa_cons (pv 1) (pa_cons (pe_fn c_depth_over hr (passD (E := E)) (pa_cons (pe_lc rfl nd (k_pi_list (K := K) rfl (pv 1)) (blkOk_by (N := ["self", "fields", "name", "part"]) (sc := defScope s_Record___init__) (own := [("name", 2), ("part", 3)]) (by decide +kernel)) (fun _ _ _ _ _ => (k_pg_tup (K := K) (n := 2) rfl rfl (pgs_cons (pg_name nd (i := 2) rfl (Or.inl rfl)) (pgs_cons (pg_name nd (i := 3) rfl (Or.inl rfl)) pgs_nil)))) (fun _ _ _ _ _ => pts_nil) (fun _ _ _ _ _ => (pv 3))) pa_nil)) pa_nil))
      (psa_of (pss_one (ks_fld (K := K) rfl (pv 0) (pe_callTy (k_tuple_of (K := K) rfl) rfl z.b_tuple boot_tuple (pa_cons (pv 1) pa_nil))))) (by omega))), ?_⟩
  obtain ⟨x, dx, pb, fs, rfl, rfl, hx, hp, hd, h1, h2, h3, h4, hq⟩ := h
  obtain ⟨mc, u, c1, c2⟩ := z.k_Record_MOST
  simp [tRet, tRetN, tSeq, tIfS, tDrop, tNext, tNever, tBreak, tCont, tAsg, gName, gCons, gNil, gTup, tAndV, tOrV, tNotV, tAnd, tOr, tNot, tOp, tUn, tVar, tC, tB, tTest, tIf, tCons, tNil, tCB, tTup, tLst, tFld, sFld, sFldAug, rAdd, rSub, tSl, tPart, tNoPart, rI0, rI, rU, rEq, rNe, rSlS, rSlL, rIxL, rIxT, rIxS, tChain, tFn, tMt, tM1, tM0, tBM, rAppend, rIn, tIsN, tNotN, scal_ss, scal_ii, let_nil, let_one, fig_nil, fig_one, LenV_str, L2.start, cxOf, and_assoc, tJs, tFmt, put_at, lk_at, lk_script, lk_upcoming, lk_refuse, lk_skips, lk_expect, lk_word_of, lk_name_unlike, lk_number_to, lk_finish, sp0, sp1, sp2, sp3, sp4, sp5, -List.lookup_eq_none_iff, ClX.tCVal]
  refine ⟨mc, c1, _, ⟨u, c2⟩, pb, fs, 8, rfl, rfl, hp, h1, h2, by omega, h3, h4, fun H1 e => ?_⟩
  obtain ⟨xs, hx1, hf⟩ := hp
  have hf1 := hf.st ap (Stb.of e)
  have hx2 := e _ _ hx1
  obtain ⟨bs, hb1, hb2, hb3, hb4⟩ := FsAt.parts hf1
  have hlen := hf.len
  simp only [tSup]
  refine ⟨x, _, dx, _, _, _, rfl, e _ _ hx, y.sm_Record_Record, ok_Group___init__ z y, ?_⟩
  simp [tRet, tRetN, tSeq, tIfS, tDrop, tNext, tNever, tBreak, tCont, tAsg, gName, gCons, gNil, gTup, tAndV, tOrV, tNotV, tAnd, tOr, tNot, tOp, tUn, tVar, tC, tB, tTest, tIf, tCons, tNil, tCB, tTup, tLst, tFld, sFld, sFldAug, rAdd, rSub, tSl, tPart, tNoPart, rI0, rI, rU, rEq, rNe, rSlS, rSlL, rIxL, rIxT, rIxS, tChain, tFn, tMt, tM1, tM0, tBM, rAppend, rIn, tIsN, tNotN, scal_ss, scal_ii, let_nil, let_one, fig_nil, fig_one, LenV_str, L2.start, cxOf, and_assoc, tJs, tFmt, put_at, lk_at, lk_script, lk_upcoming, lk_refuse, lk_skips, lk_expect, lk_word_of, lk_name_unlike, lk_number_to, lk_finish, sp0, sp1, sp2, sp3, sp4, sp5, -List.lookup_eq_none_iff]
  refine lc_mapL (a := pb) (xs := xs) (ys := bs.map fun y => .ref y.2) (fun R h => ⟨_, rfl, h⟩) monG_tup2 monT_yes (by simp; omega) (by simp [hb1]) (SqL.of hx2) (fun i v w H' R hi hy e2 hR => ?_) fun D H2 e2 hD hl => ?_
  · rw [List.getElem?_map] at hy
    cases hy2 : bs[i]? with
    | none => rw [hy2] at hy; cases hy
    | some q =>
      rw [hy2] at hy
      cases hy
      obtain ⟨q2, n, rfl, hq2⟩ := hb4 i v q hi hy2
      refine ⟨_, _, rfl, SqT.of (e2 _ _ hq2), rfl, _, _, rfl, _, _, rfl, rfl, rfl, ?_⟩
      simp [tRet, tRetN, tSeq, tIfS, tDrop, tNext, tNever, tBreak, tCont, tAsg, gName, gCons, gNil, gTup, tAndV, tOrV, tNotV, tAnd, tOr, tNot, tOp, tUn, tVar, tC, tB, tTest, tIf, tCons, tNil, tCB, tTup, tLst, tFld, sFld, sFldAug, rAdd, rSub, tSl, tPart, tNoPart, rI0, rI, rU, rEq, rNe, rSlS, rSlL, rIxL, rIxT, rIxS, tChain, tFn, tMt, tM1, tM0, tBM, rAppend, rIn, tIsN, tNotN, scal_ss, scal_ii, let_nil, let_one, fig_nil, fig_one, LenV_str, L2.start, cxOf, and_assoc, tJs, tFmt, put_at, lk_at, lk_script, lk_upcoming, lk_refuse, lk_skips, lk_expect, lk_word_of, lk_name_unlike, lk_number_to, lk_finish, sp0, sp1, sp2, sp3, sp4, sp5, -List.lookup_eq_none_iff, tYes, wipe]
      exact hR _ Ex.rfl'
  · have e3 := Ex.trans e e2
    have hdep : (bs.foldl (fun m x => max m (x.1.depth + 1)) 0) = fs.depth := by
      rw [← Fs.depth_fold, ← hb2, List.foldl_map]
    refine ⟨D, bs, rfl, SqL.of hl, fun q hq => (hb3 q hq).st ap (Stb.of e2), ?_⟩
    rw [hdep]
    refine ⟨_, x, dx, pb, xs, fs.depth, rfl, rfl, rfl, e3 _ _ hx, e2 _ _ hx2, z.cls_Record, z.na_Record_depth, z.na_Record_held, y.sm_Record_Group, hd, fun l H' k1 hx' => ?_⟩
    have hpx : pb ≠ x := fun e => by rw [e, hx] at hx1; cases hx1
    refine ⟨xs, Or.inl ⟨SqL.of (k1 _ _ hpx (e2 _ _ hx2)), fun t ht => ?_⟩⟩
    have htx : t ≠ x := fun e => by rw [e, hx'] at ht; cases ht
    have e1 : upd H' t (.tup xs) x = some (.ins (ga K "Record") dx [("depth", .int ((fs.depth : Nat) : Int)), ("held", .ref l)]) := by
      rw [upd_ne (Ne.symm htx)]
      exact hx'
    simp [e1]
    simp [tRet, tRetN, tSeq, tIfS, tDrop, tNext, tNever, tBreak, tCont, tAsg, gName, gCons, gNil, gTup, tAndV, tOrV, tNotV, tAnd, tOr, tNot, tOp, tUn, tVar, tC, tB, tTest, tIf, tCons, tNil, tCB, tTup, tLst, tFld, sFld, sFldAug, rAdd, rSub, tSl, tPart, tNoPart, rI0, rI, rU, rEq, rNe, rSlS, rSlL, rIxL, rIxT, rIxS, tChain, tFn, tMt, tM1, tM0, tBM, rAppend, rIn, tIsN, tNotN, scal_ss, scal_ii, let_nil, let_one, fig_nil, fig_one, LenV_str, L2.start, cxOf, and_assoc, tJs, tFmt, put_at, lk_at, lk_script, lk_upcoming, lk_refuse, lk_skips, lk_expect, lk_word_of, lk_name_unlike, lk_number_to, lk_finish, sp0, sp1, sp2, sp3, sp4, sp5, -List.lookup_eq_none_iff, z.cls_Record, z.na_Record_fields, put_fields]
    have k2 : K1 x H (upd (upd H' t (.tup xs)) x (.ins (ga K "Record") dx [("depth", .int ((fs.depth : Nat) : Int)), ("held", .ref l), ("fields", .ref t)])) := K1.trans (K1.of e3) (K1.trans k1 (K1.trans (K1.of (Ex.new ht)) K1.upd))
    exact hq _ k2 ⟨dx, l, t, xs, upd_same, by rw [upd_ne htx, upd_same], hf.st ap (Stb.made k2 hx), by omega⟩
theorem sc_Overlay___init__ : ScS ["self", "members", "name", "part"] ["self", "members"] (defScope s_Overlay___init__) := ⟨rfl, rfl, rfl, by decide +kernel, rfl, by decide +kernel, by decide +kernel, by decide +kernel⟩
theorem ok_Overlay___init__ (z : Zk K mg base) (y : Zs P K) (c_need_pairs : Cal P w K mg base "need_pairs" 3 (sp_need_pairs K)) (c_depth_over : Cal P w K mg base "depth_over" 1 (sp_depth_over K)) (ap : Apart K) : FnR P w K mg base (L2.CX P w) 4 (fAd K ("Overlay", some "__init__")) ((spRec "Overlay" 4 .ovl K)) := by
  refine fnr_ofS (sup := y.sup) y.s_Overlay___init__ sc_Overlay___init__ ⟨_, rfl, rfl⟩ y.cd_Overlay (fun _ _ _ _ _ _ _ us hl => match us, hl with | [_, _], _ => rfl) (fun vs H Q E h => by match vs, h with | [_, _], _ => rfl) (fun cd cc A outer s H vs Q E hT hr h => ?_)
  have nd := sc_Overlay___init__.nd
  have hu0 := hr.units0
  match vs, h with
  | [a0, a1], h =>
  refine ⟨_, (psa_cons (ps_expr (pe_fn c_need_pairs hr (passD (E := E)) (pa_cons (pv 1) (pa_cons (k_cval (K := K) rfl (pe_gref z.g_Overlay)) pa_nil))))
      (psa_sup (k := 2) hT rfl rfl rfl rfl rfl hr (passD (E := E)) (pa_cons (pv 1) (pa_cons (pe_fn c_depth_over hr (passD (E := E)) (pa_cons (pe_lc rfl nd (k_pi_list (K := K) rfl (pv 1)) (blkOk_by (N := ["self", "members", "name", "part"]) (sc := defScope s_Overlay___init__) (own := [("name", 2), ("part", 3)]) (by decide +kernel)) (fun _ _ _ _ _ => (k_pg_tup (K := K) (n := 2) rfl rfl (pgs_cons (pg_name nd (i := 2) rfl (Or.inl rfl)) (pgs_cons (pg_name nd (i := 3) rfl (Or.inl rfl)) pgs_nil)))) (fun _ _ _ _ _ => pts_nil) (fun _ _ _ _ _ => (pv 3))) pa_nil)) pa_nil))
      (psa_of (pss_one (ks_fld (K := K) rfl (pv 0) (pe_callTy (k_tuple_of (K := K) rfl) rfl z.b_tuple boot_tuple (pa_cons (pv 1) pa_nil))))) (by omega))), ?_⟩
  obtain ⟨x, dx, pb, fs, rfl, rfl, hx, hp, hd, h1, h2, h3, h4, hq⟩ := h
  obtain ⟨mc, u, c1, c2⟩ := z.k_Overlay_MOST
  simp [tRet, tRetN, tSeq, tIfS, tDrop, tNext, tNever, tBreak, tCont, tAsg, gName, gCons, gNil, gTup, tAndV, tOrV, tNotV, tAnd, tOr, tNot, tOp, tUn, tVar, tC, tB, tTest, tIf, tCons, tNil, tCB, tTup, tLst, tFld, sFld, sFldAug, rAdd, rSub, tSl, tPart, tNoPart, rI0, rI, rU, rEq, rNe, rSlS, rSlL, rIxL, rIxT, rIxS, tChain, tFn, tMt, tM1, tM0, tBM, rAppend, rIn, tIsN, tNotN, scal_ss, scal_ii, let_nil, let_one, fig_nil, fig_one, LenV_str, L2.start, cxOf, and_assoc, tJs, tFmt, put_at, lk_at, lk_script, lk_upcoming, lk_refuse, lk_skips, lk_expect, lk_word_of, lk_name_unlike, lk_number_to, lk_finish, sp0, sp1, sp2, sp3, sp4, sp5, -List.lookup_eq_none_iff, ClX.tCVal]
  refine ⟨mc, c1, _, ⟨u, c2⟩, pb, fs, 4, rfl, rfl, hp, h1, h2, by omega, h3, h4, fun H1 e => ?_⟩
  obtain ⟨xs, hx1, hf⟩ := hp
  have hf1 := hf.st ap (Stb.of e)
  have hx2 := e _ _ hx1
  obtain ⟨bs, hb1, hb2, hb3, hb4⟩ := FsAt.parts hf1
  have hlen := hf.len
  simp only [tSup]
  refine ⟨x, _, dx, _, _, _, rfl, e _ _ hx, y.sm_Overlay_Overlay, ok_Group___init__ z y, ?_⟩
  simp [tRet, tRetN, tSeq, tIfS, tDrop, tNext, tNever, tBreak, tCont, tAsg, gName, gCons, gNil, gTup, tAndV, tOrV, tNotV, tAnd, tOr, tNot, tOp, tUn, tVar, tC, tB, tTest, tIf, tCons, tNil, tCB, tTup, tLst, tFld, sFld, sFldAug, rAdd, rSub, tSl, tPart, tNoPart, rI0, rI, rU, rEq, rNe, rSlS, rSlL, rIxL, rIxT, rIxS, tChain, tFn, tMt, tM1, tM0, tBM, rAppend, rIn, tIsN, tNotN, scal_ss, scal_ii, let_nil, let_one, fig_nil, fig_one, LenV_str, L2.start, cxOf, and_assoc, tJs, tFmt, put_at, lk_at, lk_script, lk_upcoming, lk_refuse, lk_skips, lk_expect, lk_word_of, lk_name_unlike, lk_number_to, lk_finish, sp0, sp1, sp2, sp3, sp4, sp5, -List.lookup_eq_none_iff]
  refine lc_mapL (a := pb) (xs := xs) (ys := bs.map fun y => .ref y.2) (fun R h => ⟨_, rfl, h⟩) monG_tup2 monT_yes (by simp; omega) (by simp [hb1]) (SqL.of hx2) (fun i v w H' R hi hy e2 hR => ?_) fun D H2 e2 hD hl => ?_
  · rw [List.getElem?_map] at hy
    cases hy2 : bs[i]? with
    | none => rw [hy2] at hy; cases hy
    | some q =>
      rw [hy2] at hy
      cases hy
      obtain ⟨q2, n, rfl, hq2⟩ := hb4 i v q hi hy2
      refine ⟨_, _, rfl, SqT.of (e2 _ _ hq2), rfl, _, _, rfl, _, _, rfl, rfl, rfl, ?_⟩
      simp [tRet, tRetN, tSeq, tIfS, tDrop, tNext, tNever, tBreak, tCont, tAsg, gName, gCons, gNil, gTup, tAndV, tOrV, tNotV, tAnd, tOr, tNot, tOp, tUn, tVar, tC, tB, tTest, tIf, tCons, tNil, tCB, tTup, tLst, tFld, sFld, sFldAug, rAdd, rSub, tSl, tPart, tNoPart, rI0, rI, rU, rEq, rNe, rSlS, rSlL, rIxL, rIxT, rIxS, tChain, tFn, tMt, tM1, tM0, tBM, rAppend, rIn, tIsN, tNotN, scal_ss, scal_ii, let_nil, let_one, fig_nil, fig_one, LenV_str, L2.start, cxOf, and_assoc, tJs, tFmt, put_at, lk_at, lk_script, lk_upcoming, lk_refuse, lk_skips, lk_expect, lk_word_of, lk_name_unlike, lk_number_to, lk_finish, sp0, sp1, sp2, sp3, sp4, sp5, -List.lookup_eq_none_iff, tYes, wipe]
      exact hR _ Ex.rfl'
  · have e3 := Ex.trans e e2
    have hdep : (bs.foldl (fun m x => max m (x.1.depth + 1)) 0) = fs.depth := by
      rw [← Fs.depth_fold, ← hb2, List.foldl_map]
    refine ⟨D, bs, rfl, SqL.of hl, fun q hq => (hb3 q hq).st ap (Stb.of e2), ?_⟩
    rw [hdep]
    refine ⟨_, x, dx, pb, xs, fs.depth, rfl, rfl, rfl, e3 _ _ hx, e2 _ _ hx2, z.cls_Overlay, z.na_Overlay_depth, z.na_Overlay_held, y.sm_Overlay_Group, hd, fun l H' k1 hx' => ?_⟩
    have hpx : pb ≠ x := fun e => by rw [e, hx] at hx1; cases hx1
    refine ⟨xs, Or.inl ⟨SqL.of (k1 _ _ hpx (e2 _ _ hx2)), fun t ht => ?_⟩⟩
    have htx : t ≠ x := fun e => by rw [e, hx'] at ht; cases ht
    have e1 : upd H' t (.tup xs) x = some (.ins (ga K "Overlay") dx [("depth", .int ((fs.depth : Nat) : Int)), ("held", .ref l)]) := by
      rw [upd_ne (Ne.symm htx)]
      exact hx'
    simp [e1]
    simp [tRet, tRetN, tSeq, tIfS, tDrop, tNext, tNever, tBreak, tCont, tAsg, gName, gCons, gNil, gTup, tAndV, tOrV, tNotV, tAnd, tOr, tNot, tOp, tUn, tVar, tC, tB, tTest, tIf, tCons, tNil, tCB, tTup, tLst, tFld, sFld, sFldAug, rAdd, rSub, tSl, tPart, tNoPart, rI0, rI, rU, rEq, rNe, rSlS, rSlL, rIxL, rIxT, rIxS, tChain, tFn, tMt, tM1, tM0, tBM, rAppend, rIn, tIsN, tNotN, scal_ss, scal_ii, let_nil, let_one, fig_nil, fig_one, LenV_str, L2.start, cxOf, and_assoc, tJs, tFmt, put_at, lk_at, lk_script, lk_upcoming, lk_refuse, lk_skips, lk_expect, lk_word_of, lk_name_unlike, lk_number_to, lk_finish, sp0, sp1, sp2, sp3, sp4, sp5, -List.lookup_eq_none_iff, z.cls_Overlay, z.na_Overlay_members, put_members]
    have k2 : K1 x H (upd (upd H' t (.tup xs)) x (.ins (ga K "Overlay") dx [("depth", .int ((fs.depth : Nat) : Int)), ("held", .ref l), ("members", .ref t)])) := K1.trans (K1.of e3) (K1.trans k1 (K1.trans (K1.of (Ex.new ht)) K1.upd))
    exact hq _ k2 ⟨dx, l, t, xs, upd_same, by rw [upd_ne htx, upd_same], hf.st ap (Stb.made k2 hx), by omega⟩
end
end Mp

set_option maxHeartbeats 4000000
/-! Kp5: the reader of parts -/
namespace Mp
open PySem PySem.Spec PyProof.Rows L2
open StX (tMakeR run_makeR pe_makeR)
open He (ga ma fAd)
section
variable {P : Program} {w : World} {K : PySem.W.Frag} {mg : Str → Option Value} {base : Heap}
def KindsAt (K : PySem.W.Frag) (H : Hp) (ks : List Knd) (a : Addr) : Prop := ∃ as : List Addr, as.length = ks.length ∧ (SqL K H a (as.map V.ref) ∨ SqT K H a (as.map V.ref)) ∧ ∀ (i : Nat) (q : Knd) (b : Addr), ks[i]? = some q → as[i]? = some b → PartAt K H (.kind q.1 q.2) b
structure KsOk (ks : List Knd) : Prop where
  nd : (ks.map (·.1)).Nodup
  ok : ∀ q ∈ ks, nameOk q.1 = true
  len : ks.length ≤ 100
theorem KindsAt.k1 {H H' : Hp} {c a : Addr} {l r : List Nat} {ks : List Knd} (ap : Apart K) (k : K1 c H H') (h : CurR K H c l r) (x : KindsAt K H ks a) : KindsAt K H' ks a := by
  obtain ⟨as, h1, h2, h3⟩ := x
  exact ⟨as, h1, h2.elim (fun e => Or.inl (SqL.k1 k h e)) (fun e => Or.inr (SqT.k1 k h e)), fun i q b hq hb => (h3 i q b hq hb).st ap (Stb.k1 k h)⟩
theorem KindsAt.ex {H H' : Hp} {a : Addr} {ks : List Knd} (ap : Apart K) (e : Ex H H') (x : KindsAt K H ks a) : KindsAt K H' ks a := by
  obtain ⟨as, h1, h2, h3⟩ := x
  exact ⟨as, h1, h2.elim (fun z => Or.inl (Ex.l e z)) (fun z => Or.inr (Ex.t e z)), fun i q b hq hb => (h3 i q b hq hb).st ap (Stb.of e)⟩
/-- how the reading of a part ends -/
def EndsP (K : PySem.W.Frag) (c : Addr) (l : List Nat) (H : Hp) (Q : VK) (E : XK) (res : Res Pt) : Prop :=
  match res with
  | .ok p r => ∀ a H', K1 c H H' → CurR K H' c l r → PartAt K H' p a → Q (.ref a) H'
  | .bad r => BadK K c E H (l.length - r.length)
def spInner (m : Nat) (K : PySem.W.Frag) : Sp := sp3 fun a b d H Q E => ∃ c ka l r ks, a = .ref c ∧ b = .ref ka ∧ d = .int ((m : Nat) : Int) ∧ CurR K H c l r ∧ KindsAt K H ks ka ∧ KsOk ks ∧ EndsP K c l H Q E (readInner ks m r)
def rowRes (ks : List Knd) (m : Nat) (r : List Nat) : Res Pt := (numGo 1 64 0 false r).bind fun n r => (expect 42 r).bind fun _ r => (readInner ks m r).bind fun p r => .ok (.row n p) r
def spReadRow (m : Nat) (K : PySem.W.Frag) : Sp := sp3 fun a b d H Q E => ∃ c ka l r ks m', m = m' + 1 ∧ m' < 4 ∧ a = .ref c ∧ b = .ref ka ∧ d = .int ((m : Nat) : Int) ∧ CurR K H c l r ∧ KindsAt K H ks ka ∧ KsOk ks ∧ EndsP K c l H Q E (rowRes ks m' r)
theorem c_star : Str.ofString "*" = S [42] := rfl
theorem c_colon : Str.ofString ":" = S [58] := rfl
theorem c_at : Str.ofString "@" = S [64] := rfl
theorem expect_use {H : Hp} {c : Addr} {l r : List Nat} {x : Nat} {Q : VK} {E : XK} (hC : CurR K H c l r) (h : Ends1 K c l H E (expect x r) fun _ H' => Q .non H') : sp_Cursor_expect K [.ref c, .str (S [x])] H Q E := by
  refine ⟨c, l, r, x, rfl, rfl, hC, fun r' e H' k1 c1 => ?_, fun hne => ?_⟩
  · subst e
    rw [expect, if_pos rfl] at h
    exact h H' k1 c1
  · cases r with
    | nil => exact h
    | cons y r =>
      rw [expect, if_neg (fun e => hne r (by rw [e]))] at h
      exact h
/-- how a class is made -/
theorem cmk_kind (z : Zk K mg base) {k : Nat} {sp : Sp} (F : FnR P w K mg base (L2.CX P w) k (fAd K ("Kind", some "__init__")) sp) : Cmk P w K mg base "Kind" (ga K "Kind") k sp := ⟨_, F, z.g_Kind, z.mk_Kind⟩
theorem cmk_byte (z : Zk K mg base) {k : Nat} {sp : Sp} (F : FnR P w K mg base (L2.CX P w) k (fAd K ("Byte", some "__init__")) sp) : Cmk P w K mg base "Byte" (ga K "Byte") k sp := ⟨_, F, z.g_Byte, z.mk_Byte⟩
theorem cmk_use (z : Zk K mg base) {k : Nat} {sp : Sp} (F : FnR P w K mg base (L2.CX P w) k (fAd K ("Use", some "__init__")) sp) : Cmk P w K mg base "Use" (ga K "Use") k sp := ⟨_, F, z.g_Use, z.mk_Use⟩
theorem cmk_row (z : Zk K mg base) {k : Nat} {sp : Sp} (F : FnR P w K mg base (L2.CX P w) k (fAd K ("Row", some "__init__")) sp) : Cmk P w K mg base "Row" (ga K "Row") k sp := ⟨_, F, z.g_Row, z.mk_Row⟩
theorem cmk_record (z : Zk K mg base) {k : Nat} {sp : Sp} (F : FnR P w K mg base (L2.CX P w) k (fAd K ("Record", some "__init__")) sp) : Cmk P w K mg base "Record" (ga K "Record") k sp := ⟨_, F, z.g_Record, z.mk_Record⟩
theorem cmk_overlay (z : Zk K mg base) {k : Nat} {sp : Sp} (F : FnR P w K mg base (L2.CX P w) k (fAd K ("Overlay", some "__init__")) sp) : Cmk P w K mg base "Overlay" (ga K "Overlay") k sp := ⟨_, F, z.g_Overlay, z.mk_Overlay⟩
section
variable {m k : Nat}
theorem sc_read_row : FnScope ["cursor", "kinds", "room", "many"] ["cursor", "kinds", "room"] (defScope s_read_row) := ⟨rfl, rfl, rfl, by decide +kernel, rfl, by decide +kernel, by decide +kernel⟩
theorem ok_read_row (z : Zk K mg base) (m_Cursor_number_to : Cmt P w K mg base (ga K "Cursor") "number_to" 4 (sp_Cursor_number_to K)) (m_Cursor_expect : Cmt P w K mg base (ga K "Cursor") "expect" 4 (sp_Cursor_expect K)) (ap : Apart K) (k_Row : Cmk P w K mg base "Row" (ga K "Row") 3 (spRow K)) (c_read_inner : Cal P w K mg base "read_inner" k (spInner (m-1) K)) (hk : 4 ≤ k) : Cal P w K mg base "read_row" (k + 1) ((spReadRow m K)) := by
  obtain ⟨fd, F⟩ := z.d_read_row
  refine cal_of F z.g_read_row sc_read_row (fun _ _ _ _ _ _ us hl => match us, hl with | [_, _, _], _ => rfl) (fun vs H Q E h => by match vs, h with | [_, _, _], _ => rfl) (fun cdv A outer s H vs Q E hr h => ?_)
  have nd := sc_read_row.nd
  have hu : (cxOf (L2.CX P w) P w K mg base ["cursor", "kinds", "room", "many"] "read_row" (defScope s_read_row) (fAd K ("read_row", none)) cdv A outer s H E).A.units + 64 < cLine := hr.units
  have hu0 := hr.units0
  have hu1 := hu_of hr
  match vs, h with
  | [a0, a1, a2], h =>
  refine ⟨_, (pss_cons (ps_set (i := 3) nd rfl (Or.inl rfl) (pe_mt (pv 0) m_Cursor_number_to hr (passD (E := E)) (pa_cons pe_int (pa_cons (k_cval (K := K) rfl (pe_gref z.g_Row)) pa_nil)) (by omega)))
      (pss_cons (ps_expr (pe_mt (pv 0) m_Cursor_expect hr (passD (E := E)) (pa_cons pe_str pa_nil) (by omega)))
      (pss_one (ps_ret (pe_mk k_Row hr (passD (E := E)) (pa_cons (pe_fn c_read_inner hr (passD (E := E)) (pa_cons (pv 0) (pa_cons (pv 1) (pa_cons (pe_op op_sub (pv 2) pe_int) pa_nil))) (by omega)) (pa_cons (pv 3) pa_nil)) (by omega)))))), ?_⟩
  obtain ⟨c, ka, l, r, ks, m', rfl, hm, rfl, rfl, rfl, hC, hK, hO, hq⟩ := h
  obtain ⟨mc, u, c1, c2⟩ := z.k_Row_MOST
  obtain ⟨hs, hl, dx, hc⟩ := id hC
  simp [tRet, tRetN, tSeq, tIfS, tDrop, tNext, tNever, tBreak, tCont, tAsg, gName, gCons, gNil, gTup, tAndV, tOrV, tNotV, tAnd, tOr, tNot, tOp, tUn, tVar, tC, tB, tTest, tIf, tCons, tNil, tCB, tTup, tLst, tFld, sFld, sFldAug, rAdd, rSub, tSl, tPart, tNoPart, rI0, rI, rU, rEq, rNe, rSlS, rSlL, rIxL, rIxT, rIxS, tChain, tFn, tMt, tM1, tM0, tBM, rAppend, rIn, tIsN, tNotN, scal_ss, scal_ii, let_nil, let_one, fig_nil, fig_one, LenV_str, L2.start, cxOf, and_assoc, tJs, tFmt, put_at, lk_at, lk_script, lk_upcoming, lk_refuse, lk_skips, lk_expect, lk_word_of, lk_name_unlike, lk_number_to, lk_finish, sp0, sp1, sp2, sp3, sp4, sp5, -List.lookup_eq_none_iff, ClX.tCVal, hc]
  refine ⟨mc, c1, _, ⟨u, c2⟩, c, l, r, 1, 64, rfl, rfl, rfl, hC, by omega, ?_⟩
  unfold rowRes at hq
  cases hn : numGo 1 64 0 false r with
  | bad r1 =>
    rw [hn] at hq
    exact hq
  | ok n r1 =>
    rw [hn] at hq
    intro H1 k1 hC1
    obtain ⟨hs1, hl1, dx1, hc1⟩ := id hC1
    simp [tRet, tRetN, tSeq, tIfS, tDrop, tNext, tNever, tBreak, tCont, tAsg, gName, gCons, gNil, gTup, tAndV, tOrV, tNotV, tAnd, tOr, tNot, tOp, tUn, tVar, tC, tB, tTest, tIf, tCons, tNil, tCB, tTup, tLst, tFld, sFld, sFldAug, rAdd, rSub, tSl, tPart, tNoPart, rI0, rI, rU, rEq, rNe, rSlS, rSlL, rIxL, rIxT, rIxS, tChain, tFn, tMt, tM1, tM0, tBM, rAppend, rIn, tIsN, tNotN, scal_ss, scal_ii, let_nil, let_one, fig_nil, fig_one, LenV_str, L2.start, cxOf, and_assoc, tJs, tFmt, put_at, lk_at, lk_script, lk_upcoming, lk_refuse, lk_skips, lk_expect, lk_word_of, lk_name_unlike, lk_number_to, lk_finish, sp0, sp1, sp2, sp3, sp4, sp5, -List.lookup_eq_none_iff, hc1, c_star]
    refine expect_use hC1 ?_
    have hn2 := numGo_ok (fun e => by cases e) hn
    cases he : expect 42 r1 with
    | bad r2 =>
      rw [Res.bind, he] at hq
      exact BadK.k1 hq k1
    | ok _ r2 =>
      rw [Res.bind, he, Res.bind] at hq
      intro H2 k2 hC2
      have k12 := K1.trans k1 k2
      simp [tRet, tRetN, tSeq, tIfS, tDrop, tNext, tNever, tBreak, tCont, tAsg, gName, gCons, gNil, gTup, tAndV, tOrV, tNotV, tAnd, tOr, tNot, tOp, tUn, tVar, tC, tB, tTest, tIf, tCons, tNil, tCB, tTup, tLst, tFld, sFld, sFldAug, rAdd, rSub, tSl, tPart, tNoPart, rI0, rI, rU, rEq, rNe, rSlS, rSlL, rIxL, rIxT, rIxS, tChain, tFn, tMt, tM1, tM0, tBM, rAppend, rIn, tIsN, tNotN, scal_ss, scal_ii, let_nil, let_one, fig_nil, fig_one, LenV_str, L2.start, cxOf, and_assoc, tJs, tFmt, put_at, lk_at, lk_script, lk_upcoming, lk_refuse, lk_skips, lk_expect, lk_word_of, lk_name_unlike, lk_number_to, lk_finish, sp0, sp1, sp2, sp3, sp4, sp5, -List.lookup_eq_none_iff, tMakeR]
      refine ⟨c, ka, l, r2, ks, rfl, rfl, by simp, hC2, hK.k1 ap k12 hC, hO, ?_⟩
      cases hi : readInner ks m' r2 with
      | bad r3 =>
        rw [hi] at hq
        exact BadK.k1 hq k12
      | ok p r3 =>
        rw [hi] at hq
        intro a H3 k3 hC3 hp x dx hx hdx hne
        have hd := readInner_depth hi
        refine ⟨x, dx, a, p, n, rfl, rfl, rfl, upd_same, hp.st ap (Stb.of (made_ex0 hx hdx)), by omega, hn2.1, hn2.2, fun H4 k4 hp4 => ⟨rfl, ?_⟩⟩
        have e4 := made_ex hx hdx k4
        exact hq x H4 (K1.trans (K1.trans k12 k3) (K1.of e4)) (hC3.ex e4) hp4
/-- the named parts of one bracket -/
def EndsN (K : PySem.W.Frag) (c : Addr) (l : List Nat) (H : Hp) (Q : VK) (E : XK) (res : Res Fs) : Prop :=
  match res with
  | .ok fs r => ∀ a H', K1 c H H' → CurR K H' c l r → PairsAt K H' fs a → Q (.ref a) H'
  | .bad r => BadK K c E H (l.length - r.length)
def spNamed (m : Nat) (K : PySem.W.Frag) : Sp := sp5 fun a b d e f H Q E => ∃ c ka l o r sep cl ks m' most, m = m' + 1 ∧ m' < 4 ∧ a = .ref c ∧ b = .ref ka ∧ d = .int ((m : Nat) : Int) ∧ e = .str (S [o, sep, cl]) ∧ f = .int ((most + 1 : Nat) : Int) ∧ most < 100 ∧ CurR K H c l (o :: r) ∧ KindsAt K H ks ka ∧ KsOk ks ∧
  EndsN K c l H Q E (named (readInner ks m') sep cl most .nil r)
theorem ix3 (a b c : Nat) : atI (S [a, b, c]).cps.toList 0 = some a ∧ atI (S [a, b, c]).cps.toList 1 = some b ∧ atI (S [a, b, c]).cps.toList 2 = some c := by
  rw [S_cps]
  exact ⟨rfl, rfl, rfl⟩
/-- at the loop's head -/
def namedAt (rd : List Nat → Res Pt) (sep cl most : Nat) (found : Fs) (r : List Nat) : Res Fs :=
  if found.len = 0 then named rd sep cl most .nil r
  else if found.len < most + 1 then (match r with
    | x :: r' => if x = sep then named rd sep cl (most - found.len) found r' else close cl found (x :: r')
    | [] => close cl found [])
  else close cl found r
theorem entry_len {rd : List Nat → Res Pt} {found fs : Fs} {r r' : List Nat} (h : entry rd found r = .ok fs r') : fs.len = found.len + 1 := by
  unfold entry at h
  obtain ⟨n, q1, e1, h⟩ := Res.bind_ok h
  obtain ⟨_, q2, e2, h⟩ := Res.bind_ok h
  obtain ⟨p, q3, e3, h⟩ := Res.bind_ok h
  cases h
  exact Fs.len_snoc _ _ _
theorem named_step {rd : List Nat → Res Pt} {sep cl most fuel : Nat} {found : Fs} {r : List Nat} (h : fuel + found.len = most) : named rd sep cl fuel found r = (entry rd found r).bind fun fs r => namedAt rd sep cl most fs r := by
  cases he : entry rd found r with
  | bad q => cases fuel <;> (rw [named, he]; rfl)
  | ok fs q =>
    have hl := entry_len he
    cases fuel with
    | zero =>
      rw [named, he]
      simp only [Res.bind]
      unfold namedAt
      rw [if_neg (by omega), if_neg (by omega)]
    | succ fuel =>
      rw [named, he]
      simp only [Res.bind]
      unfold namedAt
      rw [if_neg (by omega), if_pos (by omega)]
      cases q with
      | nil => rfl
      | cons x q =>
        dsimp only
        rw [show most - fs.len = fuel by omega]
theorem sc_read_named : FnScope ["cursor", "kinds", "room", "signs", "most", "found", "name", "one", "part"] ["cursor", "kinds", "room", "signs", "most"] (defScope s_read_named) := ⟨rfl, rfl, rfl, by decide +kernel, rfl, by decide +kernel, by decide +kernel⟩
theorem ok_read_named (z : Zk K mg base) (m_Cursor_skips : Cmt P w K mg base (ga K "Cursor") "skips" 2 (sp_Cursor_skips K)) (m_Cursor_name_unlike : Cmt P w K mg base (ga K "Cursor") "name_unlike" 4 (sp_Cursor_name_unlike K)) (m_Cursor_expect : Cmt P w K mg base (ga K "Cursor") "expect" 4 (sp_Cursor_expect K)) (ap : Apart K) (c_read_inner : Cal P w K mg base "read_inner" k (spInner (m-1) K)) (hk : 4 ≤ k) : Cal P w K mg base "read_named" (k + 1) ((spNamed m K)) := by
  obtain ⟨fd, F⟩ := z.d_read_named
  refine cal_of F z.g_read_named sc_read_named (fun _ _ _ _ _ _ us hl => match us, hl with | [_, _, _, _, _], _ => rfl) (fun vs H Q E h => by match vs, h with | [_, _, _, _, _], _ => rfl) (fun cdv A outer s H vs Q E hr h => ?_)
  have nd := sc_read_named.nd
  have hu : (cxOf (L2.CX P w) P w K mg base ["cursor", "kinds", "room", "signs", "most", "found", "name", "one", "part"] "read_named" (defScope s_read_named) (fAd K ("read_named", none)) cdv A outer s H E).A.units + 64 < cLine := hr.units
  have hu0 := hr.units0
  have hu1 := hu_of hr
  match vs, h with
  | [a0, a1, a2, a3, a4], h =>
  refine ⟨_, (pss_cons (ps_expr (pe_mt (pv 0) m_Cursor_expect hr (passD (E := E)) (pa_cons (pe_ix ix_str (pv 3) pe_int fun _ _ => rfl) pa_nil) (by omega)))
      (pss_cons (ps_set (i := 5) nd rfl (Or.inl rfl) (pe_lst pa_nil))
      (pss_cons (ps_while (passes_of rfl) (PW.pt (pw_or (pt_cmpR (k_eqNil (K := K) rfl hu0) (pv 5) (pe_lst pa_nil) (nomark _)) (pw_or1 (PW.pt (pw_and (pt_cmpR op_lt (pe_callB (k_len (K := K) rfl) rfl z.b_len boot_len (pa_cons (pv 5) pa_nil)) (pv 4) (nomark _)) (pw_and1 (pt_val (pe_mt (pv 0) m_Cursor_skips hr (passD (E := E)) (pa_cons (pe_ix ix_str (pv 3) pe_int fun _ _ => rfl) pa_nil) (by omega))))))))) (pss_cons (ps_set (i := 6) nd rfl (Or.inl rfl) (pe_mt (pv 0) m_Cursor_name_unlike hr (passD (E := E)) (pa_cons (pe_lc rfl nd (k_pi_list (K := K) rfl (pv 5)) (blkOk_by (N := ["cursor", "kinds", "room", "signs", "most", "found", "name", "one", "part"]) (sc := defScope s_read_named) (own := [("one", 7), ("part", 8)]) (by decide +kernel)) (fun _ _ _ _ _ => (k_pg_tup (K := K) (n := 2) rfl rfl (pgs_cons (pg_name nd (i := 7) rfl (Or.inl rfl)) (pgs_cons (pg_name nd (i := 8) rfl (Or.inl rfl)) pgs_nil)))) (fun _ _ _ _ _ => pts_nil) (fun _ _ _ _ _ => (pv 7))) pa_nil) (by omega)))
      (pss_cons (ps_expr (pe_mt (pv 0) m_Cursor_expect hr (passD (E := E)) (pa_cons pe_str pa_nil) (by omega)))
      (pss_one (ps_expr (k_append (K := K) rfl (pv 5) (pe_tup (pa_cons (pv 6) (pa_cons (pe_fn c_read_inner hr (passD (E := E)) (pa_cons (pv 0) (pa_cons (pv 1) (pa_cons (pe_op op_sub (pv 2) pe_int) pa_nil))) (by omega)) pa_nil)))))))))
      (pss_cons (ps_expr (pe_mt (pv 0) m_Cursor_expect hr (passD (E := E)) (pa_cons (pe_ix ix_str (pv 3) pe_int fun _ _ => rfl) pa_nil) (by omega)))
      (pss_one (ps_ret (pv 5))))))), ?_⟩
  obtain ⟨c, ka, l, o, r, sep, cl, ks, m', most, rfl, hm, rfl, rfl, rfl, rfl, rfl, hmo, hC, hK, hO, hq⟩ := h
  obtain ⟨hs, hl, dx, hc⟩ := id hC
  obtain ⟨i1, i2, i3⟩ := ix3 o sep cl
  simp [tRet, tRetN, tSeq, tIfS, tDrop, tNext, tNever, tBreak, tCont, tAsg, gName, gCons, gNil, gTup, tAndV, tOrV, tNotV, tAnd, tOr, tNot, tOp, tUn, tVar, tC, tB, tTest, tIf, tCons, tNil, tCB, tTup, tLst, tFld, sFld, sFldAug, rAdd, rSub, tSl, tPart, tNoPart, rI0, rI, rU, rEq, rNe, rSlS, rSlL, rIxL, rIxT, rIxS, tChain, tFn, tMt, tM1, tM0, tBM, rAppend, rIn, tIsN, tNotN, scal_ss, scal_ii, let_nil, let_one, fig_nil, fig_one, LenV_str, L2.start, cxOf, and_assoc, tJs, tFmt, put_at, lk_at, lk_script, lk_upcoming, lk_refuse, lk_skips, lk_expect, lk_word_of, lk_name_unlike, lk_number_to, lk_finish, sp0, sp1, sp2, sp3, sp4, sp5, -List.lookup_eq_none_iff, hc, i1, S_len]
  refine ⟨by rw [sizeLine_eq]; omega, ?_⟩
  show sp_Cursor_expect K [.ref c, .str (S [o])] H _ E
  refine expect_use hC ?_
  rw [expect, if_pos rfl]
  intro H1 k1 hC1 p hp
  have hpc : p ≠ c := fun e => by
    obtain ⟨_, _, dx1, hc1⟩ := hC1
    rw [e, hc1] at hp
    cases hp
  have hp0 : H p = none := by
    cases e : H p with
    | none => rfl
    | some u =>
      rw [k1 p u hpc e] at hp
      cases hp
  have eP : Ex H1 (upd H1 p (.lst [])) := Ex.new hp
  refine twhileB (fun mm σ H' => ∃ found r' xs u1 u2 u3, mm = most + 1 - found.len ∧ σ = [some (.ref c), some (.ref ka), some (.int ((m' : Int) + 1)), some (.str (S [o, sep, cl])), some (.int ((most : Int) + 1)), some (.ref p), u1, u2, u3] ∧ CurR K H' c l r' ∧ K1 c H H' ∧
      H' p = some (.lst xs) ∧ FsAt K H' found xs ∧ found.len ≤ most + 1 ∧ namedAt (readInner ks m') sep cl most found r' = named (readInner ks m') sep cl most .nil r)
    (fun mm σ H' => ∃ found r' xs u1 u2 u3, mm = most + 1 - found.len ∧ σ = [some (.ref c), some (.ref ka), some (.int ((m' : Int) + 1)), some (.str (S [o, sep, cl])), some (.int ((most : Int) + 1)), some (.ref p), u1, u2, u3] ∧ CurR K H' c l r' ∧ K1 c H H' ∧
      H' p = some (.lst xs) ∧ FsAt K H' found xs ∧ found.len ≤ most ∧ named (readInner ks m') sep cl (most - found.len) found r' = named (readInner ks m') sep cl most .nil r) (most + 1)
    ⟨.nil, r, [], none, none, none, rfl, rfl, hC1.ex eP, K1.trans k1 (K1.of eP), upd_same, rfl, by simp [Fs.len], rfl⟩ (fun mm σ H' TT h hT => ?_) (fun mm σ H' h => ?_)
  · obtain ⟨found, r', xs, u1, u2, u3, rfl, rfl, hC', hk, hp', hf, hlen, hg⟩ := h
    obtain ⟨hs', hl', dx', hc'⟩ := id hC'
    simp [tRet, tRetN, tSeq, tIfS, tDrop, tNext, tNever, tBreak, tCont, tAsg, gName, gCons, gNil, gTup, tAndV, tOrV, tNotV, tAnd, tOr, tNot, tOp, tUn, tVar, tC, tB, tTest, tIf, tCons, tNil, tCB, tTup, tLst, tFld, sFld, sFldAug, rAdd, rSub, tSl, tPart, tNoPart, rI0, rI, rU, rEq, rNe, rSlS, rSlL, rIxL, rIxT, rIxS, tChain, tFn, tMt, tM1, tM0, tBM, rAppend, rIn, tIsN, tNotN, scal_ss, scal_ii, let_nil, let_one, fig_nil, fig_one, LenV_str, L2.start, cxOf, and_assoc, tJs, tFmt, put_at, lk_at, lk_script, lk_upcoming, lk_refuse, lk_skips, lk_expect, lk_word_of, lk_name_unlike, lk_number_to, lk_finish, sp0, sp1, sp2, sp3, sp4, sp5, -List.lookup_eq_none_iff, hc', i2, i3, S_len, rEqNil]
    intro q hq2
    have e2 : Ex H' (upd H' q (.lst [])) := Ex.new hq2
    have hfl := hf.len
    have hC2 := hC'.ex e2
    have hc2 := e2 _ _ hc'
    refine ⟨xs, SqL.of (e2 _ _ hp'), SqL.of upd_same, ?_⟩
    by_cases h0 : found.len = 0
    · rw [if_pos (List.eq_nil_of_length_eq_zero (by omega))]
      refine hT _ _ ⟨found, r', xs, u1, u2, u3, rfl, rfl, hC2, K1.trans hk (K1.of e2), e2 _ _ hp', hf.st ap (Stb.of e2), by omega, ?_⟩
      unfold namedAt at hg
      rw [if_pos h0] at hg
      cases found with
      | nil => exact hg
      | cons _ _ _ => simp [Fs.len] at h0
    · rw [if_neg (fun e => h0 (by rw [← hfl, e]; rfl))]
      refine ⟨xs.length, Or.inl ⟨xs, SqL.of (e2 _ _ hp'), rfl⟩, ?_⟩
      unfold namedAt at hg
      rw [if_neg h0] at hg
      have fin : ∀ H2, CurR K H2 c l r' → K1 c H H2 → H2 p = some (.lst xs) → FsAt K H2 found xs → close cl found r' = named (readInner ks m') sep cl most .nil r → sp_Cursor_expect K [.ref c, .str (S [cl])] H2 (fun x H1 => Q (.ref p) H1) E := by
        intro H2 hC3 hk2 hp3 hf3 e
        refine expect_use hC3 ?_
        rw [← e] at hq
        unfold close at hq
        cases he : expect cl r' with
        | bad r2 =>
          rw [he] at hq
          exact BadK.k1 hq hk2
        | ok _ r2 =>
          rw [he] at hq
          intro H3 k3 hC4
          exact hq p H3 (K1.trans hk2 k3) hC4 ⟨xs, k3 p _ hpc hp3, hf3.st ap (Stb.k1 k3 hC3)⟩
      by_cases hlt : found.len < most + 1
      · rw [if_pos hlt] at hg
        rw [if_pos (by omega)]
        simp [tRet, tRetN, tSeq, tIfS, tDrop, tNext, tNever, tBreak, tCont, tAsg, gName, gCons, gNil, gTup, tAndV, tOrV, tNotV, tAnd, tOr, tNot, tOp, tUn, tVar, tC, tB, tTest, tIf, tCons, tNil, tCB, tTup, tLst, tFld, sFld, sFldAug, rAdd, rSub, tSl, tPart, tNoPart, rI0, rI, rU, rEq, rNe, rSlS, rSlL, rIxL, rIxT, rIxS, tChain, tFn, tMt, tM1, tM0, tBM, rAppend, rIn, tIsN, tNotN, scal_ss, scal_ii, let_nil, let_one, fig_nil, fig_one, LenV_str, L2.start, cxOf, and_assoc, tJs, tFmt, put_at, lk_at, lk_script, lk_upcoming, lk_refuse, lk_skips, lk_expect, lk_word_of, lk_name_unlike, lk_number_to, lk_finish, sp0, sp1, sp2, sp3, sp4, sp5, -List.lookup_eq_none_iff, hc2]
        refine ⟨by rw [sizeLine_eq]; omega, ?_⟩
        show sp_Cursor_skips K [.ref c, .str (S [sep])] _ _ E
        refine ⟨c, l, r', sep, rfl, rfl, hC2, fun r2 e H3 k3 hC3 => Or.inr ⟨rfl, ?_⟩, fun hne => Or.inl ⟨rfl, ?_⟩⟩
        · subst e
          dsimp only at hg
          rw [if_pos rfl] at hg
          exact hT _ _ ⟨found, r2, xs, u1, u2, u3, rfl, rfl, hC3, K1.trans hk (K1.trans (K1.of e2) k3), k3 p _ hpc (e2 _ _ hp'), (hf.st ap (Stb.of e2)).st ap (Stb.k1 k3 hC2), by omega, hg⟩
        · simp [tRet, tRetN, tSeq, tIfS, tDrop, tNext, tNever, tBreak, tCont, tAsg, gName, gCons, gNil, gTup, tAndV, tOrV, tNotV, tAnd, tOr, tNot, tOp, tUn, tVar, tC, tB, tTest, tIf, tCons, tNil, tCB, tTup, tLst, tFld, sFld, sFldAug, rAdd, rSub, tSl, tPart, tNoPart, rI0, rI, rU, rEq, rNe, rSlS, rSlL, rIxL, rIxT, rIxS, tChain, tFn, tMt, tM1, tM0, tBM, rAppend, rIn, tIsN, tNotN, scal_ss, scal_ii, let_nil, let_one, fig_nil, fig_one, LenV_str, L2.start, cxOf, and_assoc, tJs, tFmt, put_at, lk_at, lk_script, lk_upcoming, lk_refuse, lk_skips, lk_expect, lk_word_of, lk_name_unlike, lk_number_to, lk_finish, sp0, sp1, sp2, sp3, sp4, sp5, -List.lookup_eq_none_iff, hc2]
          refine ⟨by rw [sizeLine_eq]; omega, ?_⟩
          refine fin _ hC2 (K1.trans hk (K1.of e2)) (e2 _ _ hp') (hf.st ap (Stb.of e2)) ?_
          cases r' with
          | nil => exact hg
          | cons x r2 =>
            dsimp only at hg
            rw [if_neg (fun e => hne r2 (by rw [e]))] at hg
            exact hg
      · rw [if_neg hlt] at hg
        rw [if_neg (by omega)]
        simp [tRet, tRetN, tSeq, tIfS, tDrop, tNext, tNever, tBreak, tCont, tAsg, gName, gCons, gNil, gTup, tAndV, tOrV, tNotV, tAnd, tOr, tNot, tOp, tUn, tVar, tC, tB, tTest, tIf, tCons, tNil, tCB, tTup, tLst, tFld, sFld, sFldAug, rAdd, rSub, tSl, tPart, tNoPart, rI0, rI, rU, rEq, rNe, rSlS, rSlL, rIxL, rIxT, rIxS, tChain, tFn, tMt, tM1, tM0, tBM, rAppend, rIn, tIsN, tNotN, scal_ss, scal_ii, let_nil, let_one, fig_nil, fig_one, LenV_str, L2.start, cxOf, and_assoc, tJs, tFmt, put_at, lk_at, lk_script, lk_upcoming, lk_refuse, lk_skips, lk_expect, lk_word_of, lk_name_unlike, lk_number_to, lk_finish, sp0, sp1, sp2, sp3, sp4, sp5, -List.lookup_eq_none_iff, hc2]
        refine ⟨by rw [sizeLine_eq]; omega, ?_⟩
        exact fin _ hC2 (K1.trans hk (K1.of e2)) (e2 _ _ hp') (hf.st ap (Stb.of e2)) hg
  · obtain ⟨found, r', xs, u1, u2, u3, rfl, rfl, hC', hk, hp', hf, hlen, hg⟩ := h
    obtain ⟨hs', hl', dx', hc'⟩ := id hC'
    have hfl := hf.len
    simp [tRet, tRetN, tSeq, tIfS, tDrop, tNext, tNever, tBreak, tCont, tAsg, gName, gCons, gNil, gTup, tAndV, tOrV, tNotV, tAnd, tOr, tNot, tOp, tUn, tVar, tC, tB, tTest, tIf, tCons, tNil, tCB, tTup, tLst, tFld, sFld, sFldAug, rAdd, rSub, tSl, tPart, tNoPart, rI0, rI, rU, rEq, rNe, rSlS, rSlL, rIxL, rIxT, rIxS, tChain, tFn, tMt, tM1, tM0, tBM, rAppend, rIn, tIsN, tNotN, scal_ss, scal_ii, let_nil, let_one, fig_nil, fig_one, LenV_str, L2.start, cxOf, and_assoc, tJs, tFmt, put_at, lk_at, lk_script, lk_upcoming, lk_refuse, lk_skips, lk_expect, lk_word_of, lk_name_unlike, lk_number_to, lk_finish, sp0, sp1, sp2, sp3, sp4, sp5, -List.lookup_eq_none_iff, hc', c_colon]
    refine lc_mapL (a := p) (xs := xs) (ys := found.names.map fun x => .str (S x)) (fun R h => ⟨_, rfl, h⟩) monG_tup2 monT_yes ?_ ?_ (SqL.of hp') (fun i v w H2 R hi hy e2 hR => ?_) fun D H2 e2 hD hlD => ?_
    · rw [List.length_map, ← Fs.toL_names, List.length_map, Fs.toL_len]
      omega
    · rw [hfl, List.length_map, ← Fs.toL_names, List.length_map, Fs.toL_len]
    · obtain ⟨n, pp, q2, b, hgg, rfl, hq2, hb⟩ := FsAt.get (hf.st ap (Stb.of e2)) hi
      rw [← Fs.toL_names, List.getElem?_map, List.getElem?_map, hgg] at hy
      cases hy
      refine ⟨_, _, rfl, SqT.of hq2, rfl, _, _, rfl, _, _, rfl, rfl, rfl, ?_⟩
      simp [tRet, tRetN, tSeq, tIfS, tDrop, tNext, tNever, tBreak, tCont, tAsg, gName, gCons, gNil, gTup, tAndV, tOrV, tNotV, tAnd, tOr, tNot, tOp, tUn, tVar, tC, tB, tTest, tIf, tCons, tNil, tCB, tTup, tLst, tFld, sFld, sFldAug, rAdd, rSub, tSl, tPart, tNoPart, rI0, rI, rU, rEq, rNe, rSlS, rSlL, rIxL, rIxT, rIxS, tChain, tFn, tMt, tM1, tM0, tBM, rAppend, rIn, tIsN, tNotN, scal_ss, scal_ii, let_nil, let_one, fig_nil, fig_one, LenV_str, L2.start, cxOf, and_assoc, tJs, tFmt, put_at, lk_at, lk_script, lk_upcoming, lk_refuse, lk_skips, lk_expect, lk_word_of, lk_name_unlike, lk_number_to, lk_finish, sp0, sp1, sp2, sp3, sp4, sp5, -List.lookup_eq_none_iff, tYes, wipe]
      exact hR _ Ex.rfl'
    · have hC2 := hC'.ex e2
      have hk2 := K1.trans hk (K1.of e2)
      refine ⟨c, l, r', D, found.names, rfl, rfl, hC2, Or.inl (SqL.of hlD), ?_⟩
      have hf2 : named (readInner ks m') sep cl (most - found.len) found r' = (entry (readInner ks m') found r').bind fun fs r => namedAt (readInner ks m') sep cl most fs r := named_step (by omega)
      rw [hf2] at hg
      unfold entry at hg
      cases hn : nameGo found.names [] r' with
      | bad r2 =>
        rw [hn] at hg
        rw [← hg] at hq
        exact BadK.k1 hq hk2
      | ok n r2 =>
        rw [hn] at hg
        intro H3 k3 hC3
        obtain ⟨hs3, hl3, dx3, hc3⟩ := id hC3
        refine ⟨_, _, hc3, rfl, ?_⟩
        refine expect_use hC3 ?_
        have hk3 := K1.trans hk2 k3
        cases he : expect 58 r2 with
        | bad r3 =>
          rw [Res.bind, he] at hg
          rw [← hg] at hq
          exact BadK.k1 hq hk3
        | ok _ r3 =>
          rw [Res.bind, he, Res.bind] at hg
          intro H4 k4 hC4
          have hk4 := K1.trans hk3 k4
          have hp4 : H4 p = some (.lst xs) := k4 p _ hpc (k3 p _ hpc (e2 _ _ hp'))
          refine ⟨Or.inl ⟨rfl, xs, SqL.of hp4⟩, c, ka, l, r3, ks, rfl, rfl, rfl, hC4, hK.k1 ap hk4 hC, hO, ?_⟩
          cases hi : readInner ks m' r3 with
          | bad r4 =>
            rw [hi] at hg
            rw [← hg] at hq
            exact BadK.k1 hq hk4
          | ok pp r4 =>
            rw [hi] at hg
            intro a H5 k5 hC5 hpp
            have hp5 := k5 p _ hpc hp4
            have hf5 : FsAt K H5 found xs := (((hf.st ap (Stb.of e2)).st ap (Stb.k1 k3 hC2)).st ap (Stb.k1 k4 hC3)).st ap (Stb.k1 k5 hC4)
            refine ⟨by rw [sizeLine_eq]; omega, fun q hq5 => ?_⟩
            have e6 : Ex H5 (upd H5 q (.tup [.str (S n), .ref a])) := Ex.new hq5
            have hqp : q ≠ p := fun e => by rw [e, hp5] at hq5; cases hq5
            have k7 : K1 p (upd H5 q (.tup [.str (S n), .ref a])) (upd (upd H5 q (.tup [.str (S n), .ref a])) p (.lst (xs ++ [.ref q]))) := K1.upd
            have st7 : Stb K (upd H5 q (.tup [.str (S n), .ref a])) (upd (upd H5 q (.tup [.str (S n), .ref a])) p (.lst (xs ++ [.ref q]))) := Stb.lst k7 (e6 _ _ hp5)
            have hsz : xs.length < sizeLine := by rw [sizeLine_eq]; omega
            have hf7 := FsAt.snoc (n := n) (p := pp) (q := q) (b := a) (by rw [upd_ne hqp, upd_same]) ((hpp.st ap (Stb.of e6)).st ap st7) ((hf5.st ap (Stb.of e6)).st ap st7)
            have hC7 : CurR K (upd (upd H5 q (.tup [.str (S n), .ref a])) p (.lst (xs ++ [.ref q]))) c l r4 := by
              obtain ⟨z1, z2, dx5, hc5⟩ := hC5.ex e6
              exact ⟨z1, z2, dx5, k7 c _ (Ne.symm hpc) hc5⟩
            have hk7 : K1 c H (upd (upd H5 q (.tup [.str (S n), .ref a])) p (.lst (xs ++ [.ref q]))) := by
              intro b o hb hbo
              have h1 := e6 _ _ (k5 b o hb (hk4 b o hb hbo))
              exact k7 b o (fun e => by rw [e, hp0] at hbo; cases hbo) h1
            refine ⟨xs, e6 _ _ hp5, hsz, most + 1 - (found.snoc n pp).len, by rw [Fs.len_snoc]; omega, found.snoc n pp, rfl, r4, hC7, hk7, _, upd_same, hf7, by rw [Fs.len_snoc]; omega, hg⟩
end
end
end Mp

set_option maxHeartbeats 4000000
/-! Kp6: the reader of parts, on -/
namespace Mp
open PySem PySem.Spec PyProof.Rows L2
open StX (tMakeR run_makeR pe_makeR)
open He (ga ma fAd)
section
variable {P : Program} {w : World} {K : PySem.W.Frag} {mg : Str → Option Value} {base : Heap}
theorem wordGo_ok {words : List (List Nat)} : ∀ {r f w r' : List Nat}, wordGo words f r = .ok w r' → w ∈ words
  | [], f, w, r', h => by
    rw [wordGo] at h
    split at h
    · cases h
      assumption
    · cases h
  | x :: r, f, w, r', h => by
    rw [wordGo] at h
    split at h
    · exact wordGo_ok h
    · split at h
      · cases h
        assumption
      · cases h
theorem lookup_nd {α β : Type} [BEq α] [LawfulBEq α] : ∀ {l : List (α × β)} {a : α} {b : β}, (l.map (·.1)).Nodup → (a, b) ∈ l → l.lookup a = some b
  | (c, d) :: l, a, b, nd, h => by
    rw [List.map_cons, List.nodup_cons] at nd
    rcases List.mem_cons.mp h with e | h
    · cases e
      simp [List.lookup]
    · have hne : (a == c) = false := by
        cases e : a == c with
        | false => rfl
        | true =>
          have e2 := eq_of_beq e
          exact absurd (by rw [← e2]; exact List.mem_map_of_mem (f := (·.1)) h) nd.1
      simp only [List.lookup, hne]
      exact lookup_nd nd.2 h
theorem tDc_orL {a b : TI} {g : TG} {tt : TT} {tk tv : TE} {vs : List Nat} {σ : L2.St} {H : Hp} {Q : VK} (h : tDc a g tt tk tv vs σ H Q) : tDc (fun s H R => a s H R ∨ b s H R) g tt tk tv vs σ H Q := Or.inl h
theorem tDc_orR {a b : TI} {g : TG} {tt : TT} {tk tv : TE} {vs : List Nat} {σ : L2.St} {H : Hp} {Q : VK} (h : tDc b g tt tk tv vs σ H Q) : tDc (fun s H R => a s H R ∨ b s H R) g tt tk tv vs σ H Q := Or.inr h
theorem c_rec : Str.ofString "{ }" = S [123, 32, 125] := rfl
theorem c_ovl : Str.ofString "(|)" = S [40, 124, 41] := rfl
theorem c_lb : Str.ofString "{" = S [123] := rfl
theorem c_lp : Str.ofString "(" = S [40] := rfl
theorem c_byte : Str.ofString "byte" = S (T "byte") := ofS _
section
variable {m k : Nat}
theorem sc_read_inner : FnScope ["cursor", "kinds", "room", "sign", "known", "word", "kind"] ["cursor", "kinds", "room"] (defScope s_read_inner) := ⟨rfl, rfl, rfl, by decide +kernel, rfl, by decide +kernel, by decide +kernel⟩
theorem ok_read_inner (z : Zk K mg base) (m_Cursor_upcoming : Cmt P w K mg base (ga K "Cursor") "upcoming" 1 (sp_Cursor_upcoming K)) (m_Cursor_skips : Cmt P w K mg base (ga K "Cursor") "skips" 2 (sp_Cursor_skips K)) (m_Cursor_name_unlike : Cmt P w K mg base (ga K "Cursor") "name_unlike" 4 (sp_Cursor_name_unlike K)) (m_Cursor_word_of : Cmt P w K mg base (ga K "Cursor") "word_of" 4 (sp_Cursor_word_of K)) (c_is_figure : Cal P w K mg base "is_figure" 1 (sp_is_figure K)) (ap : Apart K) (k_Record : Cmk P w K mg base "Record" (ga K "Record") 4 (spRec "Record" 8 .rec_ K)) (k_Overlay : Cmk P w K mg base "Overlay" (ga K "Overlay") 4 (spRec "Overlay" 4 .ovl K)) (k_Use : Cmk P w K mg base "Use" (ga K "Use") 2 (spUse K)) (k_Byte : Cmk P w K mg base "Byte" (ga K "Byte") 2 (spByte K)) (c_read_row : Cal P w K mg base "read_row" k (spReadRow m K)) (c_read_named : Cal P w K mg base "read_named" k (spNamed m K)) (hk : 6 ≤ k) (hm4 : m ≤ 4) : Cal P w K mg base "read_inner" (k + 1) ((spInner m K)) := by
  obtain ⟨fd, F⟩ := z.d_read_inner
  refine cal_of F z.g_read_inner sc_read_inner (fun _ _ _ _ _ _ us hl => match us, hl with | [_, _, _], _ => rfl) (fun vs H Q E h => by match vs, h with | [_, _, _], _ => rfl) (fun cdv A outer s H vs Q E hr h => ?_)
  have nd := sc_read_inner.nd
  have hu : (cxOf (L2.CX P w) P w K mg base ["cursor", "kinds", "room", "sign", "known", "word", "kind"] "read_inner" (defScope s_read_inner) (fAd K ("read_inner", none)) cdv A outer s H E).A.units + 64 < cLine := hr.units
  have hu0 := hr.units0
  have hu1 := hu_of hr
  match vs, h with
  | [a0, a1, a2], h =>
  obtain ⟨c, ka, l, r, ks, rfl, rfl, rfl, hC, hK, hO, hq⟩ := h
  obtain ⟨hs, hl, dx, hc⟩ := id hC
  obtain ⟨tl, hTl, hT⟩ : ∃ t, PSs (cxOf (L2.CX P w) P w K mg base ["cursor", "kinds", "room", "sign", "known", "word", "kind"] "read_inner" (defScope s_read_inner) (fAd K ("read_inner", none)) cdv A outer s H E) ((defBody s_read_inner).drop 4) t ∧ ∀ v : V, EndsP K c l H Q E (leaf ks r) → t { nx := fun _ H' => Q .non H', rt := Q } [some (.ref c), some (.ref ka), some (.int ((m : Nat) : Int)), some v, none, none, none] H := by
    refine ⟨_, (pss_cons (ps_if (pt_val (pe_mt (pv 0) m_Cursor_skips hr (passD (E := E)) (pa_cons pe_str pa_nil) (by omega))) (pss_one (ps_ret (pe_mk k_Use hr (passD (E := E)) (pa_cons (pe_mt (pv 0) m_Cursor_name_unlike hr (passD (E := E)) (pa_cons (pe_tup pa_nil) pa_nil) (by omega)) pa_nil) (by omega)))) pss_nil)
      (pss_cons (ps_setDc (i := 4) rfl nd rfl rfl (sw_trueD rfl rfl rfl rfl) (pi_orc (k_pi_list (K := K) rfl (pv 1)) (k_pi_tup (K := K) rfl (pv 1))) (blkOk_by (N := ["cursor", "kinds", "room", "sign", "known", "word", "kind"]) (sc := defScope s_read_inner) (own := [("kind", 6)]) (by decide +kernel)) (fun _ _ _ _ _ => (pg_name nd (i := 6) rfl (Or.inl rfl))) (fun _ _ _ _ _ => pts_nil) (fun _ _ _ _ _ => (k_fld (K := K) rfl (pv 6))) (fun _ _ _ _ _ => (pv 6)))
      (pss_cons (ps_set (i := 5) nd rfl (Or.inl rfl) (pe_mt (pv 0) m_Cursor_word_of hr (passD (E := E)) (pa_cons (pe_lst (pa_cons pe_str (pa_starD rfl (pv 4) pa_nil))) pa_nil) (by omega)))
      (pss_one (ps_ret (pe_ifExp (pt_cmpR op_eq (pv 5) pe_str (nomark _)) (pe_mk0 k_Byte hr (passD (E := E)) (by omega)) (pe_dget hu1 (pv 4) (pv 5) fun _ _ => rfl))))))), fun v hq => ?_⟩
    simp [tRet, tRetN, tSeq, tIfS, tDrop, tNext, tNever, tBreak, tCont, tAsg, gName, gCons, gNil, gTup, tAndV, tOrV, tNotV, tAnd, tOr, tNot, tOp, tUn, tVar, tC, tB, tTest, tIf, tCons, tNil, tCB, tTup, tLst, tFld, sFld, sFldAug, rAdd, rSub, tSl, tPart, tNoPart, rI0, rI, rU, rEq, rNe, rSlS, rSlL, rIxL, rIxT, rIxS, tChain, tFn, tMt, tM1, tM0, tBM, rAppend, rIn, tIsN, tNotN, scal_ss, scal_ii, let_nil, let_one, fig_nil, fig_one, LenV_str, L2.start, cxOf, and_assoc, tJs, tFmt, put_at, lk_at, lk_script, lk_upcoming, lk_refuse, lk_skips, lk_expect, lk_word_of, lk_name_unlike, lk_number_to, lk_finish, sp0, sp1, sp2, sp3, sp4, sp5, -List.lookup_eq_none_iff, hc, c_at]
    refine ⟨c, l, r, 64, rfl, rfl, hC, fun r' e H1 k1 hC1 => Or.inr ⟨rfl, ?_⟩, fun hne => Or.inl ⟨rfl, ?_⟩⟩
    · subst e
      obtain ⟨hs1, hl1, dx1, hc1⟩ := id hC1
      simp [tRet, tRetN, tSeq, tIfS, tDrop, tNext, tNever, tBreak, tCont, tAsg, gName, gCons, gNil, gTup, tAndV, tOrV, tNotV, tAnd, tOr, tNot, tOp, tUn, tVar, tC, tB, tTest, tIf, tCons, tNil, tCB, tTup, tLst, tFld, sFld, sFldAug, rAdd, rSub, tSl, tPart, tNoPart, rI0, rI, rU, rEq, rNe, rSlS, rSlL, rIxL, rIxT, rIxS, tChain, tFn, tMt, tM1, tM0, tBM, rAppend, rIn, tIsN, tNotN, scal_ss, scal_ii, let_nil, let_one, fig_nil, fig_one, LenV_str, L2.start, cxOf, and_assoc, tJs, tFmt, put_at, lk_at, lk_script, lk_upcoming, lk_refuse, lk_skips, lk_expect, lk_word_of, lk_name_unlike, lk_number_to, lk_finish, sp0, sp1, sp2, sp3, sp4, sp5, -List.lookup_eq_none_iff, tMakeR, hc1]
      intro p hp
      have e1 : Ex H1 (upd H1 p (.tup [])) := Ex.new hp
      have hC2 := hC1.ex e1
      refine ⟨c, l, r', p, [], rfl, rfl, hC2, Or.inr (SqT.of upd_same), ?_⟩
      have hq : EndsP K c l H Q E ((nameGo [] [] r').bind fun n r => .ok (.use n) r) := hq
      cases hn : nameGo [] [] r' with
      | bad r2 =>
        rw [hn] at hq
        exact BadK.k1 hq (K1.trans k1 (K1.of e1))
      | ok n r2 =>
        rw [hn] at hq
        intro H3 k3 hC3 x dx hx hdx hxd
        refine ⟨x, dx, n, rfl, rfl, upd_same, (nameGo_ok rfl (by simp) hn).1, fun H4 k4 hp4 => ⟨rfl, ?_⟩⟩
        have e4 := made_ex hx hdx k4
        exact hq x H4 (K1.trans (K1.trans k1 (K1.trans (K1.of e1) k3)) (K1.of e4)) (hC3.ex e4) hp4
    · have hq : EndsP K c l H Q E ((wordGo (T "byte" :: ks.map (·.1)) [] r).bind fun w r => .ok (if w = T "byte" then .byte else .kind w ((ks.lookup w).getD 0)) r) := by
        unfold leaf at hq
        split at hq
        · exact absurd rfl (hne _)
        · exact hq
      obtain ⟨as, ha1, ha2, ha3⟩ := id hK
      have nd2 : ((ks.zip as).map fun x => ((Sum.inr (S x.1.1) : Key), V.ref x.2)).map (·.1) = ks.map fun q => (Sum.inr (S q.1) : Key) := by
        rw [List.map_map]
        have : (fun x : Knd × Addr => ((Sum.inr (S x.1.1) : Key))) = (fun q : Knd => (Sum.inr (S q.1) : Key)) ∘ (·.1) := rfl
        show (ks.zip as).map (fun x : Knd × Addr => ((Sum.inr (S x.1.1) : Key))) = _
        rw [this, ← List.map_map, List.map_fst_zip (by omega)]
      have hnd : (((ks.zip as).map fun x => ((Sum.inr (S x.1.1) : Key), V.ref x.2)).map (·.1)).Nodup := by
        rw [nd2]
        have h1 := hO.nd
        rw [List.nodup_iff_pairwise_ne, List.pairwise_map] at h1 ⊢
        exact h1.imp fun h e => h (by
          have e2 : S _ = S _ := Sum.inr.inj e
          rwa [S_inj] at e2)
      have hlenz : (ks.zip as).length = ks.length := by rw [List.length_zip]; omega
      have turn : ∀ (i : Nat) (x : V) (y : Key × V) (H' : Hp) (R : V → V → Hp → Prop), (as.map V.ref)[i]? = some x → ((ks.zip as).map fun x => ((Sum.inr (S x.1.1) : Key), V.ref x.2))[i]? = some y → Ex H H' → R (kV y.1) y.2 H' →
          DcTurn (gName 6) (tFld K (tVar 6) (Str.ofString "name")) (tVar 6) [6] [some (.ref c), some (.ref ka), some (.int ((m : Nat) : Int)), some v, none, none, none] x H' R := by
        intro i x y H' R hi hy e hR
        rw [List.getElem?_map] at hi hy
        cases hz : (ks.zip as)[i]? with
        | none => rw [hz] at hy; cases hy
        | some q =>
          rw [hz] at hy
          cases hy
          obtain ⟨h1, h2⟩ := List.getElem?_zip_eq_some.mp hz
          rw [h2] at hi
          cases hi
          obtain ⟨dk, hk2⟩ := (ha3 i q.1 q.2 h1 h2).st ap (Stb.of e)
          refine ⟨rfl, ?_⟩
          simp [tRet, tRetN, tSeq, tIfS, tDrop, tNext, tNever, tBreak, tCont, tAsg, gName, gCons, gNil, gTup, tAndV, tOrV, tNotV, tAnd, tOr, tNot, tOp, tUn, tVar, tC, tB, tTest, tIf, tCons, tNil, tCB, tTup, tLst, tFld, sFld, sFldAug, rAdd, rSub, tSl, tPart, tNoPart, rI0, rI, rU, rEq, rNe, rSlS, rSlL, rIxL, rIxT, rIxS, tChain, tFn, tMt, tM1, tM0, tBM, rAppend, rIn, tIsN, tNotN, scal_ss, scal_ii, let_nil, let_one, fig_nil, fig_one, LenV_str, L2.start, cxOf, and_assoc, tJs, tFmt, put_at, lk_at, lk_script, lk_upcoming, lk_refuse, lk_skips, lk_expect, lk_word_of, lk_name_unlike, lk_number_to, lk_finish, sp0, sp1, sp2, sp3, sp4, sp5, -List.lookup_eq_none_iff, wipe, hk2, z.cls_Kind, z.na_Kind_name, lk_n1]
          exact hR
      have rest : ∀ D H', Ex H H' → H D = none → H' D = some (.dK ((ks.zip as).map fun x => ((Sum.inr (S x.1.1) : Key), V.ref x.2))) → ∃ x_1 x_2, H' c = some (.ins (ga K "Cursor") x_1 x_2) ∧ List.lookup (Str.ofString "word_of") x_2 = none ∧
          tStarD (tVar 4) tNil [some (.ref c), some (.ref ka), some (.int ((m : Nat) : Int)), some v, some (.ref D), none, none] H' fun xs H2 => xs.length + 1 ≤ sizeLine ∧ ∀ p, H2 p = none →
            sp_Cursor_word_of K [.ref c, .ref p] (upd H2 p (.lst (V.str (Str.ofString "byte") :: xs))) (fun x_3 H1 => scal x_3 (V.str (Str.ofString "byte")) = true ∧
              if x_3 = V.str (Str.ofString "byte") then tMakeR (ga K "Byte") (spByte K) E tNil [some (.ref c), some (.ref ka), some (.int ((m : Nat) : Int)), some v, some (.ref D), some x_3, none] H1 Q
              else tDGet (tVar 4) (tVar 5) [some (.ref c), some (.ref ka), some (.int ((m : Nat) : Int)), some v, some (.ref D), some x_3, none] H1 Q) E := by
        intro D H' e hD0 hD
        have hDc : D ≠ c := fun e2 => by rw [e2, hc] at hD0; cases hD0
        have hC' := hC.ex e
        refine ⟨_, _, e _ _ hc, rfl, ?_⟩
        simp only [tStarD, tVar, tNil]
        refine ⟨_, rfl, D, _, rfl, hD, by rw [List.append_nil, List.length_map, List.length_map, hlenz, sizeLine_eq]; have := hO.len; omega, fun p hp => ?_⟩
        have e2 : Ex H' (upd H' p (.lst (V.str (Str.ofString "byte") :: (((ks.zip as).map fun x => ((Sum.inr (S x.1.1) : Key), V.ref x.2)).map (fun kv => kV kv.1) ++ [])))) := Ex.new hp
        have hpD : D ≠ p := fun e3 => by rw [← e3, hD] at hp; cases hp
        have hwords : (V.str (Str.ofString "byte") :: (((ks.zip as).map fun x => ((Sum.inr (S x.1.1) : Key), V.ref x.2)).map (fun kv => kV kv.1) ++ [])) = (T "byte" :: ks.map (·.1)).map fun x => V.str (S x) := by
          rw [List.append_nil, c_byte]
          have h1 : ((ks.zip as).map fun x => ((Sum.inr (S x.1.1) : Key), V.ref x.2)).map (fun kv => kV kv.1) = (((ks.zip as).map fun x => ((Sum.inr (S x.1.1) : Key), V.ref x.2)).map (·.1)).map kV := by rw [List.map_map, List.map_map, List.map_map]; rfl
          rw [h1, nd2, List.map_map, List.map_cons, List.map_map]
          rfl
        refine ⟨c, l, r, p, T "byte" :: ks.map (·.1), rfl, rfl, hC'.ex e2, SqL.of (by rw [upd_same, hwords]), ?_, by rw [List.length_cons, List.length_map]; have := hO.len; omega, ?_⟩
        · intro x hx
          rcases List.mem_cons.mp hx with rfl | hx
          · decide
          · obtain ⟨q, hq2, rfl⟩ := List.mem_map.mp hx
            have := nameOk_len (hO.ok q hq2)
            omega
        · have k2 : K1 c H (upd H' p (.lst (V.str (Str.ofString "byte") :: (((ks.zip as).map fun x => ((Sum.inr (S x.1.1) : Key), V.ref x.2)).map (fun kv => kV kv.1) ++ [])))) := K1.of (Ex.trans e e2)
          cases hw : wordGo (T "byte" :: ks.map (·.1)) [] r with
          | bad r2 =>
            rw [hw] at hq
            exact BadK.k1 hq k2
          | ok wd r2 =>
            rw [hw] at hq
            intro H3 k3 hC3
            have hD3 := k3 D _ hDc (e2 _ _ hD)
            refine ⟨rfl, ?_⟩
            rw [c_byte]
            by_cases hb : wd = T "byte"
            · rw [if_pos (by rw [hb])]
              simp only [Res.bind] at hq
              rw [if_pos hb] at hq
              intro x dx hx hdx hxd
              refine ⟨x, dx, rfl, upd_same, fun H4 k4 hp4 => ⟨rfl, ?_⟩⟩
              have e4 := made_ex hx hdx k4
              exact hq x H4 (K1.trans (K1.trans k2 k3) (K1.of e4)) (hC3.ex e4) hp4
            · rw [if_neg (fun e5 => hb (by have e6 : S wd = S (T "byte") := by injection e5
                                           rwa [S_inj] at e6))]
              simp only [Res.bind] at hq
              rw [if_neg hb] at hq
              have hm := wordGo_ok hw
              rcases List.mem_cons.mp hm with hm | hm
              · exact absurd hm hb
              · obtain ⟨q, hq3, hqw⟩ := List.mem_map.mp hm
                obtain ⟨i, hi⟩ := List.mem_iff_getElem?.mp hq3
                have hil : i < as.length := by rw [ha1]; exact (List.getElem?_eq_some_iff.mp hi).1
                have hai : as[i]? = some as[i] := List.getElem?_eq_getElem hil
                have hpk := (ha3 i q as[i] hi hai).st ap (Stb.trans (Stb.of (Ex.trans e e2)) (Stb.k1 k3 (hC'.ex e2)))
                simp only [tDGet, tVar]
                refine ⟨_, rfl, _, rfl, D, .ref as[i], rfl, ?_, ?_⟩
                · have hv : valV ((ks.zip as).map fun x => ((Sum.inr (S x.1.1) : Key), V.ref x.2)) (Sum.inr (S wd)) = some (V.ref as[i]) := by
                    have hmem : ((Sum.inr (S wd) : Key), V.ref as[i]) ∈ (ks.zip as).map fun x => ((Sum.inr (S x.1.1) : Key), V.ref x.2) := by
                      refine List.mem_map.mpr ⟨(q, as[i]), ?_, by rw [← hqw]⟩
                      exact List.mem_of_getElem? (List.getElem?_zip_eq_some.mpr ⟨hi, hai⟩)
                    exact val_nodup hnd _ hmem
                  rw [← hv]
                  exact DGet.k (k := Sum.inr (S wd)) hD3
                · have hlk : ks.lookup wd = some q.2 := lookup_nd hO.nd (by rw [← hqw]; exact hq3)
                  rw [hlk] at hq
                  have hpk2 : PartAt K H3 (.kind wd q.2) as[i] := by rw [← hqw]; exact hpk
                  exact hq as[i] H3 (K1.trans k2 k3) hC3 hpk2
      rcases ha2 with ha2 | ha2
      · exact tDc_orL (dc_mapL (a := ka) (xs := as.map V.ref) (fun R h => ⟨_, rfl, h⟩) (by rw [List.length_map, hlenz]; have := hO.len; omega) (by rw [List.length_map, List.length_map, hlenz, ha1]) hnd ha2 turn monG_name rest)
      · exact tDc_orR (dc_mapT (a := ka) (xs := as.map V.ref) (fun R h => ⟨_, rfl, h⟩) (by rw [List.length_map, hlenz]; have := hO.len; omega) (by rw [List.length_map, List.length_map, hlenz, ha1]) hnd ha2 turn monG_name rest)
  refine ⟨_, (pss_cons (ps_set (i := 3) nd rfl (Or.inl rfl) (pe_mt0 (pv 0) m_Cursor_upcoming hr (passD (E := E)) (by omega)))
      (pss_cons (ps_if (PW.pt (pw_and (pt_cmpR op_gt (pv 2) pe_int (nomark _)) (pw_and1 (pt_val (pe_fn c_is_figure hr (passD (E := E)) (pa_cons (pv 3) pa_nil) (by omega)))))) (pss_one (ps_ret (pe_fn c_read_row hr (passD (E := E)) (pa_cons (pv 0) (pa_cons (pv 1) (pa_cons (pv 2) pa_nil))) (by omega)))) pss_nil)
      (pss_cons (ps_if (PW.pt (pw_and (pt_cmpR op_gt (pv 2) pe_int (nomark _)) (pw_and1 (pt_cmpR op_eq (pv 3) pe_str (nomark _))))) (pss_one (ps_ret (pe_mk k_Record hr (passD (E := E)) (pa_cons (pe_fn c_read_named hr (passD (E := E)) (pa_cons (pv 0) (pa_cons (pv 1) (pa_cons (pv 2) (pa_cons pe_str (pa_cons (k_cval (K := K) rfl (pe_gref z.g_Record)) pa_nil))))) (by omega)) pa_nil) (by omega)))) pss_nil)
      (pss_cons (ps_if (PW.pt (pw_and (pt_cmpR op_gt (pv 2) pe_int (nomark _)) (pw_and1 (pt_cmpR op_eq (pv 3) pe_str (nomark _))))) (pss_one (ps_ret (pe_mk k_Overlay hr (passD (E := E)) (pa_cons (pe_fn c_read_named hr (passD (E := E)) (pa_cons (pv 0) (pa_cons (pv 1) (pa_cons (pv 2) (pa_cons pe_str (pa_cons (k_cval (K := K) rfl (pe_gref z.g_Overlay)) pa_nil))))) (by omega)) pa_nil) (by omega)))) pss_nil)
      hTl)))), ?_⟩
  obtain ⟨mr, ur, cr1, cr2⟩ := z.k_Record_MOST
  obtain ⟨mo, uo, co1, co2⟩ := z.k_Overlay_MOST
  have recN : ∀ (C : Str) (sep cl most : Nat) (con : Fs → Pt) (m' : Nat) (r' : List Nat), m = m' + 1 → most + 1 ≤ 8 → EndsP K c l H Q E ((named (readInner ks m') sep cl most .nil r').bind fun fs r => .ok (con fs) r) →
      EndsN K c l H (fun x H1 => ∀ (x_2 dx : Addr), H1 x_2 = none → H1 dx = none → ¬dx = x_2 → spRec C (most + 1) con K [V.ref x_2, x] (upd (upd H1 dx (HO.own x_2)) x_2 (HO.ins (ga K C) dx [])) (fun v H2 => v = V.non ∧ Q (V.ref x_2) H2) E) E (named (readInner ks m') sep cl most .nil r') := by
    intro C sep cl most con m' r' hm hmo hq
    cases hn : named (readInner ks m') sep cl most .nil r' with
    | bad r2 =>
      rw [hn] at hq
      exact hq
    | ok fs r2 =>
      rw [hn] at hq
      intro a H1 k1 hC1 hP x dx hx hdx hxd
      have ok := named_ok (d := 4) (fun r p r' e => by have := readInner_depth e; omega) (most := most + 1) (by simp [Fs.len]) (by simp [Fs.names]) (by simp [Fs.names]) (by simp [Fs.depth]) hn
      have e0 := made_ex0 (C := ga K C) hx hdx
      obtain ⟨xs, hxs, hfs⟩ := hP
      refine ⟨x, dx, a, fs, rfl, rfl, upd_same, ⟨xs, e0 _ _ hxs, hfs.st ap (Stb.of e0)⟩, ok.dp, ok.lo, ok.hi, ok.nd, ok.ok, fun H4 k4 hp4 => ⟨rfl, ?_⟩⟩
      have e4 := made_ex hx hdx k4
      exact hq x H4 (K1.trans k1 (K1.of e4)) (hC1.ex e4) hp4
  cases m with
  | zero =>
    simp [tRet, tRetN, tSeq, tIfS, tDrop, tNext, tNever, tBreak, tCont, tAsg, gName, gCons, gNil, gTup, tAndV, tOrV, tNotV, tAnd, tOr, tNot, tOp, tUn, tVar, tC, tB, tTest, tIf, tCons, tNil, tCB, tTup, tLst, tFld, sFld, sFldAug, rAdd, rSub, tSl, tPart, tNoPart, rI0, rI, rU, rEq, rNe, rSlS, rSlL, rIxL, rIxT, rIxS, tChain, tFn, tMt, tM1, tM0, tBM, rAppend, rIn, tIsN, tNotN, scal_ss, scal_ii, let_nil, let_one, fig_nil, fig_one, LenV_str, L2.start, cxOf, and_assoc, tJs, tFmt, put_at, lk_at, lk_script, lk_upcoming, lk_refuse, lk_skips, lk_expect, lk_word_of, lk_name_unlike, lk_number_to, lk_finish, sp0, sp1, sp2, sp3, sp4, sp5, -List.lookup_eq_none_iff, ClX.tCVal, hc, up_iff hC, c_rec, c_ovl, c_lb, c_lp, tMakeR]
    exact hT _ hq
  | succ m =>
    cases r with
    | nil =>
      simp [tRet, tRetN, tSeq, tIfS, tDrop, tNext, tNever, tBreak, tCont, tAsg, gName, gCons, gNil, gTup, tAndV, tOrV, tNotV, tAnd, tOr, tNot, tOp, tUn, tVar, tC, tB, tTest, tIf, tCons, tNil, tCB, tTup, tLst, tFld, sFld, sFldAug, rAdd, rSub, tSl, tPart, tNoPart, rI0, rI, rU, rEq, rNe, rSlS, rSlL, rIxL, rIxT, rIxS, tChain, tFn, tMt, tM1, tM0, tBM, rAppend, rIn, tIsN, tNotN, scal_ss, scal_ii, let_nil, let_one, fig_nil, fig_one, LenV_str, L2.start, cxOf, and_assoc, tJs, tFmt, put_at, lk_at, lk_script, lk_upcoming, lk_refuse, lk_skips, lk_expect, lk_word_of, lk_name_unlike, lk_number_to, lk_finish, sp0, sp1, sp2, sp3, sp4, sp5, -List.lookup_eq_none_iff, ClX.tCVal, hc, up_iff hC, c_rec, c_ovl, c_lb, c_lp, tMakeR, S_inj]
      exact hT _ hq
    | cons x r =>
      simp [tRet, tRetN, tSeq, tIfS, tDrop, tNext, tNever, tBreak, tCont, tAsg, gName, gCons, gNil, gTup, tAndV, tOrV, tNotV, tAnd, tOr, tNot, tOp, tUn, tVar, tC, tB, tTest, tIf, tCons, tNil, tCB, tTup, tLst, tFld, sFld, sFldAug, rAdd, rSub, tSl, tPart, tNoPart, rI0, rI, rU, rEq, rNe, rSlS, rSlL, rIxL, rIxT, rIxS, tChain, tFn, tMt, tM1, tM0, tBM, rAppend, rIn, tIsN, tNotN, scal_ss, scal_ii, let_nil, let_one, fig_nil, fig_one, LenV_str, L2.start, cxOf, and_assoc, tJs, tFmt, put_at, lk_at, lk_script, lk_upcoming, lk_refuse, lk_skips, lk_expect, lk_word_of, lk_name_unlike, lk_number_to, lk_finish, sp0, sp1, sp2, sp3, sp4, sp5, -List.lookup_eq_none_iff, ClX.tCVal, hc, up_iff hC, c_rec, c_ovl, c_lb, c_lp, tMakeR, S_inj]
      rw [readInner] at hq
      cases hx : isFig x with
      | true =>
        rw [if_pos hx] at hq
        exact Or.inr ⟨rfl, c, ka, l, x :: r, ks, m, rfl, by omega, rfl, rfl, by simp, hC, hK, hO, hq⟩
      | false =>
        rw [if_neg (by simp [hx])] at hq
        refine Or.inl ⟨rfl, ?_⟩
        by_cases h1 : x = 123
        · subst h1
          rw [if_pos rfl] at hq ⊢
          exact ⟨mr, cr1, _, ⟨ur, cr2⟩, c, ka, l, 123, r, 32, 125, ks, m, 7, rfl, by omega, rfl, rfl, by simp, rfl, rfl, by omega, hC, hK, hO, recN "Record" 32 125 7 .rec_ m r rfl (by omega) hq⟩
        · rw [if_neg h1] at hq ⊢
          by_cases h2 : x = 40
          · subst h2
            rw [if_pos rfl] at hq ⊢
            exact ⟨mo, co1, _, ⟨uo, co2⟩, c, ka, l, 40, r, 124, 41, ks, m, 3, rfl, by omega, rfl, rfl, by simp, rfl, rfl, by omega, hC, hK, hO, recN "Overlay" 124 41 3 .ovl m r rfl (by omega) hq⟩
          · rw [if_neg h2] at hq ⊢
            exact hT _ hq
end
/-- the same def under a promise that is never asked -/
theorem cal_no {x : Str} {sp sp' : Sp} {j k : Nat} (c : Cal P w K mg base x j sp') (h : ∀ vs H Q E, ¬ sp vs H Q E) : Cal P w K mg base x k sp := by
  obtain ⟨f, _, hm, kp⟩ := c.ex
  exact ⟨f, fun A outer s H us vs Q E _ _ _ q => absurd q (h vs H Q E), hm, kp⟩
theorem cal_bare {x : Str} {f : Addr} {fd : FuncData} {n qual : Str} {params : Arguments} {body : List Stmt} {scope : Scope} {dvs : List V} {kws : List (Str × V)} {sp : Sp} {k : Nat} (F : FunD K n qual params body scope dvs kws f fd) (hm : mg x = some (.ref f)) (h : ∀ vs H Q E, ¬ sp vs H Q E) : Cal P w K mg base x k sp :=
  ⟨f, fun A outer s H us vs Q E _ _ _ q => absurd q (h vs H Q E), hm, F.kp⟩
/-- the methods of the reader -/
structure CurM (P : Program) (w : World) (K : PySem.W.Frag) (mg : Str → Option Value) (base : Heap) : Prop where
  up : Cmt P w K mg base (ga K "Cursor") "upcoming" 1 (sp_Cursor_upcoming K)
  refuse : Cmt P w K mg base (ga K "Cursor") "refuse" 3 (sp_Cursor_refuse K)
  finish : Cmt P w K mg base (ga K "Cursor") "finish" 4 (sp_Cursor_finish K)
  skips : Cmt P w K mg base (ga K "Cursor") "skips" 2 (sp_Cursor_skips K)
  expect : Cmt P w K mg base (ga K "Cursor") "expect" 4 (sp_Cursor_expect K)
  word : Cmt P w K mg base (ga K "Cursor") "word_of" 4 (sp_Cursor_word_of K)
  name : Cmt P w K mg base (ga K "Cursor") "name_unlike" 4 (sp_Cursor_name_unlike K)
  num : Cmt P w K mg base (ga K "Cursor") "number_to" 4 (sp_Cursor_number_to K)
theorem curM (z : Zk K mg base) : CurM P w K mg base := by
  have up := ok_Cursor_upcoming (P := P) (w := w) z
  have rf := ok_Cursor_refuse (P := P) (w := w) z
  have sk := ok_Cursor_skips (P := P) (w := w) z up
  exact ⟨up, rf, ok_Cursor_finish z rf, sk, ok_Cursor_expect z sk rf, ok_Cursor_word_of z up rf (ok_begins_one z), ok_Cursor_name_unlike z up rf (ok_is_letter z), ok_Cursor_number_to z up rf (ok_is_figure z)⟩
theorem inner_all (z : Zk K mg base) (y : Zs P K) (ap : Apart K) : ∀ m : Nat, m ≤ 4 → Cal P w K mg base "read_inner" (8 + 2 * m) (spInner m K) := by
  have M := curM (P := P) (w := w) z
  have nm := ok_is_name (P := P) (w := w) z
  have np := ok_need_pairs (P := P) (w := w) z nm ap
  have dp := ok_depth_over (P := P) (w := w) z
  have kR := cmk_record z (ok_Record___init__ (P := P) (w := w) z y np dp ap)
  have kO := cmk_overlay z (ok_Overlay___init__ (P := P) (w := w) z y np dp ap)
  have kU := cmk_use z (ok_Use___init__ (P := P) (w := w) z y nm)
  have kB := cmk_byte z (ok_Byte___init__ (P := P) (w := w) z y)
  have bw := ok_is_between (P := P) (w := w) z (ok_is_whole z)
  have kW := cmk_row z (ok_Row___init__ (P := P) (w := w) z y bw dp ap)
  obtain ⟨fr, FR⟩ := z.d_read_row
  obtain ⟨fn, FN⟩ := z.d_read_named
  intro m
  induction m with
  | zero =>
    intro _
    have h1 : Cal P w K mg base "read_row" 7 (spReadRow 0 K) := cal_bare FR z.g_read_row fun vs H Q E h => by
      match vs, h with
      | [_, _, _], ⟨c, ka, l, r, ks, m', e, _⟩ => omega
    have h2 : Cal P w K mg base "read_named" 7 (spNamed 0 K) := cal_bare FN z.g_read_named fun vs H Q E h => by
      match vs, h with
      | [_, _, _, _, _], ⟨c, ka, l, o, r, sep, cl, ks, m', most, e, _⟩ => omega
    exact ok_read_inner z M.up M.skips M.name M.word (ok_is_figure z) ap kR kO kU kB h1 h2 (by omega) (by omega)
  | succ m ih =>
    intro hm
    have hI := ih (by omega)
    have h1 : Cal P w K mg base "read_row" (8 + 2 * m + 1) (spReadRow (m + 1) K) := ok_read_row (k := 8 + 2 * m) (m := m + 1) z M.num M.expect ap kW hI (by omega)
    have h2 : Cal P w K mg base "read_named" (8 + 2 * m + 1) (spNamed (m + 1) K) := ok_read_named (k := 8 + 2 * m) (m := m + 1) z M.skips M.name M.expect ap hI (by omega)
    exact ok_read_inner (k := 8 + 2 * m + 1) z M.up M.skips M.name M.word (ok_is_figure z) ap kR kO kU kB h1 h2 (by omega) (by omega)
end
end Mp

set_option maxHeartbeats 4000000
/-! Kp7: read_part -/
namespace Mp
open PySem PySem.Spec PyProof.Rows L2
open StX (tMakeR run_makeR pe_makeR)
open He (ga ma fAd)
section
variable {P : Program} {w : World} {K : PySem.W.Frag} {mg : Str → Option Value} {base : Heap}
def BadX (K : PySem.W.Frag) (E : XK) (H : Hp) (n : Nat) : Prop := ∀ d H', Ex H H' → H' d = some (.xd [("at", .int ((n : Nat) : Int))]) → E (.ref (ga K "BadText")) (some d) H'
def EndsX (K : PySem.W.Frag) (l : List Nat) (H : Hp) (Q : VK) (E : XK) (res : Res Pt) : Prop :=
  match res with
  | .ok p r => ∀ a H', Ex H H' → PartAt K H' p a → Q (.ref a) H'
  | .bad r => BadX K E H (l.length - r.length)
def spReadPart (K : PySem.W.Frag) : Sp := sp2 fun a b H Q E => (∃ l ka ks, a = .str (S l) ∧ b = .ref ka ∧ l.length ≤ 10000 ∧ KindsAt K H ks ka ∧ KsOk ks ∧ EndsX K l H Q E (readPart ks l)) ∨
  (∃ ty, TyX K H a ty ∧ PySem.W.kitOne K ty (.type "str") = some false ∧ BadX K E H 0)
theorem TyX.ex {H H' : Hp} {x : V} {t : Value} (e : Ex H H') (h : TyX K H x t) : TyX K H' x t := by
  cases h with
  | base h =>
    refine .base ?_
    cases h with
    | non => exact .non
    | bl b => exact .bl b
    | int i => exact .int i
    | str y => exact .str y
    | flt y => exact .flt y
    | lst q => exact .lst (e _ _ q)
    | frz q => exact .frz (e _ _ q)
    | tup q => exact .tup (e _ _ q)
    | dK q => exact .dK (e _ _ q)
    | dT q => exact .dT (e _ _ q)
    | ins q cl ha hn htk hm => exact .ins (e _ _ q) cl ha hn htk hm
  | byt b => exact .byt b
  | set q => exact .set (e _ _ q)
  | kList q c => exact .kList q c
  | kTuple q c => exact .kTuple q c
  | kDict q c => exact .kDict q c
  | fTuple q => exact .fTuple (e _ _ q)
  | fDict q => exact .fDict (e _ _ q)
theorem BadX.ex {E : XK} {H H' : Hp} {n : Nat} (b : BadX K E H n) (e : Ex H H') : BadX K E H' n := fun d H2 e2 h => b d H2 (Ex.trans e e2) h
theorem sc_read_part : FnScope ["text", "kinds", "cursor", "found"] ["text", "kinds"] (defScope s_read_part) := ⟨rfl, rfl, rfl, by decide +kernel, rfl, by decide +kernel, by decide +kernel⟩
theorem ok_read_part (z : Zk K mg base) (m_Cursor_finish : Cmt P w K mg base (ga K "Cursor") "finish" 4 (sp_Cursor_finish K)) (ap : Apart K) (k_Cursor : Cmk P w K mg base "Cursor" (ga K "Cursor") 3 (sp_Cursor___init__ K)) (c_read_inner : Cal P w K mg base "read_inner" 16 (spInner 4 K)) : Cal P w K mg base "read_part" 18 ((spReadPart K)) := by
  obtain ⟨fd, F⟩ := z.d_read_part
  refine cal_of F z.g_read_part sc_read_part (fun _ _ _ _ _ _ us hl => match us, hl with | [_, _], _ => rfl) (fun vs H Q E h => by match vs, h with | [_, _], _ => rfl) (fun cdv A outer s H vs Q E hr h => ?_)
  have nd := sc_read_part.nd
  have hu : (cxOf (L2.CX P w) P w K mg base ["text", "kinds", "cursor", "found"] "read_part" (defScope s_read_part) (fAd K ("read_part", none)) cdv A outer s H E).A.units + 64 < cLine := hr.units
  have hu0 := hr.units0
  have hu1 := hu_of hr
  match vs, h with
  | [a0, a1], h =>
  refine ⟨_, (pss_cons (ps_set (i := 2) nd rfl (Or.inl rfl) (pe_mk k_Cursor hr (passD (E := E)) (pa_cons (pv 0) pa_nil)))
      (pss_cons (ps_set (i := 3) nd rfl (Or.inl rfl) (pe_fn c_read_inner hr (passD (E := E)) (pa_cons (pv 2) (pa_cons (pv 1) (pa_cons (k_cval (K := K) rfl (pe_gref z.g_Part)) pa_nil)))))
      (pss_cons (ps_expr (pe_mt0 (pv 2) m_Cursor_finish hr (passD (E := E))))
      (pss_one (ps_ret (pv 3)))))), ?_⟩
  obtain ⟨mp, up, cp1, cp2⟩ := z.k_Part_DEPTH
  simp [tRet, tRetN, tSeq, tIfS, tDrop, tNext, tNever, tBreak, tCont, tAsg, gName, gCons, gNil, gTup, tAndV, tOrV, tNotV, tAnd, tOr, tNot, tOp, tUn, tVar, tC, tB, tTest, tIf, tCons, tNil, tCB, tTup, tLst, tFld, sFld, sFldAug, rAdd, rSub, tSl, tPart, tNoPart, rI0, rI, rU, rEq, rNe, rSlS, rSlL, rIxL, rIxT, rIxS, tChain, tFn, tMt, tM1, tM0, tBM, rAppend, rIn, tIsN, tNotN, scal_ss, scal_ii, let_nil, let_one, fig_nil, fig_one, LenV_str, L2.start, cxOf, and_assoc, tJs, tFmt, put_at, lk_at, lk_script, lk_upcoming, lk_refuse, lk_skips, lk_expect, lk_word_of, lk_name_unlike, lk_number_to, lk_finish, sp0, sp1, sp2, sp3, sp4, sp5, -List.lookup_eq_none_iff, ClX.tCVal, tMakeR]
  intro x dx hx hdx hxd
  have e0 := made_ex0 (C := ga K "Cursor") hx hdx
  rcases h with ⟨l, ka, ks, rfl, rfl, hl, hK, hO, hq⟩ | ⟨ty, hty, hk, hb⟩
  · refine ⟨x, dx, rfl, upd_same, Or.inl ⟨l, rfl, rfl, ?_⟩⟩
    rw [upd_upd]
    have e1 : Ex H (upd (upd H dx (.own x)) x (.ins (ga K "Cursor") dx [("script", .str (S l)), ("at", .int 0)])) := fun b o hbo => by
      have n1 : b ≠ x := ne_of_none hbo hx
      have n2 : b ≠ dx := ne_of_none hbo hdx
      rw [upd_ne n1, upd_ne n2]
      exact hbo
    have hC : CurR K (upd (upd H dx (.own x)) x (.ins (ga K "Cursor") dx [("script", .str (S l)), ("at", .int 0)])) x l l := ⟨List.suffix_refl l, hl, dx, by rw [upd_same, Nat.sub_self]; rfl⟩
    have upE : ∀ {H1 : Hp}, K1 x (upd (upd H dx (.own x)) x (.ins (ga K "Cursor") dx [("script", .str (S l)), ("at", .int 0)])) H1 → Ex H H1 := fun k b o hbo => k b o (ne_of_none hbo hx) (e1 b o hbo)
    refine ⟨mp, cp1, _, ⟨up, cp2⟩, x, ka, l, l, ks, rfl, rfl, rfl, hC, hK.ex ap e1, hO, ?_⟩
    unfold readPart at hq
    cases hi : readInner ks 4 l with
    | bad r =>
      rw [hi] at hq
      intro d H' k h
      exact hq d H' (upE k) h
    | ok p r =>
      rw [hi] at hq
      intro a H1 k1 hC1 hp
      obtain ⟨hs1, hl1, dx1, hc1⟩ := id hC1
      refine ⟨_, _, hc1, rfl, x, l, r, rfl, hC1, fun e => ?_, fun e => ?_⟩
      · subst e
        exact hq a H1 (upE k1) hp
      · intro d H' k h
        cases r with
        | nil => exact absurd rfl e
        | cons y r => exact hq d H' (upE (K1.trans k1 k)) h
  · refine ⟨x, dx, rfl, upd_same, Or.inr ⟨ty, TyX.ex e0 hty, hk, fun d H' k h => hb d H' (made_ex hx hdx k) h⟩⟩
theorem read_all (z : Zk K mg base) (y : Zs P K) (ap : Apart K) : Cal P w K mg base "read_part" 18 (spReadPart K) :=
  ok_read_part z (curM z).finish ap (ok_Cursor___init__ z) (inner_all z y ap 4 (by omega))
end
end Mp

set_option maxHeartbeats 4000000
/-! Ky7: plans of every depth -/
namespace Mp
open PySem PySem.Spec PyProof.Rows L2
open He (ga ma fAd)
section
variable {P : Program} {w : World} {K : PySem.W.Frag} {mg : Str → Option Value} {base : Heap}
theorem plan_all (z : Zk K mg base) : ∀ d : Nat, d ≤ 4 → Cal P w K mg base "_law_plan" (4 + d) (spPlan d K) := by
  have cd := ok__law_draw (P := P) (w := w) z
  have cp := ok__law_pick (P := P) (w := w) z cd
  obtain ⟨f, F⟩ := z.d__law_plan
  intro d
  induction d with
  | zero =>
    intro hd
    exact ok__law_plan (d := 0) (k := 3) z cd cp (cal_bare F z.g__law_plan fun vs H Q E h => h) (by omega) hd
  | succ d ih =>
    intro hd
    exact ok__law_plan (d := d + 1) (k := 4 + d) z cd cp (ih (by omega)) (by omega) hd
end
end Mp

set_option maxHeartbeats 4000000
/-! Kx8: readings of tuples that lie in the heap as they are -/
namespace Mp
open PySem PySem.Spec PyProof.Rows L2
section
variable {X : Cx}
def rIxHT : R2 := fun x y H Q => ∃ p xs i, x = .ref p ∧ y = .int i ∧ H p = some (.tup xs) ∧ ∃ v, atI xs i = some v ∧ Q v H
theorem ix_HT : IxR X rIxHT := by
  intro value slice pins s σ H x y v u Q I rx ry h
  obtain ⟨p, xs, i, e1, e2, h1, c, h2, q⟩ := h
  exact ix_tup value slice pins s σ H x y v u Q I rx ry ⟨p, xs, i, c, e1, e2, SqT.of h1, h2, q⟩
end
end Mp

set_option maxHeartbeats 4000000
/-! Ky8: the texts of plans -/
namespace Mp
open PySem PySem.Spec PyProof.Rows L2
open StX (tMakeR run_makeR pe_makeR)
open He (ga ma fAd)
section
variable {P : Program} {w : World} {K : PySem.W.Frag} {mg : Str → Option Value} {base : Heap}
theorem at0 {a : V} {r : List V} : atI (a :: r) 0 = some a := atI_nat (xs := a :: r) (j := 0) (by simp)
theorem at1 {a b : V} {r : List V} : atI (a :: b :: r) 1 = some b := atI_nat (xs := a :: b :: r) (j := 1) (by simp)
theorem at2 {a b c : V} {r : List V} : atI (a :: b :: c :: r) 2 = some c := atI_nat (xs := a :: b :: c :: r) (j := 2) (by simp)
theorem ne_byte_kind : (Str.ofString "byte" = Str.ofString "kind") = False := eq_false (by decide +kernel)
theorem ne_byte_use : (Str.ofString "byte" = Str.ofString "use") = False := eq_false (by decide +kernel)
theorem ne_byte_row : (Str.ofString "byte" = Str.ofString "row") = False := eq_false (by decide +kernel)
theorem ne_byte_record : (Str.ofString "byte" = Str.ofString "record") = False := eq_false (by decide +kernel)
theorem ne_byte_overlay : (Str.ofString "byte" = Str.ofString "overlay") = False := eq_false (by decide +kernel)
theorem ne_kind_byte : (Str.ofString "kind" = Str.ofString "byte") = False := eq_false (by decide +kernel)
theorem ne_kind_use : (Str.ofString "kind" = Str.ofString "use") = False := eq_false (by decide +kernel)
theorem ne_kind_row : (Str.ofString "kind" = Str.ofString "row") = False := eq_false (by decide +kernel)
theorem ne_kind_record : (Str.ofString "kind" = Str.ofString "record") = False := eq_false (by decide +kernel)
theorem ne_kind_overlay : (Str.ofString "kind" = Str.ofString "overlay") = False := eq_false (by decide +kernel)
theorem ne_use_byte : (Str.ofString "use" = Str.ofString "byte") = False := eq_false (by decide +kernel)
theorem ne_use_kind : (Str.ofString "use" = Str.ofString "kind") = False := eq_false (by decide +kernel)
theorem ne_use_row : (Str.ofString "use" = Str.ofString "row") = False := eq_false (by decide +kernel)
theorem ne_use_record : (Str.ofString "use" = Str.ofString "record") = False := eq_false (by decide +kernel)
theorem ne_use_overlay : (Str.ofString "use" = Str.ofString "overlay") = False := eq_false (by decide +kernel)
theorem ne_row_byte : (Str.ofString "row" = Str.ofString "byte") = False := eq_false (by decide +kernel)
theorem ne_row_kind : (Str.ofString "row" = Str.ofString "kind") = False := eq_false (by decide +kernel)
theorem ne_row_use : (Str.ofString "row" = Str.ofString "use") = False := eq_false (by decide +kernel)
theorem ne_row_record : (Str.ofString "row" = Str.ofString "record") = False := eq_false (by decide +kernel)
theorem ne_row_overlay : (Str.ofString "row" = Str.ofString "overlay") = False := eq_false (by decide +kernel)
theorem ne_record_byte : (Str.ofString "record" = Str.ofString "byte") = False := eq_false (by decide +kernel)
theorem ne_record_kind : (Str.ofString "record" = Str.ofString "kind") = False := eq_false (by decide +kernel)
theorem ne_record_use : (Str.ofString "record" = Str.ofString "use") = False := eq_false (by decide +kernel)
theorem ne_record_row : (Str.ofString "record" = Str.ofString "row") = False := eq_false (by decide +kernel)
theorem ne_record_overlay : (Str.ofString "record" = Str.ofString "overlay") = False := eq_false (by decide +kernel)
theorem ne_overlay_byte : (Str.ofString "overlay" = Str.ofString "byte") = False := eq_false (by decide +kernel)
theorem ne_overlay_kind : (Str.ofString "overlay" = Str.ofString "kind") = False := eq_false (by decide +kernel)
theorem ne_overlay_use : (Str.ofString "overlay" = Str.ofString "use") = False := eq_false (by decide +kernel)
theorem ne_overlay_row : (Str.ofString "overlay" = Str.ofString "row") = False := eq_false (by decide +kernel)
theorem ne_overlay_record : (Str.ofString "overlay" = Str.ofString "record") = False := eq_false (by decide +kernel)
def spTextP (d : Nat) : Sp := sp1 fun a H Q _ => ∃ F p x ks, a = .ref x ∧ PlanAt F H p x ∧ PtOk ks p ∧ p.depth < d ∧ p.text.length ≤ 10000 ∧ ∀ H', Ex H H' → Q (.str (S p.text)) H'
theorem FsPl.get {F : Addr → Prop} {H : Hp} : ∀ {fs : Fs} {xs : List V} {i : Nat} {x : V}, FsPl F H fs xs → xs[i]? = some x → ∃ n p q b, fs.toL[i]? = some (n, p) ∧ x = .ref q ∧ H q = some (.tup [.str (S n), .ref b]) ∧ PlanAt F H p b
  | .nil, xs, i, x, h, hi => by
    have h : xs = [] := h
    subst h
    cases hi
  | .cons n p r, xs, i, x, h, hi => by
    obtain ⟨q, b, ys, rfl, hq, hb, hr⟩ := h
    cases i with
    | zero =>
      cases hi
      exact ⟨n, p, q, b, rfl, rfl, hq, hb⟩
    | succ i => exact FsPl.get (i := i) hr hi
theorem FsPl.len {F : Addr → Prop} {H : Hp} : ∀ {fs : Fs} {xs : List V}, FsPl F H fs xs → xs.length = fs.len
  | .nil, xs, h => by
    have h : xs = [] := h
    subst h
    rfl
  | .cons n p r, xs, h => by
    obtain ⟨q, b, ys, rfl, _, _, hr⟩ := h
    show ys.length + 1 = r.len + 1
    rw [FsPl.len hr]
theorem FsPl.ex {F : Addr → Prop} {H H' : Hp} (e : Ex H H') {fs : Fs} {xs : List V} (h : FsPl F H fs xs) : FsPl F H' fs xs := FsPl.mono (fun _ _ h => e _ _ h) (fun _ _ f h => ⟨e _ _ h, f⟩) h
theorem PlanAt.ex {F : Addr → Prop} {H H' : Hp} (e : Ex H H') {p : Pt} {a : Addr} (h : PlanAt F H p a) : PlanAt F H' p a := PlanAt.mono (fun _ _ h => e _ _ h) (fun _ _ f h => ⟨e _ _ h, f⟩) h
theorem FsOkk.get {ks : List Knd} : ∀ {fs : Fs} {i : Nat} {n : List Nat} {p : Pt}, FsOkk ks fs → fs.toL[i]? = some (n, p) → nameOk n = true ∧ PtOk ks p
  | .nil, i, n, p, h, e => by cases e
  | .cons m q r, 0, n, p, h, e => by
    cases e
    exact ⟨h.1, h.2.1⟩
  | .cons m q r, i + 1, n, p, h, e => FsOkk.get (fs := r) (i := i) h.2.2 e
theorem texts_few {sep : Nat} {fs : Fs} (h : (TL.joinL [sep] fs.texts).length ≤ 10000) : fs.len ≤ 10001 := by
  by_cases h0 : fs.texts = []
  · have := Fs.texts_len fs
    rw [h0] at this
    simp at this
    omega
  · have := joinL_len sep fs.texts h0
    rw [Fs.texts_len] at this
    omega
theorem texts_sum {sep : Nat} {a : Str} {fs : Fs} (h : (TL.joinL [sep] fs.texts).length ≤ 10000) (ha : a.length = 1) : ((fs.texts.map S).map (·.length)).sum + (fs.texts.map S).length * a.length ≤ 16777216 := by
  have h5 : ((fs.texts.map S).map (·.length)).sum = (fs.texts.map (·.length)).sum := by
    rw [List.map_map]
    congr 1
  rw [h5, List.length_map, Fs.texts_len, ha]
  by_cases h0 : fs.texts = []
  · have h6 := Fs.texts_len fs
    rw [h0] at h6 ⊢
    simp at h6 ⊢
    rw [← h6]
    simp
  · have h6 := joinL_len sep fs.texts h0
    rw [Fs.texts_len] at h6
    omega
theorem sc__law_text : FnScope ["plan", "inside", "sign", "inner"] ["plan"] (defScope s__law_text) := ⟨rfl, rfl, rfl, by decide +kernel, rfl, by decide +kernel, by decide +kernel⟩
theorem ok__law_text (z : Zk K mg base)  {d : Nat} {k : Nat} (c__law_text : Cal P w K mg base "_law_text" k (spTextP d)) : Cal P w K mg base "_law_text" (k + 1) ((spTextP (d+1))) := by
  obtain ⟨fd, F⟩ := z.d__law_text
  refine cal_of F z.g__law_text sc__law_text (fun _ _ _ _ _ _ us hl => match us, hl with | [_], _ => rfl) (fun vs H Q E h => by match vs, h with | [_], _ => rfl) (fun cdv A outer s H vs Q E hr h => ?_)
  have nd := sc__law_text.nd
  have hu : (cxOf (L2.CX P w) P w K mg base ["plan", "inside", "sign", "inner"] "_law_text" (defScope s__law_text) (fAd K ("_law_text", none)) cdv A outer s H E).A.units + 64 < cLine := hr.units
  have hu0 := hr.units0
  have hu1 := hu_of hr
  match vs, h with
  | [a0], h =>
  refine ⟨_, (pss_cons (ps_if (pt_cmpR op_eq (pe_ix ix_HT (pv 0) pe_int fun _ _ => rfl) pe_str (nomark _)) (pss_one (ps_ret pe_str)) pss_nil)
      (pss_cons (ps_if (pt_cmpR op_eq (pe_ix ix_HT (pv 0) pe_int fun _ _ => rfl) pe_str (nomark _)) (pss_one (ps_ret (pe_ix ix_HT (pv 0) pe_int fun _ _ => rfl))) pss_nil)
      (pss_cons (ps_if (pt_cmpR op_eq (pe_ix ix_HT (pv 0) pe_int fun _ _ => rfl) pe_str (nomark _)) (pss_one (ps_ret (pe_op op_add_str pe_str (pe_ix ix_HT (pv 0) pe_int fun _ _ => rfl)))) pss_nil)
      (pss_cons (ps_if (pt_cmpR op_eq (pe_ix ix_HT (pv 0) pe_int fun _ _ => rfl) pe_str (nomark _)) (pss_one (ps_ret (pe_op op_add_str (pe_op op_add_str (pe_callTy call_str_int rfl z.b_str boot_str (pa_cons (pe_ix ix_HT (pv 0) pe_int fun _ _ => rfl) pa_nil)) pe_str) (pe_fn c__law_text hr (passD (E := E)) (pa_cons (pe_ix ix_HT (pv 0) pe_int fun _ _ => rfl) pa_nil) (by omega))))) pss_nil)
      (pss_cons (ps_setLc (i := 1) rfl nd rfl rfl (sw_true rfl rfl rfl rfl) (k_pi_list (K := K) rfl (pe_ix ix_HT (pv 0) pe_int fun _ _ => rfl)) (blkOk_by (N := ["plan", "inside", "sign", "inner"]) (sc := defScope s__law_text) (own := [("sign", 2), ("inner", 3)]) (by decide +kernel)) (fun _ _ _ _ _ => (k_pg_tup (K := K) (n := 2) rfl rfl (pgs_cons (pg_name nd (i := 2) rfl (Or.inl rfl)) (pgs_cons (pg_name nd (i := 3) rfl (Or.inl rfl)) pgs_nil)))) (fun _ _ _ _ _ => pts_nil) (fun _ _ _ _ _ => (pe_op op_add_str (pe_op op_add_str (pv 2) pe_str) (pe_fn c__law_text hr passL (pa_cons (pv 3) pa_nil) (by omega)))))
      (pss_one (ps_ret (pe_ifExp (pt_cmpR op_eq (pe_ix ix_HT (pv 0) pe_int fun _ _ => rfl) pe_str (nomark _)) (pe_op op_add_str (pe_op op_add_str pe_str (k_join (K := K) rfl pe_str (pv 1))) pe_str) (pe_op op_add_str (pe_op op_add_str pe_str (k_join (K := K) rfl pe_str (pv 1))) pe_str))))))))), ?_⟩
  obtain ⟨F, p, x, ks, rfl, hp, hok, hd, hl, hq⟩ := h
  cases p with
  | byte =>
    have h0 : H x = some (.tup [.str "byte"]) := hp
    simp [tRet, tRetN, tSeq, tIfS, tDrop, tNext, tNever, tBreak, tCont, tAsg, gName, gCons, gNil, gTup, tAndV, tOrV, tNotV, tAnd, tOr, tNot, tOp, tUn, tVar, tC, tB, tTest, tIf, tCons, tNil, tCB, tTup, tLst, tFld, sFld, sFldAug, rAdd, rSub, tSl, tPart, tNoPart, rI0, rI, rU, rEq, rNe, rSlS, rSlL, rIxL, rIxT, rIxS, tChain, tFn, tMt, tM1, tM0, tBM, rAppend, rIn, tIsN, tNotN, scal_ss, scal_ii, let_nil, let_one, fig_nil, fig_one, LenV_str, L2.start, cxOf, and_assoc, tJs, tFmt, put_at, lk_at, lk_script, lk_upcoming, lk_refuse, lk_skips, lk_expect, lk_word_of, lk_name_unlike, lk_number_to, lk_finish, sp0, sp1, sp2, sp3, sp4, sp5, -List.lookup_eq_none_iff, rIxHT, h0, at0, at1, at2, ne_byte_kind, ne_byte_use, ne_byte_row, ne_byte_record, ne_byte_overlay, ne_kind_byte, ne_kind_use, ne_kind_row, ne_kind_record, ne_kind_overlay, ne_use_byte, ne_use_kind, ne_use_row, ne_use_record, ne_use_overlay, ne_row_byte, ne_row_kind, ne_row_use, ne_row_record, ne_row_overlay, ne_record_byte, ne_record_kind, ne_record_use, ne_record_row, ne_record_overlay, ne_overlay_byte, ne_overlay_kind, ne_overlay_use, ne_overlay_row, ne_overlay_record]
    exact hq H Ex.rfl'
  | kind n t =>
    have h0 : H x = some (.tup [.str "kind", .str (S n), .int (t : Nat)]) := hp
    simp [tRet, tRetN, tSeq, tIfS, tDrop, tNext, tNever, tBreak, tCont, tAsg, gName, gCons, gNil, gTup, tAndV, tOrV, tNotV, tAnd, tOr, tNot, tOp, tUn, tVar, tC, tB, tTest, tIf, tCons, tNil, tCB, tTup, tLst, tFld, sFld, sFldAug, rAdd, rSub, tSl, tPart, tNoPart, rI0, rI, rU, rEq, rNe, rSlS, rSlL, rIxL, rIxT, rIxS, tChain, tFn, tMt, tM1, tM0, tBM, rAppend, rIn, tIsN, tNotN, scal_ss, scal_ii, let_nil, let_one, fig_nil, fig_one, LenV_str, L2.start, cxOf, and_assoc, tJs, tFmt, put_at, lk_at, lk_script, lk_upcoming, lk_refuse, lk_skips, lk_expect, lk_word_of, lk_name_unlike, lk_number_to, lk_finish, sp0, sp1, sp2, sp3, sp4, sp5, -List.lookup_eq_none_iff, rIxHT, h0, at0, at1, at2, ne_byte_kind, ne_byte_use, ne_byte_row, ne_byte_record, ne_byte_overlay, ne_kind_byte, ne_kind_use, ne_kind_row, ne_kind_record, ne_kind_overlay, ne_use_byte, ne_use_kind, ne_use_row, ne_use_record, ne_use_overlay, ne_row_byte, ne_row_kind, ne_row_use, ne_row_record, ne_row_overlay, ne_record_byte, ne_record_kind, ne_record_use, ne_record_row, ne_record_overlay, ne_overlay_byte, ne_overlay_kind, ne_overlay_use, ne_overlay_row, ne_overlay_record]
    exact hq H Ex.rfl'
  | use n =>
    have h0 : H x = some (.tup [.str "use", .str (S n)]) := hp
    simp [tRet, tRetN, tSeq, tIfS, tDrop, tNext, tNever, tBreak, tCont, tAsg, gName, gCons, gNil, gTup, tAndV, tOrV, tNotV, tAnd, tOr, tNot, tOp, tUn, tVar, tC, tB, tTest, tIf, tCons, tNil, tCB, tTup, tLst, tFld, sFld, sFldAug, rAdd, rSub, tSl, tPart, tNoPart, rI0, rI, rU, rEq, rNe, rSlS, rSlL, rIxL, rIxT, rIxS, tChain, tFn, tMt, tM1, tM0, tBM, rAppend, rIn, tIsN, tNotN, scal_ss, scal_ii, let_nil, let_one, fig_nil, fig_one, LenV_str, L2.start, cxOf, and_assoc, tJs, tFmt, put_at, lk_at, lk_script, lk_upcoming, lk_refuse, lk_skips, lk_expect, lk_word_of, lk_name_unlike, lk_number_to, lk_finish, sp0, sp1, sp2, sp3, sp4, sp5, -List.lookup_eq_none_iff, rIxHT, h0, at0, at1, at2, ne_byte_kind, ne_byte_use, ne_byte_row, ne_byte_record, ne_byte_overlay, ne_kind_byte, ne_kind_use, ne_kind_row, ne_kind_record, ne_kind_overlay, ne_use_byte, ne_use_kind, ne_use_row, ne_use_record, ne_use_overlay, ne_row_byte, ne_row_kind, ne_row_use, ne_row_record, ne_row_overlay, ne_record_byte, ne_record_kind, ne_record_use, ne_record_row, ne_record_overlay, ne_overlay_byte, ne_overlay_kind, ne_overlay_use, ne_overlay_row, ne_overlay_record]
    have hl2 : n.length + 1 ≤ 10000 := by simpa [Pt.text] using hl
    have e : Str.ofString "@" ++ S n = S (64 :: n) := S_app [64] n
    rw [e, S_len, sizeLine_eq]
    have e2 : (Str.ofString "@").length = 1 := rfl
    exact ⟨by omega, hq H Ex.rfl'⟩
  | row n p =>
    obtain ⟨b, h0, hb⟩ := hp
    have hl2 : (numL n).length + (p.text.length + 1) ≤ 10000 := by simpa [Pt.text] using hl
    have hd2 : p.depth < d := by
      have : p.depth + 1 < d + 1 := hd
      omega
    simp [tRet, tRetN, tSeq, tIfS, tDrop, tNext, tNever, tBreak, tCont, tAsg, gName, gCons, gNil, gTup, tAndV, tOrV, tNotV, tAnd, tOr, tNot, tOp, tUn, tVar, tC, tB, tTest, tIf, tCons, tNil, tCB, tTup, tLst, tFld, sFld, sFldAug, rAdd, rSub, tSl, tPart, tNoPart, rI0, rI, rU, rEq, rNe, rSlS, rSlL, rIxL, rIxT, rIxS, tChain, tFn, tMt, tM1, tM0, tBM, rAppend, rIn, tIsN, tNotN, scal_ss, scal_ii, let_nil, let_one, fig_nil, fig_one, LenV_str, L2.start, cxOf, and_assoc, tJs, tFmt, put_at, lk_at, lk_script, lk_upcoming, lk_refuse, lk_skips, lk_expect, lk_word_of, lk_name_unlike, lk_number_to, lk_finish, sp0, sp1, sp2, sp3, sp4, sp5, -List.lookup_eq_none_iff, rIxHT, h0, at0, at1, at2, ne_byte_kind, ne_byte_use, ne_byte_row, ne_byte_record, ne_byte_overlay, ne_kind_byte, ne_kind_use, ne_kind_row, ne_kind_record, ne_kind_overlay, ne_use_byte, ne_use_kind, ne_use_row, ne_use_record, ne_use_overlay, ne_row_byte, ne_row_kind, ne_row_use, ne_row_record, ne_row_overlay, ne_record_byte, ne_record_kind, ne_record_use, ne_record_row, ne_record_overlay, ne_overlay_byte, ne_overlay_kind, ne_overlay_use, ne_overlay_row, ne_overlay_record, ofS "*", S_app, S_len, fmt_num, sizeLine_eq]
    refine ⟨Nat.lt_of_le_of_lt (Nat.log2_le_self n) (by have := hok.2.1; omega), by omega, F, p, b, ks, rfl, hb, hok.2.2, hd2, by omega, fun H' e => ⟨_, rfl, by rw [S_len]; omega, ?_⟩⟩
    rw [S_app, List.append_assoc]
    exact hq H' e
  | rec_ fs =>
    obtain ⟨t, xs, h0, hF, ht, hfs⟩ := hp
    simp [tRet, tRetN, tSeq, tIfS, tDrop, tNext, tNever, tBreak, tCont, tAsg, gName, gCons, gNil, gTup, tAndV, tOrV, tNotV, tAnd, tOr, tNot, tOp, tUn, tVar, tC, tB, tTest, tIf, tCons, tNil, tCB, tTup, tLst, tFld, sFld, sFldAug, rAdd, rSub, tSl, tPart, tNoPart, rI0, rI, rU, rEq, rNe, rSlS, rSlL, rIxL, rIxT, rIxS, tChain, tFn, tMt, tM1, tM0, tBM, rAppend, rIn, tIsN, tNotN, scal_ss, scal_ii, let_nil, let_one, fig_nil, fig_one, LenV_str, L2.start, cxOf, and_assoc, tJs, tFmt, put_at, lk_at, lk_script, lk_upcoming, lk_refuse, lk_skips, lk_expect, lk_word_of, lk_name_unlike, lk_number_to, lk_finish, sp0, sp1, sp2, sp3, sp4, sp5, -List.lookup_eq_none_iff, rIxHT, h0, at0, at1, at2, ne_byte_kind, ne_byte_use, ne_byte_row, ne_byte_record, ne_byte_overlay, ne_kind_byte, ne_kind_use, ne_kind_row, ne_kind_record, ne_kind_overlay, ne_use_byte, ne_use_kind, ne_use_row, ne_use_record, ne_use_overlay, ne_row_byte, ne_row_kind, ne_row_use, ne_row_record, ne_row_overlay, ne_record_byte, ne_record_kind, ne_record_use, ne_record_row, ne_record_overlay, ne_overlay_byte, ne_overlay_kind, ne_overlay_use, ne_overlay_row, ne_overlay_record]
    have hokf : FsOkk ks fs := hok.2.2.2
    have hl2 : (TL.joinL [32] fs.texts).length + 1 + 1 ≤ 10000 := by simpa [Pt.text] using hl
    have hfew := texts_few (sep := 32) (fs := fs) (by omega)
    refine lc_mapL (a := t) (xs := xs) (ys := fs.texts.map fun x => .str (S x)) (fun R h => by simp [tRet, tRetN, tSeq, tIfS, tDrop, tNext, tNever, tBreak, tCont, tAsg, gName, gCons, gNil, gTup, tAndV, tOrV, tNotV, tAnd, tOr, tNot, tOp, tUn, tVar, tC, tB, tTest, tIf, tCons, tNil, tCB, tTup, tLst, tFld, sFld, sFldAug, rAdd, rSub, tSl, tPart, tNoPart, rI0, rI, rU, rEq, rNe, rSlS, rSlL, rIxL, rIxT, rIxS, tChain, tFn, tMt, tM1, tM0, tBM, rAppend, rIn, tIsN, tNotN, scal_ss, scal_ii, let_nil, let_one, fig_nil, fig_one, LenV_str, L2.start, cxOf, and_assoc, tJs, tFmt, put_at, lk_at, lk_script, lk_upcoming, lk_refuse, lk_skips, lk_expect, lk_word_of, lk_name_unlike, lk_number_to, lk_finish, sp0, sp1, sp2, sp3, sp4, sp5, -List.lookup_eq_none_iff, rIxHT, h0, at0, at1]; exact h) monG_tup2 monT_yes ?_ ?_ (SqL.of ht) (fun i x y H' R hi hy e hR => ?_) fun D H' e hD hDl => ?_
    · rw [List.length_map, Fs.texts_len]; omega
    · rw [hfs.len, List.length_map, Fs.texts_len]
    · obtain ⟨n, p, q, b, hg, rfl, hq2, hb⟩ := FsPl.get (hfs.ex e) hi
      obtain ⟨hn1, hp1⟩ := hokf.get hg
      refine ⟨_, _, rfl, SqT.of hq2, rfl, _, _, rfl, _, _, rfl, rfl, rfl, ?_⟩
      have ht2 := Fs.texts_get hg
      have hl4 := mem_joinL_len 32 (List.mem_of_getElem? ht2)
      rw [List.getElem?_map, ht2] at hy
      cases hy
      have hl3 : n.length + (p.text.length + 1) ≤ 10000 := by
        simp at hl4
        omega
      have hdp := Fs.depth_get hg
      have hd3 : fs.depth < d + 1 := hd
      simp [tRet, tRetN, tSeq, tIfS, tDrop, tNext, tNever, tBreak, tCont, tAsg, gName, gCons, gNil, gTup, tAndV, tOrV, tNotV, tAnd, tOr, tNot, tOp, tUn, tVar, tC, tB, tTest, tIf, tCons, tNil, tCB, tTup, tLst, tFld, sFld, sFldAug, rAdd, rSub, tSl, tPart, tNoPart, rI0, rI, rU, rEq, rNe, rSlS, rSlL, rIxL, rIxT, rIxS, tChain, tFn, tMt, tM1, tM0, tBM, rAppend, rIn, tIsN, tNotN, scal_ss, scal_ii, let_nil, let_one, fig_nil, fig_one, LenV_str, L2.start, cxOf, and_assoc, tJs, tFmt, put_at, lk_at, lk_script, lk_upcoming, lk_refuse, lk_skips, lk_expect, lk_word_of, lk_name_unlike, lk_number_to, lk_finish, sp0, sp1, sp2, sp3, sp4, sp5, -List.lookup_eq_none_iff, tYes, wipe, ofS ":", S_app, S_len, sizeLine_eq]
      refine ⟨by omega, F, p, b, ks, rfl, hb, hp1, by omega, by omega, fun H4 e4 => ⟨_, rfl, ?_, ?_⟩⟩
      · rw [S_len]; omega
      · rw [S_app, List.append_assoc]
        exact hR H4 e4
    · refine ⟨_, e _ _ h0, _, at0, rfl, ?_⟩
      simp [ne_overlay_record]
      refine ⟨_, D, fs.texts.map S, rfl, rfl, Or.inl (by rw [List.map_map]; exact SqL.of hDl), texts_sum (sep := 32) (by omega) rfl, ?_⟩
      have h8 : Txt.join (Str.ofString " ") (fs.texts.map S) = S (TL.joinL [32] fs.texts) := SX.join_S [32] fs.texts
      refine ⟨_, rfl, ?_, ?_, ?_⟩
      · rw [h8, ofS "{", S_len, S_len, sizeLine_eq]
        simp
        omega
      · rw [h8, ofS "{", S_app, ofS "}", S_len, S_len, sizeLine_eq]
        simp
        omega
      · rw [h8, ofS "{", S_app, ofS "}", S_app]
        exact hq H' e
  | ovl fs =>
    obtain ⟨t, xs, h0, hF, ht, hfs⟩ := hp
    simp [tRet, tRetN, tSeq, tIfS, tDrop, tNext, tNever, tBreak, tCont, tAsg, gName, gCons, gNil, gTup, tAndV, tOrV, tNotV, tAnd, tOr, tNot, tOp, tUn, tVar, tC, tB, tTest, tIf, tCons, tNil, tCB, tTup, tLst, tFld, sFld, sFldAug, rAdd, rSub, tSl, tPart, tNoPart, rI0, rI, rU, rEq, rNe, rSlS, rSlL, rIxL, rIxT, rIxS, tChain, tFn, tMt, tM1, tM0, tBM, rAppend, rIn, tIsN, tNotN, scal_ss, scal_ii, let_nil, let_one, fig_nil, fig_one, LenV_str, L2.start, cxOf, and_assoc, tJs, tFmt, put_at, lk_at, lk_script, lk_upcoming, lk_refuse, lk_skips, lk_expect, lk_word_of, lk_name_unlike, lk_number_to, lk_finish, sp0, sp1, sp2, sp3, sp4, sp5, -List.lookup_eq_none_iff, rIxHT, h0, at0, at1, at2, ne_byte_kind, ne_byte_use, ne_byte_row, ne_byte_record, ne_byte_overlay, ne_kind_byte, ne_kind_use, ne_kind_row, ne_kind_record, ne_kind_overlay, ne_use_byte, ne_use_kind, ne_use_row, ne_use_record, ne_use_overlay, ne_row_byte, ne_row_kind, ne_row_use, ne_row_record, ne_row_overlay, ne_record_byte, ne_record_kind, ne_record_use, ne_record_row, ne_record_overlay, ne_overlay_byte, ne_overlay_kind, ne_overlay_use, ne_overlay_row, ne_overlay_record]
    have hokf : FsOkk ks fs := hok.2.2.2
    have hl2 : (TL.joinL [124] fs.texts).length + 1 + 1 ≤ 10000 := by simpa [Pt.text] using hl
    have hfew := texts_few (sep := 124) (fs := fs) (by omega)
    refine lc_mapL (a := t) (xs := xs) (ys := fs.texts.map fun x => .str (S x)) (fun R h => by simp [tRet, tRetN, tSeq, tIfS, tDrop, tNext, tNever, tBreak, tCont, tAsg, gName, gCons, gNil, gTup, tAndV, tOrV, tNotV, tAnd, tOr, tNot, tOp, tUn, tVar, tC, tB, tTest, tIf, tCons, tNil, tCB, tTup, tLst, tFld, sFld, sFldAug, rAdd, rSub, tSl, tPart, tNoPart, rI0, rI, rU, rEq, rNe, rSlS, rSlL, rIxL, rIxT, rIxS, tChain, tFn, tMt, tM1, tM0, tBM, rAppend, rIn, tIsN, tNotN, scal_ss, scal_ii, let_nil, let_one, fig_nil, fig_one, LenV_str, L2.start, cxOf, and_assoc, tJs, tFmt, put_at, lk_at, lk_script, lk_upcoming, lk_refuse, lk_skips, lk_expect, lk_word_of, lk_name_unlike, lk_number_to, lk_finish, sp0, sp1, sp2, sp3, sp4, sp5, -List.lookup_eq_none_iff, rIxHT, h0, at0, at1]; exact h) monG_tup2 monT_yes ?_ ?_ (SqL.of ht) (fun i x y H' R hi hy e hR => ?_) fun D H' e hD hDl => ?_
    · rw [List.length_map, Fs.texts_len]; omega
    · rw [hfs.len, List.length_map, Fs.texts_len]
    · obtain ⟨n, p, q, b, hg, rfl, hq2, hb⟩ := FsPl.get (hfs.ex e) hi
      obtain ⟨hn1, hp1⟩ := hokf.get hg
      refine ⟨_, _, rfl, SqT.of hq2, rfl, _, _, rfl, _, _, rfl, rfl, rfl, ?_⟩
      have ht2 := Fs.texts_get hg
      have hl4 := mem_joinL_len 124 (List.mem_of_getElem? ht2)
      rw [List.getElem?_map, ht2] at hy
      cases hy
      have hl3 : n.length + (p.text.length + 1) ≤ 10000 := by
        simp at hl4
        omega
      have hdp := Fs.depth_get hg
      have hd3 : fs.depth < d + 1 := hd
      simp [tRet, tRetN, tSeq, tIfS, tDrop, tNext, tNever, tBreak, tCont, tAsg, gName, gCons, gNil, gTup, tAndV, tOrV, tNotV, tAnd, tOr, tNot, tOp, tUn, tVar, tC, tB, tTest, tIf, tCons, tNil, tCB, tTup, tLst, tFld, sFld, sFldAug, rAdd, rSub, tSl, tPart, tNoPart, rI0, rI, rU, rEq, rNe, rSlS, rSlL, rIxL, rIxT, rIxS, tChain, tFn, tMt, tM1, tM0, tBM, rAppend, rIn, tIsN, tNotN, scal_ss, scal_ii, let_nil, let_one, fig_nil, fig_one, LenV_str, L2.start, cxOf, and_assoc, tJs, tFmt, put_at, lk_at, lk_script, lk_upcoming, lk_refuse, lk_skips, lk_expect, lk_word_of, lk_name_unlike, lk_number_to, lk_finish, sp0, sp1, sp2, sp3, sp4, sp5, -List.lookup_eq_none_iff, tYes, wipe, ofS ":", S_app, S_len, sizeLine_eq]
      refine ⟨by omega, F, p, b, ks, rfl, hb, hp1, by omega, by omega, fun H4 e4 => ⟨_, rfl, ?_, ?_⟩⟩
      · rw [S_len]; omega
      · rw [S_app, List.append_assoc]
        exact hR H4 e4
    · refine ⟨_, e _ _ h0, _, at0, rfl, ?_⟩
      simp [ne_overlay_record]
      refine ⟨_, D, fs.texts.map S, rfl, rfl, Or.inl (by rw [List.map_map]; exact SqL.of hDl), texts_sum (sep := 124) (by omega) rfl, ?_⟩
      have h8 : Txt.join (Str.ofString "|") (fs.texts.map S) = S (TL.joinL [124] fs.texts) := SX.join_S [124] fs.texts
      refine ⟨_, rfl, ?_, ?_, ?_⟩
      · rw [h8, ofS "(", S_len, S_len, sizeLine_eq]
        simp
        omega
      · rw [h8, ofS "(", S_app, ofS ")", S_len, S_len, sizeLine_eq]
        simp
        omega
      · rw [h8, ofS "(", S_app, ofS ")", S_app]
        exact hq H' e
end
end Mp

set_option maxHeartbeats 4000000
/-! Ky9: texts of all plans; plans made to parts -/
namespace Mp
open PySem PySem.Spec PyProof.Rows L2
open StX (tMakeR run_makeR pe_makeR)
open He (ga ma fAd)
section
variable {P : Program} {w : World} {K : PySem.W.Frag} {mg : Str → Option Value} {base : Heap}
theorem text_all (z : Zk K mg base) : ∀ d : Nat, Cal P w K mg base "_law_text" (1 + d) (spTextP d) := by
  obtain ⟨f, F⟩ := z.d__law_text
  intro d
  induction d with
  | zero =>
    refine cal_bare F z.g__law_text fun vs H Q E h => ?_
    match vs, h with
    | [_], ⟨_, _, _, _, _, _, _, h, _⟩ => exact absurd h (Nat.not_lt_zero _)
  | succ d ih => exact ok__law_text (d := d) (k := 1 + d) z ih
end
end Mp

set_option maxHeartbeats 4000000
/-! Kz1: parts made of plans -/
namespace Mp
open PySem PySem.Spec PyProof.Rows L2
open StX (tMakeR run_makeR pe_makeR)
open He (ga ma fAd)
section
variable {P : Program} {w : World} {K : PySem.W.Frag} {mg : Str → Option Value} {base : Heap}
theorem Fs.toL_snoc : ∀ (fs : Fs) (n : List Nat) (p : Pt), (fs.snoc n p).toL = fs.toL ++ [(n, p)]
  | .nil, n, p => rfl
  | .cons m q r, n, p => by
    show (m, q) :: (r.snoc n p).toL = _
    rw [Fs.toL_snoc r n p]
    rfl
theorem Fs.toL_inj : ∀ {a b : Fs}, a.toL = b.toL → a = b
  | .nil, .nil, _ => rfl
  | .nil, .cons _ _ _, h => by cases h
  | .cons _ _ _, .nil, h => by cases h
  | .cons m q r, .cons m2 q2 r2, h => by
    have h : (m, q) :: r.toL = (m2, q2) :: r2.toL := h
    injection h with h1 h2
    injection h1 with h3 h4
    rw [h3, h4, Fs.toL_inj h2]
theorem FsOkk.names {ks : List Knd} : ∀ {fs : Fs}, FsOkk ks fs → ∀ n ∈ fs.names, nameOk n = true
  | .nil, _, n, h => by cases h
  | .cons m q r, h, n, hn => by
    rcases List.mem_cons.mp hn with rfl | hn
    · exact h.1
    · exact FsOkk.names h.2.2 n hn
def spPartP (d : Nat) (K : PySem.W.Frag) : Sp := sp1 fun a H Q _ => ∃ F p x ks, a = .ref x ∧ PlanAt F H p x ∧ PtOk ks p ∧ (∀ k ∈ ks, 1 ≤ k.2 ∧ k.2 ≤ 8) ∧ p.depth < d ∧ p.depth ≤ 4 ∧ ∀ y H', Ex H H' → PartAt K H' p y → Q (.ref y) H'
theorem sc__law_part : FnScope ["plan", "inside", "sign", "inner"] ["plan"] (defScope s__law_part) := ⟨rfl, rfl, rfl, by decide +kernel, rfl, by decide +kernel, by decide +kernel⟩
theorem ok__law_part (z : Zk K mg base)  (ap : Apart K) (k_Record : Cmk P w K mg base "Record" (ga K "Record") 4 (spRec "Record" 8 .rec_ K)) (k_Overlay : Cmk P w K mg base "Overlay" (ga K "Overlay") 4 (spRec "Overlay" 4 .ovl K)) (k_Use : Cmk P w K mg base "Use" (ga K "Use") 2 (spUse K)) (k_Byte : Cmk P w K mg base "Byte" (ga K "Byte") 2 (spByte K)) (k_Kind : Cmk P w K mg base "Kind" (ga K "Kind") 3 (spKind K)) (k_Row : Cmk P w K mg base "Row" (ga K "Row") 3 (spRow K)) {d : Nat} {k : Nat} (c__law_part : Cal P w K mg base "_law_part" k (spPartP d K)) (hk : 8 ≤ k) : Cal P w K mg base "_law_part" (k + 1) ((spPartP (d+1) K)) := by
  obtain ⟨fd, F⟩ := z.d__law_part
  refine cal_of F z.g__law_part sc__law_part (fun _ _ _ _ _ _ us hl => match us, hl with | [_], _ => rfl) (fun vs H Q E h => by match vs, h with | [_], _ => rfl) (fun cdv A outer s H vs Q E hr h => ?_)
  have nd := sc__law_part.nd
  have hu : (cxOf (L2.CX P w) P w K mg base ["plan", "inside", "sign", "inner"] "_law_part" (defScope s__law_part) (fAd K ("_law_part", none)) cdv A outer s H E).A.units + 64 < cLine := hr.units
  have hu0 := hr.units0
  have hu1 := hu_of hr
  match vs, h with
  | [a0], h =>
  refine ⟨_, (pss_cons (ps_if (pt_cmpR op_eq (pe_ix ix_HT (pv 0) pe_int fun _ _ => rfl) pe_str (nomark _)) (pss_one (ps_ret (pe_mk0 k_Byte hr (passD (E := E)) (by omega)))) pss_nil)
      (pss_cons (ps_if (pt_cmpR op_eq (pe_ix ix_HT (pv 0) pe_int fun _ _ => rfl) pe_str (nomark _)) (pss_one (ps_ret (pe_mk k_Kind hr (passD (E := E)) (pa_cons (pe_ix ix_HT (pv 0) pe_int fun _ _ => rfl) (pa_cons (pe_ix ix_HT (pv 0) pe_int fun _ _ => rfl) pa_nil)) (by omega)))) pss_nil)
      (pss_cons (ps_if (pt_cmpR op_eq (pe_ix ix_HT (pv 0) pe_int fun _ _ => rfl) pe_str (nomark _)) (pss_one (ps_ret (pe_mk k_Use hr (passD (E := E)) (pa_cons (pe_ix ix_HT (pv 0) pe_int fun _ _ => rfl) pa_nil) (by omega)))) pss_nil)
      (pss_cons (ps_if (pt_cmpR op_eq (pe_ix ix_HT (pv 0) pe_int fun _ _ => rfl) pe_str (nomark _)) (pss_one (ps_ret (pe_mk k_Row hr (passD (E := E)) (pa_cons (pe_fn c__law_part hr (passD (E := E)) (pa_cons (pe_ix ix_HT (pv 0) pe_int fun _ _ => rfl) pa_nil) (by omega)) (pa_cons (pe_ix ix_HT (pv 0) pe_int fun _ _ => rfl) pa_nil)) (by omega)))) pss_nil)
      (pss_cons (ps_setLc (i := 1) rfl nd rfl rfl (sw_true rfl rfl rfl rfl) (k_pi_list (K := K) rfl (pe_ix ix_HT (pv 0) pe_int fun _ _ => rfl)) (blkOk_by (N := ["plan", "inside", "sign", "inner"]) (sc := defScope s__law_part) (own := [("sign", 2), ("inner", 3)]) (by decide +kernel)) (fun _ _ _ _ _ => (k_pg_tup (K := K) (n := 2) rfl rfl (pgs_cons (pg_name nd (i := 2) rfl (Or.inl rfl)) (pgs_cons (pg_name nd (i := 3) rfl (Or.inl rfl)) pgs_nil)))) (fun _ _ _ _ _ => pts_nil) (fun _ _ _ _ _ => (pe_tup (pa_cons (pv 2) (pa_cons (pe_fn c__law_part hr passL (pa_cons (pv 3) pa_nil) (by omega)) pa_nil)))))
      (pss_one (ps_ret (pe_ifExp (pt_cmpR op_eq (pe_ix ix_HT (pv 0) pe_int fun _ _ => rfl) pe_str (nomark _)) (pe_mk k_Record hr (passD (E := E)) (pa_cons (pv 1) pa_nil) (by omega)) (pe_mk k_Overlay hr (passD (E := E)) (pa_cons (pv 1) pa_nil) (by omega)))))))))), ?_⟩
  obtain ⟨F, p, x, ks, rfl, hp, hok, hks, hd, hd4, hq⟩ := h
  cases p with
  | byte =>
    have h0 : H x = some (.tup [.str "byte"]) := hp
    simp [tRet, tRetN, tSeq, tIfS, tDrop, tNext, tNever, tBreak, tCont, tAsg, gName, gCons, gNil, gTup, tAndV, tOrV, tNotV, tAnd, tOr, tNot, tOp, tUn, tVar, tC, tB, tTest, tIf, tCons, tNil, tCB, tTup, tLst, tFld, sFld, sFldAug, rAdd, rSub, tSl, tPart, tNoPart, rI0, rI, rU, rEq, rNe, rSlS, rSlL, rIxL, rIxT, rIxS, tChain, tFn, tMt, tM1, tM0, tBM, rAppend, rIn, tIsN, tNotN, scal_ss, scal_ii, let_nil, let_one, fig_nil, fig_one, LenV_str, L2.start, cxOf, and_assoc, tJs, tFmt, put_at, lk_at, lk_script, lk_upcoming, lk_refuse, lk_skips, lk_expect, lk_word_of, lk_name_unlike, lk_number_to, lk_finish, sp0, sp1, sp2, sp3, sp4, sp5, -List.lookup_eq_none_iff, rIxHT, h0, at0, at1, at2, ne_byte_kind, ne_byte_use, ne_byte_row, ne_byte_record, ne_byte_overlay, ne_kind_byte, ne_kind_use, ne_kind_row, ne_kind_record, ne_kind_overlay, ne_use_byte, ne_use_kind, ne_use_row, ne_use_record, ne_use_overlay, ne_row_byte, ne_row_kind, ne_row_use, ne_row_record, ne_row_overlay, ne_record_byte, ne_record_kind, ne_record_use, ne_record_row, ne_record_overlay, ne_overlay_byte, ne_overlay_kind, ne_overlay_use, ne_overlay_row, ne_overlay_record, tMakeR]
    intro x2 dx hx hdx hxd
    exact ⟨x2, dx, rfl, upd_same, fun H4 k4 hp4 => ⟨rfl, hq x2 H4 (made_ex hx hdx k4) hp4⟩⟩
  | kind n t =>
    have h0 : H x = some (.tup [.str "kind", .str (S n), .int (t : Nat)]) := hp
    simp [tRet, tRetN, tSeq, tIfS, tDrop, tNext, tNever, tBreak, tCont, tAsg, gName, gCons, gNil, gTup, tAndV, tOrV, tNotV, tAnd, tOr, tNot, tOp, tUn, tVar, tC, tB, tTest, tIf, tCons, tNil, tCB, tTup, tLst, tFld, sFld, sFldAug, rAdd, rSub, tSl, tPart, tNoPart, rI0, rI, rU, rEq, rNe, rSlS, rSlL, rIxL, rIxT, rIxS, tChain, tFn, tMt, tM1, tM0, tBM, rAppend, rIn, tIsN, tNotN, scal_ss, scal_ii, let_nil, let_one, fig_nil, fig_one, LenV_str, L2.start, cxOf, and_assoc, tJs, tFmt, put_at, lk_at, lk_script, lk_upcoming, lk_refuse, lk_skips, lk_expect, lk_word_of, lk_name_unlike, lk_number_to, lk_finish, sp0, sp1, sp2, sp3, sp4, sp5, -List.lookup_eq_none_iff, rIxHT, h0, at0, at1, at2, ne_byte_kind, ne_byte_use, ne_byte_row, ne_byte_record, ne_byte_overlay, ne_kind_byte, ne_kind_use, ne_kind_row, ne_kind_record, ne_kind_overlay, ne_use_byte, ne_use_kind, ne_use_row, ne_use_record, ne_use_overlay, ne_row_byte, ne_row_kind, ne_row_use, ne_row_record, ne_row_overlay, ne_record_byte, ne_record_kind, ne_record_use, ne_record_row, ne_record_overlay, ne_overlay_byte, ne_overlay_kind, ne_overlay_use, ne_overlay_row, ne_overlay_record, tMakeR]
    intro x2 dx hx hdx hxd
    have hk := hks _ hok.2
    exact ⟨x2, dx, n, t, rfl, rfl, rfl, upd_same, hok.1, hk.1, hk.2, fun H4 k4 hp4 => ⟨rfl, hq x2 H4 (made_ex hx hdx k4) hp4⟩⟩
  | use n =>
    have h0 : H x = some (.tup [.str "use", .str (S n)]) := hp
    simp [tRet, tRetN, tSeq, tIfS, tDrop, tNext, tNever, tBreak, tCont, tAsg, gName, gCons, gNil, gTup, tAndV, tOrV, tNotV, tAnd, tOr, tNot, tOp, tUn, tVar, tC, tB, tTest, tIf, tCons, tNil, tCB, tTup, tLst, tFld, sFld, sFldAug, rAdd, rSub, tSl, tPart, tNoPart, rI0, rI, rU, rEq, rNe, rSlS, rSlL, rIxL, rIxT, rIxS, tChain, tFn, tMt, tM1, tM0, tBM, rAppend, rIn, tIsN, tNotN, scal_ss, scal_ii, let_nil, let_one, fig_nil, fig_one, LenV_str, L2.start, cxOf, and_assoc, tJs, tFmt, put_at, lk_at, lk_script, lk_upcoming, lk_refuse, lk_skips, lk_expect, lk_word_of, lk_name_unlike, lk_number_to, lk_finish, sp0, sp1, sp2, sp3, sp4, sp5, -List.lookup_eq_none_iff, rIxHT, h0, at0, at1, at2, ne_byte_kind, ne_byte_use, ne_byte_row, ne_byte_record, ne_byte_overlay, ne_kind_byte, ne_kind_use, ne_kind_row, ne_kind_record, ne_kind_overlay, ne_use_byte, ne_use_kind, ne_use_row, ne_use_record, ne_use_overlay, ne_row_byte, ne_row_kind, ne_row_use, ne_row_record, ne_row_overlay, ne_record_byte, ne_record_kind, ne_record_use, ne_record_row, ne_record_overlay, ne_overlay_byte, ne_overlay_kind, ne_overlay_use, ne_overlay_row, ne_overlay_record, tMakeR]
    intro x2 dx hx hdx hxd
    exact ⟨x2, dx, n, rfl, rfl, upd_same, hok, fun H4 k4 hp4 => ⟨rfl, hq x2 H4 (made_ex hx hdx k4) hp4⟩⟩
  | row n p =>
    obtain ⟨b, h0, hb⟩ := hp
    obtain ⟨q1, q2, q3⟩ := hok
    have hd2 : p.depth + 1 < d + 1 := hd
    have hd3 : p.depth + 1 ≤ 4 := hd4
    simp [tRet, tRetN, tSeq, tIfS, tDrop, tNext, tNever, tBreak, tCont, tAsg, gName, gCons, gNil, gTup, tAndV, tOrV, tNotV, tAnd, tOr, tNot, tOp, tUn, tVar, tC, tB, tTest, tIf, tCons, tNil, tCB, tTup, tLst, tFld, sFld, sFldAug, rAdd, rSub, tSl, tPart, tNoPart, rI0, rI, rU, rEq, rNe, rSlS, rSlL, rIxL, rIxT, rIxS, tChain, tFn, tMt, tM1, tM0, tBM, rAppend, rIn, tIsN, tNotN, scal_ss, scal_ii, let_nil, let_one, fig_nil, fig_one, LenV_str, L2.start, cxOf, and_assoc, tJs, tFmt, put_at, lk_at, lk_script, lk_upcoming, lk_refuse, lk_skips, lk_expect, lk_word_of, lk_name_unlike, lk_number_to, lk_finish, sp0, sp1, sp2, sp3, sp4, sp5, -List.lookup_eq_none_iff, rIxHT, h0, at0, at1, at2, ne_byte_kind, ne_byte_use, ne_byte_row, ne_byte_record, ne_byte_overlay, ne_kind_byte, ne_kind_use, ne_kind_row, ne_kind_record, ne_kind_overlay, ne_use_byte, ne_use_kind, ne_use_row, ne_use_record, ne_use_overlay, ne_row_byte, ne_row_kind, ne_row_use, ne_row_record, ne_row_overlay, ne_record_byte, ne_record_kind, ne_record_use, ne_record_row, ne_record_overlay, ne_overlay_byte, ne_overlay_kind, ne_overlay_use, ne_overlay_row, ne_overlay_record, tMakeR]
    refine ⟨F, p, b, ks, rfl, hb, q3, hks, by omega, by omega, fun y H1 e1 hy => ?_⟩
    refine ⟨_, e1 _ _ h0, _, at1, fun x2 dx hx hdx hxd => ?_⟩
    exact ⟨x2, dx, y, p, n, rfl, rfl, rfl, upd_same, hy.st ap (Stb.of (made_ex0 hx hdx)), by omega, q1, q2, fun H4 k4 hp4 => ⟨rfl, hq x2 H4 (Ex.trans e1 (made_ex hx hdx k4)) hp4⟩⟩
  | rec_ fs =>
    obtain ⟨t, xs, h0, hF, ht, hfs⟩ := hp
    obtain ⟨q1, q2, q3, q4⟩ := hok
    have hd3 : fs.depth < d + 1 := hd
    have hd5 : fs.depth ≤ 4 := hd4
    simp [tRet, tRetN, tSeq, tIfS, tDrop, tNext, tNever, tBreak, tCont, tAsg, gName, gCons, gNil, gTup, tAndV, tOrV, tNotV, tAnd, tOr, tNot, tOp, tUn, tVar, tC, tB, tTest, tIf, tCons, tNil, tCB, tTup, tLst, tFld, sFld, sFldAug, rAdd, rSub, tSl, tPart, tNoPart, rI0, rI, rU, rEq, rNe, rSlS, rSlL, rIxL, rIxT, rIxS, tChain, tFn, tMt, tM1, tM0, tBM, rAppend, rIn, tIsN, tNotN, scal_ss, scal_ii, let_nil, let_one, fig_nil, fig_one, LenV_str, L2.start, cxOf, and_assoc, tJs, tFmt, put_at, lk_at, lk_script, lk_upcoming, lk_refuse, lk_skips, lk_expect, lk_word_of, lk_name_unlike, lk_number_to, lk_finish, sp0, sp1, sp2, sp3, sp4, sp5, -List.lookup_eq_none_iff, rIxHT, h0, at0, at1, at2, ne_byte_kind, ne_byte_use, ne_byte_row, ne_byte_record, ne_byte_overlay, ne_kind_byte, ne_kind_use, ne_kind_row, ne_kind_record, ne_kind_overlay, ne_use_byte, ne_use_kind, ne_use_row, ne_use_record, ne_use_overlay, ne_row_byte, ne_row_kind, ne_row_use, ne_row_record, ne_row_overlay, ne_record_byte, ne_record_kind, ne_record_use, ne_record_row, ne_record_overlay, ne_overlay_byte, ne_overlay_kind, ne_overlay_use, ne_overlay_row, ne_overlay_record]
    refine lc_relL (a := t) (xs := xs) (fun i acc H' => ∃ gs : Fs, FsAt K H' gs acc ∧ gs.toL = fs.toL.take i) (fun R h => by simp [tRet, tRetN, tSeq, tIfS, tDrop, tNext, tNever, tBreak, tCont, tAsg, gName, gCons, gNil, gTup, tAndV, tOrV, tNotV, tAnd, tOr, tNot, tOp, tUn, tVar, tC, tB, tTest, tIf, tCons, tNil, tCB, tTup, tLst, tFld, sFld, sFldAug, rAdd, rSub, tSl, tPart, tNoPart, rI0, rI, rU, rEq, rNe, rSlS, rSlL, rIxL, rIxT, rIxS, tChain, tFn, tMt, tM1, tM0, tBM, rAppend, rIn, tIsN, tNotN, scal_ss, scal_ii, let_nil, let_one, fig_nil, fig_one, LenV_str, L2.start, cxOf, and_assoc, tJs, tFmt, put_at, lk_at, lk_script, lk_upcoming, lk_refuse, lk_skips, lk_expect, lk_word_of, lk_name_unlike, lk_number_to, lk_finish, sp0, sp1, sp2, sp3, sp4, sp5, -List.lookup_eq_none_iff, rIxHT, h0, at0, at1]; exact h) monG_tup2 monT_yes (by rw [hfs.len]; omega) (SqL.of ht) ⟨.nil, rfl, rfl⟩ (fun i acc H1 H2 hst ⟨gs, g1, g2⟩ => ⟨gs, g1.st ap hst, g2⟩) (fun i y acc H' R hi e ⟨gs, g1, g2⟩ hR => ?_) fun D acc H' e hD hDl hal ⟨gs, g1, g2⟩ => ?_
    · obtain ⟨n, p, q, b, hg, rfl, hq2, hb⟩ := FsPl.get (hfs.ex e) hi
      obtain ⟨hn1, hp1⟩ := FsOkk.get q4 hg
      have hdp := Fs.depth_get hg
      refine ⟨_, _, rfl, SqT.of hq2, rfl, _, _, rfl, _, _, rfl, rfl, rfl, ?_⟩
      simp [tRet, tRetN, tSeq, tIfS, tDrop, tNext, tNever, tBreak, tCont, tAsg, gName, gCons, gNil, gTup, tAndV, tOrV, tNotV, tAnd, tOr, tNot, tOp, tUn, tVar, tC, tB, tTest, tIf, tCons, tNil, tCB, tTup, tLst, tFld, sFld, sFldAug, rAdd, rSub, tSl, tPart, tNoPart, rI0, rI, rU, rEq, rNe, rSlS, rSlL, rIxL, rIxT, rIxS, tChain, tFn, tMt, tM1, tM0, tBM, rAppend, rIn, tIsN, tNotN, scal_ss, scal_ii, let_nil, let_one, fig_nil, fig_one, LenV_str, L2.start, cxOf, and_assoc, tJs, tFmt, put_at, lk_at, lk_script, lk_upcoming, lk_refuse, lk_skips, lk_expect, lk_word_of, lk_name_unlike, lk_number_to, lk_finish, sp0, sp1, sp2, sp3, sp4, sp5, -List.lookup_eq_none_iff, tYes, wipe]
      refine ⟨F, p, b, ks, rfl, hb, hp1, hks, by omega, by omega, fun y1 H1 e1 hy1 => ⟨by decide, fun q5 hq5 => hR _ _ (Ex.trans e1 (Ex.new hq5)) ⟨gs.snoc n p, ?_, ?_⟩⟩⟩
      · exact FsAt.snoc upd_same (hy1.st ap (Stb.of (Ex.new hq5))) (g1.st ap (Stb.of (Ex.trans e1 (Ex.new hq5))))
      · rw [Fs.toL_snoc, g2, List.take_add_one, hg]
        rfl
    · have hgs : gs = fs := by
        rw [hfs.len, ← Fs.toL_len, List.take_length] at g2
        exact Fs.toL_inj g2
      subst hgs
      refine ⟨_, e _ _ h0, _, at0, rfl, ?_⟩
      simp [ne_overlay_record, tMakeR, tRet, tRetN, tSeq, tIfS, tDrop, tNext, tNever, tBreak, tCont, tAsg, gName, gCons, gNil, gTup, tAndV, tOrV, tNotV, tAnd, tOr, tNot, tOp, tUn, tVar, tC, tB, tTest, tIf, tCons, tNil, tCB, tTup, tLst, tFld, sFld, sFldAug, rAdd, rSub, tSl, tPart, tNoPart, rI0, rI, rU, rEq, rNe, rSlS, rSlL, rIxL, rIxT, rIxS, tChain, tFn, tMt, tM1, tM0, tBM, rAppend, rIn, tIsN, tNotN, scal_ss, scal_ii, let_nil, let_one, fig_nil, fig_one, LenV_str, L2.start, cxOf, and_assoc, tJs, tFmt, put_at, lk_at, lk_script, lk_upcoming, lk_refuse, lk_skips, lk_expect, lk_word_of, lk_name_unlike, lk_number_to, lk_finish, sp0, sp1, sp2, sp3, sp4, sp5, -List.lookup_eq_none_iff]
      intro x2 dx hx hdx hxd
      refine ⟨x2, dx, D, gs, rfl, rfl, upd_same, ⟨acc, made_ex0 hx hdx _ _ hDl, g1.st ap (Stb.of (made_ex0 hx hdx))⟩, hd5, q1, q2, q3, FsOkk.names q4, fun H4 k4 hp4 => ⟨rfl, hq x2 H4 (Ex.trans e (made_ex hx hdx k4)) hp4⟩⟩
  | ovl fs =>
    obtain ⟨t, xs, h0, hF, ht, hfs⟩ := hp
    obtain ⟨q1, q2, q3, q4⟩ := hok
    have hd3 : fs.depth < d + 1 := hd
    have hd5 : fs.depth ≤ 4 := hd4
    simp [tRet, tRetN, tSeq, tIfS, tDrop, tNext, tNever, tBreak, tCont, tAsg, gName, gCons, gNil, gTup, tAndV, tOrV, tNotV, tAnd, tOr, tNot, tOp, tUn, tVar, tC, tB, tTest, tIf, tCons, tNil, tCB, tTup, tLst, tFld, sFld, sFldAug, rAdd, rSub, tSl, tPart, tNoPart, rI0, rI, rU, rEq, rNe, rSlS, rSlL, rIxL, rIxT, rIxS, tChain, tFn, tMt, tM1, tM0, tBM, rAppend, rIn, tIsN, tNotN, scal_ss, scal_ii, let_nil, let_one, fig_nil, fig_one, LenV_str, L2.start, cxOf, and_assoc, tJs, tFmt, put_at, lk_at, lk_script, lk_upcoming, lk_refuse, lk_skips, lk_expect, lk_word_of, lk_name_unlike, lk_number_to, lk_finish, sp0, sp1, sp2, sp3, sp4, sp5, -List.lookup_eq_none_iff, rIxHT, h0, at0, at1, at2, ne_byte_kind, ne_byte_use, ne_byte_row, ne_byte_record, ne_byte_overlay, ne_kind_byte, ne_kind_use, ne_kind_row, ne_kind_record, ne_kind_overlay, ne_use_byte, ne_use_kind, ne_use_row, ne_use_record, ne_use_overlay, ne_row_byte, ne_row_kind, ne_row_use, ne_row_record, ne_row_overlay, ne_record_byte, ne_record_kind, ne_record_use, ne_record_row, ne_record_overlay, ne_overlay_byte, ne_overlay_kind, ne_overlay_use, ne_overlay_row, ne_overlay_record]
    refine lc_relL (a := t) (xs := xs) (fun i acc H' => ∃ gs : Fs, FsAt K H' gs acc ∧ gs.toL = fs.toL.take i) (fun R h => by simp [tRet, tRetN, tSeq, tIfS, tDrop, tNext, tNever, tBreak, tCont, tAsg, gName, gCons, gNil, gTup, tAndV, tOrV, tNotV, tAnd, tOr, tNot, tOp, tUn, tVar, tC, tB, tTest, tIf, tCons, tNil, tCB, tTup, tLst, tFld, sFld, sFldAug, rAdd, rSub, tSl, tPart, tNoPart, rI0, rI, rU, rEq, rNe, rSlS, rSlL, rIxL, rIxT, rIxS, tChain, tFn, tMt, tM1, tM0, tBM, rAppend, rIn, tIsN, tNotN, scal_ss, scal_ii, let_nil, let_one, fig_nil, fig_one, LenV_str, L2.start, cxOf, and_assoc, tJs, tFmt, put_at, lk_at, lk_script, lk_upcoming, lk_refuse, lk_skips, lk_expect, lk_word_of, lk_name_unlike, lk_number_to, lk_finish, sp0, sp1, sp2, sp3, sp4, sp5, -List.lookup_eq_none_iff, rIxHT, h0, at0, at1]; exact h) monG_tup2 monT_yes (by rw [hfs.len]; omega) (SqL.of ht) ⟨.nil, rfl, rfl⟩ (fun i acc H1 H2 hst ⟨gs, g1, g2⟩ => ⟨gs, g1.st ap hst, g2⟩) (fun i y acc H' R hi e ⟨gs, g1, g2⟩ hR => ?_) fun D acc H' e hD hDl hal ⟨gs, g1, g2⟩ => ?_
    · obtain ⟨n, p, q, b, hg, rfl, hq2, hb⟩ := FsPl.get (hfs.ex e) hi
      obtain ⟨hn1, hp1⟩ := FsOkk.get q4 hg
      have hdp := Fs.depth_get hg
      refine ⟨_, _, rfl, SqT.of hq2, rfl, _, _, rfl, _, _, rfl, rfl, rfl, ?_⟩
      simp [tRet, tRetN, tSeq, tIfS, tDrop, tNext, tNever, tBreak, tCont, tAsg, gName, gCons, gNil, gTup, tAndV, tOrV, tNotV, tAnd, tOr, tNot, tOp, tUn, tVar, tC, tB, tTest, tIf, tCons, tNil, tCB, tTup, tLst, tFld, sFld, sFldAug, rAdd, rSub, tSl, tPart, tNoPart, rI0, rI, rU, rEq, rNe, rSlS, rSlL, rIxL, rIxT, rIxS, tChain, tFn, tMt, tM1, tM0, tBM, rAppend, rIn, tIsN, tNotN, scal_ss, scal_ii, let_nil, let_one, fig_nil, fig_one, LenV_str, L2.start, cxOf, and_assoc, tJs, tFmt, put_at, lk_at, lk_script, lk_upcoming, lk_refuse, lk_skips, lk_expect, lk_word_of, lk_name_unlike, lk_number_to, lk_finish, sp0, sp1, sp2, sp3, sp4, sp5, -List.lookup_eq_none_iff, tYes, wipe]
      refine ⟨F, p, b, ks, rfl, hb, hp1, hks, by omega, by omega, fun y1 H1 e1 hy1 => ⟨by decide, fun q5 hq5 => hR _ _ (Ex.trans e1 (Ex.new hq5)) ⟨gs.snoc n p, ?_, ?_⟩⟩⟩
      · exact FsAt.snoc upd_same (hy1.st ap (Stb.of (Ex.new hq5))) (g1.st ap (Stb.of (Ex.trans e1 (Ex.new hq5))))
      · rw [Fs.toL_snoc, g2, List.take_add_one, hg]
        rfl
    · have hgs : gs = fs := by
        rw [hfs.len, ← Fs.toL_len, List.take_length] at g2
        exact Fs.toL_inj g2
      subst hgs
      refine ⟨_, e _ _ h0, _, at0, rfl, ?_⟩
      simp [ne_overlay_record, tMakeR, tRet, tRetN, tSeq, tIfS, tDrop, tNext, tNever, tBreak, tCont, tAsg, gName, gCons, gNil, gTup, tAndV, tOrV, tNotV, tAnd, tOr, tNot, tOp, tUn, tVar, tC, tB, tTest, tIf, tCons, tNil, tCB, tTup, tLst, tFld, sFld, sFldAug, rAdd, rSub, tSl, tPart, tNoPart, rI0, rI, rU, rEq, rNe, rSlS, rSlL, rIxL, rIxT, rIxS, tChain, tFn, tMt, tM1, tM0, tBM, rAppend, rIn, tIsN, tNotN, scal_ss, scal_ii, let_nil, let_one, fig_nil, fig_one, LenV_str, L2.start, cxOf, and_assoc, tJs, tFmt, put_at, lk_at, lk_script, lk_upcoming, lk_refuse, lk_skips, lk_expect, lk_word_of, lk_name_unlike, lk_number_to, lk_finish, sp0, sp1, sp2, sp3, sp4, sp5, -List.lookup_eq_none_iff]
      intro x2 dx hx hdx hxd
      refine ⟨x2, dx, D, gs, rfl, rfl, upd_same, ⟨acc, made_ex0 hx hdx _ _ hDl, g1.st ap (Stb.of (made_ex0 hx hdx))⟩, hd5, q1, q2, q3, FsOkk.names q4, fun H4 k4 hp4 => ⟨rfl, hq x2 H4 (Ex.trans e (made_ex hx hdx k4)) hp4⟩⟩
end
end Mp

set_option maxHeartbeats 4000000
/-! Kz2: parts of all plans -/
namespace Mp
open PySem PySem.Spec PyProof.Rows L2
open He (ga ma fAd)
section
variable {P : Program} {w : World} {K : PySem.W.Frag} {mg : Str → Option Value} {base : Heap}
theorem part_all (z : Zk K mg base) (y : Zs P K) (ap : Apart K) : ∀ d : Nat, Cal P w K mg base "_law_part" (8 + d) (spPartP d K) := by
  have nm := ok_is_name (P := P) (w := w) z
  have np := ok_need_pairs (P := P) (w := w) z nm ap
  have dp := ok_depth_over (P := P) (w := w) z
  have kR := cmk_record z (ok_Record___init__ (P := P) (w := w) z y np dp ap)
  have kO := cmk_overlay z (ok_Overlay___init__ (P := P) (w := w) z y np dp ap)
  have kU := cmk_use z (ok_Use___init__ (P := P) (w := w) z y nm)
  have kB := cmk_byte z (ok_Byte___init__ (P := P) (w := w) z y)
  have bw := ok_is_between (P := P) (w := w) z (ok_is_whole z)
  have kW := cmk_row z (ok_Row___init__ (P := P) (w := w) z y bw dp ap)
  have kK := cmk_kind z (ok_Kind___init__ (P := P) (w := w) z y nm bw)
  obtain ⟨f, F⟩ := z.d__law_part
  intro d
  induction d with
  | zero =>
    refine cal_bare F z.g__law_part fun vs H Q E h => ?_
    match vs, h with
    | [_], ⟨_, _, _, _, _, _, _, _, h, _⟩ => exact absurd h (Nat.not_lt_zero _)
  | succ d ih => exact ok__law_part (d := d) (k := 8 + d) z ap kR kO kU kB kK kW ih (by omega)
end
end Mp

set_option maxHeartbeats 4000000
/-! Kx9: a caught error that is kept behind its suite: held in the heap as a thing; isinstance and fields of it -/
namespace Mp
open PySem PySem.Spec PyProof.Rows L2
/-- at a: an error of the class cls, with its dict -/
def exk (a : Addr) (cls : Value) (d : Option Addr) : HO := .ext fun h => ∃ oe : Obj, h.get? a = some oe ∧ Zc cls d oe ∧ ∃ vs, oe.data = .fields vs
theorem exk_ok {P : Program} {w : World} {H : Hp} {h : Heap} {a : Addr} {cls : Value} {d : Option Addr} {oe : Obj} {vs : Array Value} (he : h.get? a = some oe) (hz : Zc cls d oe) (hf : oe.data = .fields vs) : ObjOk P w H h a (exk a cls d) :=
  ⟨⟨oe, he, hz, vs, hf⟩, ⟨_, he⟩, fun h1 h2 ⟨o, e, r⟩ k => ⟨o, k _ e, r⟩⟩
theorem exk_at {P : Program} {w : World} {H : Hp} {h : Heap} {a : Addr} {cls : Value} {d : Option Addr} (hok : HOk P w H h) (he : H a = some (exk a cls d)) : ∃ oe : Obj, h.get? a = some oe ∧ Zc cls d oe ∧ ∃ vs, oe.data = .fields vs := by
  have x : ObjOk P w H h a (.ext fun h => ∃ oe : Obj, h.get? a = some oe ∧ Zc cls d oe ∧ ∃ vs, oe.data = .fields vs) := hok a _ he
  exact x.1
def dropS (D : Ends) (i : Nat) : Ends := { nx := fun σ' H' => D.nx (σ'.set i none) H', rt := D.rt, bk := fun σ' H' => D.bk (σ'.set i none) H', ct := fun σ' H' => D.ct (σ'.set i none) H' }
/-- what the clause wishes of an error of the body -/
def wKeep (K : PySem.W.Frag) (c : Value) (i L : Nat) (ts : TS) (Wout : WX) (D : Ends) : WX := fun cls d σ H => σ.length = L →
  ∃ b, PySem.W.exmOne K cls c = some b ∧ (b = true → ∀ a, H a = none → ts (dropS D i) (σ.set i (some (.ref a))) (upd H a (exk a cls d))) ∧ (b = false → Wout cls d σ H)
section
variable {X : Cx} {pins : List (Addr × Obj)} {σ : L2.St} {H : Hp} {s : Shared}
theorem inv_out0 {a : Addr} {pn' : List (Addr × Obj)} (I : Inv (X.suite a (X.pn ++ pins)) pn' σ H s) (ok : X.Ok) : Inv X pins σ H s :=
  ⟨ok, I.os, I.bare, I.base, I.loc, I.cell, I.free, I.freeC, fun p hp => I.pin p (List.mem_append_left _ hp), I.hok, I.len⟩
theorem inv_in0 {a : Addr} (I : Inv X pins σ H s) : Inv (X.suite a (X.pn ++ pins)) [] σ H s :=
  ⟨I.ok.suite _ _, I.os, I.bare, I.base, I.loc, I.cell, I.free, I.freeC, fun p hp => I.pin p (by rw [List.append_nil] at hp; exact hp), I.hok, I.len⟩
/-- an error that lies in the heap and was not there at the entry is told from now on -/
theorem inv_tell {a : Addr} {cls : Value} {d : Option Addr} {oe : Obj} {vs : Array Value} (I : Inv X pins σ H s) (he : s.heap.get? a = some oe) (hz : Zc cls d oe) (hf : oe.data = .fields vs) (na : H a = none) (n0 : ∀ o, X.s_0.heap.get? a = some o → a ∈ X.ex) (nL : a ≠ X.env.locals)
    (np : ∀ p ∈ X.pn ++ pins, p.1 ≠ a) : Inv X pins σ (upd H a (exk a cls d)) s where
  ok := I.ok
  os := I.os
  bare := I.bare
  base := {
    keep := I.base.keep
    slot := I.base.slot
    free := fun b o e n hx => by
      have hb : b ≠ a := fun z => by
        rw [z] at e hx
        exact hx (n0 o e)
      rw [upd_ne hb]
      exact I.base.free b o e n hx
    there := I.base.there
    tups := fun b xs e => by
      have q := I.base.tups b xs e
      rw [upd_ne (ne_of_none q na)]
      exact q
    frzs := fun b o u e => by
      have q := I.base.frzs b o u e
      rw [upd_ne (ne_of_none q na)]
      exact q
    tbls := fun b ps e => by
      obtain ⟨m, q⟩ := I.base.tbls b ps e
      refine ⟨m, ?_⟩
      rw [upd_ne (ne_of_none q na)]
      exact q }
  loc := I.loc
  cell := I.cell
  free := by
    rw [upd_ne (fun z => nL z.symm)]
    exact I.free
  freeC := fun x c e => by
    have hc : c ≠ a := fun z => by
      obtain ⟨v, o, ho, hd⟩ := I.cell x c e
      rw [z, he] at ho
      cases ho
      rw [hf] at hd
      cases hd
    rw [upd_ne hc]
    exact I.freeC x c e
  pin := fun p hp => by
    obtain ⟨h1, h2, h3⟩ := I.pin p hp
    refine ⟨h1, ?_, h3⟩
    rw [upd_ne (np p hp)]
    exact h2
  hok := HOk.laidN I.hok (fun _ _ q => q) na (exk_ok he hz hf)
  len := I.len
end
section
variable {X : Cx} {x n : Str} {c : Value} {i : Nat} {body suite : List Stmt} {b₀ : Stmt} {np pos pos' : Pos} {tb : WX → TS} {ts : TS} {Wout : WX}
theorem ps_try_keep (hs : X.stack = X.env :: X.outer) (hf : X.env.frame = some X.env.locals) (hex : X.ex = []) (hN : X.N.Nodup) (hi : X.N[i]? = some n) (hln : X.env.kindOf n = some .local) (hc : Names X x c) (tk : Takes X Wout)
    (hb : ∀ (W : WX) (pn : List (Addr × Obj)) (xe : Value → Shared → Prop), Takes (X.tr pn xe) W → PassesOwn (model X.prog X.w) X.A X.env xe → PSs (X.tr pn xe) body (tb W))
    (hsu : ∀ (a : Addr) (pn : List (Addr × Obj)), PSs (X.suite a pn) (b₀ :: suite) ts) :
    PS X (.Try body [.ExceptHandler (some (.Name x np)) (some n) (b₀ :: suite) pos'] [] [] pos) (fun D σ H => tb (wKeep X.K c i X.N.length ts Wout D) D σ H) := by
  refine ⟨fun pins s σ H D I h => ?_⟩
  have ok := I.ok
  have hfr : X.A.frames = some (X.env :: X.outer) := by rw [ok.frames, hs]
  have hloc : Loc X.env.scope n := .inl hln
  refine wpAny_Try_except ?_
  have hbody := (hb (wKeep X.K c i X.N.length ts Wout D) (X.pn ++ pins) (fun e s₁ => wpAny (model X.prog X.w) X.A (noteFrame e X.env) (fun _ s₂ => wpAny (model X.prog X.w) X.A (setFlight e none) (fun _ s₃ =>
    wpAny (model X.prog X.w) X.A (handleBy e X.env [.ExceptHandler (some (.Name x np)) (some n) (b₀ :: suite) pos']) (L2.SP X pins D) X.xe s₃) X.xe s₂) X.xe s₁) (fun u s' xx => ?_) PassesOwn.looking).run [] s σ H D (I.toTry _) h
  · refine wpAny_mono hbody (fun f s1 hsp => ?_) (fun e s1 he => he)
    cases f with
    | next =>
      obtain ⟨σ', H', J', q⟩ := hsp
      exact wpAny_execs_nil ⟨σ', H', J'.ofTry ok, q⟩
    | brk =>
      obtain ⟨σ', H', J', q⟩ := hsp
      exact ⟨σ', H', J'.ofTry ok, q⟩
    | cont =>
      obtain ⟨σ', H', J', q⟩ := hsp
      exact ⟨σ', H', J'.ofTry ok, q⟩
    | ret u =>
      obtain ⟨v, σ', H', J', r, q⟩ := hsp
      exact ⟨v, σ', H', J'.ofTry ok, r, q⟩
  · obtain ⟨a, B, sI, pins', σ', H', cls, d, rfl, J', nb, up, sky, na, os, ag, hw⟩ := xx
    obtain ⟨b, hb1, hyes, hno⟩ := hw J'.len
    have J : Inv X pins σ' H' sI := J'.ofTry ok
    have skyX : Sky B (X.env :: X.outer) a (Zc cls d) X.env.locals s'.heap := by rw [← hs]; exact sky
    show wpAny (model X.prog X.w) X.A (noteFrame (.ref a) X.env) _ _ _
    refine Sky.land Zc.steady hfr hf skyX fun h3 fl3 up3 => ?_
    have J3 : Inv X pins σ' H' { s' with heap := h3 } := J.landed nb fl3.1 (up.trans up3) os ag
    obtain ⟨oe3, vs3, he3, hz3, hd3⟩ := fl3.there
    have nfr : a ∉ frs (X.env :: X.outer) := fun hm => by
      obtain ⟨_, o', e', hnf⟩ := fl3.2.2.1.mem hm
      rw [he3] at e'
      cases e'
      exact hnf _ hd3
    have nfs : a ∉ frs X.stack := by rw [hs]; exact nfr
    have nL : a ≠ X.env.locals := fun z => nfr (List.mem_filterMap.mpr ⟨X.env, List.mem_cons_self, by rw [hf, z]⟩)
    have nB : ∀ o, sI.heap.get? a = some o → False := fun o e => by
      have q := nb a o e nfs
      rw [fl3.2.1] at q
      cases q
    have n0 : ∀ o, X.s_0.heap.get? a = some o → a ∈ X.ex := fun o e => by
      by_cases hx : a ∈ X.ex
      · exact hx
      · obtain ⟨o', e'⟩ := J.base.there a o e hx
        exact (nB o' e').elim
    have npn : ∀ p ∈ X.pn ++ pins, p.1 ≠ a := fun p hp z => by
      obtain ⟨h1, _⟩ := J.pin p hp
      rw [z] at h1
      exact nB _ h1
    have S3 := inv_in0 (a := a) J3
    refine wpAny_handleBy_cons (codeAny_handlers_test ?_) (by intro q; cases q)
    have LT : PySem.W.Looks (model X.prog X.w) h3 (typeOf (.ref a)) cls := fun A Q E s k q => wpAny_typeOf_ref (k _ _ he3) (by rw [hz3.1]; exact q)
    have LM := PySem.W.exm_one (M := model X.prog X.w) (J3.kIn) LT hb1
    have test : ∀ {Q : Value → Shared → Prop} {E : Value → Shared → Prop}, Q c { s' with heap := h3 } → wpAny (model X.prog X.w) (X.A.mark (some (.ref a))) (eval (.Name x np) X.env) Q E { s' with heap := h3 } := fun {Q E} q => by
      obtain ⟨hg, hdbg, hm | ⟨hm, hv, hnn⟩⟩ := hc
      · exact ld_glob (X := X.suite a (X.pn ++ pins)) S3 hg hm q hdbg
      · exact ld_blt (X := X.suite a (X.pn ++ pins)) S3 hg hm hv q hnn hdbg
    refine test (LM.here ?_)
    cases b with
    | true =>
      refine codeAny_handlers_suite_as ?_
      refine HandSPX.lands_againZ fl3 fun h4 fl4 up4 => ?_
      have J4 : Inv X pins σ' H' { s' with heap := h4 } := J.landed nb fl4.1 ((up.trans up3).trans up4) os ag
      obtain ⟨oe4, vs4, he4, hz4, hd4⟩ := fl4.there
      have S4 := inv_in0 (a := a) (inv_tell J4 he4 hz4 hd4 na n0 nL npn)
      refine store_ok (X := X.suite a (X.pn ++ pins)) (v := .ref a) S4 hN hi hloc rfl (fun s5 S5 => ?_) (.inr hln)
      refine wpAny_mono ((hsu a (X.pn ++ pins)).run [] s5 _ _ _ S5 (hyes rfl a na)) (fun f s6 hsp => ?_) (fun _ _ z => False.elim z)
      have finish : ∀ {σ6 : L2.St} {H6 : Hp} {Q : Shared → Prop}, Inv (X.suite a (X.pn ++ pins)) [] σ6 H6 s6 → (∀ s7, Inv X pins (σ6.set i none) H6 s7 → Q s7) →
          wpAny (model X.prog X.w) X.A (do bindName X.env n .none; unbindBehindTheSuite X.env n pos') (fun _ s7 => Q s7) X.xe s6 := fun S6 hq => gone_ok (inv_out0 S6 ok) hN hi hln hq
      cases f with
      | next =>
        obtain ⟨σ6, H6, S6, q6⟩ := hsp
        exact finish S6 fun s7 J7 => ⟨_, _, J7, q6⟩
      | brk =>
        obtain ⟨σ6, H6, S6, q6⟩ := hsp
        exact finish S6 fun s7 J7 => ⟨_, _, J7, q6⟩
      | cont =>
        obtain ⟨σ6, H6, S6, q6⟩ := hsp
        exact finish S6 fun s7 J7 => ⟨_, _, J7, q6⟩
      | ret u =>
        obtain ⟨v6, σ6, H6, S6, r6, q6⟩ := hsp
        exact finish S6 fun s7 J7 => ⟨_, _, _, J7, r6, q6⟩
    | false =>
      show wpAny _ X.A (handleBy (.ref a) X.env []) _ _ _
      refine wpAny_handleBy_nil ?_
      obtain ⟨k1, k2, k3, oe, vs, T, oT, ts', he, hz, hd, h1, hr⟩ := id fl3
      unfold PySem.passOn
      refine wpAny_bind (wpAny_field he hd h1 ?_)
      rw [if_neg (show ¬ ((Value.ref T == Value.none) = true) from by simp)]
      have out : wpAny (model X.prog X.w) X.A (setFlight (.ref a) X.env.frame) (fun _ s4 => wpAny (model X.prog X.w) X.A (throw (.ref a) : Sem Flow) (L2.SP X pins D) X.xe s4) X.xe { s' with heap := h3 } := by
        rw [hf]
        refine HandSPX.setFlight_upZ fl3 fun h4 hh4 up4 => wpAny_throw (tk _ _ ?_)
        exact ⟨a, B, sI, pins, σ', H', cls, d, rfl, J, nb, (up.trans up3).trans up4, .inr (.inr (by rw [hs]; exact hh4)), na, os, ag, hno rfl⟩
      first
        | exact wpAny_bind (wpAny_pure (wpAny_bind out))
        | exact wpAny_bind out
end
/-! ### asking it -/
/-- what the class at D must say -/
structure EkC (K : PySem.W.Frag) (D : Addr) : Prop where
  cl : (PySem.W.clsIn K D).isSome = true
  ga : PySem.W.findIn K (.ref D) "__getattribute__" = some (some (.builtin "BaseException.__getattribute__"))
  gg : PySem.W.findIn K (.ref D) "__getattr__" = some none
  sb : PySem.W.subIn K (.ref D) (.type "BaseException") = some true
  hd : PySem.W.hasDictIn K D = true
  ca : PySem.W.findIn K (.ref D) "__class__" = some (some (.builtin "object.__class__"))
  sn : PySem.W.specialIn K (.builtin "object.__class__") "__get__" = some (some (.builtin "getset_descriptor.__get__"))
  tk : PySem.W.takesIn K (.builtin "object.__class__") = some true
  mo : PySem.W.mroIn K D (.type "object") = some true
theorem EkC.kit {K : PySem.W.Frag} {D x : Addr} {ox : Obj} {od : Option Obj} (C : EkC K D) : PySem.W.KitX K (.ref x) (.ref D) (fun h => PySem.W.InstAt h x ox D od) := PySem.W.kitx_exc C.cl C.ga C.gg C.sb C.ca C.sn C.tk C.mo
section
variable {X : Cx} {pins : List (Addr × Obj)} {σ : L2.St} {H : Hp} {s : Shared}
theorem exk_inst {a D dd : Addr} {fs : List (Str × V)} (I : Inv X pins σ H s) (he : H a = some (exk a (.ref D) (some dd))) (hd : H dd = some (.xd fs)) :
    ∃ oe od mA, PySem.W.InstAt s.heap a oe D (some od) ∧ (∀ f, RelO (fs.lookup f) (mA f)) ∧ s.heap.Ns1 dd mA ∧ s.heap.get? dd = some od := by
  obtain ⟨oe, ha, hz, vs, hv⟩ := exk_at I.hok he
  have hx : ObjOk X.prog X.w H s.heap dd (.xd fs) := I.hok dd _ hd
  obtain ⟨mA, hns, hr⟩ := hx
  obtain ⟨od, es, ep, ho, hrest⟩ := id hns
  exact ⟨oe, od, mA, ⟨ha, hz.1, by unfold PySem.W.notCls; rw [hv] <;> rfl, by rw [hz.2]; exact ho⟩, hr, hns, ho⟩
/-- isinstance(e, C), e an error that was kept -/
def rIsK (K : PySem.W.Frag) (D : Addr) : List V → Hp → VK → Prop := fun xs H Q => ∃ (a dd : Addr) (fs : List (Str × V)) (c : V) (cv : Value) (b : Bool), xs = [.ref a, c] ∧ H a = some (exk a (.ref D) (some dd)) ∧ H dd = some (.xd fs) ∧ (∀ u, RelV c u → u = cv) ∧ PySem.W.kitOne K (.ref D) cv = some b ∧ Q (.bl b) H
theorem call_isK {D : Addr} (C : EkC X.K D) : CallR X (.builtin "isinstance") (rIsK X.K D) := by
  intro pins s σ H xs us Q I r h
  obtain ⟨a, dd, fs, c, cv, b, rfl, he, hd, hcv, e, q⟩ := h
  cases r with
  | cons rx rr =>
    cases rr with
    | cons rt rr =>
      cases rr
      cases rx
      have ec := hcv _ rt
      subst ec
      obtain ⟨oe, od, mA, J, _⟩ := exk_inst I he hd
      exact PySem.W.kia_one C.kit I.kIn J e (fun z => nomatch z) fun tk => ⟨.bl b, H, I.kept (t' := tk) fun _ _ z => z, rfl, q⟩
/-- e.f of an error that was kept -/
def tFldK (D : Addr) (f : Str) (te : TE) : TE := fun σ H Q => te σ H fun x H1 => ∃ (a dd : Addr) (fs : List (Str × V)) (v : V), x = .ref a ∧ H1 a = some (exk a (.ref D) (some dd)) ∧ H1 dd = some (.xd fs) ∧ fs.lookup f = some v ∧ Q v H1
theorem pe_fldK {D : Addr} {e : Expr} {te : TE} {pos : Pos} {n : Str} (T : EkC X.K D) (hno : PySem.W.findIn X.K (.ref D) n = some none) (he : PE X e te) (hb : attributeBase e n X.env (eval e X.env) = eval e X.env := by rfl) : PE X (.Attribute e n pos) (tFldK D n te) := by
  refine ⟨fun pins s σ H Q I h => ?_⟩
  refine attr_of hb (thn (he.run pins s σ H _ I h) fun u s1 hh => ?_)
  obtain ⟨x, H1, I1, rx, a, dd, fs, v, ex, ha, hd, l, q⟩ := hh
  subst ex
  obtain rfl : u = Value.ref a := rx
  obtain ⟨oe, od, mA, J, hr, hns, ho⟩ := exk_inst I1 ha hd
  obtain ⟨od2, ho2, hl⟩ := lookIn_ns hns
  rw [ho] at ho2
  cases ho2
  obtain ⟨u, hu, ru⟩ := RelO.some_of (v := v) (o := mA n) (by rw [← l]; exact hr n)
  exact HandSPX.exc_get I1.kIn J T.ga T.gg T.sb (PySem.W.findObj_own T.hd hno rfl (by rw [hl, hu])) (handed_of ru) ⟨v, H1, I1.tok _, ru, q⟩
end
end Mp

set_option maxHeartbeats 4000000
/-! Kz3: _law_heard called with a lambda -/
namespace Mp
open PySem PySem.Spec PyProof.Rows L2
open StX (tMakeR run_makeR pe_makeR)
open He (ga ma fAd)
open LamX (ExtN Tabs TabS TabB tLam LamS GivesTo CodeO lamEnv lamCx)
/-- what the head says of errors that are asked -/
structure Zx (K : PySem.W.Frag) : Prop where
  ek : EkC K (ga K "BadText")
  em : PySem.W.exmOne K (.ref (ga K "BadText")) (.ref (ga K "PadError")) = some true
  kb : PySem.W.kitOne K (.ref (ga K "BadText")) (.ref (ga K "BadText")) = some true
  ks : PySem.W.kitOne K (.ref (ga K "Kind")) (.type "str") = some false
/-! ### a def whose code object is told -/
section
variable {P : Program} {w : World} {K : PySem.W.Frag} {mg : Str → Option Value} {base : Heap} {n x qual : Str} {params : Arguments} {body : List Stmt} {scope : Scope} {p : He.Defn} {fd : FuncData} {N ps : List Str} {k : Nat} {sp : Sp}
theorem fnr_ofC (F : FunD K n qual params body scope [] [] (fAd K p) fd) (S : FnScope N ps scope) (hb : BindN qual n params body scope ps) (len : ∀ vs H Q E, sp vs H Q E → vs.length = ps.length)
    (hbody : ∀ (A : Around) (outer : List Env) (s : Shared) (H : Hp) (vs : List V) (Q : VK) (E : XK), Room k (A.deeper (envOfC qual scope s.heap.objs.size (fAd K p) (.ref (He.codeOf K p)))) → sp vs H Q E →
      ∃ t, PSs (cxOf (L2.CX P w) P w K mg base N qual scope (fAd K p) (.ref (He.codeOf K p)) A outer s H E) body t ∧ t { nx := fun _ H' => Q .non H', rt := Q } (L2.start N vs) H) : FnR P w K mg base (L2.CX P w) (k + 1) (fAd K p) sp := by
  have b : Binds K fd ps [] := F.bindsN hb
  obtain ⟨oc, od, dV, kV, doc, pm, an, cdv, ct, osl, rfl, lk, hcd, _, _⟩ := F.ex
  obtain ⟨c, rfl⟩ := He.codeIn_ref hcd
  have hc : He.codeOf K p = c := He.codeOf_eq lk rfl
  subst hc
  have G : FnOk P w K mg base (L2.CX P w) (k + 1) (fAd K p) _ ps sp := fn_of lk hcd S len hbody
  refine (G.raw b .nil).imp fun vs H Q E h => ?_
  show sp (vs ++ []) H Q E
  rw [List.append_nil]
  exact h
theorem cal_ofC (F : FunD K n qual params body scope [] [] (fAd K p) fd) (hm : mg x = some (.ref (fAd K p))) (S : FnScope N ps scope) (hb : BindN qual n params body scope ps) (len : ∀ vs H Q E, sp vs H Q E → vs.length = ps.length)
    (hbody : ∀ (A : Around) (outer : List Env) (s : Shared) (H : Hp) (vs : List V) (Q : VK) (E : XK), Room k (A.deeper (envOfC qual scope s.heap.objs.size (fAd K p) (.ref (He.codeOf K p)))) → sp vs H Q E →
      ∃ t, PSs (cxOf (L2.CX P w) P w K mg base N qual scope (fAd K p) (.ref (He.codeOf K p)) A outer s H E) body t ∧ t { nx := fun _ H' => Q .non H', rt := Q } (L2.start N vs) H) : Cal P w K mg base x (k + 1) sp :=
  ⟨_, fnr_ofC F S hb len hbody, hm, F.kp⟩
end
/-! ### _law_heard -/
/-- what _law_heard makes of what the deed does -/
def THeard (K : PySem.W.Frag) : (XK → Hp → VK → Prop) → Hp → VK → Prop := fun tl H Q =>
  tl (fun cls d H' => ∃ dd n, cls = .ref (ga K "BadText") ∧ d = some dd ∧ H' dd = some (.xd [("at", .int n)]) ∧ ∀ H2, Ex H' H2 → Q (.int n) H2) H (fun _ H' => Q .non H')
section
variable {X : Cx}
theorem sc_heard : FnScope ["deed", "caught", "error"] ["deed"] (defScope s__law_heard) := ⟨rfl, rfl, rfl, by decide +kernel, rfl, by decide +kernel, by decide +kernel⟩
theorem set_slots {σ : L2.St} {x : V} (h : σ.length = 3) : ∃ a, ((σ.set 2 (some x)).set 1 (some x)).set 2 none = [a, some x, none] := by
  match σ, h with
  | [a, b, c], _ => exact ⟨a, rfl⟩
theorem deed_body {Y : Cx} {W : WX} {a : Str} {p1 p2 p3 : Pos} {f c' : Addr} {q : Str} {tl : XK → Hp → VK → Prop}
    (act : ∀ (E : XK) (p1 p2 : Pos), (∀ cls d σ' H', E cls d H' → W cls d σ' H') → PE Y (.Call (.Name a p1) [] [] p2) (fun σZ HZ Q => σZ[0]? = some (some (.ref f)) ∧ HZ c' = some (CodeO c' q) ∧ tl E HZ Q)) :
    PSs Y [.Expr (.Call (.Name a p1) [] [] p2) p3] (fun D σ H => ∃ Ech : XK, (∀ cls d σ' H', Ech cls d H' → W cls d σ' H') ∧ σ[0]? = some (some (.ref f)) ∧ H c' = some (CodeO c' q) ∧ tl Ech H (fun _ H' => D.nx σ H')) := by
  refine ⟨fun pins s' σ H' D I h' => ?_⟩
  obtain ⟨Ech, hW, h1, h2, h3⟩ := h'
  exact (pss_one (ps_expr (act Ech p1 p2 hW))).run pins s' σ H' D I ⟨h1, h2, h3⟩
theorem heard_gives {K : PySem.W.Frag} (hK : X.K = K) (z : Zk X.K X.mg X.base) (zx : Zx X.K) {q : Str} {cdg : Value} : GivesTo X ["deed", "caught", "error"] "_law_heard" (defScope s__law_heard) (fAd X.K ("_law_heard", none)) cdg (defBody s__law_heard) "deed" q (THeard X.K) := by
  intro f c' s H Q tl act hc h
  subst hK
  have nd := sc_heard.nd
  refine ⟨_, pss_cons (ps_set (i := 1) nd rfl (Or.inl rfl) pe_non) (pss_cons
    (ps_try_keep (X := (cxOf C8.CX0 X.prog X.w X.K X.mg X.base ["deed", "caught", "error"] "_law_heard" (defScope s__law_heard) (fAd X.K ("_law_heard", none)) cdg X.A X.stack s H C8.E0).nox) (i := 2) (c := .ref (ga X.K "PadError"))
      (tb := fun W D σ H => ∃ Ech : XK, (∀ cls d σ' H', Ech cls d H' → W cls d σ' H') ∧ σ[0]? = some (some (.ref f)) ∧ H c' = some (CodeO c' q) ∧ tl Ech H (fun _ H' => D.nx σ H'))
      rfl rfl rfl nd rfl rfl ⟨rfl, by decide, .inl z.g_PadError⟩ LamX.takes0 (fun W pn xe tk _ => ?_) (fun a pn => pss_one (ps_set (i := 1) nd rfl (Or.inl rfl) (pv 2))))
    (pss_cons (ps_if (pt_cmpR op_isN (pv 1) pe_non (nomark _)) (pss_one (ps_ret pe_non)) pss_nil)
      (pss_one (ps_ret (pe_ifExp (pt_val (pe_callB (call_isK zx.ek) rfl z.b_isinstance boot_isinstance (pa_cons (pv 1) (pa_cons (pe_gref z.g_BadText) pa_nil)))) (pe_fldK zx.ek z.xn_BadText (pv 1)) pe_str))))), ?_⟩
  · exact deed_body (tl := tl) fun E p1 p2 hW => act W pn xe E p1 p2 tk hW
  · simp [tRet, tRetN, tSeq, tIfS, tDrop, tNext, tNever, tBreak, tCont, tAsg, gName, gCons, gNil, gTup, tAndV, tOrV, tNotV, tAnd, tOr, tNot, tOp, tUn, tVar, tC, tB, tTest, tIf, tCons, tNil, tCB, tTup, tLst, tFld, sFld, sFldAug, rAdd, rSub, tSl, tPart, tNoPart, rI0, rI, rU, rEq, rNe, rSlS, rSlL, rIxL, rIxT, rIxS, tChain, tFn, tMt, tM1, tM0, tBM, rAppend, rIn, tIsN, tNotN, scal_ss, scal_ii, let_nil, let_one, fig_nil, fig_one, LenV_str, L2.start, cxOf, and_assoc, tJs, tFmt, put_at, lk_at, lk_script, lk_upcoming, lk_refuse, lk_skips, lk_expect, lk_word_of, lk_name_unlike, lk_number_to, lk_finish, sp0, sp1, sp2, sp3, sp4, sp5, -List.lookup_eq_none_iff]
    refine ⟨_, fun cls d σ' H' hE hL => ?_, hc, h⟩
    obtain ⟨dd, n, rfl, rfl, hd, hq⟩ := hE
    refine ⟨true, zx.em, fun _ a ha => ?_, fun q => nomatch q⟩
    have hne : dd ≠ a := fun e => by
      rw [e, ha] at hd
      cases hd
    match σ', hL with
    | [x0, x1, x2], _ =>
    simp [tRet, tRetN, tSeq, tIfS, tDrop, tNext, tNever, tBreak, tCont, tAsg, gName, gCons, gNil, gTup, tAndV, tOrV, tNotV, tAnd, tOr, tNot, tOp, tUn, tVar, tC, tB, tTest, tIf, tCons, tNil, tCB, tTup, tLst, tFld, sFld, sFldAug, rAdd, rSub, tSl, tPart, tNoPart, rI0, rI, rU, rEq, rNe, rSlS, rSlL, rIxL, rIxT, rIxS, tChain, tFn, tMt, tM1, tM0, tBM, rAppend, rIn, tIsN, tNotN, scal_ss, scal_ii, let_nil, let_one, fig_nil, fig_one, LenV_str, L2.start, cxOf, and_assoc, tJs, tFmt, put_at, lk_at, lk_script, lk_upcoming, lk_refuse, lk_skips, lk_expect, lk_word_of, lk_name_unlike, lk_number_to, lk_finish, sp0, sp1, sp2, sp3, sp4, sp5, -List.lookup_eq_none_iff, dropS, rIsK, tFldK, tIf, tB, tCB]
    have hd2 : upd H' a (exk a (.ref (ga X.K "BadText")) (some dd)) dd = some (.xd [("at", .int n)]) := by rw [upd_ne hne]; exact hd
    refine ⟨dd, upd_same, ⟨_, hd2⟩, _, fun u e => e, Or.inr ⟨zx.kb, dd, upd_same, _, hd2, _, rfl, hq _ (Ex.new ha)⟩⟩
/-- _law_heard(lambda: ..) -/
theorem pe_heard {K : PySem.W.Frag} {T : List (Addr × Str)} {c P : Addr} {k k0 : Nat} {params : Arguments} {body : Expr} {scope : Scope} {t : XK → TE} {p lpos pos : Pos} (hK : X.K = K) (z : Zk X.K X.mg X.base) (zx : Zx X.K)
    (TB : TabB X.base X.mg c P) (hcode : X.env.code = .ref c) (hmT : (P, X.env.qual ++ "<lambda>") ∈ T) (hu : ∀ p ∈ T, p.1 = P → p.2 = X.env.qual ++ "<lambda>") (hr : Room k0 X.A) (hk : k + 2 ≤ k0) (L : LamS X.env.scope scope)
    (hbody : ∀ (A : Around) (outer : List Env) (s : Shared) (H : Hp) (E : XK) (f c' : Addr), Room k (A.deeper (lamEnv X scope s.heap.objs.size f c')) → PE (lamCx X A outer s H E scope f c') body (t E))
    (hg : Gl X "_law_heard" := by rfl) (hdef : defaultsOf params X.env = ([], []) := by rfl)
    (hbind : ∀ (q : Str) (cl : List (Str × Addr)) (pm cv ctv : Value), bindArgs (PySem.W.kla_fn "<lambda>" q params body scope cl pm cv ctv) ⟨[], []⟩ = pure [] := by intro _ _ _ _ _; rfl) :
    PE X (.Call (.Name "_law_heard" p) [.Lambda params body scope lpos] [] pos) (tLam T (THeard K) t) := by
  subst hK
  obtain ⟨fd, F⟩ := z.d__law_heard
  have b : Binds X.K fd ["deed"] [] := F.bindsN fun _ _ _ _ _ _ us hl => match us, hl with | [_], _ => rfl
  obtain ⟨oc, od, dV, kV, doc, pm, an, cdv, ct, osl, rfl, lk, hcd, _, _⟩ := F.ex
  exact LamX.pe_lamcall (a := "deed") (Ng := ["deed", "caught", "error"]) hg z.g__law_heard F.kp lk hcd b sc_heard rfl (Or.inl rfl) (heard_gives rfl z zx) TB hcode hmT hu (hr.mono hk) L hdef hbind hbody
end
end Mp

set_option maxHeartbeats 4000000
/-! Kq7: shapes that may be compared; the law's table of wrong texts -/
namespace Mp
open PySem PySem.Spec PyProof.Rows L2
/-! ### shapes -/
theorem strOk_S {n : List Nat} (h : ∀ x ∈ n, x < 0x110000) : PyData.strOk (S n) = true := by
  unfold PyData.strOk
  rw [Array.all_eq_true']
  intro x hx
  have : x ∈ n := by simpa [S] using hx
  simpa using h x this
theorem strOk_name {n : List Nat} (h : nameOk n = true) : PyData.strOk (S n) = true := strOk_S fun x hx => by
  have h1 := List.all_eq_true.mp (nameOk_let h) x hx
  simp [isLet] at h1
  omega
theorem strOk_kind : PyData.strOk "kind" = true ∧ PyData.strOk "byte" = true ∧ PyData.strOk "use" = true ∧ PyData.strOk "row" = true ∧ PyData.strOk "record" = true ∧ PyData.strOk "overlay" = true := by decide +kernel
mutual
theorem PtOk.lay {ks : List Knd} : ∀ p : Pt, PtOk ks p → p.data.canLay0 = true ∧ p.data.depth ≤ 1 + 3 * p.depth
  | .kind n t, h => by simp [Pt.data, PyData.canLay0, PyData.canLayAll0, PyData.depth, PyData.depthAll, strOk_name h.1, strOk_kind]
  | .byte, h => by simp [Pt.data, PyData.canLay0, PyData.canLayAll0, PyData.depth, PyData.depthAll, strOk_kind]
  | .use n, h => by
    have h : nameOk n = true := h
    simp [Pt.data, PyData.canLay0, PyData.canLayAll0, PyData.depth, PyData.depthAll, strOk_name h, strOk_kind]
  | .row n p, h => by
    obtain ⟨h1, h2⟩ := PtOk.lay p h.2.2
    have e : (Pt.row n p).depth = p.depth + 1 := rfl
    rw [e]
    simp [Pt.data, PyData.canLay0, PyData.canLayAll0, PyData.depth, PyData.depthAll, h1, strOk_kind]
    omega
  | .rec_ fs, h => by
    obtain ⟨h1, h2⟩ := FsOkk.lay fs h.2.2.2
    have hl := h.1
    have e : (Pt.rec_ fs).depth = fs.depth := rfl
    rw [e]
    simp [Pt.data, PyData.canLay0, PyData.canLayAll0, PyData.depth, PyData.depthAll, h1, strOk_kind]
    have : 1 ≤ fs.depth := by
      cases fs with
      | nil => exact absurd hl (by decide)
      | cons n p r => show 1 ≤ max (p.depth + 1) r.depth; omega
    omega
  | .ovl fs, h => by
    obtain ⟨h1, h2⟩ := FsOkk.lay fs h.2.2.2
    have hl := h.1
    have e : (Pt.ovl fs).depth = fs.depth := rfl
    rw [e]
    simp [Pt.data, PyData.canLay0, PyData.canLayAll0, PyData.depth, PyData.depthAll, h1, strOk_kind]
    have : 1 ≤ fs.depth := by
      cases fs with
      | nil => exact absurd hl (by decide)
      | cons n p r => show 1 ≤ max (p.depth + 1) r.depth; omega
    omega
theorem FsOkk.lay {ks : List Knd} : ∀ fs : Fs, FsOkk ks fs → PyData.canLayAll0 fs.datas = true ∧ PyData.depthAll fs.datas ≤ 3 * fs.depth - 1
  | .nil, _ => ⟨rfl, Nat.zero_le _⟩
  | .cons n p r, h => by
    obtain ⟨h1, h2⟩ := PtOk.lay p h.2.1
    obtain ⟨h3, h4⟩ := FsOkk.lay r h.2.2
    have e : (Fs.cons n p r).depth = max (p.depth + 1) r.depth := rfl
    rw [e]
    simp [Fs.datas, PyData.canLay0, PyData.canLayAll0, PyData.depth, PyData.depthAll, h1, h3, strOk_name h.1]
    omega
end
theorem PtOk.shaped {ks : List Knd} {p : Pt} (h : PtOk ks p) (hd : p.depth ≤ 4) : SeqAt.shaped p.data = true := by
  obtain ⟨h1, h2⟩ := PtOk.lay p h
  unfold SeqAt.shaped
  rw [h1, Bool.true_and, decide_eq_true_eq]
  omega
/-! ### the reader where no kind's name matters -/
def RB {α β : Type} : Option (Res α) → (α → List Nat → Option (Res β)) → Option (Res β)
  | some (.ok v r), f => f v r
  | some (.bad r), _ => some (.bad r)
  | none, _ => none
def Agr {α : Type} (o : Option (Res α)) (x : Res α) : Prop := ∀ y, o = some y → x = y
theorem Agr.some {α : Type} {x : Res α} : Agr (some x) x := fun y e => by cases e; rfl
theorem Agr.bind {α β : Type} {o : Option (Res α)} {x : Res α} {f : α → List Nat → Option (Res β)} {g : α → List Nat → Res β} (h : Agr o x) (hf : ∀ v r, Agr (f v r) (g v r)) : Agr (RB o f) (x.bind g) := by
  intro y e
  cases o with
  | none => cases e
  | some q =>
    have hx := h q rfl
    subst hx
    cases x with
    | ok v r => exact hf v r y e
    | bad r => cases e; rfl
def wordP : List Nat → Option (Res (List Nat))
  | [] => some (.bad [])
  | [a, b, c, d] => if [a, b, c, d] = T "byte" then some (.ok (T "byte") []) else if isLet a = true then none else some (.bad [a, b, c, d])
  | a :: b :: c :: d :: e :: r => if [a, b, c, d] = T "byte" ∧ isLet e = false ∧ isFig e = false then some (.ok (T "byte") (e :: r)) else if isLet a = true then none else some (.bad (a :: b :: c :: d :: e :: r))
  | x :: r => if isLet x = true then none else some (.bad (x :: r))
def leafP (r : List Nat) : Option (Res Pt) := match r with
  | 64 :: r => some ((nameGo [] [] r).bind fun n r => .ok (.use n) r)
  | r => RB (wordP r) fun _ r => some (.ok .byte r)
def entryP (rd : List Nat → Option (Res Pt)) (found : Fs) (r : List Nat) : Option (Res Fs) := RB (some (nameGo found.names [] r)) fun n r => RB (some (expect 58 r)) fun _ r => RB (rd r) fun p r => some (.ok (found.snoc n p) r)
def namedP (rd : List Nat → Option (Res Pt)) (sep cl : Nat) : Nat → Fs → List Nat → Option (Res Fs)
  | 0, found, r => RB (entryP rd found r) fun fs r => some (close cl fs r)
  | fuel + 1, found, r => RB (entryP rd found r) fun fs r => match r with
    | x :: r' => if x = sep then namedP rd sep cl fuel fs r' else some (close cl fs (x :: r'))
    | [] => some (close cl fs [])
def innerP : Nat → List Nat → Option (Res Pt)
  | 0, r => leafP r
  | m + 1, r => match r with
    | x :: r' => if isFig x = true then RB (some (numGo 1 64 0 false r)) fun n r => RB (some (expect 42 r)) fun _ r => RB (innerP m r) fun p r => some (.ok (.row n p) r)
      else if x = 123 then RB (namedP (innerP m) 32 125 7 .nil r') fun fs r => some (.ok (.rec_ fs) r)
      else if x = 40 then RB (namedP (innerP m) 124 41 3 .nil r') fun fs r => some (.ok (.ovl fs) r)
      else leafP r
    | [] => leafP r
def partP (l : List Nat) : Option (Res Pt) := RB (innerP 4 l) fun p r => some (match r with
  | [] => .ok p []
  | _ => .bad r)
section
variable {ks : List Knd}
theorem word_none (hk : KsP ks) {x : Nat} {r : List Nat} (h : isLet x = false) : wordGo (T "byte" :: ks.map (·.1)) [] (x :: r) = .bad (x :: r) := by
  rw [wordGo, begins_let (words_let hk.ok) h, if_neg Bool.false_ne_true, if_neg]
  intro hm
  rcases List.mem_cons.mp hm with e | e
  · cases e
  · obtain ⟨q, hq, e⟩ := List.mem_map.mp e
    have := (nameOk_le (hk.ok q hq)).1
    rw [e] at this
    cases this
theorem word_nil (hk : KsP ks) : wordGo (T "byte" :: ks.map (·.1)) [] [] = .bad [] := by
  rw [wordGo, if_neg]
  intro hm
  rcases List.mem_cons.mp hm with e | e
  · cases e
  · obtain ⟨q, hq, e⟩ := List.mem_map.mp e
    have := (nameOk_le (hk.ok q hq)).1
    rw [e] at this
    cases this
theorem word_agr (hk : KsP ks) (r : List Nat) : Agr (wordP r) (wordGo (T "byte" :: ks.map (·.1)) [] r) := by
  intro y e
  unfold wordP at e
  have other : ∀ x r, (if isLet x = true then none else some (Res.bad (x :: r))) = some y → wordGo (T "byte" :: ks.map (·.1)) [] (x :: r) = y := fun x r e => by
    split at e
    · cases e
    · rename_i h
      cases e
      exact word_none hk (by simpa using h)
  split at e
  · cases e
    exact word_nil hk
  · split at e
    · rename_i h
      cases e
      rw [h]
      have := wordGo_all (rest := []) (words_let hk.ok) (List.mem_cons_self : T "byte" ∈ T "byte" :: ks.map (·.1)) (fun _ _ e => nomatch e)
      rw [List.append_nil] at this
      exact this
    · exact other _ _ e
  · rename_i a b c d x r
    split at e
    · rename_i h
      obtain ⟨h1, h2, h3⟩ := h
      cases e
      have := wordGo_all (rest := x :: r) (words_let hk.ok) (List.mem_cons_self : T "byte" ∈ T "byte" :: ks.map (·.1)) (fun _ _ e => by cases e; exact ⟨h2, h3⟩)
      rw [← h1] at this ⊢
      exact this
    · exact other _ _ e
  · exact other _ _ e
theorem leaf_agr (hk : KsP ks) (r : List Nat) : Agr (leafP r) (leaf ks r) := by
  unfold leafP
  split
  · exact Agr.some
  · rename_i h
    rw [leaf_word (fun q e => h q e)]
    intro y e
    have hw := word_agr hk r
    cases hP : wordP r with
    | none => rw [hP] at e; cases e
    | some q =>
      rw [hP] at e
      have hq := hw q hP
      rw [hq]
      cases q with
      | bad r' => cases e; rfl
      | ok v r' =>
        have hv : v = T "byte" := by
          unfold wordP at hP
          split at hP
          · cases hP
          · split at hP
            · cases hP; rfl
            · split at hP <;> cases hP
          · split at hP
            · cases hP; rfl
            · split at hP <;> cases hP
          · split at hP <;> cases hP
        cases e
        subst hv
        rfl
theorem entry_agr {rd : List Nat → Option (Res Pt)} {rd' : List Nat → Res Pt} (h : ∀ r, Agr (rd r) (rd' r)) (found : Fs) (r : List Nat) : Agr (entryP rd found r) (entry rd' found r) :=
  Agr.bind Agr.some fun _ _ => Agr.bind Agr.some fun _ r => Agr.bind (h r) fun _ _ => Agr.some
theorem named_agr {rd : List Nat → Option (Res Pt)} {rd' : List Nat → Res Pt} (h : ∀ r, Agr (rd r) (rd' r)) (sep cl : Nat) : ∀ (fuel : Nat) (found : Fs) (r : List Nat), Agr (namedP rd sep cl fuel found r) (named rd' sep cl fuel found r)
  | 0, found, r => Agr.bind (entry_agr h found r) fun _ _ => Agr.some
  | fuel + 1, found, r => Agr.bind (entry_agr h found r) fun fs r => by
    cases r with
    | nil => exact Agr.some
    | cons x r' =>
      show Agr (if x = sep then _ else _) (if x = sep then _ else _)
      split
      · exact named_agr h sep cl fuel fs r'
      · exact Agr.some
theorem inner_agr (hk : KsP ks) : ∀ (m : Nat) (r : List Nat), Agr (innerP m r) (readInner ks m r)
  | 0, r => leaf_agr hk r
  | m + 1, [] => leaf_agr hk []
  | m + 1, x :: r => by
    have ih := inner_agr hk m
    show Agr (if isFig x = true then _ else if x = 123 then _ else if x = 40 then _ else _) (if isFig x = true then _ else if x = 123 then _ else if x = 40 then _ else _)
    split
    · exact Agr.bind Agr.some fun _ _ => Agr.bind Agr.some fun _ r => Agr.bind (ih r) fun _ _ => Agr.some
    · split
      · exact Agr.bind (named_agr ih _ _ _ _ _) fun _ _ => Agr.some
      · split
        · exact Agr.bind (named_agr ih _ _ _ _ _) fun _ _ => Agr.some
        · exact leaf_agr hk _
theorem part_agr (hk : KsP ks) (l : List Nat) : Agr (partP l) (readPart ks l) := Agr.bind (inner_agr hk 4 l) fun p r => by
  cases r <;> exact Agr.some
/-- a wrong text: where it is refused -/
def RowBad (ks : List Knd) (w : List Nat) (n : Nat) : Prop := w.length ≤ 1000 ∧ ∃ r, readPart ks w = .bad r ∧ w.length - r.length = n
def rowP (w : List Nat) (n : Nat) : Bool := decide (w.length ≤ 1000) && match partP w with
  | some (.bad r) => decide (w.length - r.length = n)
  | _ => false
theorem row_fix (hk : KsP ks) {w : List Nat} {n : Nat} (h : rowP w n = true) : RowBad ks w n := by
  unfold rowP at h
  rw [Bool.and_eq_true] at h
  obtain ⟨h1, h2⟩ := h
  refine ⟨of_decide_eq_true h1, ?_⟩
  split at h2
  · rename_i r e
    exact ⟨r, part_agr hk w _ e, of_decide_eq_true h2⟩
  · cases h2
/-! ### rows that are made of a title -/
structure TitleOk (ks : List Knd) (t : List Nat) : Prop where
  hk : KsP ks
  ok : nameOk t = true
  le : t.length ≤ 8
  mem : t ∈ ks.map (·.1)
  z : begins (T "byte" :: ks.map (·.1)) (t ++ [122]) = false
  cut : t.dropLast ∉ ks.map (·.1)
theorem word_run {words : List (List Nat)} {w : List Nat} (hw : w ∈ words) {rest : List Nat} (hs : ∀ (f : List Nat) (x : Nat) (q : List Nat), f <+: w → rest = x :: q → begins words (f ++ [x]) = false ∨ f ≠ w) : ∀ (g f : List Nat), (f ++ g) = w → wordGo words f (g ++ rest) = .ok w rest
  | [], f, hp => by
    rw [List.append_nil] at hp
    subst hp
    rw [List.nil_append]
    cases rest with
    | nil => rw [wordGo, if_pos hw]
    | cons x r =>
      have : begins words (f ++ [x]) = false := (hs f x r (List.prefix_refl f) rfl).elim id fun h => absurd rfl h
      rw [wordGo, this, if_neg Bool.false_ne_true, if_pos hw]
  | x :: g, f, hp => by
    have hp2 : (f ++ [x]) ++ g = w := by simpa using hp
    have hp3 : f ++ [x] <+: w := ⟨g, hp2⟩
    rw [List.cons_append, wordGo, begins_pre hw hp3, if_pos rfl]
    exact word_run hw hs g (f ++ [x]) hp2
theorem row_z {t : List Nat} (h : TitleOk ks t) : RowBad ks (t ++ [122]) t.length := by
  obtain ⟨x, r, e, hx⟩ := name_head h.ok
  obtain ⟨f1, f2, f3, f4⟩ := isLet_facts hx
  have hb : t ≠ T "byte" := fun e2 => nameOk_barred h.ok (by rw [e2]; simp [barred])
  have hw := word_run (words := T "byte" :: ks.map (·.1)) (w := t) (rest := [122]) (List.mem_cons_of_mem _ h.mem) (fun f y q hf e2 => by
    cases e2
    by_cases hft : f = t
    · rw [hft]
      exact Or.inl h.z
    · exact Or.inr hft) t [] (List.nil_append t)
  have hl : leaf ks (t ++ [122]) = .ok (.kind t ((ks.lookup t).getD 0)) [122] := by
    rw [leaf_word (fun q e3 => f4 (by rw [e] at e3; injection e3)), hw]
    simp only [Res.bind, if_neg hb]
  have hi : readInner ks 4 (t ++ [122]) = .ok (.kind t ((ks.lookup t).getD 0)) [122] := by
    rw [← hl, e, List.cons_append, inner_leaf f1 f2 f3]
  refine ⟨by rw [List.length_append]; have := h.le; simp; omega, [122], ?_, by simp⟩
  unfold readPart
  rw [hi]
  rfl
theorem row_use {t : List Nat} (h : TitleOk ks t) : RowBad ks ([64] ++ t ++ [33]) (t.length + 1) := by
  have := read_more h.hk (p := .use t) h.ok (Nat.zero_le _) (x := 33) rfl rfl
  refine ⟨by have := h.le; simp; omega, [33], this, by simp⟩
theorem row_cut {t : List Nat} (h : TitleOk ks t) (hb : t.dropLast ≠ T "byte") : RowBad ks t.dropLast (t.length - 1) := by
  refine ⟨by have := h.le; simp; omega, [], ?_, by simp⟩
  have hw : ∀ d, t.dropLast = d → wordGo (T "byte" :: ks.map (·.1)) [] d = .bad [] := fun d e => by
    have := wordGo_run (words_let h.hk.ok) (List.mem_cons_of_mem (T "byte") h.mem) d [] [] (by rw [List.nil_append, ← e]; exact List.dropLast_prefix t) (fun _ _ e => nomatch e)
    rw [List.append_nil, List.nil_append, if_neg] at this
    · exact this
    · intro hm
      rcases List.mem_cons.mp hm with e2 | e2
      · exact hb (e.trans e2)
      · exact h.cut (by rw [e]; exact e2)
  have hl : leaf ks t.dropLast = .bad [] ∧ readInner ks 4 t.dropLast = leaf ks t.dropLast := by
    cases hd : t.dropLast with
    | nil =>
      refine ⟨?_, inner_nil 4⟩
      rw [leaf_word (fun q e => by cases e), hw [] hd]
      rfl
    | cons x r =>
      have hx : isLet x = true := by
        have : x ∈ t := List.dropLast_subset t (by rw [hd]; simp)
        exact List.all_eq_true.mp (nameOk_let h.ok) x this
      obtain ⟨f1, f2, f3, f4⟩ := isLet_facts hx
      refine ⟨?_, inner_leaf f1 f2 f3 4⟩
      rw [leaf_word (fun q e => f4 (by injection e)), hw _ hd]
      rfl
  unfold readPart
  rw [hl.2, hl.1]
  rfl
end
theorem title_ok {ns : List (List Nat)} {ks : List Knd} {t : List Nat} {r : List (List Nat)} {m : Nat} (hn : NamesOk m ns) (e : ns = t :: r) (hk : KNames ns (ks.map (·.1))) : TitleOk ks t := by
  obtain ⟨L, hL, hs⟩ := hn.sz
  obtain ⟨h1, h2⟩ := hk.t t r e
  have ht : t ∈ ns := by rw [e]; simp
  have hlen := hs t ht
  refine ⟨⟨hk.nd, fun q hq => hk.ok _ (List.mem_map_of_mem (f := (·.1)) hq)⟩, hn.ok t ht, by have := hn.le7 t ht; omega, h1, ?_, ?_⟩
  · cases hb : begins (T "byte" :: ks.map (·.1)) (t ++ [122]) with
    | false => rfl
    | true =>
      exfalso
      unfold begins at hb
      obtain ⟨w, hw, h3⟩ := List.any_eq_true.mp hb
      have h3 : w.take (t ++ [122]).length = t ++ [122] := eq_of_beq h3
      have hz : 122 ∈ w := List.mem_of_mem_take (i := (t ++ [122]).length) (by rw [h3]; simp)
      have hwl : (t ++ [122]).length ≤ w.length := by
        have := congrArg List.length h3
        rw [List.length_take] at this
        omega
      rcases List.mem_cons.mp hw with rfl | hw
      · exact absurd hz (by decide)
      · rcases h2 w hw with h4 | h4 | h4
        · have hq : w ≠ t ++ [122] → False := fun hne => by
            have h5 := hs w h4
            rw [List.length_append, List.length_singleton] at hwl
            have h6 : w.length = t.length + 1 := by
              rcases hlen with h6 | ⟨h6, _⟩ <;> rcases h5 with h5 | ⟨h5, _⟩ <;> omega
            rw [List.take_of_length_le (by simp; omega)] at h3
            exact hne h3
          by_cases hne : w = t ++ [122]
          · exact NamesOk.plus (m := m) (t := t) (r := r) (e ▸ hn) (x := 122) (by decide) (by rw [← e, ← hne]; exact h4)
          · exact hq hne
        · rw [h4, List.take_of_length_le (by simp)] at h3
          exact last_ne (by decide) h3
        · rw [h4] at hz
          exact absurd hz (by decide)
  · intro hm
    have hdl : t.dropLast.length = t.length - 1 := List.length_dropLast ..
    have htl := (nameOk_le (hn.ok t ht)).1
    rcases h2 _ hm with h4 | h4 | h4
    · have h5 := hs _ h4
      rcases hlen with h6 | ⟨h6, w, hw, ew, _⟩
      · rcases h5 with h5 | ⟨h5, _⟩ <;> omega
      · have : t.dropLast = w := by rw [ew]; simp
        rw [this] at h4
        exact nameOk_barred (hn.ok w h4) hw
    · have := congrArg List.length h4
      rw [List.length_append, List.length_singleton] at this
      omega
    · have h7 := congrArg List.length h4
      have h8 : (T "bytes").length = 5 := by decide
      rw [hdl, h8] at h7
      rcases hlen with h6 | ⟨h6, w, hw, ew, hwl⟩
      · omega
      · have : t.length = 6 := by omega
        have hw5 : w.length = 5 := by omega
        omega
end Mp

set_option maxHeartbeats 4000000
/-! Kz4: the law's table of wrong texts -/
namespace Mp
open PySem PySem.Spec PyProof.Rows L2
open StX (tMakeR run_makeR pe_makeR)
open He (ga ma fAd)
def RowsL (H : Hp) : List (Str × Int) → List V → Prop
  | [], xs => xs = []
  | r :: rs, xs => ∃ q ys, xs = .ref q :: ys ∧ H q = some (.tup [.str r.1, .int r.2]) ∧ RowsL H rs ys
theorem RowsL.ex {H H' : Hp} (e : Ex H H') : ∀ {rs : List (Str × Int)} {xs : List V}, RowsL H rs xs → RowsL H' rs xs
  | [], xs, h => h
  | r :: rs, xs, h => by
    obtain ⟨q, ys, e1, h1, h2⟩ := h
    exact ⟨q, ys, e1, e _ _ h1, RowsL.ex e h2⟩
theorem RowsL.len {H : Hp} : ∀ {rs : List (Str × Int)} {xs : List V}, RowsL H rs xs → xs.length = rs.length
  | [], xs, h => by
    have h : xs = [] := h
    subst h
    rfl
  | r :: rs, xs, h => by
    obtain ⟨q, ys, rfl, h1, h2⟩ := h
    rw [List.length_cons, List.length_cons, RowsL.len h2]
def RowIn (ks : List Knd) (H : Hp) (x : V) : Prop := ∃ (q : Addr) (w : List Nat) (n : Nat), x = .ref q ∧ H q = some (.tup [.str (S w), .int (n : Nat)]) ∧ RowBad ks w n
theorem RowIn.ex {ks : List Knd} {H H' : Hp} {x : V} (e : Ex H H') (h : RowIn ks H x) : RowIn ks H' x := by
  obtain ⟨q, w, n, e1, h1, h2⟩ := h
  exact ⟨q, w, n, e1, e _ _ h1, h2⟩
def rowPS (r : Str × Int) : Bool := decide (0 ≤ r.2) && rowP r.1.cps.toList r.2.toNat
theorem rowsL_in {ks : List Knd} (hk : KsP ks) {H : Hp} : ∀ {rs : List (Str × Int)} {xs : List V}, RowsL H rs xs → rs.all rowPS = true → ∀ x ∈ xs, RowIn ks H x
  | [], xs, h, _, x, hx => by
    have h : xs = [] := h
    rw [h] at hx
    cases hx
  | r :: rs, xs, h, ha, x, hx => by
    obtain ⟨q, ys, rfl, h1, h2⟩ := h
    rw [List.all_cons, Bool.and_eq_true] at ha
    rcases List.mem_cons.mp hx with rfl | hx
    · have h3 := ha.1
      unfold rowPS at h3
      rw [Bool.and_eq_true] at h3
      have h4 : 0 ≤ r.2 := of_decide_eq_true h3.1
      refine ⟨q, r.1.cps.toList, r.2.toNat, rfl, ?_, row_fix hk h3.2⟩
      rw [h1, ← S_of, Int.toNat_of_nonneg h4]
    · exact rowsL_in hk h2 ha.2 x hx
def tRowsA (rs : List (Str × Int)) : TA := fun _ H Q => ∀ xs H', Ex H H' → RowsL H' rs xs → Q xs H'
def tRows (rs : List (Str × Int)) : TE := fun _ H Q => rs.length ≤ 1000 ∧ ∀ l xs H', Ex H H' → H l = none → H' l = some (.lst xs) → RowsL H' rs xs → Q (.ref l) H'
section
variable {X : Cx} {es : List Expr} {rs : List (Str × Int)}
theorem pa_rowN : PA X [] (tRowsA []) := ⟨fun pos pins s σ H Q I h => (pa_nil (X := X)).run pos pins s σ H Q I (h [] H Ex.rfl' rfl)⟩
theorem pa_row {z : Str} {i : Int} {k1 : Nat} {p1 p2 pos : Pos} {k2 : Nat} {x1 : Nat} (h : PA X es (tRowsA rs)) : PA X (.Tuple [.Constant (.str z) k1 p1, .Constant (.int i) k2 p2] x1 pos :: es) (tRowsA ((z, i) :: rs)) :=
  ⟨fun pos pins s σ H Q I hq => (pa_cons (pe_tup (pa_cons pe_str (pa_cons pe_int pa_nil))) h).run pos pins s σ H Q I
    ⟨by show 2 ≤ sizeLine; rw [sizeLine_eq]; omega, fun p hp xs H' e hr => hq (.ref p :: xs) H' (Ex.trans (Ex.new hp) e) ⟨p, xs, rfl, e _ _ upd_same, hr⟩⟩⟩
theorem pe_rows {pos : Pos} (h : PA X es (tRowsA rs)) : PE X (.List es pos) (tRows rs) :=
  ⟨fun pins s σ H Q I hq => (pe_lst h).run pins s σ H Q I fun xs H' e hr => ⟨by have := hq.1; rw [hr.len, sizeLine_eq]; omega, fun l hl => hq.2 l xs _ (Ex.trans e (Ex.new hl)) (Ex.free e hl) upd_same (hr.ex (Ex.new hl))⟩⟩
end
def RowsAt (ks : List Knd) (H : Hp) (x : V) (n : Nat) : Prop := ∃ l xs, x = .ref l ∧ H l = some (.lst xs) ∧ xs ≠ [] ∧ xs.length ≤ n ∧ ∀ x ∈ xs, RowIn ks H x
theorem RowsAt.ex {ks : List Knd} {H H' : Hp} {x : V} {n : Nat} (e : Ex H H') (h : RowsAt ks H x n) : RowsAt ks H' x n := by
  obtain ⟨l, xs, e1, h1, h2, h3, h4⟩ := h
  exact ⟨l, xs, e1, e _ _ h1, h2, h3, fun x hx => (h4 x hx).ex e⟩
theorem cat_step {ks : List Knd} {H H' : Hp} {x : V} {n m : Nat} {l : Addr} {ys : List V} {R : VK} (hr : RowsAt ks H x n) (e : Ex H H') (hl : H' l = some (.lst ys)) (hy : ∀ y ∈ ys, RowIn ks H' y) (hm : ys.length ≤ m) (hn : n + m ≤ 1000)
    (hq : ∀ p H2, Ex H H2 → H p = none → RowsAt ks H2 (.ref p) (n + m) → R (.ref p) H2) : rCat x (.ref l) H' R := by
  obtain ⟨a, xs, rfl, h1, h2, h3, h4⟩ := hr.ex e
  refine ⟨a, l, xs, ys, rfl, rfl, h1, hl, by rw [sizeLine_eq]; omega, fun p hp => hq p _ (Ex.trans e (Ex.new hp)) (Ex.free e hp) ⟨p, xs ++ ys, rfl, upd_same, ?_, by rw [List.length_append]; omega, fun z hz => ?_⟩⟩
  · intro e2
    exact h2 (List.append_eq_nil_iff.mp e2).1
  · rcases List.mem_append.mp hz with hz | hz
    · exact (h4 z hz).ex (Ex.new hp)
    · exact (hy z hz).ex (Ex.new hp)
theorem rows_step {ks : List Knd} (hk : KsP ks) {H1 : Hp} {x : V} {n m : Nat} {rs : List (Str × Int)} {R : VK} (hr : RowsAt ks H1 x n) (hm : rs.length ≤ m) (hn : n + m ≤ 1000) (hc : rs.all rowPS = true)
    (hq : ∀ p H2, Ex H1 H2 → H1 p = none → RowsAt ks H2 (.ref p) (n + m) → R (.ref p) H2) : ∀ (l : Addr) (xs : List V) (H' : Hp), Ex H1 H' → H1 l = none → H' l = some (.lst xs) → RowsL H' rs xs → rCat x (.ref l) H' R :=
  fun l xs H' e _ hl h => cat_step hr e hl (rowsL_in hk h hc) (by rw [h.len]; exact hm) hn hq
theorem RowIn.upd {ks : List Knd} {H : Hp} {x : V} {l : Addr} {xs : List V} {o : HO} (hl : H l = some (.lst xs)) (h : RowIn ks H x) : RowIn ks (L2.upd H l o) x := by
  obtain ⟨q, w, n, e1, h1, h2⟩ := h
  refine ⟨q, w, n, e1, ?_, h2⟩
  rw [upd_ne (fun e => by rw [e, hl] at h1; cases h1)]
  exact h1
section
variable {P : Program} {w : World} {K : PySem.W.Frag} {mg : Str → Option Value} {base : Heap}
theorem cut_last (t : List Nat) : cutS (S t) none (some (-1)) = S t.dropLast := by
  unfold cutS
  rw [S_cps, S_len, HT.sIx_none, List.drop_zero, Nat.sub_zero]
  have e : HT.sIx t.length t.length (some (-1)) = t.length - 1 := by
    show (if ((-1 : Int) < 0) then ((-1 : Int) + (t.length : Int)).toNat else min (-1 : Int).toNat t.length) = t.length - 1
    rw [if_pos (by decide)]
    omega
  rw [e, List.dropLast_eq_take]
  rfl
def spKnown : Sp := sp1 fun a H Q _ => ∃ (t : List Nat) (ks : List Knd), a = .str (S t) ∧ TitleOk ks t ∧ ∀ D xs H', Ex H H' → H D = none → H' D = some (.lst xs) → xs ≠ [] → xs.length ≤ 1000 → (∀ x ∈ xs, RowIn ks H' x) → Q (.ref D) H'
theorem sc__law_known : FnScope ["title", "rows", "eight", "sign"] ["title"] (defScope s__law_known) := ⟨rfl, rfl, rfl, by decide +kernel, rfl, by decide +kernel, by decide +kernel⟩
theorem ok__law_known (z : Zk K mg base)   : Cal P w K mg base "_law_known" 2 spKnown := by
  obtain ⟨fd, F⟩ := z.d__law_known
  refine cal_of F z.g__law_known sc__law_known (fun _ _ _ _ _ _ us hl => match us, hl with | [_], _ => rfl) (fun vs H Q E h => by match vs, h with | [_], _ => rfl) (fun cdv A outer s H vs Q E hr h => ?_)
  have nd := sc__law_known.nd
  have hu : (cxOf (L2.CX P w) P w K mg base ["title", "rows", "eight", "sign"] "_law_known" (defScope s__law_known) (fAd K ("_law_known", none)) cdv A outer s H E).A.units + 64 < cLine := hr.units
  have hu0 := hr.units0
  have hu1 := hu_of hr
  match vs, h with
  | [a0], h =>
  refine ⟨_, (pss_cons (ps_set (i := 1) nd rfl (Or.inl rfl) (pe_rows (pa_row (pa_row (pa_row (pa_row (pa_row (pa_row (pa_row pa_rowN)))))))))
      (pss_cons (ps_set (i := 1) nd rfl (Or.inl rfl) (pe_op op_cat (pv 1) (pe_rows (pa_row (pa_row (pa_row (pa_row (pa_row (pa_row (pa_row pa_rowN))))))))))
      (pss_cons (ps_set (i := 1) nd rfl (Or.inl rfl) (pe_op op_cat (pv 1) (pe_rows (pa_row (pa_row (pa_row pa_rowN))))))
      (pss_cons (ps_set (i := 1) nd rfl (Or.inl rfl) (pe_op op_cat (pv 1) (pe_rows (pa_row (pa_row (pa_row pa_rowN))))))
      (pss_cons (ps_set (i := 2) nd rfl (Or.inl rfl) (k_join (K := K) rfl pe_str (pe_lc rfl nd (pi_str pe_str) (blkOk_by (N := ["title", "rows", "eight", "sign"]) (sc := defScope s__law_known) (own := [("sign", 3)]) (by decide +kernel)) (fun _ _ _ _ _ => (pg_name nd (i := 3) rfl (Or.inl rfl))) (fun _ _ _ _ _ => pts_nil) (fun _ _ _ _ _ => (pe_op op_add_str (pv 3) pe_str)))))
      (pss_cons (ps_set (i := 1) nd rfl (Or.inl rfl) (pe_op op_cat (pv 1) (pe_lst (pa_cons (pe_tup (pa_cons (pe_op op_add_str (pe_op op_add_str pe_str (pv 2)) pe_str) (pa_cons pe_int pa_nil))) (pa_cons (pe_tup (pa_cons pe_str (pa_cons pe_int pa_nil))) (pa_cons (pe_tup (pa_cons pe_str (pa_cons pe_int pa_nil))) pa_nil))))))
      (pss_cons (ps_set (i := 1) nd rfl (Or.inl rfl) (pe_op op_cat (pv 1) (pe_rows (pa_row (pa_row (pa_row (pa_row (pa_row pa_rowN))))))))
      (pss_cons (ps_set (i := 1) nd rfl (Or.inl rfl) (pe_op op_cat (pv 1) (pe_rows (pa_row (pa_row pa_rowN)))))
      (pss_cons (ps_expr (k_append (K := K) rfl (pv 1) (pe_tup (pa_cons pe_str (pa_cons pe_int pa_nil)))))
      (pss_cons (ps_set (i := 1) nd rfl (Or.inl rfl) (pe_op op_cat (pv 1) (pe_lst (pa_cons (pe_tup (pa_cons (pe_op op_add_str (pv 0) pe_str) (pa_cons (pe_callB (k_len (K := K) rfl) rfl z.b_len boot_len (pa_cons (pv 0) pa_nil)) pa_nil))) (pa_cons (pe_tup (pa_cons (pe_op op_add_str (pe_op op_add_str pe_str (pv 0)) pe_str) (pa_cons (pe_op op_add (pe_callB (k_len (K := K) rfl) rfl z.b_len boot_len (pa_cons (pv 0) pa_nil)) pe_int) pa_nil))) pa_nil)))))
      (pss_cons (ps_set (i := 1) nd rfl (Or.inl rfl) (pe_op op_cat (pv 1) (pe_op op_rep (pe_lst (pa_cons (pe_tup (pa_cons (pe_slice sl_str (pv 0) po_none (po_some (pe_un un_neg pe_int))) (pa_cons (pe_op op_sub (pe_callB (k_len (K := K) rfl) rfl z.b_len boot_len (pa_cons (pv 0) pa_nil)) pe_int) pa_nil))) pa_nil)) (pe_callTy call_int1 rfl z.b_int boot_int (pa_cons (pe_cmpR op_ne (pe_slice sl_str (pv 0) po_none (po_some (pe_un un_neg pe_int))) pe_str (nomark _)) pa_nil)))))
      (pss_one (ps_ret (pe_op op_cat (pv 1) (pe_rows (pa_row (pa_row (pa_row (pa_row (pa_row pa_rowN)))))))))))))))))))), ?_⟩
  obtain ⟨t, ks, rfl, ht, hq⟩ := h
  have hk := ht.hk
  simp [tRet, tRetN, tSeq, tIfS, tDrop, tNext, tNever, tBreak, tCont, tAsg, gName, gCons, gNil, gTup, tAndV, tOrV, tNotV, tAnd, tOr, tNot, tOp, tUn, tVar, tC, tB, tTest, tIf, tCons, tNil, tCB, tTup, tLst, tFld, sFld, sFldAug, rAdd, rSub, tSl, tPart, tNoPart, rI0, rI, rU, rEq, rNe, rSlS, rSlL, rIxL, rIxT, rIxS, tChain, tFn, tMt, tM1, tM0, tBM, rAppend, rIn, tIsN, tNotN, scal_ss, scal_ii, let_nil, let_one, fig_nil, fig_one, LenV_str, L2.start, cxOf, and_assoc, tJs, tFmt, put_at, lk_at, lk_script, lk_upcoming, lk_refuse, lk_skips, lk_expect, lk_word_of, lk_name_unlike, lk_number_to, lk_finish, sp0, sp1, sp2, sp3, sp4, sp5, -List.lookup_eq_none_iff, tRows]
  intro l0 xs0 H0 e0 hl0 hl1 hr0
  have r0 : RowsAt ks H0 (.ref l0) 7 := by
    have hlen := hr0.len
    refine ⟨l0, xs0, rfl, hl1, ?_, by rw [hlen]; decide, rowsL_in hk hr0 (by decide +kernel)⟩
    intro e
    rw [e] at hlen
    exact absurd hlen (by decide)
  refine rows_step (m := 7) hk r0 (by decide) (by decide) (by decide +kernel) fun p1 H1 e1 _ r1 => ?_
  refine rows_step (m := 3) hk r1 (by decide) (by decide) (by decide +kernel) fun p2 H2 e2 _ r2 => ?_
  refine rows_step (m := 3) hk r2 (by decide) (by decide) (by decide +kernel) fun p3 H3 e3 _ r3 => ?_
  refine lc_mapS (l := T "abcdefgh") (fun R h => by rw [ofS]; exact h) (ys := (T "abcdefgh").map fun x => .str (S (x :: T ":byte"))) monG_name monT_yes (by decide) (by simp) (fun i x y H' R hi hy e hR => ?_) fun D H4 e4 hD hl => ?_
  · rw [List.getElem?_map, hi] at hy
    cases hy
    refine ⟨rfl, ?_⟩
    simp [tRet, tRetN, tSeq, tIfS, tDrop, tNext, tNever, tBreak, tCont, tAsg, gName, gCons, gNil, gTup, tAndV, tOrV, tNotV, tAnd, tOr, tNot, tOp, tUn, tVar, tC, tB, tTest, tIf, tCons, tNil, tCB, tTup, tLst, tFld, sFld, sFldAug, rAdd, rSub, tSl, tPart, tNoPart, rI0, rI, rU, rEq, rNe, rSlS, rSlL, rIxL, rIxT, rIxS, tChain, tFn, tMt, tM1, tM0, tBM, rAppend, rIn, tIsN, tNotN, scal_ss, scal_ii, let_nil, let_one, fig_nil, fig_one, LenV_str, L2.start, cxOf, and_assoc, tJs, tFmt, put_at, lk_at, lk_script, lk_upcoming, lk_refuse, lk_skips, lk_expect, lk_word_of, lk_name_unlike, lk_number_to, lk_finish, sp0, sp1, sp2, sp3, sp4, sp5, -List.lookup_eq_none_iff, tYes, wipe, ofS ":byte", S_app, S_len, sizeLine_eq]
    exact hR _ Ex.rfl'
  · have ej : Txt.join (Str.ofString " ") ((T "abcdefgh").map fun x => S (x :: T ":byte")) = S (TL.joinL [32] ((T "abcdefgh").map fun x => x :: T ":byte")) := by
      have := SX.join_S [32] ((T "abcdefgh").map fun x => x :: T ":byte")
      rw [List.map_map] at this
      exact this
    have ew : Str.ofString "{" ++ S (TL.joinL [32] ((T "abcdefgh").map fun x => x :: T ":byte")) ++ Str.ofString " i:byte}" = S (T "{a:byte b:byte c:byte d:byte e:byte f:byte g:byte h:byte i:byte}") := by
      rw [ofS "{", ofS " i:byte}", S_app, S_app]
      exact congrArg S (by decide +kernel)
    refine ⟨_, D, (T "abcdefgh").map fun x => S (x :: T ":byte"), rfl, rfl, Or.inl (SqL.of (by rw [hl, List.map_map]; rfl)), by decide +kernel, ?_⟩
    rw [ej]
    refine ⟨_, rfl, by decide +kernel, by decide +kernel, by decide, fun q1 hq1 => ⟨by decide, fun q2 hq2 => ⟨by decide, fun q3 hq3 => ⟨by decide, fun q4 hq4 => ?_⟩⟩⟩⟩
    rw [ew] at hq2 hq3 hq4 ⊢
    have f1 := Ex.new (o := .tup [.str (S (T "{a:byte b:byte c:byte d:byte e:byte f:byte g:byte h:byte i:byte}")), .int 56]) hq1
    have f2 := Ex.new (o := .tup [.str (Str.ofString "{a:{a:{a:{a:{a:byte}}}}}"), .int 12]) hq2
    have f3 := Ex.new (o := .tup [.str (Str.ofString "2*2*2*2*2*byte"), .int 8]) hq3
    have f4 := Ex.new (o := .lst [.ref q1, .ref q2, .ref q3]) hq4
    refine cat_step (m := 3) (r3.ex e4) (Ex.trans f1 (Ex.trans f2 (Ex.trans f3 f4))) upd_same (fun y hy => ?_) (Nat.le_refl 3) (by decide) fun p4 H5 e5 _ r4 => ?_
    · simp only [List.mem_cons, List.not_mem_nil, or_false] at hy
      rcases hy with rfl | rfl | rfl
      · exact ⟨q1, _, 56, rfl, f4 _ _ (f3 _ _ (f2 _ _ upd_same)), row_fix hk (by decide +kernel)⟩
      · exact ⟨q2, T "{a:{a:{a:{a:{a:byte}}}}}", 12, rfl, by rw [← ofS]; exact f4 _ _ (f3 _ _ upd_same), row_fix hk (by decide +kernel)⟩
      · exact ⟨q3, T "2*2*2*2*2*byte", 8, rfl, by rw [← ofS]; exact f4 _ _ upd_same, row_fix hk (by decide +kernel)⟩
    refine rows_step (m := 5) hk r4 (by decide) (by decide) (by decide +kernel) fun p5 H6 e6 _ r5 => ?_
    refine rows_step (m := 2) hk r5 (by decide) (by decide) (by decide +kernel) fun p6 H7 e7 hp6 r6 => ?_
    obtain ⟨l7, xs7, el, h71, h72, h73, h74⟩ := r6
    cases el
    refine ⟨Or.inl ⟨rfl, _, SqL.of h71⟩, by decide, fun q5 hq5 => ?_⟩
    have f5 := Ex.new (o := .tup [.str (Str.ofString "{a:byte b:{a:{a:{a:{a:byte}}}}}"), .int 19]) hq5
    refine ⟨_, rfl, _, f5 _ _ h71, by rw [sizeLine_eq]; omega, ?_⟩
    have eA : Ex H H6 := Ex.trans e0 (Ex.trans e1 (Ex.trans e2 (Ex.trans e3 (Ex.trans e4 (Ex.trans e5 e6)))))
    have n56 : q5 ≠ p6 := fun e => by rw [e, h71] at hq5; cases hq5
    have e8 : Ex H6 (upd (upd H7 q5 (.tup [.str (Str.ofString "{a:byte b:{a:{a:{a:{a:byte}}}}}"), .int 19])) p6 (.lst (xs7 ++ [.ref q5]))) := Ex.mut (Ex.trans e7 f5) hp6
    have r8 : RowsAt ks (upd (upd H7 q5 (.tup [.str (Str.ofString "{a:byte b:{a:{a:{a:{a:byte}}}}}"), .int 19])) p6 (.lst (xs7 ++ [.ref q5]))) (.ref p6) 31 := by
      refine ⟨p6, _, rfl, upd_same, by simp, by rw [List.length_append, List.length_singleton]; omega, fun y hy => ?_⟩
      rcases List.mem_append.mp hy with hy | hy
      · exact ((h74 y hy).ex f5).upd (f5 _ _ h71)
      · rw [List.mem_singleton.mp hy]
        exact ⟨q5, T "{a:byte b:{a:{a:{a:{a:byte}}}}}", 19, rfl, by rw [upd_ne n56, upd_same, ← ofS]; rfl, row_fix hk (by decide +kernel)⟩
    generalize upd (upd H7 q5 (.tup [.str (Str.ofString "{a:byte b:{a:{a:{a:{a:byte}}}}}"), .int 19])) p6 (.lst (xs7 ++ [.ref q5])) = H8 at e8 r8 ⊢
    have htl := ht.le
    have hS : (S t).length = t.length := S_len t
    have l1 : ∀ s : String, (Str.ofString s).length = (T s).length := fun s => by rw [ofS, S_len]
    have z1 : (T "z").length = 1 := rfl
    have z2 : (T "@").length = 1 := rfl
    have z3 : (T "!").length = 1 := rfl
    have ez : S t ++ Str.ofString "z" = S (t ++ [122]) := S_app t [122]
    have eu : Str.ofString "@" ++ S t ++ Str.ofString "!" = S ([64] ++ t ++ [33]) := by
      have e1 : Str.ofString "@" ++ S t = S ([64] ++ t) := S_app [64] t
      rw [e1]
      exact S_app _ [33]
    rw [eu, ez, hS, l1, l1, z1, z2, sizeLine_eq]
    refine ⟨by omega, by omega, by omega, fun u1 hu1' => ⟨by omega, ?_, by omega, by omega, fun u2 hu2 => ⟨by omega, fun u3 hu3 => ?_⟩⟩⟩
    · have e1 : Str.ofString "@" ++ S t = S ([64] ++ t) := S_app [64] t
      rw [e1, S_len, l1, z3]
      simp
      omega
    have g1 := Ex.new (o := .tup [.str (S (t ++ [122])), .int (t.length : Nat)]) hu1'
    have g2 := Ex.new (o := .tup [.str (S ([64] ++ t ++ [33])), .int ((t.length : Nat) + 1)]) hu2
    have g3 := Ex.new (o := .lst [.ref u1, .ref u2]) hu3
    refine cat_step (m := 2) r8 (Ex.trans g1 (Ex.trans g2 g3)) upd_same (fun y hy => ?_) (Nat.le_refl 2) (by decide) fun p9 H9 e9 hp9 r9 => ?_
    · simp only [List.mem_cons, List.not_mem_nil, or_false] at hy
      rcases hy with rfl | rfl
      · exact ⟨u1, _, t.length, rfl, g3 _ _ (g2 _ _ upd_same), row_z ht⟩
      · exact ⟨u2, _, t.length + 1, rfl, g3 _ _ upd_same, row_use ht⟩
    refine ⟨by omega, by omega, fun v1 hv1 => ⟨by omega, fun v2 hv2 => ⟨by omega, ?_⟩⟩⟩
    rw [cut_last] at hv2 ⊢
    have hpos := (nameOk_le ht.ok).1
    have eN : ((t.length : Nat) : Int) - 1 = ((t.length - 1 : Nat) : Int) := by omega
    rw [eN] at hv2 ⊢
    have w1 := Ex.new (o := .tup [.str (S t.dropLast), .int ((t.length - 1 : Nat) : Int)]) hv1
    have w2 := Ex.new (o := .lst [.ref v1]) hv2
    have fin : ∀ (ys : List V) (v3 : Addr), upd (upd H9 v1 (.tup [.str (S t.dropLast), .int ((t.length - 1 : Nat) : Int)])) v2 (.lst [.ref v1]) v3 = none → ys.length ≤ 1 → (∀ y ∈ ys, y = .ref v1 ∧ t.dropLast ≠ T "byte") →
        rCat (.ref p9) (.ref v3) (upd (upd (upd H9 v1 (.tup [.str (S t.dropLast), .int ((t.length - 1 : Nat) : Int)])) v2 (.lst [.ref v1])) v3 (.lst ys)) fun x H1 => ∀ (l : Addr) (xs : List V) (H' : Hp), Ex H1 H' → H1 l = none → H' l = some (.lst xs) →
          RowsL H' [(Str.ofString "{a:byte  b:byte}", 8), (Str.ofString "{a:byte }", 8), (Str.ofString " byte", 0), (Str.ofString "{ a:byte}", 1), (Str.ofString "3*3*3*3*3", 8)] xs → rCat x (.ref l) H' Q := fun ys v3 hv3 hyl hys => by
      have w3 := Ex.new (o := .lst ys) hv3
      refine cat_step (m := 1) r9 (Ex.trans w1 (Ex.trans w2 w3)) upd_same (fun y hy => ?_) hyl (by decide) fun p10 H10 e10 hp10 r10 => ?_
      · obtain ⟨e, hb⟩ := hys y hy
        rw [e]
        exact ⟨v1, _, _, rfl, w3 _ _ (w2 _ _ upd_same), row_cut ht hb⟩
      refine rows_step (m := 5) hk r10 (by decide) (by decide) (by decide +kernel) fun p11 H11 e11 hp11 r11 => ?_
      obtain ⟨a, xs, e, h1, h2, h3, h4⟩ := r11
      cases e
      have eB : Ex H H10 := Ex.trans eA (Ex.trans e8 (Ex.trans e9 e10))
      exact hq _ xs H11 (Ex.trans eB e11) (Ex.free eB hp11) h1 h2 (by omega) h4
    by_cases hb : t.dropLast = T "byte"
    · refine Or.inl ⟨by rw [hb, ofS], v2, 0, [.ref v1], rfl, rfl, upd_same, by decide, by decide, by simp, fun v3 hv3 => ?_⟩
      exact fin _ v3 hv3 (by simp) (fun y hy => by simp at hy)
    · refine Or.inr ⟨fun e => hb (by rw [ofS, S_inj] at e; exact e), v2, 1, [.ref v1], rfl, rfl, upd_same, by decide, by decide, by simp [sizeLine_eq], fun v3 hv3 => ?_⟩
      exact fin _ v3 hv3 (by simp) (fun y hy => ⟨by simpa using hy, hb⟩)
end
end Mp

set_option maxHeartbeats 4000000
/-! Kz5: texts bent at a place -/
namespace Mp
open PySem PySem.Spec PyProof.Rows L2
open StX (tMakeR run_makeR pe_makeR)
open He (ga ma fAd)
open LamX (ExtN Tabs TabS TabB tLam LamS GivesTo CodeO lamEnv lamCx)
/-- all stays but the pen and tables of code objects -/
def K3 (c : Addr) (H H' : Hp) : Prop := ∀ a o, a ≠ c → (∀ ps, o ≠ .tbl ps) → H a = some o → H' a = some o
section
variable {K : PySem.W.Frag} {c : Addr} {H H' H2 : Hp}
theorem K3.rfl' : K3 c H H := fun _ _ _ _ h => h
theorem K3.k1 (k : K1 c H H') : K3 c H H' := fun a o n _ h => k a o n h
theorem K3.ex (k : Ex H H') : K3 c H H' := fun a o _ _ h => k a o h
theorem K3.ext (k : ExtN H H') : K3 c H H' := fun a o _ n h => k a o h n
theorem K3.trans (a : K3 c H H') (b : K3 c H' H2) : K3 c H H2 := fun x o n m h => b x o n m (a x o n m h)
theorem PenAt.ext {l : Addr} {n : Nat} (h : PenAt H c l n) (k : ExtN H H') : PenAt H' c l n := by
  obtain ⟨ns, a, w, h1, h2, h3, h4⟩ := h
  exact ⟨ns, a, w, k _ _ h1 (fun _ z => nomatch z), h2, k _ _ h3 (fun _ z => nomatch z), h4⟩
theorem Stb.k3 {l : Addr} {n : Nat} (hp : PenAt H c l n) (k : K3 c H H') : Stb K H H' := fun a o h s => by
  refine k a o (fun e => ?_) (fun ps e => ?_) h
  · obtain ⟨_, _, _, h1, _⟩ := hp
    rw [e, h1] at h
    cases h
    exact s
  · rw [e] at s
    exact s
theorem KindsAt.k3 {ks : List Knd} {ka l : Addr} {n : Nat} (ap : Apart K) (hp : PenAt H c l n) (k : K3 c H H') (x : KindsAt K H ks ka) : KindsAt K H' ks ka := by
  obtain ⟨as, h1, h2, h3⟩ := x
  refine ⟨as, h1, ?_, fun i q b hq hb => (h3 i q b hq hb).st ap (Stb.k3 hp k)⟩
  obtain ⟨ns, at_, w, p1, _⟩ := hp
  refine h2.imp (fun e => e.imp (fun e => ?_) id) (fun e => e.imp (fun e => ?_) id)
  · rcases e with e | ⟨o, e⟩
    · refine Or.inl (k _ _ (fun z => ?_) (fun _ z => nomatch z) e)
      rw [z, p1] at e
      have e2 := HO.lst.inj (Option.some.inj e)
      match as, e2 with
      | _ :: b :: _, e2 =>
        simp at e2
    · refine Or.inr ⟨o, k _ _ (fun z => ?_) (fun _ z => nomatch z) e⟩
      rw [z, p1] at e
      cases e
  · rcases e with e | ⟨o, e⟩
    · refine Or.inl (k _ _ (fun z => ?_) (fun _ z => nomatch z) e)
      rw [z, p1] at e
      cases e
    · refine Or.inr ⟨o, k _ _ (fun z => ?_) (fun _ z => nomatch z) e⟩
      rw [z, p1] at e
      cases e
theorem Tabs.k1 {T : List (Addr × Str)} {l : Addr} {n : Nat} (hp : PenAt H c l n) (k : K1 c H H') (t : Tabs T H) : Tabs T H' := fun p hpT => by
  obtain ⟨ps, h1, h2, h3⟩ := t p hpT
  obtain ⟨_, _, _, q1, _⟩ := hp
  refine ⟨ps, k _ _ (fun e => ?_) h1, h2, fun pos cv hc => ?_⟩
  · rw [e, q1] at h1
    cases h1
  · obtain ⟨d, e1, e2⟩ := h3 pos cv hc
    refine ⟨d, e1, k _ _ (fun e => ?_) e2⟩
    rw [e, q1] at e2
    cases e2
end
/-! ### what is heard -/
section
variable {K : PySem.W.Frag}
/-- the wish of an error that _law_heard has -/
def hWish (K : PySem.W.Frag) (Q : VK) : XK := fun cls d H' => ∃ dd n, cls = .ref (ga K "BadText") ∧ d = some dd ∧ H' dd = some (.xd [("at", .int n)]) ∧ ∀ H2, Ex H' H2 → Q (.int n) H2
theorem badx_wish {H : Hp} {n : Nat} {Q : VK} (hq : ∀ H2, Ex H H2 → Q (.int (n : Nat)) H2) : BadX K (hWish K Q) H n := fun d H' e hd => ⟨d, _, rfl, rfl, hd, fun H2 e2 => hq H2 (Ex.trans e e2)⟩
theorem heard_bad {H : Hp} {l r : List Nat} {ka : Addr} {ks : List Knd} {Q N : VK} (hl : l.length ≤ 10000) (hk : KindsAt K H ks ka) (ho : KsOk ks) (hr : readPart ks l = .bad r) (hq : ∀ H2, Ex H H2 → Q (.int ((l.length - r.length : Nat) : Int)) H2) :
    spReadPart K [.str (S l), .ref ka] H N (hWish K Q) := by
  refine Or.inl ⟨l, ka, ks, rfl, rfl, hl, hk, ho, ?_⟩
  unfold EndsX
  rw [hr]
  exact badx_wish hq
theorem heard_ok {H : Hp} {l r : List Nat} {p : Pt} {ka : Addr} {ks : List Knd} {Q N : VK} (hl : l.length ≤ 10000) (hk : KindsAt K H ks ka) (ho : KsOk ks) (hr : readPart ks l = .ok p r) (hq : ∀ a H2, Ex H H2 → N (.ref a) H2) :
    spReadPart K [.str (S l), .ref ka] H N (hWish K Q) := by
  refine Or.inl ⟨l, ka, ks, rfl, rfl, hl, hk, ho, ?_⟩
  unfold EndsX
  rw [hr]
  exact fun a H' e _ => hq a H' e
theorem heard_odd {H : Hp} {x : V} {t : Value} {ka : Addr} {Q N : VK} (ht : TyX K H x t) (hk : PySem.W.kitOne K t (.type "str") = some false) (hq : ∀ H2, Ex H H2 → Q (.int 0) H2) :
    spReadPart K [x, .ref ka] H N (hWish K Q) := Or.inr ⟨t, ht, hk, badx_wish (n := 0) hq⟩
end
/-! ### bent texts, plainly -/
theorem bent1 {ks : List Knd} (hk : KsP ks) {p : Pt} (h : PtOk ks p) (hd : p.depth ≤ 4) {i : Nat} (hi : i < p.text.length) {x : Nat} (hx : ∀ q, BadT (x :: q)) :
    ∃ r, readPart ks (p.text.take i ++ [x] ++ p.text.drop (i + 1)) = .bad r ∧ (p.text.take i ++ [x] ++ p.text.drop (i + 1)).length - r.length = i ∧ (p.text.take i ++ [x] ++ p.text.drop (i + 1)).length ≤ p.text.length + 1 := by
  refine ⟨x :: p.text.drop (i + 1), ?_, ?_, ?_⟩
  · rw [List.append_assoc]
    exact read_spoilt hk h hd hi (hx _)
  · simp
    omega
  · simp
    omega
theorem bent2 {ks : List Knd} (hk : KsP ks) {p : Pt} (h : PtOk ks p) (hd : p.depth ≤ 4) {i : Nat} (hi : i < p.text.length) {x : Nat} (hx : ∀ q, BadT (x :: q)) :
    ∃ r, readPart ks (p.text.take i ++ [x] ++ p.text.drop i) = .bad r ∧ (p.text.take i ++ [x] ++ p.text.drop i).length - r.length = i ∧ (p.text.take i ++ [x] ++ p.text.drop i).length ≤ p.text.length + 1 := by
  refine ⟨x :: p.text.drop i, ?_, ?_, ?_⟩
  · rw [List.append_assoc]
    exact read_spoilt hk h hd hi (hx _)
  · simp
    omega
  · simp
    omega
theorem open_head {ks : List Knd} {p : Pt} (h : PtOk ks p) {x : Nat} {r : List Nat} (e : p.text = x :: r) (hx : x = 123 ∨ x = 40) : p.open_ = true := by
  cases p with
  | rec_ fs => rfl
  | ovl fs => rfl
  | byte =>
    have e2 : T "byte" = x :: r := e
    have e3 : (98 : Nat) = x := (List.cons.inj e2).1
    omega
  | use n =>
    have e2 : 64 :: n = x :: r := e
    have e3 : (64 : Nat) = x := (List.cons.inj e2).1
    omega
  | kind n t =>
    obtain ⟨y, q, e2, hy⟩ := name_head h.1
    have e3 : n = x :: r := e
    rw [e2] at e3
    have e4 := (List.cons.inj e3).1
    simp [isLet] at hy
    omega
  | row n p =>
    have e2 : TL.numL n ++ 42 :: p.text = x :: r := e
    by_cases hn : n < 10
    · rw [TL.numL_lt hn] at e2
      have e3 : 48 + n = x := (List.cons.inj e2).1
      omega
    · rw [numL_two (by omega) h.2.1] at e2
      have e3 : 48 + n / 10 = x := (List.cons.inj e2).1
      have := h.2.1
      omega
theorem badSign {x : Nat} (h : x ∈ [33, 65, 35, 61, 95, 126, 44, 47, 59, 60]) : ∀ q, BadT (x :: q) := fun q y q2 e => by
  have e1 := (List.cons.inj e).1
  subst e1
  simp only [List.mem_cons, List.not_mem_nil, or_false] at h
  rcases h with rfl | rfl | rfl | rfl | rfl | rfl | rfl | rfl | rfl | rfl <;> decide
theorem heard_of {K : PySem.W.Frag} {tl : XK → Hp → VK → Prop} {H : Hp} {Q : VK} (h : tl (hWish K Q) H fun _ H' => Q .non H') : THeard K tl H Q := h
/-- what lasts while texts are bent -/
structure Bst (K : PySem.W.Frag) (T : List (Addr × Str)) (c l ka : Addr) (ks : List Knd) (H0 H : Hp) (m : Nat) : Prop where
  pen : PenAt H c l m
  kin : KindsAt K H ks ka
  tab : Tabs T H
  k3 : K3 c H0 H
section
variable {K : PySem.W.Frag} {T : List (Addr × Str)} {c l ka : Addr} {ks : List Knd} {H0 H H' : Hp} {m m' : Nat}
theorem Bst.k1 (b : Bst K T c l ka ks H0 H m) (ap : Apart K) (k : K1 c H H') (hp : PenAt H' c l m') : Bst K T c l ka ks H0 H' m' := ⟨hp, b.kin.k3 ap b.pen (K3.k1 k), Tabs.k1 b.pen k b.tab, K3.trans b.k3 (K3.k1 k)⟩
theorem Bst.ex (b : Bst K T c l ka ks H0 H m) (ap : Apart K) (k : Ex H H') : Bst K T c l ka ks H0 H' m := ⟨b.pen.ex k, b.kin.ex ap k, b.tab.ext k, K3.trans b.k3 (K3.ex k)⟩
theorem Bst.lam (b : Bst K T c l ka ks H0 H m) (ap : Apart K) (k : ExtN H H') (t : Tabs T H') : Bst K T c l ka ks H0 H' m := ⟨b.pen.ext k, b.kin.k3 ap b.pen (K3.ext k), t, K3.trans b.k3 (K3.ext k)⟩
end
abbrev qB : Str := (envOfC "_law_bent_right" (defScope s__law_bent_right) 0 0 .none).qual ++ "<lambda>"
section
variable {P : Program} {w : World} {K : PySem.W.Frag} {mg : Str → Option Value} {base : Heap}
def spBent (K : PySem.W.Frag) (T : List (Addr × Str)) : Sp := sp3 fun a b d H Q _ => ∃ (c l : Addr) (n : Nat) (p : Pt) (ks : List Knd) (ka : Addr), a = .ref c ∧ b = .str (S p.text) ∧ d = .ref ka ∧ PenAt H c l n ∧ n + 10 < 1000000 ∧ p.text.length ≤ 2000 ∧ p.text ≠ [] ∧ PtOk ks p ∧ p.depth ≤ 4 ∧ KindsAt K H ks ka ∧ KsOk ks ∧ Tabs T H ∧
  ∀ H', K3 c H H' → PenAt H' c l (n + 3) → Tabs T H' → Q (.bl true) H'
theorem sc__law_bent_right : FnScope ["pen", "text", "some", "at", "sign", "more"] ["pen", "text", "some"] (defScope s__law_bent_right) := ⟨rfl, rfl, rfl, by decide +kernel, rfl, by decide +kernel, by decide +kernel⟩
theorem ok__law_bent_right (z : Zk K mg base) (c__law_draw : Cal P w K mg base "_law_draw" 2 spDraw) (c__law_pick : Cal P w K mg base "_law_pick" 3 spPick) (zx : Zx K) {T : List (Addr × Str)} {PB : Addr} (TB : TabB base mg (He.codeOf K ("_law_bent_right", none)) PB) (hTm : (PB, qB) ∈ T) (hTu : ∀ p ∈ T, p.1 = PB → p.2 = qB) (ap : Apart K) (c_read_part : Cal P w K mg base "read_part" 18 (spReadPart K)) : Cal P w K mg base "_law_bent_right" 23 ((spBent K T)) := by
  obtain ⟨fd, F⟩ := z.d__law_bent_right
  refine cal_ofC F z.g__law_bent_right sc__law_bent_right (fun _ _ _ _ _ _ us hl => match us, hl with | [_, _, _], _ => rfl) (fun vs H Q E h => by match vs, h with | [_, _, _], _ => rfl) (fun A outer s H vs Q E hr h => ?_)
  have nd := sc__law_bent_right.nd
  have hu : (cxOf (L2.CX P w) P w K mg base ["pen", "text", "some", "at", "sign", "more"] "_law_bent_right" (defScope s__law_bent_right) (fAd K ("_law_bent_right", none)) (.ref (He.codeOf K ("_law_bent_right", none))) A outer s H E).A.units + 64 < cLine := hr.units
  have hu0 := hr.units0
  have hu1 := hu_of hr
  match vs, h with
  | [a0, a1, a2], h =>
  refine ⟨_, (pss_cons (ps_set (i := 3) nd rfl (Or.inr rfl) (pe_fn c__law_draw hr (passD (E := E)) (pa_cons (pv 0) (pa_cons (pe_callB (k_len (K := K) rfl) rfl z.b_len boot_len (pa_cons (pv 1) pa_nil)) pa_nil)) (by omega)))
      (pss_cons (ps_set (i := 4) nd rfl (Or.inr rfl) (pe_fn c__law_pick hr (passD (E := E)) (pa_cons (pv 0) (pa_cons (pe_lst (pa_cons pe_str (pa_cons pe_str (pa_cons pe_str (pa_cons pe_str (pa_cons pe_str (pa_cons pe_str (pa_cons pe_str (pa_cons pe_str (pa_cons pe_str (pa_cons pe_str pa_nil))))))))))) pa_nil)) (by omega)))
      (pss_cons (ps_if (pt_cmpR op_ne (pe_heard (k := 18) (K := K) rfl z zx TB rfl hTm hTu hr (by omega) (LamX.lamS_by (sc := defScope s__law_bent_right) (by decide +kernel)) (fun A outer s H E f c2 hr => (pe_fn c_read_part hr (passD (E := E)) (pa_cons (pe_op op_add_str (pe_op op_add_str (pe_slice sl_str (pv 1) po_none (po_some (pv 3))) (pv 4)) (pe_slice sl_str (pv 1) (po_some (pe_op op_add (pv 3) pe_int)) po_none)) (pa_cons (pv 2) pa_nil)) (by omega)))) (pv 3) (nomark _)) (pss_one (ps_ret pe_bl)) pss_nil)
      (pss_cons (ps_if (pt_cmpR op_ne (pe_heard (k := 18) (K := K) rfl z zx TB rfl hTm hTu hr (by omega) (LamX.lamS_by (sc := defScope s__law_bent_right) (by decide +kernel)) (fun A outer s H E f c2 hr => (pe_fn c_read_part hr (passD (E := E)) (pa_cons (pe_op op_add_str (pe_op op_add_str (pe_slice sl_str (pv 1) po_none (po_some (pv 3))) (pv 4)) (pe_slice sl_str (pv 1) (po_some (pv 3)) po_none)) (pa_cons (pv 2) pa_nil)) (by omega)))) (pv 3) (nomark _)) (pss_one (ps_ret pe_bl)) pss_nil)
      (pss_cons (ps_set (i := 5) nd rfl (Or.inr rfl) (pe_fn c__law_pick hr (passD (E := E)) (pa_cons (pv 0) (pa_cons (pe_lst (pa_cons pe_str (pa_cons pe_str (pa_cons pe_str (pa_cons pe_str (pa_cons pe_str (pa_cons pe_str (pa_cons pe_str (pa_cons pe_str pa_nil))))))))) pa_nil)) (by omega)))
      (pss_cons (ps_if (pt_cmpR op_ne (pe_heard (k := 18) (K := K) rfl z zx TB rfl hTm hTu hr (by omega) (LamX.lamS_by (sc := defScope s__law_bent_right) (by decide +kernel)) (fun A outer s H E f c2 hr => (pe_fn c_read_part hr (passD (E := E)) (pa_cons (pe_op op_add_str (pv 1) (pv 5)) (pa_cons (pv 2) pa_nil)) (by omega)))) (pe_callB (k_len (K := K) rfl) rfl z.b_len boot_len (pa_cons (pv 1) pa_nil)) (nomark _)) (pss_one (ps_ret pe_bl)) pss_nil)
      (pss_one (ps_ret (pe_or (pe_cmpR op_notin_str (pe_ix ix_str (pv 1) pe_int fun _ _ => rfl) pe_str (by with_unfolding_all rfl)) (pe_one (pe_cmpR op_eq (pe_heard (k := 18) (K := K) rfl z zx TB rfl hTm hTu hr (by omega) (LamX.lamS_by (sc := defScope s__law_bent_right) (by decide +kernel)) (fun A outer s H E f c2 hr => (pe_fn c_read_part hr (passD (E := E)) (pa_cons (pe_slice sl_str (pv 1) po_none (po_some (pv 3))) (pa_cons (pv 2) pa_nil)) (by omega)))) (pv 3) (nomark _)))))))))))), ?_⟩
  obtain ⟨c, l, n, p, ks, ka, rfl, rfl, rfl, hp, hn, hl, hne, hok, hd, hK, hO, hT, hq⟩ := h
  simp [tRet, tRetN, tSeq, tIfS, tDrop, tNext, tNever, tBreak, tCont, tAsg, gName, gCons, gNil, gTup, tAndV, tOrV, tNotV, tAnd, tOr, tNot, tOp, tUn, tVar, tC, tB, tTest, tIf, tCons, tNil, tCB, tTup, tLst, tFld, sFld, sFldAug, rAdd, rSub, tSl, tPart, tNoPart, rI0, rI, rU, rEq, rNe, rSlS, rSlL, rIxL, rIxT, rIxS, tChain, tFn, tMt, tM1, tM0, tBM, rAppend, rIn, tIsN, tNotN, scal_ss, scal_ii, let_nil, let_one, fig_nil, fig_one, LenV_str, L2.start, cxOf, and_assoc, tJs, tFmt, put_at, lk_at, lk_script, lk_upcoming, lk_refuse, lk_skips, lk_expect, lk_word_of, lk_name_unlike, lk_number_to, lk_finish, sp0, sp1, sp2, sp3, sp4, sp5, -List.lookup_eq_none_iff, tLam]
  have hk : KsP ks := ⟨hO.nd, hO.ok⟩
  have b0 : Bst K T c l ka ks H H n := ⟨hp, hK, hT, K3.rfl'⟩
  have hS : ∀ t : List Nat, (S t).length = t.length := S_len
  have hpos : 1 ≤ p.text.length := List.length_pos_iff.mpr hne
  refine ⟨by rw [hS, sizeLine_eq]; omega, c, l, n, p.text.length, rfl, by rw [hS], b0.pen, by omega, by omega, by omega, fun at_ H1 hat k1 hp1 => ?_⟩
  have b1 := b0.k1 ap k1 hp1
  refine ⟨by rw [sizeLine_eq]; omega, fun q1 hq1 => ?_⟩
  have b2 := b1.ex ap (Ex.new (o := .lst [.str (Str.ofString "!"), .str (Str.ofString "A"), .str (Str.ofString "#"), .str (Str.ofString "="), .str (Str.ofString "_"), .str (Str.ofString "~"), .str (Str.ofString ","), .str (Str.ofString "/"), .str (Str.ofString ";"), .str (Str.ofString "<")]) hq1)
  refine ⟨c, l, n + 1, rfl, b2.pen, by omega, Or.inl ⟨q1, _, rfl, hp1.nec hq1, upd_same, by simp, by simp, fun v H2 hv k2 hp2 => ?_⟩⟩
  obtain ⟨x, rfl, hx⟩ : ∃ x, v = .str (S [x]) ∧ ∀ q, BadT (x :: q) := by
    simp only [List.mem_cons, List.not_mem_nil, or_false] at hv
    rcases hv with rfl | rfl | rfl | rfl | rfl | rfl | rfl | rfl | rfl | rfl
    · exact ⟨33, rfl, badSign (by decide)⟩
    · exact ⟨65, rfl, badSign (by decide)⟩
    · exact ⟨35, rfl, badSign (by decide)⟩
    · exact ⟨61, rfl, badSign (by decide)⟩
    · exact ⟨95, rfl, badSign (by decide)⟩
    · exact ⟨126, rfl, badSign (by decide)⟩
    · exact ⟨44, rfl, badSign (by decide)⟩
    · exact ⟨47, rfl, badSign (by decide)⟩
    · exact ⟨59, rfl, badSign (by decide)⟩
    · exact ⟨60, rfl, badSign (by decide)⟩
  have b3 := b2.k1 ap k2 hp2
  have ei : ((at_ : Nat) : Int) + 1 = ((at_ + 1 : Nat) : Int) := by omega
  refine ⟨b3.tab, fun H3 x3 t3 => heard_of ?_⟩
  have b4 := b3.lam ap x3 t3
  obtain ⟨r1, g1, g2, g3⟩ := bent1 hk hok hd hat hx
  refine ⟨_, rfl, by rw [hS, sizeLine_eq]; omega, _, rfl, ?_, _, rfl, by rw [hS, sizeLine_eq]; omega, ?_, ?_⟩
  · rw [cut_pre (by omega), hS, hS, sizeLine_eq, List.length_take]; simp; omega
  · rw [ei, cut_pre (by omega), cut_suf (by omega), S_app, hS, hS, sizeLine_eq]; simp; omega
  rw [ei, cut_pre (by omega), cut_suf (by omega), S_app, S_app]
  refine heard_bad (by omega) b4.kin hO g1 fun H4 e4 => ⟨by rw [g2]; rfl, Or.inl ⟨by rw [g2], ?_⟩⟩
  have b5 := b4.ex ap e4
  refine ⟨b5.tab, fun H5 x5 t5 => heard_of ?_⟩
  have b6 := b5.lam ap x5 t5
  obtain ⟨r2, g4, g5, g6⟩ := bent2 hk hok hd hat hx
  refine ⟨_, rfl, by rw [hS, sizeLine_eq]; omega, _, rfl, ?_, _, rfl, by rw [hS, sizeLine_eq]; omega, ?_, ?_⟩
  · rw [cut_pre (by omega), hS, hS, sizeLine_eq, List.length_take]; simp; omega
  · rw [cut_pre (by omega), cut_suf (by omega), S_app, hS, hS, sizeLine_eq]; simp; omega
  rw [cut_pre (by omega), cut_suf (by omega), S_app, S_app]
  refine heard_bad (by omega) b6.kin hO g4 fun H6 e6 => ⟨by rw [g5]; rfl, Or.inl ⟨by rw [g5], ?_⟩⟩
  have b7 := b6.ex ap e6
  refine ⟨by rw [sizeLine_eq]; omega, fun q2 hq2 => ?_⟩
  have b8 := b7.ex ap (Ex.new (o := .lst [.str (Str.ofString " "), .str (Str.ofString "}"), .str (Str.ofString ")"), .str (Str.ofString "|"), .str (Str.ofString "!"), .str (Str.ofString "*"), .str (Str.ofString ":"), .str (Str.ofString "@")]) hq2)
  refine ⟨c, l, _, rfl, b8.pen, by omega, Or.inl ⟨q2, _, rfl, b7.pen.nec hq2, upd_same, by simp, by simp, fun v2 H8 hv2 k8 hp8 => ?_⟩⟩
  obtain ⟨y, rfl, hy1, hy2⟩ : ∃ y, v2 = .str (S [y]) ∧ isLet y = false ∧ isFig y = false := by
    simp only [List.mem_cons, List.not_mem_nil, or_false] at hv2
    rcases hv2 with rfl | rfl | rfl | rfl | rfl | rfl | rfl | rfl
    · exact ⟨32, rfl, rfl, rfl⟩
    · exact ⟨125, rfl, rfl, rfl⟩
    · exact ⟨41, rfl, rfl, rfl⟩
    · exact ⟨124, rfl, rfl, rfl⟩
    · exact ⟨33, rfl, rfl, rfl⟩
    · exact ⟨42, rfl, rfl, rfl⟩
    · exact ⟨58, rfl, rfl, rfl⟩
    · exact ⟨64, rfl, rfl, rfl⟩
  have b9 := b8.k1 ap k8 hp8
  refine ⟨b9.tab, fun H9 x9 t9 => heard_of ?_⟩
  have b10 := b9.lam ap x9 t9
  refine ⟨_, rfl, by rw [hS, hS, sizeLine_eq]; simp; omega, ?_⟩
  rw [S_app]
  have g7 := read_more hk hok hd hy1 hy2
  have g8 : (p.text ++ [y]).length - [y].length = p.text.length := by simp
  refine heard_bad (by simp; omega) b10.kin hO g7 fun H10 e10 => ⟨by rw [hS, sizeLine_eq]; omega, rfl, Or.inl ⟨by rw [g8, hS], ?_⟩⟩
  have b11 := b10.ex ap e10
  obtain ⟨x0, r0, et⟩ : ∃ x0 r0, p.text = x0 :: r0 := by
    cases h : p.text with
    | nil => exact absurd h hne
    | cons a b => exact ⟨a, b, rfl⟩
  refine ⟨by rw [hS, sizeLine_eq]; omega, x0, by rw [S_cps, et]; exact atI_nat (xs := x0 :: r0) (j := 0) (by simp), ?_⟩
  have hf := found_S (Str.ofString "{(") x0
  split
  · exact hq _ b11.k3 (b11.pen.le (by omega)) b11.tab
  · rename_i hocc
    have ho : p.open_ = true := by
      have h1 : x0 ∈ (Str.ofString "{(").cps.toList := by
        have h2 : (!(Builtin.Str.occurrences (Str.ofString "{(") (S [x0]) 0 (Str.ofString "{(").length 1).isEmpty) = true := by
          rw [Bool.not_eq_true', List.isEmpty_eq_false_iff]
          exact hocc
        rw [hf] at h2
        exact of_decide_eq_true h2
      have h3 : (Str.ofString "{(").cps.toList = [123, 40] := by decide +kernel
      rw [h3] at h1
      exact open_head hok et (by simpa using h1)
    refine ⟨b11.tab, fun H11 x11 t11 => heard_of ?_⟩
    have b12 := b11.lam ap x11 t11
    refine ⟨_, rfl, by rw [hS, sizeLine_eq]; omega, ?_⟩
    rw [cut_pre (by omega)]
    have g9 := read_cut hk hok hd ho hat
    have g10 : (p.text.take at_).length - ([] : List Nat).length = at_ := by simp; omega
    refine heard_bad (by simp; omega) b12.kin hO g9 fun H12 e12 => ⟨rfl, ?_⟩
    have b13 := b12.ex ap e12
    rw [g10]
    simp only [decide_true]
    exact hq _ b13.k3 (b13.pen.le (by omega)) b13.tab
end
end Mp

set_option maxHeartbeats 4000000
/-! Kz6: a turn's names, kinds and plan -/
namespace Mp
open PySem PySem.Spec PyProof.Rows L2
open StX (tMakeR run_makeR pe_makeR)
open He (ga ma fAd)
open LamX (ExtN Tabs TabS TabB tLam LamS GivesTo CodeO lamEnv lamCx)
theorem lc_openL {K : PySem.W.Frag} {tl : TE} {g : TG} {tt : TT} {te : TE} {vs : List Nat} {σ : L2.St} {H : Hp} {Q : VK} (h : tl σ H fun x H1 => ∃ a : Addr, x = .ref a ∧ (∃ xs, SqL K H1 a xs) ∧ LcFrom (Itl K a) g tt te vs σ H1 Q) : tLc (iList K tl) g tt te vs σ H Q := h
def loopBody : Stmt → List Stmt
  | .For _ _ b _ _ => b
  | _ => []
/-- pairs of titles and times -/
def PairsL (H : Hp) : List Knd → List V → Prop
  | [], xs => xs = []
  | k :: ks, xs => ∃ q ys, xs = .ref q :: ys ∧ H q = some (.tup [.str (S k.1), .int (k.2 : Nat)]) ∧ PairsL H ks ys
theorem PairsL.mono {H H' : Hp} (s : ∀ a xs, H a = some (.tup xs) → H' a = some (.tup xs)) : ∀ {ks : List Knd} {xs : List V}, PairsL H ks xs → PairsL H' ks xs
  | [], xs, h => h
  | k :: ks, xs, h => by
    obtain ⟨q, ys, e, h1, h2⟩ := h
    exact ⟨q, ys, e, s _ _ h1, PairsL.mono s h2⟩
theorem PairsL.snoc {H : Hp} {k : Knd} {q : Addr} (hq : H q = some (.tup [.str (S k.1), .int (k.2 : Nat)])) : ∀ {ks : List Knd} {xs : List V}, PairsL H ks xs → PairsL H (ks ++ [k]) (xs ++ [.ref q])
  | [], xs, h => by
    have h : xs = [] := h
    subst h
    exact ⟨q, [], rfl, hq, rfl⟩
  | m :: ks, xs, h => by
    obtain ⟨q2, ys, rfl, h1, h2⟩ := h
    exact ⟨q2, _, rfl, h1, PairsL.snoc hq h2⟩
theorem PairsL.len {H : Hp} : ∀ {ks : List Knd} {xs : List V}, PairsL H ks xs → xs.length = ks.length
  | [], xs, h => by
    have h : xs = [] := h
    subst h
    rfl
  | k :: ks, xs, h => by
    obtain ⟨q, ys, rfl, h1, h2⟩ := h
    rw [List.length_cons, List.length_cons, PairsL.len h2]
theorem PairsL.get {H : Hp} : ∀ {ks : List Knd} {xs : List V} {i : Nat} {x : V}, PairsL H ks xs → xs[i]? = some x → ∃ k q, ks[i]? = some k ∧ x = .ref q ∧ H q = some (.tup [.str (S k.1), .int (k.2 : Nat)])
  | [], xs, i, x, h, e => by
    have h : xs = [] := h
    subst h
    cases e
  | k :: ks, xs, i, x, h, e => by
    obtain ⟨q, ys, rfl, h1, h2⟩ := h
    cases i with
    | zero =>
      cases e
      exact ⟨k, q, rfl, rfl, h1⟩
    | succ i => exact PairsL.get (i := i) h2 e
theorem PairsL.each {H : Hp} {ks : List Knd} {xs : List V} (h : PairsL H ks xs) : ∀ x ∈ xs, ∃ k ∈ ks, PairAt H k x := fun x hx => by
  obtain ⟨i, hi⟩ := List.mem_iff_getElem?.mp hx
  obtain ⟨k, q, h1, h2, h3⟩ := h.get hi
  exact ⟨k, List.mem_of_getElem? h1, q, h2, h3⟩
theorem K1.tup {c l : Addr} {n : Nat} {H H' : Hp} (hp : PenAt H c l n) (k : K1 c H H') : ∀ a xs, H a = some (.tup xs) → H' a = some (.tup xs) := fun a xs h => k a _ (fun e => by
  obtain ⟨_, _, _, h1, _⟩ := hp
  rw [e, h1] at h
  cases h) h
/-- the kinds made so far -/
def KinL (K : PySem.W.Frag) (H : Hp) (ks : List Knd) (acc : List V) : Prop := ∃ as : List Addr, acc = as.map V.ref ∧ as.length = ks.length ∧ ∀ (i : Nat) (q : Knd) (b : Addr), ks[i]? = some q → as[i]? = some b → PartAt K H (.kind q.1 q.2) b
theorem KinL.st {K : PySem.W.Frag} {H H' : Hp} {ks : List Knd} {acc : List V} (ap : Apart K) (e : Stb K H H') (h : KinL K H ks acc) : KinL K H' ks acc := by
  obtain ⟨as, h1, h2, h3⟩ := h
  exact ⟨as, h1, h2, fun i q b hq hb => (h3 i q b hq hb).st ap e⟩
theorem KinL.snoc {K : PySem.W.Frag} {H : Hp} {ks : List Knd} {acc : List V} {k : Knd} {b : Addr} (h : KinL K H ks acc) (hb : PartAt K H (.kind k.1 k.2) b) : KinL K H (ks ++ [k]) (acc ++ [.ref b]) := by
  obtain ⟨as, h1, h2, h3⟩ := h
  refine ⟨as ++ [b], by rw [h1, List.map_append]; rfl, by simp [h2], fun i q b2 hq hb2 => ?_⟩
  by_cases hi : i < ks.length
  · rw [List.getElem?_append_left hi] at hq
    rw [List.getElem?_append_left (by omega)] at hb2
    exact h3 i q b2 hq hb2
  · rw [List.getElem?_append_right (by omega)] at hq hb2
    rw [h2] at hb2
    have h0 : i - ks.length = 0 := by
      have := (List.getElem?_eq_some_iff.mp hq).1
      simp at this
      omega
    rw [h0] at hq hb2
    cases hq
    cases hb2
    exact hb
theorem KinL.kinds {K : PySem.W.Frag} {H : Hp} {ks : List Knd} {acc : List V} {q : Addr} (h : KinL K H ks acc) (hq : H q = some (.lst acc)) : KindsAt K H ks q := by
  obtain ⟨as, h1, h2, h3⟩ := h
  exact ⟨as, h2, Or.inl (SqL.of (by rw [hq, h1])), h3⟩
theorem text_ne {ks : List Knd} {p : Pt} (h : PtOk ks p) : p.text ≠ [] := by
  cases p with
  | kind n t =>
    intro e
    have e : n = [] := e
    have := (nameOk_le h.1).1
    rw [e] at this
    cases this
  | row n p =>
    intro e
    have e : TL.numL n ++ 42 :: p.text = [] := e
    simp at e
  | byte => intro e; cases e
  | use n => intro e; cases e
  | rec_ fs => intro e; cases e
  | ovl fs => intro e; cases e
/-- what lasts in a turn -/
structure Tst (K : PySem.W.Frag) (T : List (Addr × Str)) (c l : Addr) (ks : List Knd) (qs : Addr) (acc : List V) (nq : Addr) (nms : List (List Nat)) (H : Hp) (m : Nat) : Prop where
  pen : PenAt H c l m
  tab : Tabs T H
  nqc : nq ≠ c
  qsc : qs ≠ c
  nl : H nq = some (.lst (txV nms))
  ql : H qs = some (.lst acc)
  kin : KinL K H ks acc
section
variable {K : PySem.W.Frag} {T : List (Addr × Str)} {c l : Addr} {ks : List Knd} {qs : Addr} {acc : List V} {nq : Addr} {nms : List (List Nat)} {H H' : Hp} {m m' : Nat}
theorem Tst.k3 (t : Tst K T c l ks qs acc nq nms H m) (ap : Apart K) (k : K3 c H H') (hp : PenAt H' c l m') (ht : Tabs T H') : Tst K T c l ks qs acc nq nms H' m' :=
  ⟨hp, ht, t.nqc, t.qsc, k _ _ t.nqc (fun _ z => nomatch z) t.nl, k _ _ t.qsc (fun _ z => nomatch z) t.ql, t.kin.st ap (Stb.k3 t.pen k)⟩
theorem Tst.k1 (t : Tst K T c l ks qs acc nq nms H m) (ap : Apart K) (k : K1 c H H') (hp : PenAt H' c l m') : Tst K T c l ks qs acc nq nms H' m' := t.k3 ap (K3.k1 k) hp (Tabs.k1 t.pen k t.tab)
theorem Tst.ex (t : Tst K T c l ks qs acc nq nms H m) (ap : Apart K) (k : Ex H H') : Tst K T c l ks qs acc nq nms H' m := t.k3 ap (K3.ex k) (t.pen.ex k) (t.tab.ext k)
theorem Tst.lam (t : Tst K T c l ks qs acc nq nms H m) (ap : Apart K) (k : ExtN H H') (h : Tabs T H') : Tst K T c l ks qs acc nq nms H' m := t.k3 ap (K3.ext k) (t.pen.ext k) h
theorem Tst.le (t : Tst K T c l ks qs acc nq nms H m) (h : m ≤ m') : Tst K T c l ks qs acc nq nms H m' := ⟨t.pen.le h, t.tab, t.nqc, t.qsc, t.nl, t.ql, t.kin⟩
theorem Tst.kinds (t : Tst K T c l ks qs acc nq nms H m) : KindsAt K H ks qs := t.kin.kinds t.ql
end
section
variable {P : Program} {w : World} {K : PySem.W.Frag} {mg : Str → Option Value} {base : Heap}
/-- a plan of some depth up to 4 -/
def spPlanA (K : PySem.W.Frag) : Sp := fun vs H Q E => ∃ d, d ≤ 4 ∧ spPlan d K vs H Q E
theorem plan_any (z : Zk K mg base) : Cal P w K mg base "_law_plan" 8 (spPlanA K) := by
  obtain ⟨f, F, hm, kp⟩ := (plan_all (P := P) (w := w) z 0 (by omega)).ex
  refine ⟨f, fun A outer s H us vs Q E hr e0 r ⟨d, hd, h⟩ => ?_, hm, kp⟩
  obtain ⟨f2, F2, hm2, _⟩ := ((plan_all (P := P) (w := w) z d hd).mono (j := 8) (by omega)).ex
  rw [hm] at hm2
  cases hm2
  exact F2 A outer s H us vs Q E hr e0 r h
end
end Mp

set_option maxHeartbeats 4000000
/-! Kz7: the law's second part -/
namespace Mp
open PySem PySem.Spec PyProof.Rows L2
open StX (tMakeR run_makeR pe_makeR)
open He (ga ma fAd)
open LamX (ExtN Tabs TabS TabB tLam LamS GivesTo CodeO lamEnv lamCx)
abbrev qT : Str := (envOfC "_law_part_two" (defScope s__law_part_two) 0 0 .none).qual ++ "<lambda>"
section
variable {P : Program} {w : World} {K : PySem.W.Frag} {mg : Str → Option Value} {base : Heap}
def spTwo (K : PySem.W.Frag) (T : List (Addr × Str)) : Sp := sp1 fun a H Q _ => ∃ (s : Addr) (ns : List Int), a = .ref s ∧ SqL K H s (ns.map V.int) ∧ Tabs T H ∧ ∀ H', Q (.bl true) H'
theorem RowIn.tup {ks : List Knd} {H H' : Hp} {x : V} (s : ∀ a xs, H a = some (.tup xs) → H' a = some (.tup xs)) (h : RowIn ks H x) : RowIn ks H' x := by
  obtain ⟨q, w, n, e1, h1, h2⟩ := h
  exact ⟨q, w, n, e1, s _ _ h1, h2⟩
theorem tup_n {H H' : Hp} (k : ExtN H H') : ∀ a xs, H a = some (.tup xs) → H' a = some (.tup xs) := fun a xs h => k a _ h (fun _ z => nomatch z)
def xxa : Pt := .rec_ (.cons [120] .byte (.cons [120, 97] .byte .nil))
theorem xxa_ok (ks : List Knd) : PtOk ks xxa ∧ xxa.depth ≤ 4 ∧ xxa.text = T "{x:byte xa:byte}" := by
  refine ⟨⟨by decide, by decide, by decide, ?_⟩, by decide, by decide +kernel⟩
  exact ⟨by decide, trivial, by decide, trivial, trivial⟩
/-- between the turns -/
def TwoInv (s c l : Addr) (T : List (Addr × Str)) (i : Nat) (σ : L2.St) (H : Hp) : Prop := (∃ x2 x3 x4 x5 x6 x7 x8 x9 x10 x11 x12 x13 x14, σ = [some (.ref s), some (.ref c), x2, x3, x4, x5, x6, x7, x8, x9, x10, x11, x12, x13, x14]) ∧ PenAt H c l (1000 * i) ∧ Tabs T H
theorem sc__law_part_two : FnScope ["script", "pen", "turn", "kinds", "some", "text", "again", "rows", "odd", "names", "signs", "title", "wrong", "at", "times"] ["script"] (defScope s__law_part_two) := ⟨rfl, rfl, rfl, by decide +kernel, rfl, by decide +kernel, by decide +kernel⟩
theorem ok__law_part_two (z : Zk K mg base) (c__law_pen : Cal P w K mg base "_law_pen" 2 ((spPen K))) (c__law_draw : Cal P w K mg base "_law_draw" 2 spDraw) (c__law_pick : Cal P w K mg base "_law_pick" 3 spPick) (c__law_names : Cal P w K mg base "_law_names" 4 spNames) (c__law_signs : Cal P w K mg base "_law_signs" 5 spSigns) (c__law_kinds : Cal P w K mg base "_law_kinds" 3 spKinds) (c__law_known : Cal P w K mg base "_law_known" 2 spKnown) (zx : Zx K) {T : List (Addr × Str)} {PB : Addr} (TB : TabB base mg (He.codeOf K ("_law_part_two", none)) PB) (hTm : (PB, qT) ∈ T) (hTu : ∀ p ∈ T, p.1 = PB → p.2 = qT) (ap : Apart K) (c_read_part : Cal P w K mg base "read_part" 18 (spReadPart K)) (c__law_plan : Cal P w K mg base "_law_plan" 8 (spPlanA K)) (c__law_text : Cal P w K mg base "_law_text" 6 (spTextP 5)) (k_Kind : Cmk P w K mg base "Kind" (ga K "Kind") 3 (spKind K)) (c__law_bent_right : Cal P w K mg base "_law_bent_right" 23 (spBent K T)) : Cal P w K mg base "_law_part_two" 31 ((spTwo K T)) := by
  obtain ⟨fd, F⟩ := z.d__law_part_two
  refine cal_ofC F z.g__law_part_two sc__law_part_two (fun _ _ _ _ _ _ us hl => match us, hl with | [_], _ => rfl) (fun vs H Q E h => by match vs, h with | [_], _ => rfl) (fun A outer s H vs Q E hr h => ?_)
  have nd := sc__law_part_two.nd
  have hu : (cxOf (L2.CX P w) P w K mg base ["script", "pen", "turn", "kinds", "some", "text", "again", "rows", "odd", "names", "signs", "title", "wrong", "at", "times"] "_law_part_two" (defScope s__law_part_two) (fAd K ("_law_part_two", none)) (.ref (He.codeOf K ("_law_part_two", none))) A outer s H E).A.units + 64 < cLine := hr.units
  have hu0 := hr.units0
  have hu1 := hu_of hr
  match vs, h with
  | [a0], h =>
  obtain ⟨sa, ns, rfl, hs, hT, hq⟩ := h
  obtain ⟨t5, hT5, hR5⟩ : ∃ t, PSs (cxOf (L2.CX P w) P w K mg base ["script", "pen", "turn", "kinds", "some", "text", "again", "rows", "odd", "names", "signs", "title", "wrong", "at", "times"] "_law_part_two" (defScope s__law_part_two) (fAd K ("_law_part_two", none)) (.ref (He.codeOf K ("_law_part_two", none))) A outer s H E) ((loopBody ((defBody s__law_part_two).getD 1 (.Pass ⟨0, 0, 0, 0⟩))).drop 5) t ∧ ∀ (D : Ends) (c l : Addr) (i m : Nat) (p : Pt) (ks : List Knd) (qs nq : Addr) (acc : List V) (tn : List Nat) (nr : List (List Nat)) (x2 x3 x6 x7 x8 x10 x11 x12 x13 x14 : Option V) H2,
      (∀ σ H', TwoInv sa c l T (i + 1) σ H' → D.nx σ H') → i < 4 → m + 100 ≤ 1000 * (i + 1) → Tst K T c l ks qs acc nq (tn :: nr) H2 m → KsOk ks → ks ≠ [] → PtOk ks p → p.depth ≤ 4 → p.text.length ≤ 2000 → TitleOk ks tn →
      t D [some (.ref sa), some (.ref c), x2, x3, some (.ref qs), some (.str (S p.text)), x6, x7, x8, some (.ref nq), x10, x11, x12, x13, x14] H2 := by
    refine ⟨_, (pss_cons (ps_if (pt_cmpR op_notN (pe_heard (k := 18) (K := K) rfl z zx TB rfl hTm hTu hr (by omega) (LamX.lamS_by (sc := defScope s__law_part_two) (by decide +kernel)) (fun A outer s H E f c2 hr => (pe_fn c_read_part hr (passD (E := E)) (pa_cons (pv 5) (pa_cons (pv 4) pa_nil)) (by omega)))) pe_non (nomark _)) (pss_one (ps_ret pe_bl)) pss_nil)
      (pss_cons (ps_for (passes_of rfl) rfl (pi_range1 rfl z.b_range (pa_cons pe_int pa_nil)) (pg_name nd (i := 6) rfl (Or.inl rfl)) (pss_one (ps_if (pt_not (pt_val (pe_fn c__law_bent_right hr (passD (E := E)) (pa_cons (pv 1) (pa_cons (pv 5) (pa_cons (pv 4) pa_nil))) (by omega)))) (pss_one (ps_ret pe_bl)) pss_nil)))
      (pss_cons (ps_set (i := 7) nd rfl (Or.inl rfl) (pe_fn c__law_known hr (passD (E := E)) (pa_cons (pe_ix ix_H (pv 9) pe_int fun _ _ => rfl) pa_nil) (by omega)))
      (pss_cons (ps_for (passes_of rfl) rfl (pi_range1 rfl z.b_range (pa_cons pe_int pa_nil)) (pg_name nd (i := 6) rfl (Or.inl rfl)) (pss_cons (ps_asg (pe_fn c__law_pick hr (passD (E := E)) (pa_cons (pv 1) (pa_cons (pv 7) pa_nil)) (by omega)) (k_pg_tup (K := K) (n := 2) rfl rfl (pgs_cons (pg_name nd (i := 12) rfl (Or.inr rfl)) (pgs_cons (pg_name nd (i := 13) rfl (Or.inl rfl)) pgs_nil))))
      (pss_one (ps_if (pt_cmpR op_ne (pe_heard (k := 18) (K := K) rfl z zx TB rfl hTm hTu hr (by omega) (LamX.lamS_by (sc := defScope s__law_part_two) (by decide +kernel)) (fun A outer s H E f c2 hr => (pe_fn c_read_part hr (passD (E := E)) (pa_cons (pv 12) (pa_cons (pv 4) pa_nil)) (by omega)))) (pv 13) (nomark _)) (pss_one (ps_ret pe_bl)) pss_nil))))
      (pss_cons (ps_if (pt_cmpR op_notN (pe_heard (k := 18) (K := K) rfl z zx TB rfl hTm hTu hr (by omega) (LamX.lamS_by (sc := defScope s__law_part_two) (by decide +kernel)) (fun A outer s H E f c2 hr => (pe_fn c_read_part hr (passD (E := E)) (pa_cons pe_str (pa_cons (pv 4) pa_nil)) (by omega)))) pe_non (nomark _)) (pss_one (ps_ret pe_bl)) pss_nil)
      (pss_cons (ps_set (i := 8) nd rfl (Or.inr rfl) (pe_fn c__law_pick hr (passD (E := E)) (pa_cons (pv 1) (pa_cons (pe_lst (pa_cons pe_non (pa_cons pe_int (pa_cons pe_bl (pa_cons (pe_lst (pa_cons pe_str pa_nil)) (pa_cons (pe_tup (pa_cons pe_str pa_nil)) (pa_cons pe_dnewK (pa_cons (pe_ix ix_H (pv 4) pe_int fun _ _ => rfl) (pa_cons pe_int pa_nil))))))))) pa_nil)) (by omega)))
      (pss_one (ps_if (pt_cmpR op_ne (pe_heard (k := 18) (K := K) rfl z zx TB rfl hTm hTu hr (by omega) (LamX.lamS_by (sc := defScope s__law_part_two) (by decide +kernel)) (fun A outer s H E f c2 hr => (pe_fn c_read_part hr (passD (E := E)) (pa_cons (pv 8) (pa_cons (pv 4) pa_nil)) (by omega)))) pe_int (nomark _)) (pss_one (ps_ret pe_bl)) pss_nil)))))))), fun D c l i m p ks qs nq acc tn nr x2 x3 x6 x7 x8 x10 x11 x12 x13 x14 H2 hD hi hm st hO hkne hok hd hl hT2 => ?_⟩
    simp [tRet, tRetN, tSeq, tIfS, tDrop, tNext, tNever, tBreak, tCont, tAsg, gName, gCons, gNil, gTup, tAndV, tOrV, tNotV, tAnd, tOr, tNot, tOp, tUn, tVar, tC, tB, tTest, tIf, tCons, tNil, tCB, tTup, tLst, tFld, sFld, sFldAug, rAdd, rSub, tSl, tPart, tNoPart, rI0, rI, rU, rEq, rNe, rSlS, rSlL, rIxL, rIxT, rIxS, tChain, tFn, tMt, tM1, tM0, tBM, rAppend, rIn, tIsN, tNotN, scal_ss, scal_ii, let_nil, let_one, fig_nil, fig_one, LenV_str, L2.start, cxOf, and_assoc, tJs, tFmt, put_at, lk_at, lk_script, lk_upcoming, lk_refuse, lk_skips, lk_expect, lk_word_of, lk_name_unlike, lk_number_to, lk_finish, sp0, sp1, sp2, sp3, sp4, sp5, -List.lookup_eq_none_iff, tLam]
    have hS : ∀ t : List Nat, (S t).length = t.length := S_len
    have hk : KsP ks := ⟨hO.nd, hO.ok⟩
    refine ⟨st.tab, fun H3 e3 t3 => heard_of ?_⟩
    have s3 := st.lam ap e3 t3
    refine heard_ok (by omega) s3.kinds hO (read_ok hk hok hd) fun a H4 e4 => Or.inl ⟨rfl, ?_⟩
    have s4 := s3.ex ap e4
    refine tfor_rng (m := 3) (fun R h => h) (by decide) (fun j σ H => (∃ x6, σ = [some (.ref sa), some (.ref c), x2, x3, some (.ref qs), some (.str (S p.text)), x6, x7, x8, some (.ref nq), x10, x11, x12, x13, x14]) ∧ Tst K T c l ks qs acc nq (tn :: nr) H (m + 3 * j)) ⟨⟨_, rfl⟩, s4⟩ (fun j σ H5 hj h => ?_) (fun σ H5 h => ?_)
    · obtain ⟨⟨y6, rfl⟩, s5⟩ := h
      simp [tRet, tRetN, tSeq, tIfS, tDrop, tNext, tNever, tBreak, tCont, tAsg, gName, gCons, gNil, gTup, tAndV, tOrV, tNotV, tAnd, tOr, tNot, tOp, tUn, tVar, tC, tB, tTest, tIf, tCons, tNil, tCB, tTup, tLst, tFld, sFld, sFldAug, rAdd, rSub, tSl, tPart, tNoPart, rI0, rI, rU, rEq, rNe, rSlS, rSlL, rIxL, rIxT, rIxS, tChain, tFn, tMt, tM1, tM0, tBM, rAppend, rIn, tIsN, tNotN, scal_ss, scal_ii, let_nil, let_one, fig_nil, fig_one, LenV_str, L2.start, cxOf, and_assoc, tJs, tFmt, put_at, lk_at, lk_script, lk_upcoming, lk_refuse, lk_skips, lk_expect, lk_word_of, lk_name_unlike, lk_number_to, lk_finish, sp0, sp1, sp2, sp3, sp4, sp5, -List.lookup_eq_none_iff]
      refine ⟨c, l, m + 3 * j, p, ks, qs, rfl, rfl, rfl, s5.pen, by omega, hl, text_ne hok, hok, hd, s5.kinds, hO, s5.tab, fun H6 k6 hp6 t6 => Or.inr ⟨rfl, ?_⟩⟩
      have s6 := s5.k3 ap k6 hp6 t6
      exact s6.le (by omega)
    obtain ⟨⟨y6, rfl⟩, s5⟩ := h
    simp [tRet, tRetN, tSeq, tIfS, tDrop, tNext, tNever, tBreak, tCont, tAsg, gName, gCons, gNil, gTup, tAndV, tOrV, tNotV, tAnd, tOr, tNot, tOp, tUn, tVar, tC, tB, tTest, tIf, tCons, tNil, tCB, tTup, tLst, tFld, sFld, sFldAug, rAdd, rSub, tSl, tPart, tNoPart, rI0, rI, rU, rEq, rNe, rSlS, rSlL, rIxL, rIxT, rIxS, tChain, tFn, tMt, tM1, tM0, tBM, rAppend, rIn, tIsN, tNotN, scal_ss, scal_ii, let_nil, let_one, fig_nil, fig_one, LenV_str, L2.start, cxOf, and_assoc, tJs, tFmt, put_at, lk_at, lk_script, lk_upcoming, lk_refuse, lk_skips, lk_expect, lk_word_of, lk_name_unlike, lk_number_to, lk_finish, sp0, sp1, sp2, sp3, sp4, sp5, -List.lookup_eq_none_iff, rIxH]
    refine ⟨_, s5.nl, _, at_zero, tn, ks, rfl, hT2, fun D2 xs H6 e6 hD6 hDl hne hlen hrows => ?_⟩
    have s6 := s5.ex ap e6
    have hDc : D2 ≠ c := s5.pen.nec hD6
    refine tfor_rng (m := 4) (fun R h => h) (by decide) (fun j σ H => (∃ x6 x12 x13, σ = [some (.ref sa), some (.ref c), x2, x3, some (.ref qs), some (.str (S p.text)), x6, some (.ref D2), x8, some (.ref nq), x10, x11, x12, x13, x14]) ∧ Tst K T c l ks qs acc nq (tn :: nr) H (m + 9 + j) ∧ H D2 = some (.lst xs) ∧ ∀ x ∈ xs, RowIn ks H x) ⟨⟨_, _, _, rfl⟩, s6, hDl, hrows⟩ (fun j σ H7 hj h => ?_) (fun σ H7 h => ?_)
    · obtain ⟨⟨z6, z12, z13, rfl⟩, s7, hDl7, hr7⟩ := h
      simp [tRet, tRetN, tSeq, tIfS, tDrop, tNext, tNever, tBreak, tCont, tAsg, gName, gCons, gNil, gTup, tAndV, tOrV, tNotV, tAnd, tOr, tNot, tOp, tUn, tVar, tC, tB, tTest, tIf, tCons, tNil, tCB, tTup, tLst, tFld, sFld, sFldAug, rAdd, rSub, tSl, tPart, tNoPart, rI0, rI, rU, rEq, rNe, rSlS, rSlL, rIxL, rIxT, rIxS, tChain, tFn, tMt, tM1, tM0, tBM, rAppend, rIn, tIsN, tNotN, scal_ss, scal_ii, let_nil, let_one, fig_nil, fig_one, LenV_str, L2.start, cxOf, and_assoc, tJs, tFmt, put_at, lk_at, lk_script, lk_upcoming, lk_refuse, lk_skips, lk_expect, lk_word_of, lk_name_unlike, lk_number_to, lk_finish, sp0, sp1, sp2, sp3, sp4, sp5, -List.lookup_eq_none_iff, tLam]
      refine ⟨c, l, m + 9 + j, rfl, s7.pen, by omega, Or.inl ⟨D2, xs, rfl, hDc, hDl7, hne, by omega, fun v H8 hv k8 hp8 => ?_⟩⟩
      have s8 := s7.k1 ap k8 hp8
      have tu8 := K1.tup s7.pen k8
      have hr8 : ∀ x ∈ xs, RowIn ks H8 x := fun x hx => (hr7 x hx).tup tu8
      have hDl8 := k8 _ _ hDc hDl7
      obtain ⟨q, wd, n, rfl, hqt, hbad⟩ := hr8 v hv
      refine ⟨q, rfl, _, SqT.of hqt, rfl, _, _, rfl, _, _, rfl, rfl, s8.tab, fun H9 e9 t9 => heard_of ?_⟩
      have s9 := s8.lam ap e9 t9
      obtain ⟨hw, r, hrd, hpos⟩ := hbad
      refine heard_bad (by omega) s9.kinds hO hrd fun H10 e10 => ?_
      have s10 := s9.ex ap e10
      rw [hpos]
      simp [tRet, tRetN, tSeq, tIfS, tDrop, tNext, tNever, tBreak, tCont, tAsg, gName, gCons, gNil, gTup, tAndV, tOrV, tNotV, tAnd, tOr, tNot, tOp, tUn, tVar, tC, tB, tTest, tIf, tCons, tNil, tCB, tTup, tLst, tFld, sFld, sFldAug, rAdd, rSub, tSl, tPart, tNoPart, rI0, rI, rU, rEq, rNe, rSlS, rSlL, rIxL, rIxT, rIxS, tChain, tFn, tMt, tM1, tM0, tBM, rAppend, rIn, tIsN, tNotN, scal_ss, scal_ii, let_nil, let_one, fig_nil, fig_one, LenV_str, L2.start, cxOf, and_assoc, tJs, tFmt, put_at, lk_at, lk_script, lk_upcoming, lk_refuse, lk_skips, lk_expect, lk_word_of, lk_name_unlike, lk_number_to, lk_finish, sp0, sp1, sp2, sp3, sp4, sp5, -List.lookup_eq_none_iff, rNe]
      exact ⟨s10.le (by omega), e10 _ _ (e9 _ _ hDl8 (fun _ z => nomatch z)), fun x hx => ((hr8 x hx).tup (tup_n e9)).ex e10⟩
    obtain ⟨⟨z6, z12, z13, rfl⟩, s7, hDl7, hr7⟩ := h
    simp [tRet, tRetN, tSeq, tIfS, tDrop, tNext, tNever, tBreak, tCont, tAsg, gName, gCons, gNil, gTup, tAndV, tOrV, tNotV, tAnd, tOr, tNot, tOp, tUn, tVar, tC, tB, tTest, tIf, tCons, tNil, tCB, tTup, tLst, tFld, sFld, sFldAug, rAdd, rSub, tSl, tPart, tNoPart, rI0, rI, rU, rEq, rNe, rSlS, rSlL, rIxL, rIxT, rIxS, tChain, tFn, tMt, tM1, tM0, tBM, rAppend, rIn, tIsN, tNotN, scal_ss, scal_ii, let_nil, let_one, fig_nil, fig_one, LenV_str, L2.start, cxOf, and_assoc, tJs, tFmt, put_at, lk_at, lk_script, lk_upcoming, lk_refuse, lk_skips, lk_expect, lk_word_of, lk_name_unlike, lk_number_to, lk_finish, sp0, sp1, sp2, sp3, sp4, sp5, -List.lookup_eq_none_iff, tLam]
    refine ⟨s7.tab, fun H8 e8 t8 => heard_of ?_⟩
    have s8 := s7.lam ap e8 t8
    obtain ⟨x1, x2', x3'⟩ := xxa_ok ks
    have hrd := read_ok hk x1 x2'
    rw [x3'] at hrd
    rw [ofS "{x:byte xa:byte}"]
    refine heard_ok (by decide) s8.kinds hO hrd fun a H9 e9 => Or.inl ⟨rfl, ?_⟩
    have s9 := s8.ex ap e9
    simp [tRet, tRetN, tSeq, tIfS, tDrop, tNext, tNever, tBreak, tCont, tAsg, gName, gCons, gNil, gTup, tAndV, tOrV, tNotV, tAnd, tOr, tNot, tOp, tUn, tVar, tC, tB, tTest, tIf, tCons, tNil, tCB, tTup, tLst, tFld, sFld, sFldAug, rAdd, rSub, tSl, tPart, tNoPart, rI0, rI, rU, rEq, rNe, rSlS, rSlL, rIxL, rIxT, rIxS, tChain, tFn, tMt, tM1, tM0, tBM, rAppend, rIn, tIsN, tNotN, scal_ss, scal_ii, let_nil, let_one, fig_nil, fig_one, LenV_str, L2.start, cxOf, and_assoc, tJs, tFmt, put_at, lk_at, lk_script, lk_upcoming, lk_refuse, lk_skips, lk_expect, lk_word_of, lk_name_unlike, lk_number_to, lk_finish, sp0, sp1, sp2, sp3, sp4, sp5, -List.lookup_eq_none_iff, tDNewK, rIxH]
    obtain ⟨as, hacc, hasl, hasp⟩ := id s9.kin
    obtain ⟨k0, kr, ek⟩ : ∃ k0 kr, ks = k0 :: kr := by
      cases ks with
      | nil => exact absurd rfl hkne
      | cons a b => exact ⟨a, b, rfl⟩
    obtain ⟨b0, br, eb⟩ : ∃ b0 br, as = b0 :: br := by
      cases as with
      | nil => rw [ek] at hasl; simp at hasl
      | cons a b => exact ⟨a, b, rfl⟩
    have hb0 : PartAt K H9 (.kind k0.1 k0.2) b0 := hasp 0 k0 b0 (by rw [ek]; rfl) (by rw [eb]; rfl)
    have hat : atI acc 0 = some (.ref b0) := by
      rw [hacc, eb]
      exact atI_nat (xs := List.map V.ref (b0 :: br)) (j := 0) (by simp)
    refine ⟨by rw [sizeLine_eq]; omega, fun q1 hq1 => ⟨by rw [sizeLine_eq]; omega, fun q2 hq2 q3 hq3 => ?_⟩⟩
    have f1 := Ex.new (o := .lst [.str (Str.ofString "byte")]) hq1
    have f2 := Ex.new (o := .tup [.str (Str.ofString "byte")]) hq2
    have f3 := Ex.new (o := .dK []) hq3
    refine ⟨acc, f3 _ _ (f2 _ _ (f1 _ _ s9.ql)), _, hat, by rw [sizeLine_eq]; omega, fun q4 hq4 => ?_⟩
    have f4 := Ex.new (o := .lst [.non, .int 0, .bl true, .ref q1, .ref q2, .ref q3, .ref b0, .int 7]) hq4
    have s10 := s9.ex ap (Ex.trans f1 (Ex.trans f2 (Ex.trans f3 f4)))
    have fq1 := f4 _ _ (f3 _ _ (f2 _ _ (upd_same (H := H9) (a := q1) (o := .lst [.str (Str.ofString "byte")]))))
    have fq2 := f4 _ _ (f3 _ _ (upd_same (H := upd H9 q1 (.lst [.str (Str.ofString "byte")])) (a := q2) (o := .tup [.str (Str.ofString "byte")])))
    have fq3 := f4 _ _ (upd_same (H := upd (upd H9 q1 (.lst [.str (Str.ofString "byte")])) q2 (.tup [.str (Str.ofString "byte")])) (a := q3) (o := .dK []))
    have fb0 := hb0.st ap (Stb.of (Ex.trans f1 (Ex.trans f2 (Ex.trans f3 f4))))
    have n1 : q1 ≠ c := s9.pen.nec hq1
    have n2 : q2 ≠ c := (s9.pen.ex f1).nec hq2
    have n3 : q3 ≠ c := ((s9.pen.ex f1).ex f2).nec hq3
    have n4 : q4 ≠ c := (((s9.pen.ex f1).ex f2).ex f3).nec hq4
    refine ⟨c, l, _, rfl, s10.pen, by omega, Or.inl ⟨q4, _, rfl, n4, upd_same, by simp, by simp, fun v H11 hv k11 hp11 => ?_⟩⟩
    have s11 := s10.k1 ap k11 hp11
    have hty : ∃ t, (∀ H', ExtN H11 H' → TyX K H' v t) ∧ PySem.W.kitOne K t (.type "str") = some false := by
      simp only [List.mem_cons, List.not_mem_nil, or_false] at hv
      rcases hv with rfl | rfl | rfl | rfl | rfl | rfl | rfl | rfl
      · exact ⟨_, fun _ _ => .base .non, kit_ty (by decide +kernel)⟩
      · exact ⟨_, fun _ _ => .base (.int _), kit_ty (by decide +kernel)⟩
      · exact ⟨_, fun _ _ => .base (.bl _), kit_ty (by decide +kernel)⟩
      · exact ⟨_, fun _ hx => .base (.lst (hx _ _ (k11 _ _ n1 fq1) (fun _ z => nomatch z))), kit_ty (by decide +kernel)⟩
      · exact ⟨_, fun _ hx => .base (.tup (hx _ _ (k11 _ _ n2 fq2) (fun _ z => nomatch z))), kit_ty (by decide +kernel)⟩
      · exact ⟨_, fun _ hx => .base (.dK (hx _ _ (k11 _ _ n3 fq3) (fun _ z => nomatch z))), kit_ty (by decide +kernel)⟩
      · obtain ⟨dx, hd0⟩ := fb0.st ap (Stb.k3 s10.pen (K3.k1 k11))
        exact ⟨_, fun _ hx => z.ty_Kind.ty z.cls_Kind (hx _ _ hd0 (fun _ z => nomatch z)), zx.ks⟩
      · exact ⟨_, fun _ _ => .base (.int _), kit_ty (by decide +kernel)⟩
    obtain ⟨ty, hty1, hty2⟩ := hty
    refine ⟨s11.tab, fun H12 e12 t12 => heard_of ?_⟩
    have s12 := s11.lam ap e12 t12
    have hty3 : TyX K H12 v ty := hty1 H12 e12
    refine heard_odd hty3 hty2 fun H13 e13 => ⟨rfl, Or.inl ⟨rfl, ?_⟩⟩
    have s13 := s12.ex ap e13
    exact hD _ _ ⟨⟨_, _, _, _, _, _, _, _, _, _, _, _, _, rfl⟩, s13.pen.le (by omega), s13.tab⟩
  obtain ⟨tLb, hTB, hRB⟩ : ∃ t, PSs (cxOf (L2.CX P w) P w K mg base ["script", "pen", "turn", "kinds", "some", "text", "again", "rows", "odd", "names", "signs", "title", "wrong", "at", "times"] "_law_part_two" (defScope s__law_part_two) (fAd K ("_law_part_two", none)) (.ref (He.codeOf K ("_law_part_two", none))) A outer s H E) (loopBody ((defBody s__law_part_two).getD 1 (.Pass ⟨0, 0, 0, 0⟩))) t ∧ ∀ (D : Ends) (c l : Addr) (i : Nat) σ H2, (∀ σ H', TwoInv sa c l T (i + 1) σ H' → D.nx σ H') → i < 4 → TwoInv sa c l T i σ H2 → t D (σ.set 2 (some (.int (i : Nat)))) H2 := by
    refine ⟨_, (pss_cons (ps_par (i := 9) (j := 10) rfl nd rfl rfl (by decide) rfl rfl (pa_cons (pe_fn c__law_names hr (passD (E := E)) (pa_cons (pv 1) (pa_cons pe_int pa_nil)) (by omega)) (pa_cons (pe_fn c__law_signs hr (passD (E := E)) (pa_cons (pv 1) (pa_cons pe_int pa_nil)) (by omega)) pa_nil)) (by first | rfl | with_unfolding_all rfl))
      (pss_cons (ps_setLc (i := 3) rfl nd rfl rfl (sw_true rfl rfl rfl rfl) (k_pi_list (K := K) rfl (pe_fn c__law_kinds hr (passD (E := E)) (pa_cons (pv 1) (pa_cons (pv 9) pa_nil)) (by omega))) (blkOk_by (N := ["script", "pen", "turn", "kinds", "some", "text", "again", "rows", "odd", "names", "signs", "title", "wrong", "at", "times"]) (sc := defScope s__law_part_two) (own := [("title", 11)]) (by decide +kernel)) (fun _ _ _ _ _ => (pg_name nd (i := 11) rfl (Or.inl rfl))) (fun _ _ _ _ _ => pts_nil) (fun _ _ _ _ _ => (pe_tup (pa_cons (pv 11) (pa_cons (pe_op op_add pe_int (pe_fn c__law_draw hr passL (pa_cons (pv 1) (pa_cons pe_int pa_nil)) (by omega))) pa_nil)))))
      (pss_cons (ps_set (i := 4) nd rfl (Or.inr rfl) (pe_lc rfl nd (k_pi_list (K := K) rfl (pv 3)) (blkOk_by (N := ["script", "pen", "turn", "kinds", "some", "text", "again", "rows", "odd", "names", "signs", "title", "wrong", "at", "times"]) (sc := defScope s__law_part_two) (own := [("title", 11), ("times", 14)]) (by decide +kernel)) (fun _ _ _ _ _ => (k_pg_tup (K := K) (n := 2) rfl rfl (pgs_cons (pg_name nd (i := 11) rfl (Or.inl rfl)) (pgs_cons (pg_name nd (i := 14) rfl (Or.inl rfl)) pgs_nil)))) (fun _ _ _ _ _ => pts_nil) (fun _ _ _ _ _ => (pe_mk k_Kind hr passL (pa_cons (pv 11) (pa_cons (pv 14) pa_nil)) (by omega)))))
      (pss_cons (ps_set (i := 5) nd rfl (Or.inr rfl) (pe_fn c__law_text hr (passD (E := E)) (pa_cons (pe_fn c__law_plan hr (passD (E := E)) (pa_cons (pv 1) (pa_cons (pv 3) (pa_cons (pv 9) (pa_cons (pv 10) (pa_cons (pe_op op_add pe_int (pe_fn c__law_draw hr (passD (E := E)) (pa_cons (pv 1) (pa_cons pe_int pa_nil)) (by omega))) pa_nil))))) (by omega)) pa_nil) (by omega)))
      (pss_cons (ps_set (i := 5) nd rfl (Or.inr rfl) (pe_ifExp (pt_cmpR op_lt (pe_callB (k_len (K := K) rfl) rfl z.b_len boot_len (pa_cons (pv 5) pa_nil)) pe_int (nomark _)) (pv 5) pe_str))
      hT5))))), fun D c l i σ H0 hD hi h => ?_⟩
    obtain ⟨⟨x2, x3, x4, x5, x6, x7, x8, x9, x10, x11, x12, x13, x14, rfl⟩, hp0, hT0⟩ := h
    simp [tRet, tRetN, tSeq, tIfS, tDrop, tNext, tNever, tBreak, tCont, tAsg, gName, gCons, gNil, gTup, tAndV, tOrV, tNotV, tAnd, tOr, tNot, tOp, tUn, tVar, tC, tB, tTest, tIf, tCons, tNil, tCB, tTup, tLst, tFld, sFld, sFldAug, rAdd, rSub, tSl, tPart, tNoPart, rI0, rI, rU, rEq, rNe, rSlS, rSlL, rIxL, rIxT, rIxS, tChain, tFn, tMt, tM1, tM0, tBM, rAppend, rIn, tIsN, tNotN, scal_ss, scal_ii, let_nil, let_one, fig_nil, fig_one, LenV_str, L2.start, cxOf, and_assoc, tJs, tFmt, put_at, lk_at, lk_script, lk_upcoming, lk_refuse, lk_skips, lk_expect, lk_word_of, lk_name_unlike, lk_number_to, lk_finish, sp0, sp1, sp2, sp3, sp4, sp5, -List.lookup_eq_none_iff, tPar]
    refine ⟨c, l, 1000 * i, 6, rfl, rfl, by omega, hp0, by omega, fun qn ns H1 hns k1 hqn hqnc hqnl hp1 => ?_⟩
    refine ⟨c, l, 1000 * i + 20, 8, rfl, rfl, by omega, by omega, hp1, by omega, fun qg ss H2 hss k2 hqg hqgc hqgl hp2 => ?_⟩
    have hqnl2 := k2 _ _ hqnc hqnl
    refine lc_openL ?_
    simp [tRet, tRetN, tSeq, tIfS, tDrop, tNext, tNever, tBreak, tCont, tAsg, gName, gCons, gNil, gTup, tAndV, tOrV, tNotV, tAnd, tOr, tNot, tOp, tUn, tVar, tC, tB, tTest, tIf, tCons, tNil, tCB, tTup, tLst, tFld, sFld, sFldAug, rAdd, rSub, tSl, tPart, tNoPart, rI0, rI, rU, rEq, rNe, rSlS, rSlL, rIxL, rIxT, rIxS, tChain, tFn, tMt, tM1, tM0, tBM, rAppend, rIn, tIsN, tNotN, scal_ss, scal_ii, let_nil, let_one, fig_nil, fig_one, LenV_str, L2.start, cxOf, and_assoc, tJs, tFmt, put_at, lk_at, lk_script, lk_upcoming, lk_refuse, lk_skips, lk_expect, lk_word_of, lk_name_unlike, lk_number_to, lk_finish, sp0, sp1, sp2, sp3, sp4, sp5, -List.lookup_eq_none_iff]
    refine ⟨c, l, qn, 1000 * i + 20 + 22, ns, rfl, rfl, hqnc, hqnl2, hns, hp2, by omega, fun qk kn H3 hkn k3 hqk hqkc hqkl hp3 => ⟨qk, rfl, ⟨_, SqL.of hqkl⟩, ?_⟩⟩
    have hknl : (txV kn).length = kn.length := by simp [txV]
    have hkn3 := hkn.le
    have hkn1 := hkn.ne
    refine lcf_penL (c := c) (l := l) (n := 1000 * i + 20 + 22 + 3) (fun _ j acc H' => ∃ ks : List Knd, ks.map (·.1) = kn.take j ∧ (∀ k ∈ ks, 1 ≤ k.2 ∧ k.2 ≤ 8) ∧ PairsL H' ks acc) 1 monG_name monT_yes hqkl hqkc (by rw [hknl]; omega) hp3 (fun _ => ⟨[], by simp, (by intro k hk; cases hk), rfl⟩) (fun _ j acc H4 H5 k ⟨ks, a1, a2, a3⟩ => ⟨ks, a1, a2, a3.mono k.2⟩) (fun j x hx => ?_) (fun qp acc H4 hqp hqpc k4 hp4 hqpl hal ⟨ks, a1, a2, a3⟩ => ?_)
    · intro D4 acc H4 R hD4 hD4c k4 hp4 hD4l ⟨ks, a1, a2, a3⟩ hR
      obtain ⟨nm, hnm, rfl⟩ : ∃ nm, kn[j]? = some nm ∧ x = .str (S nm) := by
        unfold txV at hx
        rw [List.getElem?_map] at hx
        cases e : kn[j]? with
        | none => rw [e] at hx; cases hx
        | some nm => rw [e] at hx; exact ⟨nm, rfl, (Option.some.inj hx).symm⟩
      have hj := (List.getElem?_eq_some_iff.mp hnm).1
      simp [tRet, tRetN, tSeq, tIfS, tDrop, tNext, tNever, tBreak, tCont, tAsg, gName, gCons, gNil, gTup, tAndV, tOrV, tNotV, tAnd, tOr, tNot, tOp, tUn, tVar, tC, tB, tTest, tIf, tCons, tNil, tCB, tTup, tLst, tFld, sFld, sFldAug, rAdd, rSub, tSl, tPart, tNoPart, rI0, rI, rU, rEq, rNe, rSlS, rSlL, rIxL, rIxT, rIxS, tChain, tFn, tMt, tM1, tM0, tBM, rAppend, rIn, tIsN, tNotN, scal_ss, scal_ii, let_nil, let_one, fig_nil, fig_one, LenV_str, L2.start, cxOf, and_assoc, tJs, tFmt, put_at, lk_at, lk_script, lk_upcoming, lk_refuse, lk_skips, lk_expect, lk_word_of, lk_name_unlike, lk_number_to, lk_finish, sp0, sp1, sp2, sp3, sp4, sp5, -List.lookup_eq_none_iff, LcTurn, tYes, wipe]
      refine ⟨c, l, _, 8, rfl, rfl, hp4, by omega, by omega, by omega, fun d H5 hd k5 hp5 => ⟨_, rfl, by rw [sizeLine_eq]; omega, fun b hb => ?_⟩⟩
      have ed : (1 : Int) + (d : Int) = ((1 + d : Nat) : Int) := by omega
      rw [ed]
      refine hR _ _ (K1.trans k5 (K1.of (Ex.new hb))) ((hp5.ex (Ex.new hb)).le (by omega)) ⟨ks ++ [(nm, 1 + d)], ?_, ?_, ?_⟩
      · rw [List.map_append, a1, List.take_add_one, hnm]
        rfl
      · intro k hk
        rcases List.mem_append.mp hk with hk | hk
        · exact a2 k hk
        · rw [List.mem_singleton.mp hk]
          exact ⟨by show 1 ≤ 1 + d; omega, by show 1 + d ≤ 8; omega⟩
      · refine PairsL.snoc (k := (nm, 1 + d)) upd_same (PairsL.mono (fun a xs h => Ex.new hb _ _ (K1.tup hp4 k5 a xs h)) a3)
    · rw [hknl] at a1 hp4
      rw [List.take_length] at a1
      have hksl : ks.length = kn.length := by
        have := congrArg List.length a1
        simpa using this
      have hacl := a3.len
      refine lc_relL (a := qp) (xs := acc) (fun j ac H' => KinL K H' (ks.take j) ac) (fun R h => ⟨_, rfl, h⟩) monG_tup2 monT_yes (by omega) (SqL.of hqpl) ⟨[], rfl, rfl, fun _ _ _ h _ => by simp at h⟩ (fun j ac H5 H6 hst h => h.st ap hst) (fun j y ac H5 R hj e5 h hR => ?_) fun qs ac H5 e5 hqs hqsl hacl2 h => ?_
      · obtain ⟨k0, q0, hk0, rfl, hq0⟩ := (a3.mono fun a xs h => e5 _ _ h).get hj
        have hk0m := List.mem_of_getElem? hk0
        have hk0n : nameOk k0.1 = true := hkn.ok _ (by rw [← a1]; exact List.mem_map_of_mem (f := (·.1)) hk0m)
        refine ⟨_, _, rfl, SqT.of hq0, rfl, _, _, rfl, _, _, rfl, rfl, rfl, ?_⟩
        simp [tRet, tRetN, tSeq, tIfS, tDrop, tNext, tNever, tBreak, tCont, tAsg, gName, gCons, gNil, gTup, tAndV, tOrV, tNotV, tAnd, tOr, tNot, tOp, tUn, tVar, tC, tB, tTest, tIf, tCons, tNil, tCB, tTup, tLst, tFld, sFld, sFldAug, rAdd, rSub, tSl, tPart, tNoPart, rI0, rI, rU, rEq, rNe, rSlS, rSlL, rIxL, rIxT, rIxS, tChain, tFn, tMt, tM1, tM0, tBM, rAppend, rIn, tIsN, tNotN, scal_ss, scal_ii, let_nil, let_one, fig_nil, fig_one, LenV_str, L2.start, cxOf, and_assoc, tJs, tFmt, put_at, lk_at, lk_script, lk_upcoming, lk_refuse, lk_skips, lk_expect, lk_word_of, lk_name_unlike, lk_number_to, lk_finish, sp0, sp1, sp2, sp3, sp4, sp5, -List.lookup_eq_none_iff, tYes, wipe, tMakeR]
        intro x2 dx hx hdx hxd
        refine ⟨x2, dx, k0.1, k0.2, rfl, rfl, rfl, upd_same, hk0n, (a2 k0 hk0m).1, (a2 k0 hk0m).2, fun H7 k7 hp7 => ⟨rfl, ?_⟩⟩
        have e7 := made_ex hx hdx k7
        refine hR _ H7 e7 ?_
        rw [List.take_add_one, hk0]
        exact KinL.snoc (h.st ap (Stb.of e7)) hp7
      have hkin : KinL K H5 ks ac := by
        rw [hacl, List.take_length] at h
        exact h
      have hp5 := hp4.ex e5
      have hqsc : qs ≠ c := hp4.nec hqs
      refine ⟨c, l, _, 4, rfl, rfl, hp5, by omega, by omega, by omega, fun d0 H6 hd0 k6 hp6 => ⟨_, rfl, 1 + d0, by omega, ?_⟩⟩
      have ed : (1 : Int) + (d0 : Int) = ((1 + d0 : Nat) : Int) := by omega
      rw [ed]
      have kA : K1 c H2 H6 := K1.trans k3 (K1.trans k4 (K1.trans (K1.of e5) k6))
      have hdr : drawsOf (1 + d0) ≤ 345 ∧ longOf (1 + d0) ≤ 2042 := by
        have : d0 = 0 ∨ d0 = 1 ∨ d0 = 2 ∨ d0 = 3 := by omega
        rcases this with rfl | rfl | rfl | rfl <;> decide
      have a3' : PairsL H6 ks acc := (a3.mono fun a xs h => K1.tup hp5 k6 _ _ (e5 _ _ h))
      have env : PlanEnv H6 c l qp qn qg (1000 * i + 20 + 22 + 3 + 1 * kn.length + 1) ks ns ss acc := {
        pen := hp6
        np := hqpc
        nt := hqnc
        ns := hqgc
        hp := k6 _ _ hqpc (e5 _ _ hqpl)
        ht := kA _ _ hqnc hqnl2
        hs := kA _ _ hqgc hqgl
        each := a3'.each
        kok := fun k hk => ⟨hkn.ok _ (by rw [← a1]; exact List.mem_map_of_mem (f := (·.1)) hk), a2 k hk⟩
        tok := hns.ok
        sok := hss
        pne := by
          intro e
          rw [e] at hacl
          simp at hacl
          omega
        pl := by omega
        tne := by
          intro e
          have := hns.len
          rw [e] at this
          cases this
        tl := by rw [hns.len]; omega }
      refine ⟨c, l, qp, qn, qg, _, ks, ns, ss, acc, rfl, rfl, rfl, rfl, rfl, env, by omega, fun xp p H7 k7 hp7 hpl hok hdp hlen => ?_⟩
      refine ⟨_, p, xp, ks, rfl, hpl, hok, by omega, by omega, fun H8 e8 => ?_⟩
      obtain ⟨tn, nr, ens⟩ : ∃ tn nr, ns = tn :: nr := by
        cases hz : ns with
        | nil => have := hns.len; rw [hz] at this; cases this
        | cons a b => exact ⟨a, b, rfl⟩
      have hp8 := hp7.ex e8
      have kB : K1 c H5 H8 := K1.trans k6 (K1.trans k7 (K1.of e8))
      have hkn' : KNames ns (ks.map (·.1)) := by rw [a1]; exact hkn
      have hT8 : TitleOk ks tn := title_ok hns ens hkn'
      have hO : KsOk ks := ⟨by rw [a1]; exact hkn.nd, fun q hq => hkn.ok _ (by rw [← a1]; exact List.mem_map_of_mem (f := (·.1)) hq), by omega⟩
      have tabs : Tabs T H8 := Tabs.k1 hp5 kB ((Tabs.k1 hp0 (K1.trans k1 (K1.trans k2 (K1.trans k3 k4))) hT0).ext e5)
      have st : Tst K T c l ks qs ac qn (tn :: nr) H8 (1000 * i + 20 + 22 + 3 + 1 * kn.length + 1 + 345) := {
        pen := hp8.le (by omega)
        tab := tabs
        nqc := hqnc
        qsc := hqsc
        nl := by rw [← ens]; exact kB _ _ hqnc (e5 _ _ (k4 _ _ hqnc (k3 _ _ hqnc hqnl2)))
        ql := kB _ _ hqsc hqsl
        kin := hkin.st ap (hp5.stb kB) }
      have hkne : ks ≠ [] := fun e => by
        rw [e] at hksl
        simp at hksl
        omega
      refine ⟨p.text.length, ⟨by rw [S_len, sizeLine_eq]; omega, by rw [S_len]⟩, ?_⟩
      split
      · exact hR5 D c l i _ p ks qs qn ac tn nr _ _ _ _ _ _ _ _ _ _ H8 hD hi (by omega) st hO hkne hok (by omega) (by omega) hT8
      · exact hR5 D c l i _ .byte ks qs qn ac tn nr _ _ _ _ _ _ _ _ _ _ H8 hD hi (by omega) st hO hkne trivial (Nat.zero_le _) (by decide) hT8
  obtain ⟨tRs, hTF, hRF⟩ : ∃ t, PSs (cxOf (L2.CX P w) P w K mg base ["script", "pen", "turn", "kinds", "some", "text", "again", "rows", "odd", "names", "signs", "title", "wrong", "at", "times"] "_law_part_two" (defScope s__law_part_two) (fAd K ("_law_part_two", none)) (.ref (He.codeOf K ("_law_part_two", none))) A outer s H E) ((defBody s__law_part_two).drop 1) t ∧ ∀ (c l : Addr) H2, PenAt H2 c l 0 → Tabs T H2 → t { nx := fun _ H' => Q .non H', rt := Q } [some (.ref sa), some (.ref c), none, none, none, none, none, none, none, none, none, none, none, none, none] H2 := by
    refine ⟨_, pss_cons (ps_for (passes_of rfl) rfl (pi_range1 rfl z.b_range (pa_cons pe_int pa_nil)) (pg_name nd (i := 2) rfl (Or.inl rfl)) hTB) (pss_one (ps_ret pe_bl)), fun c l H2 hp hT2 => ?_⟩
    simp only [tSeq]
    refine tfor_rng (m := 4) (fun R h => h) (by decide) (fun j σ H => TwoInv sa c l T j σ H) ⟨⟨_, _, _, _, _, _, _, _, _, _, _, _, _, rfl⟩, hp, hT2⟩ (fun j σ H3 hj h => ?_) (fun σ H3 h => ?_)
    · exact hRB _ c l j σ H3 (fun _ _ h => h) hj h
    · exact hq H3
  refine ⟨_, (pss_cons (ps_set (i := 1) nd rfl (Or.inr rfl) (pe_fn c__law_pen hr (passD (E := E)) (pa_cons (pv 0) pa_nil) (by omega)))
      hTF), ?_⟩
  simp [tRet, tRetN, tSeq, tIfS, tDrop, tNext, tNever, tBreak, tCont, tAsg, gName, gCons, gNil, gTup, tAndV, tOrV, tNotV, tAnd, tOr, tNot, tOp, tUn, tVar, tC, tB, tTest, tIf, tCons, tNil, tCB, tTup, tLst, tFld, sFld, sFldAug, rAdd, rSub, tSl, tPart, tNoPart, rI0, rI, rU, rEq, rNe, rSlS, rSlL, rIxL, rIxT, rIxS, tChain, tFn, tMt, tM1, tM0, tBM, rAppend, rIn, tIsN, tNotN, scal_ss, scal_ii, let_nil, let_one, fig_nil, fig_one, LenV_str, L2.start, cxOf, and_assoc, tJs, tFmt, put_at, lk_at, lk_script, lk_upcoming, lk_refuse, lk_skips, lk_expect, lk_word_of, lk_name_unlike, lk_number_to, lk_finish, sp0, sp1, sp2, sp3, sp4, sp5, -List.lookup_eq_none_iff]
  exact ⟨sa, ns, rfl, hs, fun c l H1 e1 hc hp => hRF c l H1 hp (hT.ext e1)⟩
end
end Mp

set_option maxHeartbeats 4000000
/-! Kz8: the law's first part -/
namespace Mp
open PySem PySem.Spec PyProof.Rows L2
open StX (tMakeR run_makeR pe_makeR)
open He (ga ma fAd)
section
variable {X : Cx} {CX : CXT} {k : Nat} {f : Addr} {fd : FuncData} {ps ks : List Str} {sp : Sp} {E : XK} {x : Str} {p pos : Pos} {kws : List Keyword} {tk : TA} {g : List Value → List Value → List Value} {gV : List V → List V → List V}
/-- f(k = v, ..), nothing by position -/
theorem pe_callK0 (F : FnOk X.prog X.w X.K X.mg X.base CX k f fd ps sp) (hr : Room k X.A) (hg : Gl X x) (hm : X.mg x = some (.ref f)) (hk : PySem.W.keepIn X.K (.ref f) = true) (hb : KBinds X.K fd ps ks g gV) (hx : Passes CX X E) (hkw : PK X kws tk)
    (hall : (backToKw pos (keywordEach kws X.env)).all (·.1.isSome) = true := by rfl) (hks : (backToKw pos (keywordEach kws X.env)).filterMap (·.1) = ks := by rfl) (hdb : (x == ("__debug__" : Str)) = false := by decide)
    (hpl : ((backTo pos (starEach [] X.env)).any (·.1) || (backToKw pos (keywordEach kws X.env)).any (·.1.isNone)) = false := by rfl) : PE X (.Call (.Name x p) [] kws pos) (tCallK sp gV E tNil tk) := by
  refine ⟨fun pins s σ H Q I h => wpAny_Call_Name_kw (ld_glob I hg hm ?_ hdb)⟩
  refine PySem.W.callWith_KW0 (h₀ := X.base) I.ok.mod.kin hk hall (thn (hkw.run pos pins s σ H _ I h) fun ws s2 ⟨zs, H2, I2, rz, q2⟩ => ⟨I2.kIn, ?_⟩) hpl
  rw [hks]
  exact run_fnk (us := []) (vs := []) F hr hb hx I2 .nil rz q2
end
def swapG {α : Type} : List α → List α → List α
  | [], [a, b] => [b, a]
  | _, _ => []
theorem swap_rel {vs zs : List V} {us ws : List Value} (r : Vals vs us) (q : Vals zs ws) : Vals (swapG vs zs) (swapG us ws) := by
  cases r with
  | cons h t =>
    cases q <;> exact .nil
  | nil =>
    cases q with
    | nil => exact .nil
    | cons h1 t1 =>
      cases t1 with
      | nil => exact .nil
      | cons h2 t2 =>
        cases t2 with
        | nil => exact .cons h2 (.cons h1 .nil)
        | cons h3 t3 => exact .nil
section
variable {P : Program} {w : World} {K : PySem.W.Frag} {mg : Str → Option Value} {base : Heap}
theorem kb_read_part {fd : FuncData} (F : FunD K "read_part" "read_part" (defArgs s_read_part) (defBody s_read_part) (defScope s_read_part) [] [] (fAd K ("read_part", none)) fd) : KBinds K fd ["text", "kinds"] ["kinds", "text"] swapG swapG := by
  obtain ⟨oc, od, dV, kV, doc, pm, an, cdv, ct, osl, rfl, lk, hcd, hD, _⟩ := F.ex
  have hdn : dV = .none := by
    rcases hD with ⟨_, h⟩ | ⟨h, _⟩
    · exact h
    · exact absurd rfl h
  subst hdn
  refine ⟨fun s us ws X hl => ?_, fun r q => swap_rel r q⟩
  match us, ws, hl with
  | [], [a, b], _ => exact .of_eq rfl
theorem okk_read_part (z : Zk K mg base) (m_Cursor_finish : Cmt P w K mg base (ga K "Cursor") "finish" 4 (sp_Cursor_finish K)) (ap : Apart K) (k_Cursor : Cmk P w K mg base "Cursor" (ga K "Cursor") 3 (sp_Cursor___init__ K)) (c_read_inner : Cal P w K mg base "read_inner" 16 (spInner 4 K)) : ∃ fd, FunD K "read_part" "read_part" (defArgs s_read_part) (defBody s_read_part) (defScope s_read_part) [] [] (fAd K ("read_part", none)) fd ∧ FnOk P w K mg base (L2.CX P w) (17 + 1) (fAd K ("read_part", none)) fd ["text", "kinds"] ((spReadPart K)) := by
  obtain ⟨fd, F⟩ := z.d_read_part
  refine ⟨fd, F, F.ok (P := P) (w := w) (mg := mg) (base := base) (CX := L2.CX P w) sc_read_part (fun vs H Q E h => by match vs, h with | [_, _], _ => rfl) (fun cdv A outer s H vs Q E hr h => ?_)⟩
  have nd := sc_read_part.nd
  have hu : (cxOf (L2.CX P w) P w K mg base ["text", "kinds", "cursor", "found"] "read_part" (defScope s_read_part) (fAd K ("read_part", none)) cdv A outer s H E).A.units + 64 < cLine := hr.units
  have hu0 := hr.units0
  have hu1 := hu_of hr
  match vs, h with
  | [a0, a1], h =>
  refine ⟨_, (pss_cons (ps_set (i := 2) nd rfl (Or.inl rfl) (pe_mk k_Cursor hr (passD (E := E)) (pa_cons (pv 0) pa_nil)))
      (pss_cons (ps_set (i := 3) nd rfl (Or.inl rfl) (pe_fn c_read_inner hr (passD (E := E)) (pa_cons (pv 2) (pa_cons (pv 1) (pa_cons (k_cval (K := K) rfl (pe_gref z.g_Part)) pa_nil)))))
      (pss_cons (ps_expr (pe_mt0 (pv 2) m_Cursor_finish hr (passD (E := E))))
      (pss_one (ps_ret (pv 3)))))), ?_⟩
  obtain ⟨mp, up, cp1, cp2⟩ := z.k_Part_DEPTH
  simp [tRet, tRetN, tSeq, tIfS, tDrop, tNext, tNever, tBreak, tCont, tAsg, gName, gCons, gNil, gTup, tAndV, tOrV, tNotV, tAnd, tOr, tNot, tOp, tUn, tVar, tC, tB, tTest, tIf, tCons, tNil, tCB, tTup, tLst, tFld, sFld, sFldAug, rAdd, rSub, tSl, tPart, tNoPart, rI0, rI, rU, rEq, rNe, rSlS, rSlL, rIxL, rIxT, rIxS, tChain, tFn, tMt, tM1, tM0, tBM, rAppend, rIn, tIsN, tNotN, scal_ss, scal_ii, let_nil, let_one, fig_nil, fig_one, LenV_str, L2.start, cxOf, and_assoc, tJs, tFmt, put_at, lk_at, lk_script, lk_upcoming, lk_refuse, lk_skips, lk_expect, lk_word_of, lk_name_unlike, lk_number_to, lk_finish, sp0, sp1, sp2, sp3, sp4, sp5, -List.lookup_eq_none_iff, ClX.tCVal, tMakeR]
  intro x dx hx hdx hxd
  have e0 := made_ex0 (C := ga K "Cursor") hx hdx
  rcases h with ⟨l, ka, ks, rfl, rfl, hl, hK, hO, hq⟩ | ⟨ty, hty, hk, hb⟩
  · refine ⟨x, dx, rfl, upd_same, Or.inl ⟨l, rfl, rfl, ?_⟩⟩
    rw [upd_upd]
    have e1 : Ex H (upd (upd H dx (.own x)) x (.ins (ga K "Cursor") dx [("script", .str (S l)), ("at", .int 0)])) := fun b o hbo => by
      have n1 : b ≠ x := ne_of_none hbo hx
      have n2 : b ≠ dx := ne_of_none hbo hdx
      rw [upd_ne n1, upd_ne n2]
      exact hbo
    have hC : CurR K (upd (upd H dx (.own x)) x (.ins (ga K "Cursor") dx [("script", .str (S l)), ("at", .int 0)])) x l l := ⟨List.suffix_refl l, hl, dx, by rw [upd_same, Nat.sub_self]; rfl⟩
    have upE : ∀ {H1 : Hp}, K1 x (upd (upd H dx (.own x)) x (.ins (ga K "Cursor") dx [("script", .str (S l)), ("at", .int 0)])) H1 → Ex H H1 := fun k b o hbo => k b o (ne_of_none hbo hx) (e1 b o hbo)
    refine ⟨mp, cp1, _, ⟨up, cp2⟩, x, ka, l, l, ks, rfl, rfl, rfl, hC, hK.ex ap e1, hO, ?_⟩
    unfold readPart at hq
    cases hi : readInner ks 4 l with
    | bad r =>
      rw [hi] at hq
      intro d H' k h
      exact hq d H' (upE k) h
    | ok p r =>
      rw [hi] at hq
      intro a H1 k1 hC1 hp
      obtain ⟨hs1, hl1, dx1, hc1⟩ := id hC1
      refine ⟨_, _, hc1, rfl, x, l, r, rfl, hC1, fun e => ?_, fun e => ?_⟩
      · subst e
        exact hq a H1 (upE k1) hp
      · intro d H' k h
        cases r with
        | nil => exact absurd rfl e
        | cons y r => exact hq d H' (upE (K1.trans k1 k)) h
  · refine ⟨x, dx, rfl, upd_same, Or.inr ⟨ty, TyX.ex e0 hty, hk, fun d H' k h => hb d H' (made_ex hx hdx k) h⟩⟩
end
end Mp

set_option maxHeartbeats 4000000
/-! Kz9: the law's first part, walked -/
namespace Mp
open PySem PySem.Spec PyProof.Rows L2
open StX (tMakeR run_makeR pe_makeR)
open He (ga ma fAd)
section
variable {P : Program} {w : World} {K : PySem.W.Frag} {mg : Str → Option Value} {base : Heap}
mutual
theorem PtOk.perm {ks ks' : List Knd} (h : ∀ k ∈ ks, k ∈ ks') : ∀ p : Pt, PtOk ks p → PtOk ks' p
  | .kind n t, o => ⟨o.1, h _ o.2⟩
  | .byte, _ => trivial
  | .use n, o => o
  | .row n p, o => ⟨o.1, o.2.1, PtOk.perm h p o.2.2⟩
  | .rec_ fs, o => ⟨o.1, o.2.1, o.2.2.1, FsOkk.perm h fs o.2.2.2⟩
  | .ovl fs, o => ⟨o.1, o.2.1, o.2.2.1, FsOkk.perm h fs o.2.2.2⟩
theorem FsOkk.perm {ks ks' : List Knd} (h : ∀ k ∈ ks, k ∈ ks') : ∀ fs : Fs, FsOkk ks fs → FsOkk ks' fs
  | .nil, _ => trivial
  | .cons n p r, o => ⟨o.1, PtOk.perm h p o.2.1, FsOkk.perm h r o.2.2⟩
end
theorem KsOk.rev {ks : List Knd} (h : KsOk ks) : KsOk ks.reverse := ⟨by rw [List.map_reverse]; exact nd_rev h.nd, fun q hq => h.ok q (List.mem_reverse.mp hq), by rw [List.length_reverse]; exact h.len⟩
theorem KinL.rev {H : Hp} {ks : List Knd} {acc : List V} (h : KinL K H ks acc) : KinL K H ks.reverse acc.reverse := by
  obtain ⟨as, h1, h2, h3⟩ := h
  refine ⟨as.reverse, by rw [h1, List.map_reverse], by rw [List.length_reverse, List.length_reverse, h2], fun i q b hq hb => ?_⟩
  have hi : i < ks.length := by
    have := (List.getElem?_eq_some_iff.mp hq).1
    rwa [List.length_reverse] at this
  rw [List.getElem?_reverse hi] at hq
  rw [List.getElem?_reverse (by omega), h2] at hb
  exact h3 _ q b hq hb
/-- what read_part does with a part's text -/
theorem part_back {H : Hp} {ks : List Knd} {p : Pt} {q : Addr} {Q : VK} {E : XK} (hk : KindsAt K H ks q) (hO : KsOk ks) (hok : PtOk ks p) (hd : p.depth ≤ 4) (hl : p.text.length ≤ 10000) (hq : ∀ a H', Ex H H' → PartAt K H' p a → Q (.ref a) H') :
    spReadPart K [.str (S p.text), .ref q] H Q E := by
  refine Or.inl ⟨p.text, q, ks, rfl, rfl, hl, hk, hO, ?_⟩
  unfold EndsX
  rw [read_ok ⟨hO.nd, hO.ok⟩ hok hd]
  exact hq
theorem Ex.k1 {H0 H2 H3 : Hp} {c : Addr} (e : Ex H0 H2) (hc : H0 c = none) (k : K1 c H2 H3) : Ex H0 H3 := fun a o h => k a o (ne_of_none h hc) (e a o h)
def OneInv (H0 : Hp) (s c l : Addr) (i : Nat) (σ : L2.St) (H : Hp) : Prop := (∃ x2 x3 x4 x5 x6 x7 x8 x9 x10 x11 x12, σ = [some (.ref s), some (.ref c), x2, x3, x4, x5, x6, x7, x8, x9, x10, x11, x12]) ∧ PenAt H c l (1000 * i) ∧ Ex H0 H
def spOne (K : PySem.W.Frag) : Sp := sp1 fun a H Q _ => ∃ (s : Addr) (ns : List Int), a = .ref s ∧ SqL K H s (ns.map V.int) ∧ ∀ H', Ex H H' → Q (.bl true) H'
theorem sc__law_part_one : FnScope ["script", "pen", "turn", "pairs", "some", "plan", "face", "found", "names", "signs", "part", "title", "times"] ["script"] (defScope s__law_part_one) := ⟨rfl, rfl, rfl, by decide +kernel, rfl, by decide +kernel, by decide +kernel⟩
theorem ok__law_part_one (z : Zk K mg base) (c__law_pen : Cal P w K mg base "_law_pen" 2 ((spPen K))) (c__law_draw : Cal P w K mg base "_law_draw" 2 spDraw) (c__law_pick : Cal P w K mg base "_law_pick" 3 spPick) (c__law_names : Cal P w K mg base "_law_names" 4 spNames) (c__law_signs : Cal P w K mg base "_law_signs" 5 spSigns) (c__law_kinds : Cal P w K mg base "_law_kinds" 3 spKinds) (ze : Ze K) (ap : Apart K) {fdr : FuncData} (FR : FunD K "read_part" "read_part" (defArgs s_read_part) (defBody s_read_part) (defScope s_read_part) [] [] (fAd K ("read_part", none)) fdr) (FK : FnOk P w K mg base (L2.CX P w) 18 (fAd K ("read_part", none)) fdr ["text", "kinds"] (spReadPart K)) (c_read_part : Cal P w K mg base "read_part" 18 (spReadPart K)) (c__law_plan : Cal P w K mg base "_law_plan" 8 (spPlanA K)) (c__law_text : Cal P w K mg base "_law_text" 6 (spTextP 5)) (c__law_part : Cal P w K mg base "_law_part" 13 (spPartP 5 K)) (k_Kind : Cmk P w K mg base "Kind" (ga K "Kind") 3 (spKind K)) : Cal P w K mg base "_law_part_one" 31 ((spOne K)) := by
  obtain ⟨fd, F⟩ := z.d__law_part_one
  refine cal_of F z.g__law_part_one sc__law_part_one (fun _ _ _ _ _ _ us hl => match us, hl with | [_], _ => rfl) (fun vs H Q E h => by match vs, h with | [_], _ => rfl) (fun cdv A outer s H vs Q E hr h => ?_)
  have nd := sc__law_part_one.nd
  have hu : (cxOf (L2.CX P w) P w K mg base ["script", "pen", "turn", "pairs", "some", "plan", "face", "found", "names", "signs", "part", "title", "times"] "_law_part_one" (defScope s__law_part_one) (fAd K ("_law_part_one", none)) cdv A outer s H E).A.units + 64 < cLine := hr.units
  have hu0 := hr.units0
  have hu1 := hu_of hr
  match vs, h with
  | [a0], h =>
  obtain ⟨sa, ns, rfl, hs, hq⟩ := h
  have tx := txt_all (P := P) (w := w) z ap
  have sh := shp_all (P := P) (w := w) z ap
  have feq := ok_Part___eq__ (P := P) (w := w) z ap sh
  have fst := ok_Part___str__ (P := P) (w := w) z tx
  obtain ⟨t8, hT8, hR8⟩ : ∃ t, PSs (cxOf (L2.CX P w) P w K mg base ["script", "pen", "turn", "pairs", "some", "plan", "face", "found", "names", "signs", "part", "title", "times"] "_law_part_one" (defScope s__law_part_one) (fAd K ("_law_part_one", none)) cdv A outer s H E) ((loopBody ((defBody s__law_part_one).getD 1 (.Pass ⟨0, 0, 0, 0⟩))).drop 8) t ∧ ∀ (D : Ends) (c l : Addr) (i : Nat) (p : Pt) (ks : List Knd) (qs xp xf : Addr) (acc : List V) (x2 x3 x5 x8 x9 x11 x12 : Option V) H2,
      (∀ σ H', OneInv H sa c l (i + 1) σ H' → D.nx σ H') → PenAt H2 c l (1000 * (i + 1)) → Ex H H2 → H2 qs = some (.lst acc) → KinL K H2 ks acc → KsOk ks → PtOk ks p → p.depth ≤ 4 → p.text.length ≤ 10000 → PartAt K H2 p xp → PartAt K H2 p xf →
      t D [some (.ref sa), some (.ref c), x2, x3, some (.ref qs), x5, some (.str (S p.text)), some (.ref xf), x8, x9, some (.ref xp), x11, x12] H2 := by
    refine ⟨_, (pss_cons (ps_if (PW.pt (pw_or (pt_not (pt_cmpR (op_eqI (K := K) (k := 7) rfl (hr.mono (by decide)) (passD (E := E))) (pv 7) (pv 10) (nomark _))) (pw_or (pt_cmpR op_ne (pe_callTy (call_strI (K := K) (k := 12) rfl (hr.mono (by decide)) (passD (E := E))) rfl z.b_str boot_str (pa_cons (pv 7) pa_nil)) (pv 6) (nomark _)) (pw_or1 (pt_cmpR op_ne (k_fld (K := K) rfl (pv 7)) (k_fld (K := K) rfl (pv 10)) (nomark _)))))) (pss_one (ps_ret pe_bl)) pss_nil)
      (pss_one (ps_if (pt_not (pt_cmpR (op_eqI (K := K) (k := 7) rfl (hr.mono (by decide)) (passD (E := E))) (pe_fn c_read_part hr (passD (E := E)) (pa_cons (pv 6) (pa_cons (k_revL (K := K) rfl (pv 4)) pa_nil)) (by omega)) (pv 10) (nomark _))) (pss_one (ps_ret pe_bl)) pss_nil))), fun D c l i p ks qs xp xf acc x2 x3 x5 x8 x9 x11 x12 H2 hD hp hex hql hkin hO hok hd hl hxp hxf => ?_⟩
    simp [tRet, tRetN, tSeq, tIfS, tDrop, tNext, tNever, tBreak, tCont, tAsg, gName, gCons, gNil, gTup, tAndV, tOrV, tNotV, tAnd, tOr, tNot, tOp, tUn, tVar, tC, tB, tTest, tIf, tCons, tNil, tCB, tTup, tLst, tFld, sFld, sFldAug, rAdd, rSub, tSl, tPart, tNoPart, rI0, rI, rU, rEq, rNe, rSlS, rSlL, rIxL, rIxT, rIxS, tChain, tFn, tMt, tM1, tM0, tBM, rAppend, rIn, tIsN, tNotN, scal_ss, scal_ii, let_nil, let_one, fig_nil, fig_one, LenV_str, L2.start, cxOf, and_assoc, tJs, tFmt, put_at, lk_at, lk_script, lk_upcoming, lk_refuse, lk_skips, lk_expect, lk_word_of, lk_name_unlike, lk_number_to, lk_finish, sp0, sp1, sp2, sp3, sp4, sp5, -List.lookup_eq_none_iff]
    obtain ⟨C, dx, fs, hC, hCm, hCb⟩ := hxf.cls
    obtain ⟨dy, gs, hC2⟩ := hCb xp hxp
    obtain ⟨e1, e2⟩ := ze.eq_ C hCm
    refine ⟨C, ⟨dx, fs, hC⟩, ⟨dy, gs, hC2⟩, _, e1, ze.eqf, _, feq, p, xf, xp, rfl, rfl, hxf, hxp, by omega, hok.shaped hd, fun H3 e3 => ⟨Or.inr rfl, Or.inr ⟨rfl, ?_⟩⟩⟩
    have hxf3 := hxf.st ap (Stb.of e3)
    refine ⟨C, ⟨dx, fs, e3 _ _ hC⟩, _, e2, ze.strf, _, fst, p, xf, rfl, hxf3, by omega, hl, fun H4 e4 => ⟨⟨_, rfl⟩, rfl, Or.inl ⟨rfl, ?_⟩⟩⟩
    have e34 := Ex.trans e3 e4
    have hxf4 := hxf.st ap (Stb.of e34)
    have hxp4 := hxp.st ap (Stb.of e34)
    obtain ⟨C5, dx5, fs5, h5, _, _, cl5, na5, lk5⟩ := PartAt.obj z hxf4
    obtain ⟨C6, dx6, fs6, h6, _, _, cl6, na6, lk6⟩ := PartAt.obj z hxp4
    simp [h5, h6, cl5, cl6, na5, na6, lk5, lk6, tRevL]
    have hql4 := e34 _ _ hql
    refine ⟨_, _, _, ⟨rfl, rfl, rfl⟩, cl5, na5, _, lk5, _, _, _, ⟨rfl, rfl, rfl⟩, cl6, na6, _, lk6, rfl, Or.inl ⟨rfl, ?_⟩⟩
    refine ⟨.ref qs, rfl, qs, rfl, acc, SqL.of hql4, fun qr hqr => ?_⟩
    have e5 := Ex.new (o := .lst acc.reverse) hqr
    have hkr : KindsAt K (upd H4 qr (.lst acc.reverse)) ks.reverse qr := ((hkin.st ap (Stb.of (Ex.trans e34 e5))).rev).kinds upd_same
    refine part_back hkr hO.rev (hok.perm (fun k hk => List.mem_reverse.mpr hk)) hd hl fun xr H6 e6 hxr => ?_
    have e36 := Ex.trans e34 (Ex.trans e5 e6)
    have hxp6 := hxp.st ap (Stb.of e36)
    obtain ⟨C7, dx7, fs7, h7, hC7m, hC7b⟩ := hxr.cls
    obtain ⟨dy7, gs7, h7b⟩ := hC7b xp hxp6
    obtain ⟨e71, e72⟩ := ze.eq_ C7 hC7m
    refine ⟨xr, rfl, C7, ⟨dx7, fs7, h7⟩, ⟨dy7, gs7, h7b⟩, _, e71, ze.eqf, _, feq, p, xr, xp, rfl, rfl, hxr, hxp6, by omega, hok.shaped hd, fun H8 e8 => ?_⟩
    refine ⟨Or.inr rfl, Or.inr ⟨rfl, ?_⟩⟩
    exact hD _ _ ⟨⟨_, _, _, _, _, _, _, _, _, _, _, rfl⟩, hp.ex (Ex.trans e36 e8), Ex.trans hex (Ex.trans e36 e8)⟩
  obtain ⟨tLb, hTB, hRB⟩ : ∃ t, PSs (cxOf (L2.CX P w) P w K mg base ["script", "pen", "turn", "pairs", "some", "plan", "face", "found", "names", "signs", "part", "title", "times"] "_law_part_one" (defScope s__law_part_one) (fAd K ("_law_part_one", none)) cdv A outer s H E) (loopBody ((defBody s__law_part_one).getD 1 (.Pass ⟨0, 0, 0, 0⟩))) t ∧ ∀ (D : Ends) (c l : Addr) (i : Nat) σ H2, H c = none → (∀ σ H', OneInv H sa c l (i + 1) σ H' → D.nx σ H') → i < 4 → OneInv H sa c l i σ H2 → t D (σ.set 2 (some (.int (i : Nat)))) H2 := by
    refine ⟨_, (pss_cons (ps_par (i := 8) (j := 9) rfl nd rfl rfl (by decide) rfl rfl (pa_cons (pe_fn c__law_names hr (passD (E := E)) (pa_cons (pv 1) (pa_cons pe_int pa_nil)) (by omega)) (pa_cons (pe_fn c__law_signs hr (passD (E := E)) (pa_cons (pv 1) (pa_cons pe_int pa_nil)) (by omega)) pa_nil)) (by first | rfl | with_unfolding_all rfl))
      (pss_cons (ps_setLc (i := 3) rfl nd rfl rfl (sw_true rfl rfl rfl rfl) (k_pi_list (K := K) rfl (pe_fn c__law_kinds hr (passD (E := E)) (pa_cons (pv 1) (pa_cons (pv 8) pa_nil)) (by omega))) (blkOk_by (N := ["script", "pen", "turn", "pairs", "some", "plan", "face", "found", "names", "signs", "part", "title", "times"]) (sc := defScope s__law_part_one) (own := [("title", 11)]) (by decide +kernel)) (fun _ _ _ _ _ => (pg_name nd (i := 11) rfl (Or.inl rfl))) (fun _ _ _ _ _ => pts_nil) (fun _ _ _ _ _ => (pe_tup (pa_cons (pv 11) (pa_cons (pe_op op_add pe_int (pe_fn c__law_draw hr passL (pa_cons (pv 1) (pa_cons pe_int pa_nil)) (by omega))) pa_nil)))))
      (pss_cons (ps_setLc (i := 4) rfl nd rfl rfl (sw_true rfl rfl rfl rfl) (k_pi_list (K := K) rfl (pv 3)) (blkOk_by (N := ["script", "pen", "turn", "pairs", "some", "plan", "face", "found", "names", "signs", "part", "title", "times"]) (sc := defScope s__law_part_one) (own := [("title", 11), ("times", 12)]) (by decide +kernel)) (fun _ _ _ _ _ => (k_pg_tup (K := K) (n := 2) rfl rfl (pgs_cons (pg_name nd (i := 11) rfl (Or.inl rfl)) (pgs_cons (pg_name nd (i := 12) rfl (Or.inl rfl)) pgs_nil)))) (fun _ _ _ _ _ => pts_nil) (fun _ _ _ _ _ => (pe_mk k_Kind hr passL (pa_cons (pv 11) (pa_cons (pv 12) pa_nil)) (by omega))))
      (pss_cons (ps_set (i := 5) nd rfl (Or.inl rfl) (pe_fn c__law_plan hr (passD (E := E)) (pa_cons (pv 1) (pa_cons (pv 3) (pa_cons (pv 8) (pa_cons (pv 9) (pa_cons (pe_op op_add pe_int (pe_fn c__law_draw hr (passD (E := E)) (pa_cons (pv 1) (pa_cons pe_int pa_nil)) (by omega))) pa_nil))))) (by omega)))
      (pss_cons (ps_par (i := 10) (j := 6) rfl nd rfl rfl (by decide) rfl rfl (pa_cons (pe_fn c__law_part hr (passD (E := E)) (pa_cons (pv 5) pa_nil) (by omega)) (pa_cons (pe_fn c__law_text hr (passD (E := E)) (pa_cons (pv 5) pa_nil) (by omega)) pa_nil)) (by first | rfl | with_unfolding_all rfl))
      (pss_cons (ps_if (pt_cmpR op_ne (pe_callTy (call_strI (K := K) (k := 12) rfl (hr.mono (by decide)) (passD (E := E))) rfl z.b_str boot_str (pa_cons (pv 10) pa_nil)) (pv 6) (nomark _)) (pss_one (ps_ret pe_bl)) pss_nil)
      (pss_cons (ps_set (i := 6) nd rfl (Or.inl rfl) (pe_callTy (call_strI (K := K) (k := 12) rfl (hr.mono (by decide)) (passD (E := E))) rfl z.b_str boot_str (pa_cons (pv 10) pa_nil)))
      (pss_cons (ps_set (i := 7) nd rfl (Or.inl rfl) (pe_ifExp (pt_cmpR op_eq (pe_fn c__law_draw hr (passD (E := E)) (pa_cons (pv 1) (pa_cons pe_int pa_nil)) (by omega)) pe_int (nomark _)) (pe_fn c_read_part hr (passD (E := E)) (pa_cons (pv 6) (pa_cons (pv 4) pa_nil)) (by omega)) (pe_callK0 FK (hr.mono (by decide)) rfl z.g_read_part FR.kp (kb_read_part FR) (passD (E := E)) (pk_cons (pe_callTy (k_tuple_of (K := K) rfl) rfl z.b_tuple boot_tuple (pa_cons (pv 4) pa_nil)) (pk_cons (pv 6) pk_nil)))))
      hT8)))))))), fun D c l i σ H0 hcn hD hi h => ?_⟩
    obtain ⟨⟨x2, x3, x4, x5, x6, x7, x8, x9, x10, x11, x12, rfl⟩, hp0, hex0⟩ := h
    simp [tRet, tRetN, tSeq, tIfS, tDrop, tNext, tNever, tBreak, tCont, tAsg, gName, gCons, gNil, gTup, tAndV, tOrV, tNotV, tAnd, tOr, tNot, tOp, tUn, tVar, tC, tB, tTest, tIf, tCons, tNil, tCB, tTup, tLst, tFld, sFld, sFldAug, rAdd, rSub, tSl, tPart, tNoPart, rI0, rI, rU, rEq, rNe, rSlS, rSlL, rIxL, rIxT, rIxS, tChain, tFn, tMt, tM1, tM0, tBM, rAppend, rIn, tIsN, tNotN, scal_ss, scal_ii, let_nil, let_one, fig_nil, fig_one, LenV_str, L2.start, cxOf, and_assoc, tJs, tFmt, put_at, lk_at, lk_script, lk_upcoming, lk_refuse, lk_skips, lk_expect, lk_word_of, lk_name_unlike, lk_number_to, lk_finish, sp0, sp1, sp2, sp3, sp4, sp5, -List.lookup_eq_none_iff, tPar]
    refine ⟨c, l, 1000 * i, 6, rfl, rfl, by omega, hp0, by omega, fun qn ns H1 hns k1 hqn hqnc hqnl hp1 => ?_⟩
    refine ⟨c, l, 1000 * i + 20, 8, rfl, rfl, by omega, by omega, hp1, by omega, fun qg ss H2 hss k2 hqg hqgc hqgl hp2 => ?_⟩
    have hqnl2 := k2 _ _ hqnc hqnl
    refine lc_openL ?_
    simp [tRet, tRetN, tSeq, tIfS, tDrop, tNext, tNever, tBreak, tCont, tAsg, gName, gCons, gNil, gTup, tAndV, tOrV, tNotV, tAnd, tOr, tNot, tOp, tUn, tVar, tC, tB, tTest, tIf, tCons, tNil, tCB, tTup, tLst, tFld, sFld, sFldAug, rAdd, rSub, tSl, tPart, tNoPart, rI0, rI, rU, rEq, rNe, rSlS, rSlL, rIxL, rIxT, rIxS, tChain, tFn, tMt, tM1, tM0, tBM, rAppend, rIn, tIsN, tNotN, scal_ss, scal_ii, let_nil, let_one, fig_nil, fig_one, LenV_str, L2.start, cxOf, and_assoc, tJs, tFmt, put_at, lk_at, lk_script, lk_upcoming, lk_refuse, lk_skips, lk_expect, lk_word_of, lk_name_unlike, lk_number_to, lk_finish, sp0, sp1, sp2, sp3, sp4, sp5, -List.lookup_eq_none_iff]
    refine ⟨c, l, qn, 1000 * i + 20 + 22, ns, rfl, rfl, hqnc, hqnl2, hns, hp2, by omega, fun qk kn H3 hkn k3 hqk hqkc hqkl hp3 => ⟨qk, rfl, ⟨_, SqL.of hqkl⟩, ?_⟩⟩
    have hknl : (txV kn).length = kn.length := by simp [txV]
    have hkn3 := hkn.le
    have hkn1 := hkn.ne
    refine lcf_penL (c := c) (l := l) (n := 1000 * i + 20 + 22 + 3) (fun _ j acc H' => ∃ ks : List Knd, ks.map (·.1) = kn.take j ∧ (∀ k ∈ ks, 1 ≤ k.2 ∧ k.2 ≤ 8) ∧ PairsL H' ks acc) 1 monG_name monT_yes hqkl hqkc (by rw [hknl]; omega) hp3 (fun _ => ⟨[], by simp, (by intro k hk; cases hk), rfl⟩) (fun _ j acc H4 H5 k ⟨ks, a1, a2, a3⟩ => ⟨ks, a1, a2, a3.mono k.2⟩) (fun j x hx => ?_) (fun qp acc H4 hqp hqpc k4 hp4 hqpl hal ⟨ks, a1, a2, a3⟩ => ?_)
    · intro D4 acc H4 R hD4 hD4c k4 hp4 hD4l ⟨ks, a1, a2, a3⟩ hR
      obtain ⟨nm, hnm, rfl⟩ : ∃ nm, kn[j]? = some nm ∧ x = .str (S nm) := by
        unfold txV at hx
        rw [List.getElem?_map] at hx
        cases e : kn[j]? with
        | none => rw [e] at hx; cases hx
        | some nm => rw [e] at hx; exact ⟨nm, rfl, (Option.some.inj hx).symm⟩
      have hj := (List.getElem?_eq_some_iff.mp hnm).1
      simp [tRet, tRetN, tSeq, tIfS, tDrop, tNext, tNever, tBreak, tCont, tAsg, gName, gCons, gNil, gTup, tAndV, tOrV, tNotV, tAnd, tOr, tNot, tOp, tUn, tVar, tC, tB, tTest, tIf, tCons, tNil, tCB, tTup, tLst, tFld, sFld, sFldAug, rAdd, rSub, tSl, tPart, tNoPart, rI0, rI, rU, rEq, rNe, rSlS, rSlL, rIxL, rIxT, rIxS, tChain, tFn, tMt, tM1, tM0, tBM, rAppend, rIn, tIsN, tNotN, scal_ss, scal_ii, let_nil, let_one, fig_nil, fig_one, LenV_str, L2.start, cxOf, and_assoc, tJs, tFmt, put_at, lk_at, lk_script, lk_upcoming, lk_refuse, lk_skips, lk_expect, lk_word_of, lk_name_unlike, lk_number_to, lk_finish, sp0, sp1, sp2, sp3, sp4, sp5, -List.lookup_eq_none_iff, LcTurn, tYes, wipe]
      refine ⟨c, l, _, 8, rfl, rfl, hp4, by omega, by omega, by omega, fun d H5 hd k5 hp5 => ⟨_, rfl, by rw [sizeLine_eq]; omega, fun b hb => ?_⟩⟩
      have ed : (1 : Int) + (d : Int) = ((1 + d : Nat) : Int) := by omega
      rw [ed]
      refine hR _ _ (K1.trans k5 (K1.of (Ex.new hb))) ((hp5.ex (Ex.new hb)).le (by omega)) ⟨ks ++ [(nm, 1 + d)], ?_, ?_, ?_⟩
      · rw [List.map_append, a1, List.take_add_one, hnm]
        rfl
      · intro k hk
        rcases List.mem_append.mp hk with hk | hk
        · exact a2 k hk
        · rw [List.mem_singleton.mp hk]
          exact ⟨by show 1 ≤ 1 + d; omega, by show 1 + d ≤ 8; omega⟩
      · refine PairsL.snoc (k := (nm, 1 + d)) upd_same (PairsL.mono (fun a xs h => Ex.new hb _ _ (K1.tup hp4 k5 a xs h)) a3)
    · rw [hknl] at a1 hp4
      rw [List.take_length] at a1
      have hksl : ks.length = kn.length := by
        have := congrArg List.length a1
        simpa using this
      have hacl := a3.len
      refine lc_relL (a := qp) (xs := acc) (fun j ac H' => KinL K H' (ks.take j) ac) (fun R h => ⟨_, rfl, h⟩) monG_tup2 monT_yes (by omega) (SqL.of hqpl) ⟨[], rfl, rfl, fun _ _ _ h _ => by simp at h⟩ (fun j ac H5 H6 hst h => h.st ap hst) (fun j y ac H5 R hj e5 h hR => ?_) fun qs ac H5 e5 hqs hqsl hacl2 h => ?_
      · obtain ⟨k0, q0, hk0, rfl, hq0⟩ := (a3.mono fun a xs h => e5 _ _ h).get hj
        have hk0m := List.mem_of_getElem? hk0
        have hk0n : nameOk k0.1 = true := hkn.ok _ (by rw [← a1]; exact List.mem_map_of_mem (f := (·.1)) hk0m)
        refine ⟨_, _, rfl, SqT.of hq0, rfl, _, _, rfl, _, _, rfl, rfl, rfl, ?_⟩
        simp [tRet, tRetN, tSeq, tIfS, tDrop, tNext, tNever, tBreak, tCont, tAsg, gName, gCons, gNil, gTup, tAndV, tOrV, tNotV, tAnd, tOr, tNot, tOp, tUn, tVar, tC, tB, tTest, tIf, tCons, tNil, tCB, tTup, tLst, tFld, sFld, sFldAug, rAdd, rSub, tSl, tPart, tNoPart, rI0, rI, rU, rEq, rNe, rSlS, rSlL, rIxL, rIxT, rIxS, tChain, tFn, tMt, tM1, tM0, tBM, rAppend, rIn, tIsN, tNotN, scal_ss, scal_ii, let_nil, let_one, fig_nil, fig_one, LenV_str, L2.start, cxOf, and_assoc, tJs, tFmt, put_at, lk_at, lk_script, lk_upcoming, lk_refuse, lk_skips, lk_expect, lk_word_of, lk_name_unlike, lk_number_to, lk_finish, sp0, sp1, sp2, sp3, sp4, sp5, -List.lookup_eq_none_iff, tYes, wipe, tMakeR]
        intro x2 dx hx hdx hxd
        refine ⟨x2, dx, k0.1, k0.2, rfl, rfl, rfl, upd_same, hk0n, (a2 k0 hk0m).1, (a2 k0 hk0m).2, fun H7 k7 hp7 => ⟨rfl, ?_⟩⟩
        have e7 := made_ex hx hdx k7
        refine hR _ H7 e7 ?_
        rw [List.take_add_one, hk0]
        exact KinL.snoc (h.st ap (Stb.of e7)) hp7
      have hkin : KinL K H5 ks ac := by
        rw [hacl, List.take_length] at h
        exact h
      have hp5 := hp4.ex e5
      have hqsc : qs ≠ c := hp4.nec hqs
      refine ⟨c, l, _, 4, rfl, rfl, hp5, by omega, by omega, by omega, fun d0 H6 hd0 k6 hp6 => ⟨_, rfl, 1 + d0, by omega, ?_⟩⟩
      have ed : (1 : Int) + (d0 : Int) = ((1 + d0 : Nat) : Int) := by omega
      rw [ed]
      have kA : K1 c H2 H6 := K1.trans k3 (K1.trans k4 (K1.trans (K1.of e5) k6))
      have hdr : drawsOf (1 + d0) ≤ 345 ∧ longOf (1 + d0) ≤ 2042 := by
        have : d0 = 0 ∨ d0 = 1 ∨ d0 = 2 ∨ d0 = 3 := by omega
        rcases this with rfl | rfl | rfl | rfl <;> decide
      have a3' : PairsL H6 ks acc := (a3.mono fun a xs h => K1.tup hp5 k6 _ _ (e5 _ _ h))
      have env : PlanEnv H6 c l qp qn qg (1000 * i + 20 + 22 + 3 + 1 * kn.length + 1) ks ns ss acc := {
        pen := hp6
        np := hqpc
        nt := hqnc
        ns := hqgc
        hp := k6 _ _ hqpc (e5 _ _ hqpl)
        ht := kA _ _ hqnc hqnl2
        hs := kA _ _ hqgc hqgl
        each := a3'.each
        kok := fun k hk => ⟨hkn.ok _ (by rw [← a1]; exact List.mem_map_of_mem (f := (·.1)) hk), a2 k hk⟩
        tok := hns.ok
        sok := hss
        pne := by
          intro e
          rw [e] at hacl
          simp at hacl
          omega
        pl := by omega
        tne := by
          intro e
          have := hns.len
          rw [e] at this
          cases this
        tl := by rw [hns.len]; omega }
      refine ⟨c, l, qp, qn, qg, _, ks, ns, ss, acc, rfl, rfl, rfl, rfl, rfl, env, by omega, fun xq p H7 k7 hp7 hpl hok hdp hlen => ?_⟩
      have hO : KsOk ks := ⟨by rw [a1]; exact hkn.nd, fun q hq => hkn.ok _ (by rw [← a1]; exact List.mem_map_of_mem (f := (·.1)) hq), by omega⟩
      refine ⟨_, p, xq, ks, rfl, hpl, hok, a2, by omega, by omega, fun xp H8 e8 hx8 => ?_⟩
      refine ⟨_, p, xq, ks, rfl, hpl.ex e8, hok, by omega, by omega, fun H9 e9 => ?_⟩
      have hx9 := hx8.st ap (Stb.of e9)
      obtain ⟨C, dx, fs, hC, hCm, _⟩ := hx9.cls
      obtain ⟨e1, e2⟩ := ze.eq_ C hCm
      refine ⟨xp, rfl, C, ⟨dx, fs, hC⟩, _, e2, ze.strf, _, fst, p, xp, rfl, hx9, by omega, by omega, fun H10 e10 => ⟨⟨_, rfl⟩, rfl, Or.inl ⟨rfl, ?_⟩⟩⟩
      have hx10 := hx9.st ap (Stb.of e10)
      refine ⟨xp, rfl, C, ⟨dx, fs, e10 _ _ hC⟩, _, e2, ze.strf, _, fst, p, xp, rfl, hx10, by omega, by omega, fun H11 e11 => ⟨⟨_, rfl⟩, ?_⟩⟩
      have hx11 := hx10.st ap (Stb.of e11)
      have e8_11 := Ex.trans e8 (Ex.trans e9 (Ex.trans e10 e11))
      have hp11 := hp7.ex e8_11
      have kB : K1 c H5 H11 := K1.trans k6 (K1.trans k7 (K1.of e8_11))
      refine ⟨c, l, _, 2, rfl, rfl, hp11, by omega, by omega, by omega, fun d2 H12 hd2 k12 hp12 => ⟨rfl, ?_⟩⟩
      have kC : K1 c H5 H12 := K1.trans kB k12
      have hql12 := kC _ _ hqsc hqsl
      have hkin12 : KinL K H12 ks ac := hkin.st ap (hp5.stb kC)
      have hx12 := hx11.st ap (hp11.stb k12)
      have last : ∀ xf H13, Ex H12 H13 → PartAt K H13 p xf → t8 D [some (.ref sa), some (.ref c), some (.int (i : Nat)), some (.ref qp), some (.ref qs), some (.ref xq), some (.str (S p.text)), some (.ref xf), some (.ref qn), some (.ref qg), some (.ref xp), x11, x12] H13 := fun xf H13 e13 hxf =>
        hR8 D c l i p ks qs xp xf ac _ _ _ _ _ _ _ H13 hD ((hp12.ex e13).le (by omega)) (Ex.trans (Ex.k1 hex0 hcn (K1.trans k1 (K1.trans k2 (K1.trans k3 (K1.trans k4 (K1.trans (K1.of e5) kC)))))) e13) (e13 _ _ hql12) (hkin12.st ap (Stb.of e13)) hO hok (by omega) (by omega) (hx12.st ap (Stb.of e13)) hxf
      split
      · exact part_back (hkin12.kinds hql12) hO hok (by omega) (by omega) fun xf H13 e13 hxf => last xf H13 e13 hxf
      · simp only [tCallK, tNil, tCons, tCB, tVar]
        refine ⟨.ref qs, rfl, qs, rfl, ac, Or.inl ⟨SqL.of hql12, fun t ht => ⟨_, rfl, ?_⟩⟩⟩
        have et := Ex.new (o := .tup ac) ht
        show spReadPart K [.str (S p.text), .ref t] _ _ _
        have hkt : KindsAt K (upd H12 t (.tup ac)) ks t := by
          obtain ⟨as, h1, h2, h3⟩ := hkin12.st ap (Stb.of et)
          exact ⟨as, h2, Or.inr (SqT.of (by rw [upd_same, h1])), h3⟩
        exact part_back hkt hO hok (by omega) (by omega) fun xf H13 e13 hxf => last xf H13 (Ex.trans et e13) hxf
  obtain ⟨tRs, hTF, hRF⟩ : ∃ t, PSs (cxOf (L2.CX P w) P w K mg base ["script", "pen", "turn", "pairs", "some", "plan", "face", "found", "names", "signs", "part", "title", "times"] "_law_part_one" (defScope s__law_part_one) (fAd K ("_law_part_one", none)) cdv A outer s H E) ((defBody s__law_part_one).drop 1) t ∧ ∀ (c l : Addr) H2, H c = none → PenAt H2 c l 0 → Ex H H2 → t { nx := fun _ H' => Q .non H', rt := Q } [some (.ref sa), some (.ref c), none, none, none, none, none, none, none, none, none, none, none] H2 := by
    refine ⟨_, pss_cons (ps_for (passes_of rfl) rfl (pi_range1 rfl z.b_range (pa_cons pe_int pa_nil)) (pg_name nd (i := 2) rfl (Or.inl rfl)) hTB) (pss_one (ps_ret pe_bl)), fun c l H2 hcn hp hex => ?_⟩
    simp only [tSeq]
    refine tfor_rng (m := 4) (fun R h => h) (by decide) (fun j σ G => OneInv H sa c l j σ G) ⟨⟨_, _, _, _, _, _, _, _, _, _, _, rfl⟩, hp, hex⟩ (fun j σ H3 hj h => ?_) (fun σ H3 h => ?_)
    · exact hRB _ c l j σ H3 hcn (fun _ _ h => h) hj h
    · exact hq H3 h.2.2
  refine ⟨_, (pss_cons (ps_set (i := 1) nd rfl (Or.inr rfl) (pe_fn c__law_pen hr (passD (E := E)) (pa_cons (pv 0) pa_nil) (by omega)))
      hTF), ?_⟩
  simp [tRet, tRetN, tSeq, tIfS, tDrop, tNext, tNever, tBreak, tCont, tAsg, gName, gCons, gNil, gTup, tAndV, tOrV, tNotV, tAnd, tOr, tNot, tOp, tUn, tVar, tC, tB, tTest, tIf, tCons, tNil, tCB, tTup, tLst, tFld, sFld, sFldAug, rAdd, rSub, tSl, tPart, tNoPart, rI0, rI, rU, rEq, rNe, rSlS, rSlL, rIxL, rIxT, rIxS, tChain, tFn, tMt, tM1, tM0, tBM, rAppend, rIn, tIsN, tNotN, scal_ss, scal_ii, let_nil, let_one, fig_nil, fig_one, LenV_str, L2.start, cxOf, and_assoc, tJs, tFmt, put_at, lk_at, lk_script, lk_upcoming, lk_refuse, lk_skips, lk_expect, lk_word_of, lk_name_unlike, lk_number_to, lk_finish, sp0, sp1, sp2, sp3, sp4, sp5, -List.lookup_eq_none_iff]
  exact ⟨sa, ns, rfl, hs, fun c l H1 e1 hc hp => hRF c l H1 hc hp e1⟩
end
end Mp

set_option maxHeartbeats 4000000
/-! Kza: the law -/
namespace Mp
open PySem PySem.Spec PyProof.Rows L2
open StX (tMakeR run_makeR pe_makeR)
open He (ga ma fAd)
open LamX (ExtN Tabs TabS TabB tLam LamS GivesTo CodeO lamEnv lamCx)
section
variable {P : Program} {w : World} {K : PySem.W.Frag} {mg : Str → Option Value} {base : Heap}
def spLaw (K : PySem.W.Frag) (T : List (Addr × Str)) : Sp := sp1 fun a H Q _ => ∃ (s : Addr) (ns : List Int), a = .ref s ∧ SqL K H s (ns.map V.int) ∧ Tabs T H ∧ ∀ H', Q (.bl true) H'
theorem sc_law : FnScope ["script"] ["script"] (defScope s_law) := ⟨rfl, rfl, rfl, by decide +kernel, rfl, by decide +kernel, by decide +kernel⟩
theorem okk_law (z : Zk K mg base)  {T : List (Addr × Str)} (c__law_part_one : Cal P w K mg base "_law_part_one" 31 (spOne K)) (c__law_part_two : Cal P w K mg base "_law_part_two" 31 (spTwo K T)) : ∃ fd, FunD K "law" "law" (defArgs s_law) (defBody s_law) (defScope s_law) [] [] (fAd K ("law", none)) fd ∧ FnOk P w K mg base (L2.CX P w) (31 + 1) (fAd K ("law", none)) fd ["script"] ((spLaw K T)) := by
  obtain ⟨fd, F⟩ := z.d_law
  refine ⟨fd, F, F.ok (P := P) (w := w) (mg := mg) (base := base) (CX := L2.CX P w) sc_law (fun vs H Q E h => by match vs, h with | [_], _ => rfl) (fun cdv A outer s H vs Q E hr h => ?_)⟩
  have nd := sc_law.nd
  have hu : (cxOf (L2.CX P w) P w K mg base ["script"] "law" (defScope s_law) (fAd K ("law", none)) cdv A outer s H E).A.units + 64 < cLine := hr.units
  have hu0 := hr.units0
  have hu1 := hu_of hr
  match vs, h with
  | [a0], h =>
  refine ⟨_, (pss_one (ps_ret (pe_and (pe_fn c__law_part_one hr (passD (E := E)) (pa_cons (pv 0) pa_nil)) (pe_one (pe_fn c__law_part_two hr (passD (E := E)) (pa_cons (pv 0) pa_nil)))))), ?_⟩
  obtain ⟨sa, ns, rfl, hs, hT, hq⟩ := h
  simp [tRet, tRetN, tSeq, tIfS, tDrop, tNext, tNever, tBreak, tCont, tAsg, gName, gCons, gNil, gTup, tAndV, tOrV, tNotV, tAnd, tOr, tNot, tOp, tUn, tVar, tC, tB, tTest, tIf, tCons, tNil, tCB, tTup, tLst, tFld, sFld, sFldAug, rAdd, rSub, tSl, tPart, tNoPart, rI0, rI, rU, rEq, rNe, rSlS, rSlL, rIxL, rIxT, rIxS, tChain, tFn, tMt, tM1, tM0, tBM, rAppend, rIn, tIsN, tNotN, scal_ss, scal_ii, let_nil, let_one, fig_nil, fig_one, LenV_str, L2.start, cxOf, and_assoc, tJs, tFmt, put_at, lk_at, lk_script, lk_upcoming, lk_refuse, lk_skips, lk_expect, lk_word_of, lk_name_unlike, lk_number_to, lk_finish, sp0, sp1, sp2, sp3, sp4, sp5, -List.lookup_eq_none_iff]
  exact ⟨sa, ns, rfl, hs, fun H1 e1 => Or.inr ⟨rfl, sa, ns, rfl, Ex.l e1 hs, hT.ext e1, fun H' => hq H'⟩⟩
/-- the whole law, from what the head says -/
theorem law_all (z : Zk K mg base) (y : Zs P K) (ze : Ze K) (zx : Zx K) (ap : Apart K) {PB PT : Addr} (TB : TabB base mg (He.codeOf K ("_law_bent_right", none)) PB) (TT : TabB base mg (He.codeOf K ("_law_part_two", none)) PT) (hne : PB ≠ PT) :
    ∃ fd, FunD K "law" "law" (defArgs s_law) (defBody s_law) (defScope s_law) [] [] (fAd K ("law", none)) fd ∧ FnOk P w K mg base (L2.CX P w) 32 (fAd K ("law", none)) fd ["script"] (spLaw K [(PB, qB), (PT, qT)]) := by
  have rd := read_all (P := P) (w := w) z y ap
  have nm := ok_is_name (P := P) (w := w) z
  have bw := ok_is_between (P := P) (w := w) z (ok_is_whole z)
  have kK := cmk_kind z (ok_Kind___init__ (P := P) (w := w) z y nm bw)
  have cpen := ok__law_pen (P := P) (w := w) z
  have cd := ok__law_draw (P := P) (w := w) z
  have cp := ok__law_pick (P := P) (w := w) z cd
  have cn := ok__law_names (P := P) (w := w) z cd cp
  have cs := ok__law_signs (P := P) (w := w) z cd cn
  have ck := ok__law_kinds (P := P) (w := w) z cd
  have ckn := ok__law_known (P := P) (w := w) z
  have tx := text_all (P := P) (w := w) z 5
  have pt := part_all (P := P) (w := w) z y ap 5
  have pl := plan_any (P := P) (w := w) z
  obtain ⟨fdr, FR, FK⟩ := okk_read_part (P := P) (w := w) z (curM z).finish ap (ok_Cursor___init__ z) (inner_all z y ap 4 (by omega))
  have one := ok__law_part_one z cpen cd cp cn cs ck ze ap FR FK rd pl tx pt kK
  have u1 : ∀ p ∈ [(PB, qB), (PT, qT)], p.1 = PB → p.2 = qB := fun p hp e => by
    simp only [List.mem_cons, List.not_mem_nil, or_false] at hp
    rcases hp with rfl | rfl
    · rfl
    · exact absurd e.symm hne
  have u2 : ∀ p ∈ [(PB, qB), (PT, qT)], p.1 = PT → p.2 = qT := fun p hp e => by
    simp only [List.mem_cons, List.not_mem_nil, or_false] at hp
    rcases hp with rfl | rfl
    · exact absurd e hne
    · rfl
  have bent := ok__law_bent_right (T := [(PB, qB), (PT, qT)]) z cd cp zx TB (by simp) u1 ap rd
  have two := ok__law_part_two (T := [(PB, qB), (PT, qT)]) z cpen cd cp cn cs ck ckn zx TT (by simp) u2 ap rd pl tx kK bent
  exact okk_law z one two
end
end Mp

set_option maxHeartbeats 4000000
/-! Kh: the head -/
namespace Mp
open PySem PySem.Spec PyProof.Rows L2
open He (ga ma fAd)
/-! ### facts of the written part, looked at -/
def optB (a b : Option (Option Value)) : Bool := decide (a = b)
def boolB (a : Option Bool) (b : Bool) : Bool := decide (a = some b)
def tyfB (K : PySem.W.Frag) (C : Addr) : Bool := optB (PySem.W.findIn K (.ref C) "__class__") (some (some (.builtin "object.__class__"))) && (optB (PySem.W.specialIn K (.builtin "object.__class__") "__get__") (some (some (.builtin "getset_descriptor.__get__"))) && (boolB (PySem.W.takesIn K (.builtin "object.__class__")) true && boolB (PySem.W.mroIn K C (.type "object")) true))
theorem two {a b : Bool} (h : (a && b) = true) : a = true ∧ b = true := Bool.and_eq_true_iff.mp h
theorem tyf_ok {K : PySem.W.Frag} {C : Addr} (h : tyfB K C = true) : TyF K C := by
  obtain ⟨h1, h⟩ := two h
  obtain ⟨h2, h⟩ := two h
  obtain ⟨h3, h4⟩ := two h
  exact ⟨of_decide_eq_true h1, of_decide_eq_true h2, of_decide_eq_true h3, of_decide_eq_true h4⟩
def kitB2 (K : PySem.W.Frag) (a b : Value) (r : Bool) : Bool := boolB (PySem.W.kitOne K a b) r
def constB (K : PySem.W.Frag) (C : Addr) (f : Str) (v : V) : Bool := PySem.W.readsIn K C (.type "type") && (optB (PySem.W.specialIn K (.ref C) "__getattribute__") (some (some (.builtin "type.__getattribute__"))) && (match PySem.W.findCls K (.ref C) (.type "type") f with
  | some (.val u) => He.relB v u
  | _ => false))
theorem const_ok {K : PySem.W.Frag} {C : Addr} {f : Str} {v : V} (h : constB K C f v = true) : ∃ mc u, ClX.CRead K C mc ∧ ClX.CVal K C mc f v u := by
  obtain ⟨h1, h⟩ := two h
  obtain ⟨h2, h3⟩ := two h
  cases e : PySem.W.findCls K (.ref C) (.type "type") f with
  | none => rw [e] at h3; cases h3
  | some r =>
    rw [e] at h3
    cases r with
    | val u => exact ⟨_, u, ⟨h1, of_decide_eq_true h2⟩, ⟨e, He.relB_ok h3⟩⟩
    | _ => cases h3
def oexB (K : PySem.W.Frag) (C : Addr) : Bool := (match K.lookup C with
  | some ⟨.type t, _, .cls cd, sl⟩ => decide (t = "type") && (match cd.mro, sl.toList with
    | .ref C2 :: up, [_, _, _, _, some (.builtin b), _] => decide (C2 = C) && (decide (b = "ValueError.__new__") && (!cd.hasDel && (cd.hasDict && PySem.HandSPX.refsVE up)))
    | _, _ => false)
  | _ => false) && (optB (PySem.W.findIn K (.ref C) "__setattr__") (some (some (.builtin "object.__setattr__"))) && (boolB (PySem.W.subIn K (.ref C) (.type "BaseException")) true && (decide (PySem.W.typeIn K (.ref C) = some (.type "type")) && PySem.W.keepIn K (.ref C))))
theorem oex_ok {K : PySem.W.Frag} {C : Addr} (h : oexB K C = true) : OexC K C := by
  obtain ⟨h1, h⟩ := two h
  obtain ⟨h2, h⟩ := two h
  obtain ⟨h3, h⟩ := two h
  obtain ⟨h4, h5⟩ := two h
  refine ⟨?_, of_decide_eq_true h2, of_decide_eq_true h3, of_decide_eq_true h4, h5⟩
  cases e : K.lookup C with
  | none => rw [e] at h1; cases h1
  | some ob =>
    rw [e] at h1
    obtain ⟨c0, d0, x0, s0⟩ := ob
    cases c0 with
    | type t =>
      cases x0 with
      | cls cd =>
        obtain ⟨g1, g2⟩ := two (show (decide (t = "type") && (match cd.mro, s0.toList with
          | .ref C2 :: up, [_, _, _, _, some (.builtin b), _] => decide (C2 = C) && (decide (b = "ValueError.__new__") && (!cd.hasDel && (cd.hasDict && PySem.HandSPX.refsVE up)))
          | _, _ => false)) = true from h1)
        have et : t = "type" := of_decide_eq_true g1
        subst et
        obtain ⟨y1, y2, y3, y4, y5, y6, y7, y8, y9, y10, y11⟩ := cd
        dsimp only at g2
        split at g2
        · rename_i C2 up z0 z1 z2 z3 b z5 es
          obtain ⟨q1, q⟩ := two g2
          obtain ⟨q2, q⟩ := two q
          obtain ⟨q3, q⟩ := two q
          obtain ⟨q4, q5⟩ := two q
          have w1 : C2 = C := of_decide_eq_true q1
          have w2 : b = "ValueError.__new__" := of_decide_eq_true q2
          have w3 : y11 = false := by simpa using q3
          have w4 : y6 = true := q4
          have w5 : s0 = #[z0, z1, z2, z3, some (.builtin b), z5] := by
            rw [← es]
          subst w1 w2 w3 w4 w5
          exact ⟨y1, y5, y4, y2, up, y7, y8, y9, y10, d0, z0, z1, z2, z3, z5, rfl, q5⟩
        · cases g2
      | _ => cases h1
    | _ => cases x0 <;> cases h1
def ekB (K : PySem.W.Frag) (D : Addr) : Bool := (PySem.W.clsIn K D).isSome && (optB (PySem.W.findIn K (.ref D) "__getattribute__") (some (some (.builtin "BaseException.__getattribute__"))) && (optB (PySem.W.findIn K (.ref D) "__getattr__") (some none) && (boolB (PySem.W.subIn K (.ref D) (.type "BaseException")) true && (PySem.W.hasDictIn K D && tyfB K D))))
theorem ek_ok {K : PySem.W.Frag} {D : Addr} (h : ekB K D = true) : EkC K D := by
  obtain ⟨h1, h⟩ := two h
  obtain ⟨h2, h⟩ := two h
  obtain ⟨h3, h⟩ := two h
  obtain ⟨h4, h⟩ := two h
  obtain ⟨h5, h6⟩ := two h
  have t := tyf_ok h6
  exact ⟨h1, of_decide_eq_true h2, of_decide_eq_true h3, of_decide_eq_true h4, h5, t.ha, t.hn, t.htk, t.hm⟩
def tupB2 (K : PySem.W.Frag) (x : Str) (vs : List He.Dv) : Bool := He.tupB K x vs
/-! ### methods that capture __class__ -/
abbrev FnS : Type := Option (Str × Str × Arguments × FuncBody × Scope × Addr × List Str × Addr)
def fnS (K : PySem.W.Frag) (p : He.Defn) : FnS := match K.lookup (fAd K p) with
  | some ⟨_, _, .func fd, _⟩ => some (fd.name, fd.qualname, fd.params, fd.body, fd.scope, fd.globals, fd.closure.map (·.1), fd.builtins)
  | _ => none
structure SupX where
  at_ : He.Defn
  cls : Str
  name : Str
  qual : Str
  params : Arguments
  body : List Stmt
  scope : Scope
  dfl : List V
def SupX.val (d : SupX) : FnS := some (d.name, d.qual, d.params, FuncBody.stmts d.body, d.scope, mainGlobals, ["__class__"], builtinsNs)
def SupX.ok (file : Str) (K : PySem.W.Frag) (d : SupX) : Bool := match K.lookup (fAd K d.at_) with
  | some ⟨_, _, .func fd, _⟩ => PySem.W.codeIn K fd.code d.qual && (He.dflB K fd.defaults d.dfl && ((match fd.code with
    | .ref c => (match K.lookup c with
      | some ⟨_, _, .fields vs, _⟩ => (match (vs[2]? : Option Value) with
        | some (.str z _) => decide (z = file)
        | _ => false)
      | _ => false)
    | _ => false) && (match fd.closure with
    | [(_, cc)] => (match K.lookup cc with
      | some ⟨_, _, .cell (some (.ref d2)), _⟩ => decide (d2 = ga K d.cls)
      | _ => false)
    | _ => false)))
  | _ => false
theorem SupX.said {P : Program} {K : PySem.W.Frag} {d : SupX} (e : fnS K d.at_ = d.val) (h : d.ok P.main.file K = true) : SupD P K (ga K d.cls) d.name d.qual d.params d.body d.scope d.dfl (fAd K d.at_) := by
  unfold fnS at e
  unfold SupX.ok at h
  cases q : K.lookup (fAd K d.at_) with
  | none => rw [q] at h; cases h
  | some ob =>
    obtain ⟨c0, d0, x0, s0⟩ := ob
    rw [q] at h e
    cases x0 with
    | func fd =>
      obtain ⟨y1, y2, y3, y4, y5, y6, y7, y8, y9, y10, y11, y12, y13, y14, y15⟩ := fd
      have e2 : (some (y1, y2, y3, y4, y5, y6, y7.map (·.1), y15) : FnS) = some (d.name, d.qual, d.params, FuncBody.stmts d.body, d.scope, mainGlobals, [("__class__" : Str)], builtinsNs) := e
      simp only [Option.some.injEq, Prod.mk.injEq] at e2
      obtain ⟨w1, w2, w3, w4, w5, w6, w7, w8⟩ := e2
      subst w1 w2 w3 w4 w5 w6 w8
      obtain ⟨g1, g⟩ := two h
      obtain ⟨g2, g⟩ := two g
      obtain ⟨g3, g4⟩ := two g
      dsimp only at g1 g2 g3 g4
      match y7, w7, g4 with
      | [(nm, cc)], w7, g4 =>
        have enm : nm = "__class__" := by simpa using w7
        subst enm
        cases y13 with
        | ref cda =>
          refine ⟨c0, d0, y8, y9, y10, y11, y12, cda, cc, y14, s0, q, g1, He.dflB_ok g2, ?_, ?_⟩
          · dsimp only at g3
            split at g3
            · rename_i e1 e2 vs e3 e4
              split at g3
              · rename_i z tk ez
                have ez2 : z = P.main.file := of_decide_eq_true g3
                subst ez2
                exact ⟨_, _, vs, _, tk, e4, ez⟩
              · cases g3
            · cases g3
          · dsimp only at g4
            split at g4
            · rename_i e1 e2 d2 e3 e4
              have ed : d2 = ga K d.cls := of_decide_eq_true g4
              subst ed
              exact ⟨_, _, _, e4⟩
            · cases g4
        | _ => cases g3
    | _ => cases h
def smB (K : PySem.W.Frag) (C D g : Addr) : Bool := boolB (PySem.W.mroIn K C (.ref D)) true && (optB (PySem.W.ks_superIn K C D "__init__") (some (some (.ref g))) && (decide (PySem.W.typeIn K (.ref g) = some (.type "function")) && PySem.W.fnIn K g))
theorem sm_ok {K : PySem.W.Frag} {C D g : Addr} (h : smB K C D g = true) : SupM K C D "__init__" g := by
  obtain ⟨h1, h⟩ := two h
  obtain ⟨h2, h⟩ := two h
  obtain ⟨h3, h4⟩ := two h
  exact ⟨of_decide_eq_true h1, of_decide_eq_true h2, of_decide_eq_true h3, h4⟩
/-! ### the hook -/
def roots (g : Addr → Option Obj) (n : Nat) : List Addr := List.range n
abbrev AlY : Type := He.AlD × (List FnS × Bool)
section
variable (n : Nat) (fa : List He.Fa) (fn : List He.DefD) (sp : List SupX) (tf : List He.Defn) (ex : PySem.W.Frag → Bool)
def obsY (g : Addr → Option Obj) : AlY := (He.obsD fa fn (He.frT g (roots g n)), sp.map (fun d => fnS (He.frT g (roots g n)) d.at_), ex (He.frT g (roots g n)) && He.tabsB g tf (He.frT g (roots g n)))
def valY : AlY := (He.valD fn, sp.map SupX.val, true)
structure SaysY (h : Heap) (K : PySem.W.Frag) : Prop where
  d : He.SaysD fa fn K
  s : sp.map (fun d => fnS K d.at_) = sp.map SupX.val
  more : ex K = true
  hd : ∀ p ∈ tf, PySem.W.codeHdIn K (He.cT K p).1 (He.cT K p).2 = true
  out : ∀ p ∈ tf, K.lookup (He.cT K p).2 = none
  empty : ∀ p ∈ tf, h.get? (He.cT K p).2 = some { cls := .none, data := .fields #[] }
theorem saysY {h : Heap} (e : obsY n fa fn sp tf ex h.get? = valY fn sp) : SaysY fa fn sp tf ex h (He.frT h.get? (roots h.get? n)) := by
  have e1 := congrArg (fun z : AlY => z.1) e
  have e2 := congrArg (fun z : AlY => z.2.1) e
  have e3 : (ex (He.frT h.get? (roots h.get? n)) && He.tabsB h.get? tf (He.frT h.get? (roots h.get? n))) = true := congrArg (fun z : AlY => z.2.2) e
  obtain ⟨m1, m2⟩ := two e3
  have tab : ∀ p ∈ tf, PySem.W.codeHdIn (He.frT h.get? (roots h.get? n)) (He.cT (He.frT h.get? (roots h.get? n)) p).1 (He.cT (He.frT h.get? (roots h.get? n)) p).2 = true ∧ ∃ u, h.get? (He.cT (He.frT h.get? (roots h.get? n)) p).2 = some u ∧ He.emptyTab u = true := fun p hp => by
    obtain ⟨m3, m4⟩ := two (List.all_eq_true.mp m2 p hp)
    cases q : h.get? (He.cT (He.frT h.get? (roots h.get? n)) p).2 with
    | none => rw [q] at m4; cases m4
    | some u => rw [q] at m4; exact ⟨m3, u, rfl, m4⟩
  refine ⟨e1, e2, m1, fun p hp => (tab p hp).1, fun p hp => ?_, fun p hp => ?_⟩
  · obtain ⟨_, u, q, z⟩ := tab p hp
    exact He.frT_none q z
  · obtain ⟨_, u, q, z⟩ := tab p hp
    rw [q, He.emptyTab_eq z]
def hookY : PySem.W.Hook where
  α := AlY
  obs := fun s => obsY n fa fn sp tf ex s.heap.get?
  val := fun _ => valY fn sp
  says := fun _ h => ∃ K : PySem.W.Frag, K.In h ∧ SaysY fa fn sp tf ex h K
  of := fun _ _ e => ⟨_, He.frT_in, saysY n fa fn sp tf ex e⟩
  keeps := fun _ _ _ ⟨K, hK, c⟩ k => ⟨K, PySem.W.Frag.In.keeps hK k, ⟨c.d, c.s, c.more, c.hd, c.out, fun p hp => k _ _ (c.empty p hp)⟩⟩
end
/-- the written part told out, object by object -/
def tellK {β : Type} (g : Addr → Option Obj) : Nat → PySem.W.Frag → (PySem.W.Frag → β) → β
  | 0, acc, k => k acc
  | n + 1, acc, k => match g n with
    | some ⟨c, d, t, sl⟩ => (match He.emptyTab ⟨c, d, t, sl⟩ with
      | true => tellK g n acc k
      | false => tellK g n ((n, ⟨c, d, t, sl⟩) :: acc) k)
    | none => tellK g n acc k
theorem frT_app (g : Addr → Option Obj) (a b : List Addr) : He.frT g (a ++ b) = He.frT g a ++ He.frT g b := by
  unfold He.frT He.frG
  rw [List.filterMap_append, List.filter_append]
theorem tellK_eq {β : Type} (g : Addr → Option Obj) : ∀ (n : Nat) (acc : PySem.W.Frag) (k : PySem.W.Frag → β), tellK g n acc k = k (He.frT g (List.range n) ++ acc)
  | 0, acc, k => rfl
  | n + 1, acc, k => by
    rw [List.range_succ, frT_app, List.append_assoc]
    unfold tellK
    cases q : g n with
    | none =>
      have e : He.frT g [n] = [] := by
        unfold He.frT He.frG
        simp [q]
      rw [e]
      exact tellK_eq g n acc k
    | some o =>
      obtain ⟨c, d, t, sl⟩ := o
      dsimp only
      cases z : He.emptyTab ⟨c, d, t, sl⟩ with
      | true =>
        have e : He.frT g [n] = [] := by
          unfold He.frT He.frG
          simp [q, z]
        rw [e]
        exact tellK_eq g n acc k
      | false =>
        have e : He.frT g [n] = [(n, ⟨c, d, t, sl⟩)] := by
          unfold He.frT He.frG
          simp [q, z]
        rw [e]
        exact tellK_eq g n _ k
def obsZ (n : Nat) (fa : List He.Fa) (fn : List He.DefD) (sp : List SupX) (tf : List He.Defn) (ex : PySem.W.Frag → Bool) (g : Addr → Option Obj) : AlY := tellK g n [] fun K => (He.obsD fa fn K, sp.map (fun d => fnS K d.at_), ex K && He.tabsB g tf K)
theorem obsZ_eq {n : Nat} {fa : List He.Fa} {fn : List He.DefD} {sp : List SupX} {tf : List He.Defn} {ex : PySem.W.Frag → Bool} {g : Addr → Option Obj} : obsZ n fa fn sp tf ex g = obsY n fa fn sp tf ex g := by
  unfold obsZ
  rw [tellK_eq, List.append_nil]
  rfl
theorem obsY_eq {n : Nat} {fa : List He.Fa} {fn : List He.DefD} {sp : List SupX} {tf : List He.Defn} {ex : PySem.W.Frag → Bool} {g : Addr → Option Obj} {s : Shared} (h : ∀ a, g a = s.heap.get? a) : obsY n fa fn sp tf ex g = (hookY n fa fn sp tf ex).obs s := by
  have e : g = s.heap.get? := funext h
  rw [e]
  rfl
theorem SaysY.sup {P : Program} {fa : List He.Fa} {fn : List He.DefD} {sp : List SupX} {tf : List He.Defn} {ex : PySem.W.Frag → Bool} {h : Heap} {K : PySem.W.Frag} (c : SaysY fa fn sp tf ex h K) (i : Nat) {d : SupX} (hi : sp[i]? = some d) (ho : d.ok P.main.file K = true) : SupD P K (ga K d.cls) d.name d.qual d.params d.body d.scope d.dfl (fAd K d.at_) := by
  refine SupX.said ?_ ho
  have e : (sp.map (fun d => fnS K d.at_))[i]? = (sp.map SupX.val)[i]? := by rw [c.s]
  rw [List.getElem?_map, List.getElem?_map, hi] at e
  exact Option.some.inj e
def dd_is_whole : He.DefD := ⟨("is_whole", none), "is_whole", "is_whole", defArgs s_is_whole, defBody s_is_whole, defScope s_is_whole, [], []⟩
def dd_is_between : He.DefD := ⟨("is_between", none), "is_between", "is_between", defArgs s_is_between, defBody s_is_between, defScope s_is_between, [], []⟩
def dd_is_name : He.DefD := ⟨("is_name", none), "is_name", "is_name", defArgs s_is_name, defBody s_is_name, defScope s_is_name, [], []⟩
def dd_need_pairs : He.DefD := ⟨("need_pairs", none), "need_pairs", "need_pairs", defArgs s_need_pairs, defBody s_need_pairs, defScope s_need_pairs, [], []⟩
def dd_depth_over : He.DefD := ⟨("depth_over", none), "depth_over", "depth_over", defArgs s_depth_over, defBody s_depth_over, defScope s_depth_over, [], []⟩
def dd_pair_texts : He.DefD := ⟨("pair_texts", none), "pair_texts", "pair_texts", defArgs s_pair_texts, defBody s_pair_texts, defScope s_pair_texts, [], []⟩
def dd_Part___init__ : He.DefD := ⟨("Part", some "__init__"), "__init__", "Part.__init__", defArgs s_Part___init__, defBody s_Part___init__, defScope s_Part___init__, [], []⟩
def dd_Part___eq__ : He.DefD := ⟨("Part", some "__eq__"), "__eq__", "Part.__eq__", defArgs s_Part___eq__, defBody s_Part___eq__, defScope s_Part___eq__, [], []⟩
def dd_Part___str__ : He.DefD := ⟨("Part", some "__str__"), "__str__", "Part.__str__", defArgs s_Part___str__, defBody s_Part___str__, defScope s_Part___str__, [], []⟩
def dd_Kind_shape : He.DefD := ⟨("Kind", some "shape"), "shape", "Kind.shape", defArgs s_Kind_shape, defBody s_Kind_shape, defScope s_Kind_shape, [], []⟩
def dd_Kind_text : He.DefD := ⟨("Kind", some "text"), "text", "Kind.text", defArgs s_Kind_text, defBody s_Kind_text, defScope s_Kind_text, [], []⟩
def dd_Byte_shape : He.DefD := ⟨("Byte", some "shape"), "shape", "Byte.shape", defArgs s_Byte_shape, defBody s_Byte_shape, defScope s_Byte_shape, [], []⟩
def dd_Byte_text : He.DefD := ⟨("Byte", some "text"), "text", "Byte.text", defArgs s_Byte_text, defBody s_Byte_text, defScope s_Byte_text, [], []⟩
def dd_Use_shape : He.DefD := ⟨("Use", some "shape"), "shape", "Use.shape", defArgs s_Use_shape, defBody s_Use_shape, defScope s_Use_shape, [], []⟩
def dd_Use_text : He.DefD := ⟨("Use", some "text"), "text", "Use.text", defArgs s_Use_text, defBody s_Use_text, defScope s_Use_text, [], []⟩
def dd_Row_shape : He.DefD := ⟨("Row", some "shape"), "shape", "Row.shape", defArgs s_Row_shape, defBody s_Row_shape, defScope s_Row_shape, [], []⟩
def dd_Row_text : He.DefD := ⟨("Row", some "text"), "text", "Row.text", defArgs s_Row_text, defBody s_Row_text, defScope s_Row_text, [], []⟩
def dd_Record_shape : He.DefD := ⟨("Record", some "shape"), "shape", "Record.shape", defArgs s_Record_shape, defBody s_Record_shape, defScope s_Record_shape, [], []⟩
def dd_Record_text : He.DefD := ⟨("Record", some "text"), "text", "Record.text", defArgs s_Record_text, defBody s_Record_text, defScope s_Record_text, [], []⟩
def dd_Overlay_shape : He.DefD := ⟨("Overlay", some "shape"), "shape", "Overlay.shape", defArgs s_Overlay_shape, defBody s_Overlay_shape, defScope s_Overlay_shape, [], []⟩
def dd_Overlay_text : He.DefD := ⟨("Overlay", some "text"), "text", "Overlay.text", defArgs s_Overlay_text, defBody s_Overlay_text, defScope s_Overlay_text, [], []⟩
def dd_is_letter : He.DefD := ⟨("is_letter", none), "is_letter", "is_letter", defArgs s_is_letter, defBody s_is_letter, defScope s_is_letter, [], []⟩
def dd_is_figure : He.DefD := ⟨("is_figure", none), "is_figure", "is_figure", defArgs s_is_figure, defBody s_is_figure, defScope s_is_figure, [], []⟩
def dd_begins_one : He.DefD := ⟨("begins_one", none), "begins_one", "begins_one", defArgs s_begins_one, defBody s_begins_one, defScope s_begins_one, [], []⟩
def dd_Cursor___init__ : He.DefD := ⟨("Cursor", some "__init__"), "__init__", "Cursor.__init__", defArgs s_Cursor___init__, defBody s_Cursor___init__, defScope s_Cursor___init__, [], []⟩
def dd_Cursor_upcoming : He.DefD := ⟨("Cursor", some "upcoming"), "upcoming", "Cursor.upcoming", defArgs s_Cursor_upcoming, defBody s_Cursor_upcoming, defScope s_Cursor_upcoming, [], []⟩
def dd_Cursor_refuse : He.DefD := ⟨("Cursor", some "refuse"), "refuse", "Cursor.refuse", defArgs s_Cursor_refuse, defBody s_Cursor_refuse, defScope s_Cursor_refuse, [], []⟩
def dd_Cursor_finish : He.DefD := ⟨("Cursor", some "finish"), "finish", "Cursor.finish", defArgs s_Cursor_finish, defBody s_Cursor_finish, defScope s_Cursor_finish, [], []⟩
def dd_Cursor_skips : He.DefD := ⟨("Cursor", some "skips"), "skips", "Cursor.skips", defArgs s_Cursor_skips, defBody s_Cursor_skips, defScope s_Cursor_skips, [], []⟩
def dd_Cursor_expect : He.DefD := ⟨("Cursor", some "expect"), "expect", "Cursor.expect", defArgs s_Cursor_expect, defBody s_Cursor_expect, defScope s_Cursor_expect, [], []⟩
def dd_Cursor_word_of : He.DefD := ⟨("Cursor", some "word_of"), "word_of", "Cursor.word_of", defArgs s_Cursor_word_of, defBody s_Cursor_word_of, defScope s_Cursor_word_of, [], []⟩
def dd_Cursor_name_unlike : He.DefD := ⟨("Cursor", some "name_unlike"), "name_unlike", "Cursor.name_unlike", defArgs s_Cursor_name_unlike, defBody s_Cursor_name_unlike, defScope s_Cursor_name_unlike, [], []⟩
def dd_Cursor_number_to : He.DefD := ⟨("Cursor", some "number_to"), "number_to", "Cursor.number_to", defArgs s_Cursor_number_to, defBody s_Cursor_number_to, defScope s_Cursor_number_to, [], []⟩
def dd_read_named : He.DefD := ⟨("read_named", none), "read_named", "read_named", defArgs s_read_named, defBody s_read_named, defScope s_read_named, [], []⟩
def dd_read_row : He.DefD := ⟨("read_row", none), "read_row", "read_row", defArgs s_read_row, defBody s_read_row, defScope s_read_row, [], []⟩
def dd_read_inner : He.DefD := ⟨("read_inner", none), "read_inner", "read_inner", defArgs s_read_inner, defBody s_read_inner, defScope s_read_inner, [], []⟩
def dd_read_part : He.DefD := ⟨("read_part", none), "read_part", "read_part", defArgs s_read_part, defBody s_read_part, defScope s_read_part, [], []⟩
def dd__law_pen : He.DefD := ⟨("_law_pen", none), "_law_pen", "_law_pen", defArgs s__law_pen, defBody s__law_pen, defScope s__law_pen, [], []⟩
def dd__law_draw : He.DefD := ⟨("_law_draw", none), "_law_draw", "_law_draw", defArgs s__law_draw, defBody s__law_draw, defScope s__law_draw, [], []⟩
def dd__law_pick : He.DefD := ⟨("_law_pick", none), "_law_pick", "_law_pick", defArgs s__law_pick, defBody s__law_pick, defScope s__law_pick, [], []⟩
def dd__law_names : He.DefD := ⟨("_law_names", none), "_law_names", "_law_names", defArgs s__law_names, defBody s__law_names, defScope s__law_names, [], []⟩
def dd__law_part : He.DefD := ⟨("_law_part", none), "_law_part", "_law_part", defArgs s__law_part, defBody s__law_part, defScope s__law_part, [], []⟩
def dd__law_text : He.DefD := ⟨("_law_text", none), "_law_text", "_law_text", defArgs s__law_text, defBody s__law_text, defScope s__law_text, [], []⟩
def dd__law_plan : He.DefD := ⟨("_law_plan", none), "_law_plan", "_law_plan", defArgs s__law_plan, defBody s__law_plan, defScope s__law_plan, [], []⟩
def dd__law_signs : He.DefD := ⟨("_law_signs", none), "_law_signs", "_law_signs", defArgs s__law_signs, defBody s__law_signs, defScope s__law_signs, [], []⟩
def dd__law_kinds : He.DefD := ⟨("_law_kinds", none), "_law_kinds", "_law_kinds", defArgs s__law_kinds, defBody s__law_kinds, defScope s__law_kinds, [], []⟩
def dd__law_part_one : He.DefD := ⟨("_law_part_one", none), "_law_part_one", "_law_part_one", defArgs s__law_part_one, defBody s__law_part_one, defScope s__law_part_one, [], []⟩
def dd__law_heard : He.DefD := ⟨("_law_heard", none), "_law_heard", "_law_heard", defArgs s__law_heard, defBody s__law_heard, defScope s__law_heard, [], []⟩
def dd__law_known : He.DefD := ⟨("_law_known", none), "_law_known", "_law_known", defArgs s__law_known, defBody s__law_known, defScope s__law_known, [], []⟩
def dd__law_bent_right : He.DefD := ⟨("_law_bent_right", none), "_law_bent_right", "_law_bent_right", defArgs s__law_bent_right, defBody s__law_bent_right, defScope s__law_bent_right, [], []⟩
def dd__law_part_two : He.DefD := ⟨("_law_part_two", none), "_law_part_two", "_law_part_two", defArgs s__law_part_two, defBody s__law_part_two, defScope s__law_part_two, [], []⟩
def dd_law : He.DefD := ⟨("law", none), "law", "law", defArgs s_law, defBody s_law, defScope s_law, [], []⟩
def dd_BadText___init__ : He.DefD := ⟨("BadText", some "__init__"), "__init__", "BadText.__init__", defArgs s_BadText___init__, defBody s_BadText___init__, defScope s_BadText___init__, [], []⟩
def dd_Kind___init__ : SupX := ⟨("Kind", some "__init__"), "Kind", "__init__", "Kind.__init__", defArgs s_Kind___init__, defBody s_Kind___init__, defScope s_Kind___init__, [.int 1]⟩
def dd_Byte___init__ : SupX := ⟨("Byte", some "__init__"), "Byte", "__init__", "Byte.__init__", defArgs s_Byte___init__, defBody s_Byte___init__, defScope s_Byte___init__, []⟩
def dd_Use___init__ : SupX := ⟨("Use", some "__init__"), "Use", "__init__", "Use.__init__", defArgs s_Use___init__, defBody s_Use___init__, defScope s_Use___init__, []⟩
def dd_Group___init__ : SupX := ⟨("Group", some "__init__"), "Group", "__init__", "Group.__init__", defArgs s_Group___init__, defBody s_Group___init__, defScope s_Group___init__, []⟩
def dd_Row___init__ : SupX := ⟨("Row", some "__init__"), "Row", "__init__", "Row.__init__", defArgs s_Row___init__, defBody s_Row___init__, defScope s_Row___init__, []⟩
def dd_Record___init__ : SupX := ⟨("Record", some "__init__"), "Record", "__init__", "Record.__init__", defArgs s_Record___init__, defBody s_Record___init__, defScope s_Record___init__, []⟩
def dd_Overlay___init__ : SupX := ⟨("Overlay", some "__init__"), "Overlay", "__init__", "Overlay.__init__", defArgs s_Overlay___init__, defBody s_Overlay___init__, defScope s_Overlay___init__, []⟩
def fnL : List He.DefD := [dd_is_whole, dd_is_between, dd_is_name, dd_need_pairs, dd_depth_over, dd_pair_texts, dd_Part___init__, dd_Part___eq__, dd_Part___str__, dd_Kind_shape, dd_Kind_text, dd_Byte_shape, dd_Byte_text, dd_Use_shape, dd_Use_text, dd_Row_shape, dd_Row_text, dd_Record_shape, dd_Record_text, dd_Overlay_shape, dd_Overlay_text, dd_is_letter, dd_is_figure, dd_begins_one, dd_Cursor___init__, dd_Cursor_upcoming, dd_Cursor_refuse, dd_Cursor_finish, dd_Cursor_skips, dd_Cursor_expect, dd_Cursor_word_of, dd_Cursor_name_unlike, dd_Cursor_number_to, dd_read_named, dd_read_row, dd_read_inner, dd_read_part, dd__law_pen, dd__law_draw, dd__law_pick, dd__law_names, dd__law_part, dd__law_text, dd__law_plan, dd__law_signs, dd__law_kinds, dd__law_part_one, dd__law_heard, dd__law_known, dd__law_bent_right, dd__law_part_two, dd_law, dd_BadText___init__]
def spL : List SupX := [dd_Kind___init__, dd_Byte___init__, dd_Use___init__, dd_Group___init__, dd_Row___init__, dd_Record___init__, dd_Overlay___init__]
def fa0 : List He.Fa := [.free "len", .free "isinstance", .free "int", .free "bool", .free "all", .free "any", .free "range", .free "str", .free "list", .free "tuple", .free "abs", .free "enumerate", .free "super", .glo "is_whole", .glo "is_between", .glo "is_name", .glo "need_pairs", .glo "depth_over", .glo "pair_texts", .glo "is_letter", .glo "is_figure", .glo "begins_one", .glo "read_named", .glo "read_row", .glo "read_inner", .glo "read_part", .glo "_law_pen", .glo "_law_draw", .glo "_law_pick", .glo "_law_names", .glo "_law_part", .glo "_law_text", .glo "_law_plan", .glo "_law_signs", .glo "_law_kinds", .glo "_law_part_one", .glo "_law_heard", .glo "_law_known", .glo "_law_bent_right", .glo "_law_part_two"]
def fa1 : List He.Fa := [.glo "law", .glo "Part", .glo "Cursor", .glo "BadText", .glo "PadError", .glo "BARRED", .glo "Kind", .glo "Byte", .glo "Use", .glo "Row", .glo "Record", .glo "Overlay", .str "LETTERS_names" "abcdefghijklmnopqrstuvwxyz", .str "LETTERS_cursors" "abcdefghijklmnopqrstuvwxyz", .str "FIGURES_cursors" "0123456789", .int "LONGEST" 8, .int "LONGEST_NAME" 8, .int "MOST_TIMES" 8, .cls "Kind", .cls "Byte", .cls "Use", .cls "Row", .cls "Record", .cls "Overlay", .cls "Cursor", .noat "Cursor" "script", .noat "Cursor" "at", .noat "Kind" "name", .noat "Kind" "times", .noat "Use" "name", .noat "Row" "held", .noat "Record" "held", .noat "Overlay" "held", .noat "Row" "part", .noat "Row" "n", .noat "Record" "fields", .noat "Overlay" "members", .noat "Kind" "depth", .noat "Byte" "depth", .noat "Use" "depth"]
def fa2 : List He.Fa := [.noat "Row" "depth", .noat "Record" "depth", .noat "Overlay" "depth", .meth "Kind" "shape", .meth "Kind" "text", .meth "Byte" "shape", .meth "Byte" "text", .meth "Use" "shape", .meth "Use" "text", .meth "Row" "shape", .meth "Row" "text", .meth "Record" "shape", .meth "Record" "text", .meth "Overlay" "shape", .meth "Overlay" "text", .meth "Cursor" "upcoming", .meth "Cursor" "refuse", .meth "Cursor" "finish", .meth "Cursor" "skips", .meth "Cursor" "expect", .meth "Cursor" "word_of", .meth "Cursor" "name_unlike", .meth "Cursor" "number_to", .mkr "Kind", .mkr "Byte", .mkr "Use", .mkr "Row", .mkr "Record", .mkr "Overlay", .mkr "Cursor"]
def faL : List He.Fa := fa0 ++ fa1 ++ fa2
def tfL : List He.Defn := [("_law_bent_right", none), ("_law_part_two", none)]
abbrev fileP : Str := PySem.Challenge.pw_manypads_k89_parts_written_and_read_and.main.file
def ex0 (K : PySem.W.Frag) : Bool := (tupB2 K "BARRED" [.str "byte", .str "size", .str "align", .str "place", .str "end", .str "packed", .str "and", .str "or", .str "not", .str "yes", .str "no", .str "for", .str "nogap", .str "notail", .str "leaf"]) && ((constB K (ga K "Part") "DEPTH" (.int 4)) && ((constB K (ga K "Row") "MOST" (.int 64)) && ((constB K (ga K "Record") "MOST" (.int 8)) && ((constB K (ga K "Overlay") "MOST" (.int 4)) && ((tyfB K (ga K "Kind")) && ((tyfB K (ga K "Byte")) && ((tyfB K (ga K "Use")) && ((tyfB K (ga K "Row")) && ((tyfB K (ga K "Record")) && ((tyfB K (ga K "Overlay")) && ((tyfB K (ga K "Cursor")))))))))))))
def ex1 (K : PySem.W.Frag) : Bool := (kitB2 K (.ref (ga K "Kind")) (.ref (ga K "Part")) true) && ((kitB2 K (.ref (ga K "Byte")) (.ref (ga K "Part")) true) && ((kitB2 K (.ref (ga K "Use")) (.ref (ga K "Part")) true) && ((kitB2 K (.ref (ga K "Row")) (.ref (ga K "Part")) true) && ((kitB2 K (.ref (ga K "Record")) (.ref (ga K "Part")) true) && ((kitB2 K (.ref (ga K "Overlay")) (.ref (ga K "Part")) true) && ((SupX.ok fileP K dd_Kind___init__) && ((SupX.ok fileP K dd_Byte___init__) && ((SupX.ok fileP K dd_Use___init__) && ((SupX.ok fileP K dd_Group___init__) && ((SupX.ok fileP K dd_Row___init__) && ((SupX.ok fileP K dd_Record___init__))))))))))))
def ex2 (K : PySem.W.Frag) : Bool := (SupX.ok fileP K dd_Overlay___init__) && (((PySem.W.clsIn K (ga K "Kind")).isSome) && (((PySem.W.clsIn K (ga K "Byte")).isSome) && (((PySem.W.clsIn K (ga K "Use")).isSome) && (((PySem.W.clsIn K (ga K "Group")).isSome) && (((PySem.W.clsIn K (ga K "Row")).isSome) && (((PySem.W.clsIn K (ga K "Record")).isSome) && (((PySem.W.clsIn K (ga K "Overlay")).isSome) && ((smB K (ga K "Kind") (ga K "Kind") (fAd K ("Part", some "__init__"))) && ((smB K (ga K "Byte") (ga K "Byte") (fAd K ("Part", some "__init__"))) && ((smB K (ga K "Use") (ga K "Use") (fAd K ("Part", some "__init__"))) && ((smB K (ga K "Row") (ga K "Row") (fAd K ("Group", some "__init__"))))))))))))))
def ex3 (K : PySem.W.Frag) : Bool := (smB K (ga K "Record") (ga K "Record") (fAd K ("Group", some "__init__"))) && ((smB K (ga K "Overlay") (ga K "Overlay") (fAd K ("Group", some "__init__"))) && ((smB K (ga K "Row") (ga K "Group") (fAd K ("Part", some "__init__"))) && ((smB K (ga K "Record") (ga K "Group") (fAd K ("Part", some "__init__"))) && ((smB K (ga K "Overlay") (ga K "Group") (fAd K ("Part", some "__init__"))) && ((optB (PySem.W.nsIn K mainGlobals "super") (some none)) && ((optB (PySem.W.nsIn K PySem.cStatics "thirdparty.any") (some none)) && ((oexB K (ga K "BadText")) && ((optB (PySem.W.findIn K (.ref (ga K "BadText")) "__init__") (some (some (.ref (fAd K ("BadText", some "__init__")))))) && ((decide (PySem.W.typeIn K (.ref (fAd K ("BadText", some "__init__"))) = some (.type "function"))) && ((optB (PySem.W.findIn K (.ref (ga K "BadText")) "at") (some none)) && ((ekB K (ga K "BadText")))))))))))))
def ex4 (K : PySem.W.Frag) : Bool := (boolB (PySem.W.exmOne K (.ref (ga K "BadText")) (.ref (ga K "PadError"))) true) && ((kitB2 K (.ref (ga K "BadText")) (.ref (ga K "BadText")) true) && ((kitB2 K (.ref (ga K "Kind")) (.type "str") false) && (([ga K "Kind", ga K "Byte", ga K "Use", ga K "Row", ga K "Record", ga K "Overlay"].all fun a => decide (a ≠ ga K "Cursor")) && (([ga K "Kind", ga K "Byte", ga K "Use", ga K "Row", ga K "Record", ga K "Overlay"].all fun a => optB (PySem.W.findIn K (.ref a) "__eq__") (some (some (.ref (fAd K ("Part", some "__eq__"))))) && optB (PySem.W.findIn K (.ref a) "__str__") (some (some (.ref (fAd K ("Part", some "__str__")))))) && ((PySem.W.isFn K (.ref (fAd K ("Part", some "__eq__")))) && ((decide (PySem.W.typeIn K (.ref (fAd K ("Part", some "__str__"))) = some (.type "function"))) && ((decide ((He.cT K ("_law_bent_right", none)).2 ≠ (He.cT K ("_law_part_two", none)).2)))))))))
def exL (K : PySem.W.Frag) : Bool := ex0 K && (ex1 K && (ex2 K && (ex3 K && (ex4 K))))
theorem exP0 {K : PySem.W.Frag} (h : exL K = true) : ex0 K = true := (two h).1
theorem ex_t_BARRED {K : PySem.W.Frag} (h : exL K = true) : (tupB2 K "BARRED" [.str "byte", .str "size", .str "align", .str "place", .str "end", .str "packed", .str "and", .str "or", .str "not", .str "yes", .str "no", .str "for", .str "nogap", .str "notail", .str "leaf"]) = true := (two (exP0 h)).1
theorem ex_k_Part_DEPTH {K : PySem.W.Frag} (h : exL K = true) : (constB K (ga K "Part") "DEPTH" (.int 4)) = true := (two (two (exP0 h)).2).1
theorem ex_k_Row_MOST {K : PySem.W.Frag} (h : exL K = true) : (constB K (ga K "Row") "MOST" (.int 64)) = true := (two (two (two (exP0 h)).2).2).1
theorem ex_k_Record_MOST {K : PySem.W.Frag} (h : exL K = true) : (constB K (ga K "Record") "MOST" (.int 8)) = true := (two (two (two (two (exP0 h)).2).2).2).1
theorem ex_k_Overlay_MOST {K : PySem.W.Frag} (h : exL K = true) : (constB K (ga K "Overlay") "MOST" (.int 4)) = true := (two (two (two (two (two (exP0 h)).2).2).2).2).1
theorem ex_ty_Kind {K : PySem.W.Frag} (h : exL K = true) : (tyfB K (ga K "Kind")) = true := (two (two (two (two (two (two (exP0 h)).2).2).2).2).2).1
theorem ex_ty_Byte {K : PySem.W.Frag} (h : exL K = true) : (tyfB K (ga K "Byte")) = true := (two (two (two (two (two (two (two (exP0 h)).2).2).2).2).2).2).1
theorem ex_ty_Use {K : PySem.W.Frag} (h : exL K = true) : (tyfB K (ga K "Use")) = true := (two (two (two (two (two (two (two (two (exP0 h)).2).2).2).2).2).2).2).1
theorem ex_ty_Row {K : PySem.W.Frag} (h : exL K = true) : (tyfB K (ga K "Row")) = true := (two (two (two (two (two (two (two (two (two (exP0 h)).2).2).2).2).2).2).2).2).1
theorem ex_ty_Record {K : PySem.W.Frag} (h : exL K = true) : (tyfB K (ga K "Record")) = true := (two (two (two (two (two (two (two (two (two (two (exP0 h)).2).2).2).2).2).2).2).2).2).1
theorem ex_ty_Overlay {K : PySem.W.Frag} (h : exL K = true) : (tyfB K (ga K "Overlay")) = true := (two (two (two (two (two (two (two (two (two (two (two (exP0 h)).2).2).2).2).2).2).2).2).2).2).1
theorem ex_ty_Cursor {K : PySem.W.Frag} (h : exL K = true) : (tyfB K (ga K "Cursor")) = true := (two (two (two (two (two (two (two (two (two (two (two (exP0 h)).2).2).2).2).2).2).2).2).2).2).2
theorem exP1 {K : PySem.W.Frag} (h : exL K = true) : ex1 K = true := (two (two h).2).1
theorem ex_kit_Kind_Part {K : PySem.W.Frag} (h : exL K = true) : (kitB2 K (.ref (ga K "Kind")) (.ref (ga K "Part")) true) = true := (two (exP1 h)).1
theorem ex_kit_Byte_Part {K : PySem.W.Frag} (h : exL K = true) : (kitB2 K (.ref (ga K "Byte")) (.ref (ga K "Part")) true) = true := (two (two (exP1 h)).2).1
theorem ex_kit_Use_Part {K : PySem.W.Frag} (h : exL K = true) : (kitB2 K (.ref (ga K "Use")) (.ref (ga K "Part")) true) = true := (two (two (two (exP1 h)).2).2).1
theorem ex_kit_Row_Part {K : PySem.W.Frag} (h : exL K = true) : (kitB2 K (.ref (ga K "Row")) (.ref (ga K "Part")) true) = true := (two (two (two (two (exP1 h)).2).2).2).1
theorem ex_kit_Record_Part {K : PySem.W.Frag} (h : exL K = true) : (kitB2 K (.ref (ga K "Record")) (.ref (ga K "Part")) true) = true := (two (two (two (two (two (exP1 h)).2).2).2).2).1
theorem ex_kit_Overlay_Part {K : PySem.W.Frag} (h : exL K = true) : (kitB2 K (.ref (ga K "Overlay")) (.ref (ga K "Part")) true) = true := (two (two (two (two (two (two (exP1 h)).2).2).2).2).2).1
theorem ex_s_Kind___init__ {K : PySem.W.Frag} (h : exL K = true) : (SupX.ok fileP K dd_Kind___init__) = true := (two (two (two (two (two (two (two (exP1 h)).2).2).2).2).2).2).1
theorem ex_s_Byte___init__ {K : PySem.W.Frag} (h : exL K = true) : (SupX.ok fileP K dd_Byte___init__) = true := (two (two (two (two (two (two (two (two (exP1 h)).2).2).2).2).2).2).2).1
theorem ex_s_Use___init__ {K : PySem.W.Frag} (h : exL K = true) : (SupX.ok fileP K dd_Use___init__) = true := (two (two (two (two (two (two (two (two (two (exP1 h)).2).2).2).2).2).2).2).2).1
theorem ex_s_Group___init__ {K : PySem.W.Frag} (h : exL K = true) : (SupX.ok fileP K dd_Group___init__) = true := (two (two (two (two (two (two (two (two (two (two (exP1 h)).2).2).2).2).2).2).2).2).2).1
theorem ex_s_Row___init__ {K : PySem.W.Frag} (h : exL K = true) : (SupX.ok fileP K dd_Row___init__) = true := (two (two (two (two (two (two (two (two (two (two (two (exP1 h)).2).2).2).2).2).2).2).2).2).2).1
theorem ex_s_Record___init__ {K : PySem.W.Frag} (h : exL K = true) : (SupX.ok fileP K dd_Record___init__) = true := (two (two (two (two (two (two (two (two (two (two (two (exP1 h)).2).2).2).2).2).2).2).2).2).2).2
theorem exP2 {K : PySem.W.Frag} (h : exL K = true) : ex2 K = true := (two (two (two h).2).2).1
theorem ex_s_Overlay___init__ {K : PySem.W.Frag} (h : exL K = true) : (SupX.ok fileP K dd_Overlay___init__) = true := (two (exP2 h)).1
theorem ex_cd_Kind {K : PySem.W.Frag} (h : exL K = true) : ((PySem.W.clsIn K (ga K "Kind")).isSome) = true := (two (two (exP2 h)).2).1
theorem ex_cd_Byte {K : PySem.W.Frag} (h : exL K = true) : ((PySem.W.clsIn K (ga K "Byte")).isSome) = true := (two (two (two (exP2 h)).2).2).1
theorem ex_cd_Use {K : PySem.W.Frag} (h : exL K = true) : ((PySem.W.clsIn K (ga K "Use")).isSome) = true := (two (two (two (two (exP2 h)).2).2).2).1
theorem ex_cd_Group {K : PySem.W.Frag} (h : exL K = true) : ((PySem.W.clsIn K (ga K "Group")).isSome) = true := (two (two (two (two (two (exP2 h)).2).2).2).2).1
theorem ex_cd_Row {K : PySem.W.Frag} (h : exL K = true) : ((PySem.W.clsIn K (ga K "Row")).isSome) = true := (two (two (two (two (two (two (exP2 h)).2).2).2).2).2).1
theorem ex_cd_Record {K : PySem.W.Frag} (h : exL K = true) : ((PySem.W.clsIn K (ga K "Record")).isSome) = true := (two (two (two (two (two (two (two (exP2 h)).2).2).2).2).2).2).1
theorem ex_cd_Overlay {K : PySem.W.Frag} (h : exL K = true) : ((PySem.W.clsIn K (ga K "Overlay")).isSome) = true := (two (two (two (two (two (two (two (two (exP2 h)).2).2).2).2).2).2).2).1
theorem ex_sm_Kind_Kind {K : PySem.W.Frag} (h : exL K = true) : (smB K (ga K "Kind") (ga K "Kind") (fAd K ("Part", some "__init__"))) = true := (two (two (two (two (two (two (two (two (two (exP2 h)).2).2).2).2).2).2).2).2).1
theorem ex_sm_Byte_Byte {K : PySem.W.Frag} (h : exL K = true) : (smB K (ga K "Byte") (ga K "Byte") (fAd K ("Part", some "__init__"))) = true := (two (two (two (two (two (two (two (two (two (two (exP2 h)).2).2).2).2).2).2).2).2).2).1
theorem ex_sm_Use_Use {K : PySem.W.Frag} (h : exL K = true) : (smB K (ga K "Use") (ga K "Use") (fAd K ("Part", some "__init__"))) = true := (two (two (two (two (two (two (two (two (two (two (two (exP2 h)).2).2).2).2).2).2).2).2).2).2).1
theorem ex_sm_Row_Row {K : PySem.W.Frag} (h : exL K = true) : (smB K (ga K "Row") (ga K "Row") (fAd K ("Group", some "__init__"))) = true := (two (two (two (two (two (two (two (two (two (two (two (exP2 h)).2).2).2).2).2).2).2).2).2).2).2
theorem exP3 {K : PySem.W.Frag} (h : exL K = true) : ex3 K = true := (two (two (two (two h).2).2).2).1
theorem ex_sm_Record_Record {K : PySem.W.Frag} (h : exL K = true) : (smB K (ga K "Record") (ga K "Record") (fAd K ("Group", some "__init__"))) = true := (two (exP3 h)).1
theorem ex_sm_Overlay_Overlay {K : PySem.W.Frag} (h : exL K = true) : (smB K (ga K "Overlay") (ga K "Overlay") (fAd K ("Group", some "__init__"))) = true := (two (two (exP3 h)).2).1
theorem ex_sm_Row_Group {K : PySem.W.Frag} (h : exL K = true) : (smB K (ga K "Row") (ga K "Group") (fAd K ("Part", some "__init__"))) = true := (two (two (two (exP3 h)).2).2).1
theorem ex_sm_Record_Group {K : PySem.W.Frag} (h : exL K = true) : (smB K (ga K "Record") (ga K "Group") (fAd K ("Part", some "__init__"))) = true := (two (two (two (two (exP3 h)).2).2).2).1
theorem ex_sm_Overlay_Group {K : PySem.W.Frag} (h : exL K = true) : (smB K (ga K "Overlay") (ga K "Group") (fAd K ("Part", some "__init__"))) = true := (two (two (two (two (two (exP3 h)).2).2).2).2).1
theorem ex_nosup {K : PySem.W.Frag} (h : exL K = true) : (optB (PySem.W.nsIn K mainGlobals "super") (some none)) = true := (two (two (two (two (two (two (exP3 h)).2).2).2).2).2).1
theorem ex_opq {K : PySem.W.Frag} (h : exL K = true) : (optB (PySem.W.nsIn K PySem.cStatics "thirdparty.any") (some none)) = true := (two (two (two (two (two (two (two (exP3 h)).2).2).2).2).2).2).1
theorem ex_x_BadText {K : PySem.W.Frag} (h : exL K = true) : (oexB K (ga K "BadText")) = true := (two (two (two (two (two (two (two (two (exP3 h)).2).2).2).2).2).2).2).1
theorem ex_xi_BadText {K : PySem.W.Frag} (h : exL K = true) : (optB (PySem.W.findIn K (.ref (ga K "BadText")) "__init__") (some (some (.ref (fAd K ("BadText", some "__init__")))))) = true := (two (two (two (two (two (two (two (two (two (exP3 h)).2).2).2).2).2).2).2).2).1
theorem ex_xt_BadText {K : PySem.W.Frag} (h : exL K = true) : (decide (PySem.W.typeIn K (.ref (fAd K ("BadText", some "__init__"))) = some (.type "function"))) = true := (two (two (two (two (two (two (two (two (two (two (exP3 h)).2).2).2).2).2).2).2).2).2).1
theorem ex_xn_BadText {K : PySem.W.Frag} (h : exL K = true) : (optB (PySem.W.findIn K (.ref (ga K "BadText")) "at") (some none)) = true := (two (two (two (two (two (two (two (two (two (two (two (exP3 h)).2).2).2).2).2).2).2).2).2).2).1
theorem ex_ek {K : PySem.W.Frag} (h : exL K = true) : (ekB K (ga K "BadText")) = true := (two (two (two (two (two (two (two (two (two (two (two (exP3 h)).2).2).2).2).2).2).2).2).2).2).2
theorem exP4 {K : PySem.W.Frag} (h : exL K = true) : ex4 K = true := (two (two (two (two h).2).2).2).2
theorem ex_em {K : PySem.W.Frag} (h : exL K = true) : (boolB (PySem.W.exmOne K (.ref (ga K "BadText")) (.ref (ga K "PadError"))) true) = true := (two (exP4 h)).1
theorem ex_kb {K : PySem.W.Frag} (h : exL K = true) : (kitB2 K (.ref (ga K "BadText")) (.ref (ga K "BadText")) true) = true := (two (two (exP4 h)).2).1
theorem ex_ks {K : PySem.W.Frag} (h : exL K = true) : (kitB2 K (.ref (ga K "Kind")) (.type "str") false) = true := (two (two (two (exP4 h)).2).2).1
theorem ex_apart {K : PySem.W.Frag} (h : exL K = true) : ([ga K "Kind", ga K "Byte", ga K "Use", ga K "Row", ga K "Record", ga K "Overlay"].all fun a => decide (a ≠ ga K "Cursor")) = true := (two (two (two (two (exP4 h)).2).2).2).1
theorem ex_own {K : PySem.W.Frag} (h : exL K = true) : ([ga K "Kind", ga K "Byte", ga K "Use", ga K "Row", ga K "Record", ga K "Overlay"].all fun a => optB (PySem.W.findIn K (.ref a) "__eq__") (some (some (.ref (fAd K ("Part", some "__eq__"))))) && optB (PySem.W.findIn K (.ref a) "__str__") (some (some (.ref (fAd K ("Part", some "__str__")))))) = true := (two (two (two (two (two (exP4 h)).2).2).2).2).1
theorem ex_eqf {K : PySem.W.Frag} (h : exL K = true) : (PySem.W.isFn K (.ref (fAd K ("Part", some "__eq__")))) = true := (two (two (two (two (two (two (exP4 h)).2).2).2).2).2).1
theorem ex_strf {K : PySem.W.Frag} (h : exL K = true) : (decide (PySem.W.typeIn K (.ref (fAd K ("Part", some "__str__"))) = some (.type "function"))) = true := (two (two (two (two (two (two (two (exP4 h)).2).2).2).2).2).2).1
theorem ex_tabs {K : PySem.W.Frag} (h : exL K = true) : (decide ((He.cT K ("_law_bent_right", none)).2 ≠ (He.cT K ("_law_part_two", none)).2)) = true := (two (two (two (two (two (two (two (exP4 h)).2).2).2).2).2).2).2
section
variable {K : PySem.W.Frag} {mg : Str → Option Value} {base : Heap} {h : Heap}
theorem head_zk (hK : K.In base) (hG : base.Ns mainGlobals mg) (c : SaysY faL fnL spL tfL exL h K) : Zk K mg base := ⟨hK,
  hG,
  He.free_ok hK hG (c.d.fact 0 (f := .free "len") rfl),
  He.free_ok hK hG (c.d.fact 1 (f := .free "isinstance") rfl),
  He.free_ok hK hG (c.d.fact 2 (f := .free "int") rfl),
  He.free_ok hK hG (c.d.fact 3 (f := .free "bool") rfl),
  He.free_ok hK hG (c.d.fact 4 (f := .free "all") rfl),
  He.free_ok hK hG (c.d.fact 5 (f := .free "any") rfl),
  He.free_ok hK hG (c.d.fact 6 (f := .free "range") rfl),
  He.free_ok hK hG (c.d.fact 7 (f := .free "str") rfl),
  He.free_ok hK hG (c.d.fact 8 (f := .free "list") rfl),
  He.free_ok hK hG (c.d.fact 9 (f := .free "tuple") rfl),
  He.free_ok hK hG (c.d.fact 10 (f := .free "abs") rfl),
  He.free_ok hK hG (c.d.fact 11 (f := .free "enumerate") rfl),
  He.free_ok hK hG (c.d.fact 12 (f := .free "super") rfl),
  He.glo_ok hK hG (c.d.fact 13 (f := .glo "is_whole") rfl),
  He.glo_ok hK hG (c.d.fact 14 (f := .glo "is_between") rfl),
  He.glo_ok hK hG (c.d.fact 15 (f := .glo "is_name") rfl),
  He.glo_ok hK hG (c.d.fact 16 (f := .glo "need_pairs") rfl),
  He.glo_ok hK hG (c.d.fact 17 (f := .glo "depth_over") rfl),
  He.glo_ok hK hG (c.d.fact 18 (f := .glo "pair_texts") rfl),
  He.glo_ok hK hG (c.d.fact 19 (f := .glo "is_letter") rfl),
  He.glo_ok hK hG (c.d.fact 20 (f := .glo "is_figure") rfl),
  He.glo_ok hK hG (c.d.fact 21 (f := .glo "begins_one") rfl),
  He.glo_ok hK hG (c.d.fact 22 (f := .glo "read_named") rfl),
  He.glo_ok hK hG (c.d.fact 23 (f := .glo "read_row") rfl),
  He.glo_ok hK hG (c.d.fact 24 (f := .glo "read_inner") rfl),
  He.glo_ok hK hG (c.d.fact 25 (f := .glo "read_part") rfl),
  He.glo_ok hK hG (c.d.fact 26 (f := .glo "_law_pen") rfl),
  He.glo_ok hK hG (c.d.fact 27 (f := .glo "_law_draw") rfl),
  He.glo_ok hK hG (c.d.fact 28 (f := .glo "_law_pick") rfl),
  He.glo_ok hK hG (c.d.fact 29 (f := .glo "_law_names") rfl),
  He.glo_ok hK hG (c.d.fact 30 (f := .glo "_law_part") rfl),
  He.glo_ok hK hG (c.d.fact 31 (f := .glo "_law_text") rfl),
  He.glo_ok hK hG (c.d.fact 32 (f := .glo "_law_plan") rfl),
  He.glo_ok hK hG (c.d.fact 33 (f := .glo "_law_signs") rfl),
  He.glo_ok hK hG (c.d.fact 34 (f := .glo "_law_kinds") rfl),
  He.glo_ok hK hG (c.d.fact 35 (f := .glo "_law_part_one") rfl),
  He.glo_ok hK hG (c.d.fact 36 (f := .glo "_law_heard") rfl),
  He.glo_ok hK hG (c.d.fact 37 (f := .glo "_law_known") rfl),
  He.glo_ok hK hG (c.d.fact 38 (f := .glo "_law_bent_right") rfl),
  He.glo_ok hK hG (c.d.fact 39 (f := .glo "_law_part_two") rfl),
  He.glo_ok hK hG (c.d.fact 40 (f := .glo "law") rfl),
  He.glo_ok hK hG (c.d.fact 41 (f := .glo "Part") rfl),
  He.glo_ok hK hG (c.d.fact 42 (f := .glo "Cursor") rfl),
  He.glo_ok hK hG (c.d.fact 43 (f := .glo "BadText") rfl),
  He.glo_ok hK hG (c.d.fact 44 (f := .glo "PadError") rfl),
  He.glo_ok hK hG (c.d.fact 45 (f := .glo "BARRED") rfl),
  He.glo_ok hK hG (c.d.fact 46 (f := .glo "Kind") rfl),
  He.glo_ok hK hG (c.d.fact 47 (f := .glo "Byte") rfl),
  He.glo_ok hK hG (c.d.fact 48 (f := .glo "Use") rfl),
  He.glo_ok hK hG (c.d.fact 49 (f := .glo "Row") rfl),
  He.glo_ok hK hG (c.d.fact 50 (f := .glo "Record") rfl),
  He.glo_ok hK hG (c.d.fact 51 (f := .glo "Overlay") rfl),
  He.str_ok hK hG (c.d.fact 52 (f := .str "LETTERS_names" "abcdefghijklmnopqrstuvwxyz") rfl),
  He.str_ok hK hG (c.d.fact 53 (f := .str "LETTERS_cursors" "abcdefghijklmnopqrstuvwxyz") rfl),
  He.str_ok hK hG (c.d.fact 54 (f := .str "FIGURES_cursors" "0123456789") rfl),
  He.int_ok hK hG (c.d.fact 55 (f := .int "LONGEST" 8) rfl),
  He.int_ok hK hG (c.d.fact 56 (f := .int "LONGEST_NAME" 8) rfl),
  He.int_ok hK hG (c.d.fact 57 (f := .int "MOST_TIMES" 8) rfl),
  fun H => He.tupB_ok (ex_t_BARRED c.more) H,
  const_ok (ex_k_Part_DEPTH c.more),
  const_ok (ex_k_Row_MOST c.more),
  const_ok (ex_k_Record_MOST c.more),
  const_ok (ex_k_Overlay_MOST c.more),
  He.cls_ok (c.d.fact 58 (f := .cls "Kind") rfl),
  tyf_ok (ex_ty_Kind c.more),
  He.cls_ok (c.d.fact 59 (f := .cls "Byte") rfl),
  tyf_ok (ex_ty_Byte c.more),
  He.cls_ok (c.d.fact 60 (f := .cls "Use") rfl),
  tyf_ok (ex_ty_Use c.more),
  He.cls_ok (c.d.fact 61 (f := .cls "Row") rfl),
  tyf_ok (ex_ty_Row c.more),
  He.cls_ok (c.d.fact 62 (f := .cls "Record") rfl),
  tyf_ok (ex_ty_Record c.more),
  He.cls_ok (c.d.fact 63 (f := .cls "Overlay") rfl),
  tyf_ok (ex_ty_Overlay c.more),
  He.cls_ok (c.d.fact 64 (f := .cls "Cursor") rfl),
  tyf_ok (ex_ty_Cursor c.more),
  He.noat_ok (c.d.fact 65 (f := .noat "Cursor" "script") rfl),
  He.noat_ok (c.d.fact 66 (f := .noat "Cursor" "at") rfl),
  He.noat_ok (c.d.fact 67 (f := .noat "Kind" "name") rfl),
  He.noat_ok (c.d.fact 68 (f := .noat "Kind" "times") rfl),
  He.noat_ok (c.d.fact 69 (f := .noat "Use" "name") rfl),
  He.noat_ok (c.d.fact 70 (f := .noat "Row" "held") rfl),
  He.noat_ok (c.d.fact 71 (f := .noat "Record" "held") rfl),
  He.noat_ok (c.d.fact 72 (f := .noat "Overlay" "held") rfl),
  He.noat_ok (c.d.fact 73 (f := .noat "Row" "part") rfl),
  He.noat_ok (c.d.fact 74 (f := .noat "Row" "n") rfl),
  He.noat_ok (c.d.fact 75 (f := .noat "Record" "fields") rfl),
  He.noat_ok (c.d.fact 76 (f := .noat "Overlay" "members") rfl),
  He.noat_ok (c.d.fact 77 (f := .noat "Kind" "depth") rfl),
  He.noat_ok (c.d.fact 78 (f := .noat "Byte" "depth") rfl),
  He.noat_ok (c.d.fact 79 (f := .noat "Use" "depth") rfl),
  He.noat_ok (c.d.fact 80 (f := .noat "Row" "depth") rfl),
  He.noat_ok (c.d.fact 81 (f := .noat "Record" "depth") rfl),
  He.noat_ok (c.d.fact 82 (f := .noat "Overlay" "depth") rfl),
  He.meth_ok (c.d.fact 83 (f := .meth "Kind" "shape") rfl),
  He.meth_ok (c.d.fact 84 (f := .meth "Kind" "text") rfl),
  He.meth_ok (c.d.fact 85 (f := .meth "Byte" "shape") rfl),
  He.meth_ok (c.d.fact 86 (f := .meth "Byte" "text") rfl),
  He.meth_ok (c.d.fact 87 (f := .meth "Use" "shape") rfl),
  He.meth_ok (c.d.fact 88 (f := .meth "Use" "text") rfl),
  He.meth_ok (c.d.fact 89 (f := .meth "Row" "shape") rfl),
  He.meth_ok (c.d.fact 90 (f := .meth "Row" "text") rfl),
  He.meth_ok (c.d.fact 91 (f := .meth "Record" "shape") rfl),
  He.meth_ok (c.d.fact 92 (f := .meth "Record" "text") rfl),
  He.meth_ok (c.d.fact 93 (f := .meth "Overlay" "shape") rfl),
  He.meth_ok (c.d.fact 94 (f := .meth "Overlay" "text") rfl),
  He.meth_ok (c.d.fact 95 (f := .meth "Cursor" "upcoming") rfl),
  He.meth_ok (c.d.fact 96 (f := .meth "Cursor" "refuse") rfl),
  He.meth_ok (c.d.fact 97 (f := .meth "Cursor" "finish") rfl),
  He.meth_ok (c.d.fact 98 (f := .meth "Cursor" "skips") rfl),
  He.meth_ok (c.d.fact 99 (f := .meth "Cursor" "expect") rfl),
  He.meth_ok (c.d.fact 100 (f := .meth "Cursor" "word_of") rfl),
  He.meth_ok (c.d.fact 101 (f := .meth "Cursor" "name_unlike") rfl),
  He.meth_ok (c.d.fact 102 (f := .meth "Cursor" "number_to") rfl),
  He.mkr_ok (c.d.fact 103 (f := .mkr "Kind") rfl),
  He.mkr_ok (c.d.fact 104 (f := .mkr "Byte") rfl),
  He.mkr_ok (c.d.fact 105 (f := .mkr "Use") rfl),
  He.mkr_ok (c.d.fact 106 (f := .mkr "Row") rfl),
  He.mkr_ok (c.d.fact 107 (f := .mkr "Record") rfl),
  He.mkr_ok (c.d.fact 108 (f := .mkr "Overlay") rfl),
  He.mkr_ok (c.d.fact 109 (f := .mkr "Cursor") rfl),
  of_decide_eq_true (ex_kit_Kind_Part c.more),
  of_decide_eq_true (ex_kit_Byte_Part c.more),
  of_decide_eq_true (ex_kit_Use_Part c.more),
  of_decide_eq_true (ex_kit_Row_Part c.more),
  of_decide_eq_true (ex_kit_Record_Part c.more),
  of_decide_eq_true (ex_kit_Overlay_Part c.more),
  c.d.def_ 0 (d := dd_is_whole) rfl,
  c.d.def_ 1 (d := dd_is_between) rfl,
  c.d.def_ 2 (d := dd_is_name) rfl,
  c.d.def_ 3 (d := dd_need_pairs) rfl,
  c.d.def_ 4 (d := dd_depth_over) rfl,
  c.d.def_ 5 (d := dd_pair_texts) rfl,
  c.d.def_ 6 (d := dd_Part___init__) rfl,
  c.d.def_ 7 (d := dd_Part___eq__) rfl,
  c.d.def_ 8 (d := dd_Part___str__) rfl,
  c.d.def_ 9 (d := dd_Kind_shape) rfl,
  c.d.def_ 10 (d := dd_Kind_text) rfl,
  c.d.def_ 11 (d := dd_Byte_shape) rfl,
  c.d.def_ 12 (d := dd_Byte_text) rfl,
  c.d.def_ 13 (d := dd_Use_shape) rfl,
  c.d.def_ 14 (d := dd_Use_text) rfl,
  c.d.def_ 15 (d := dd_Row_shape) rfl,
  c.d.def_ 16 (d := dd_Row_text) rfl,
  c.d.def_ 17 (d := dd_Record_shape) rfl,
  c.d.def_ 18 (d := dd_Record_text) rfl,
  c.d.def_ 19 (d := dd_Overlay_shape) rfl,
  c.d.def_ 20 (d := dd_Overlay_text) rfl,
  c.d.def_ 21 (d := dd_is_letter) rfl,
  c.d.def_ 22 (d := dd_is_figure) rfl,
  c.d.def_ 23 (d := dd_begins_one) rfl,
  c.d.def_ 24 (d := dd_Cursor___init__) rfl,
  c.d.def_ 25 (d := dd_Cursor_upcoming) rfl,
  c.d.def_ 26 (d := dd_Cursor_refuse) rfl,
  c.d.def_ 27 (d := dd_Cursor_finish) rfl,
  c.d.def_ 28 (d := dd_Cursor_skips) rfl,
  c.d.def_ 29 (d := dd_Cursor_expect) rfl,
  c.d.def_ 30 (d := dd_Cursor_word_of) rfl,
  c.d.def_ 31 (d := dd_Cursor_name_unlike) rfl,
  c.d.def_ 32 (d := dd_Cursor_number_to) rfl,
  c.d.def_ 33 (d := dd_read_named) rfl,
  c.d.def_ 34 (d := dd_read_row) rfl,
  c.d.def_ 35 (d := dd_read_inner) rfl,
  c.d.def_ 36 (d := dd_read_part) rfl,
  c.d.def_ 37 (d := dd__law_pen) rfl,
  c.d.def_ 38 (d := dd__law_draw) rfl,
  c.d.def_ 39 (d := dd__law_pick) rfl,
  c.d.def_ 40 (d := dd__law_names) rfl,
  c.d.def_ 41 (d := dd__law_part) rfl,
  c.d.def_ 42 (d := dd__law_text) rfl,
  c.d.def_ 43 (d := dd__law_plan) rfl,
  c.d.def_ 44 (d := dd__law_signs) rfl,
  c.d.def_ 45 (d := dd__law_kinds) rfl,
  c.d.def_ 46 (d := dd__law_part_one) rfl,
  c.d.def_ 47 (d := dd__law_heard) rfl,
  c.d.def_ 48 (d := dd__law_known) rfl,
  c.d.def_ 49 (d := dd__law_bent_right) rfl,
  c.d.def_ 50 (d := dd__law_part_two) rfl,
  c.d.def_ 51 (d := dd_law) rfl,
  c.d.def_ 52 (d := dd_BadText___init__) rfl,
  oex_ok (ex_x_BadText c.more),
  of_decide_eq_true (ex_xi_BadText c.more),
  of_decide_eq_true (ex_xt_BadText c.more),
  of_decide_eq_true (ex_xn_BadText c.more)⟩
theorem head_zs (c : SaysY faL fnL spL tfL exL h K) : Zs PySem.Challenge.pw_manypads_k89_parts_written_and_read_and K := ⟨⟨of_decide_eq_true (ex_nosup c.more), by decide +kernel, of_decide_eq_true (ex_opq c.more)⟩,
  c.sup (P := PySem.Challenge.pw_manypads_k89_parts_written_and_read_and) 0 (d := dd_Kind___init__) rfl (ex_s_Kind___init__ c.more),
  c.sup (P := PySem.Challenge.pw_manypads_k89_parts_written_and_read_and) 1 (d := dd_Byte___init__) rfl (ex_s_Byte___init__ c.more),
  c.sup (P := PySem.Challenge.pw_manypads_k89_parts_written_and_read_and) 2 (d := dd_Use___init__) rfl (ex_s_Use___init__ c.more),
  c.sup (P := PySem.Challenge.pw_manypads_k89_parts_written_and_read_and) 3 (d := dd_Group___init__) rfl (ex_s_Group___init__ c.more),
  c.sup (P := PySem.Challenge.pw_manypads_k89_parts_written_and_read_and) 4 (d := dd_Row___init__) rfl (ex_s_Row___init__ c.more),
  c.sup (P := PySem.Challenge.pw_manypads_k89_parts_written_and_read_and) 5 (d := dd_Record___init__) rfl (ex_s_Record___init__ c.more),
  c.sup (P := PySem.Challenge.pw_manypads_k89_parts_written_and_read_and) 6 (d := dd_Overlay___init__) rfl (ex_s_Overlay___init__ c.more),
  Option.isSome_iff_exists.mp (ex_cd_Kind c.more),
  Option.isSome_iff_exists.mp (ex_cd_Byte c.more),
  Option.isSome_iff_exists.mp (ex_cd_Use c.more),
  Option.isSome_iff_exists.mp (ex_cd_Group c.more),
  Option.isSome_iff_exists.mp (ex_cd_Row c.more),
  Option.isSome_iff_exists.mp (ex_cd_Record c.more),
  Option.isSome_iff_exists.mp (ex_cd_Overlay c.more),
  sm_ok (ex_sm_Kind_Kind c.more),
  sm_ok (ex_sm_Byte_Byte c.more),
  sm_ok (ex_sm_Use_Use c.more),
  sm_ok (ex_sm_Row_Row c.more),
  sm_ok (ex_sm_Record_Record c.more),
  sm_ok (ex_sm_Overlay_Overlay c.more),
  sm_ok (ex_sm_Row_Group c.more),
  sm_ok (ex_sm_Record_Group c.more),
  sm_ok (ex_sm_Overlay_Group c.more)⟩
theorem head_ze (c : SaysY faL fnL spL tfL exL h K) : Ze K := ⟨fun C hC => by
    obtain ⟨h1, h2⟩ := two (List.all_eq_true.mp (ex_own c.more) C hC)
    exact ⟨of_decide_eq_true h1, of_decide_eq_true h2⟩, ex_eqf c.more, of_decide_eq_true (ex_strf c.more)⟩
theorem head_zx (c : SaysY faL fnL spL tfL exL h K) : Zx K := ⟨ek_ok (ex_ek c.more), of_decide_eq_true (ex_em c.more), of_decide_eq_true (ex_kb c.more), of_decide_eq_true (ex_ks c.more)⟩
theorem head_ap (c : SaysY faL fnL spL tfL exL h K) : Apart K := by
  have q := List.all_eq_true.mp (ex_apart c.more)
  exact ⟨of_decide_eq_true (q _ (by simp)), of_decide_eq_true (q _ (by simp)), of_decide_eq_true (q _ (by simp)), of_decide_eq_true (q _ (by simp)), of_decide_eq_true (q _ (by simp)), of_decide_eq_true (q _ (by simp))⟩
theorem head_ne (c : SaysY faL fnL spL tfL exL h K) : (He.cT K ("_law_bent_right", none)).2 ≠ (He.cT K ("_law_part_two", none)).2 := of_decide_eq_true (ex_tabs c.more)
end
def names0 : List Str := [("_wall" : Str), ("PadError" : Str), ("BadName" : Str), ("BadTimes" : Str), ("BadParts" : Str), ("NoPath" : Str), ("TooLarge" : Str), ("BadText" : Str), ("LETTERS_names" : Str), ("FIGURES_names" : Str), ("LONGEST" : Str), ("BARRED" : Str), ("is_whole" : Str), ("is_between" : Str), ("is_name" : Str), ("number_in" : Str)]
def names1 : List Str := [("steps_in" : Str), ("MOST_TIMES" : Str), ("led_by" : Str), ("need_pairs" : Str), ("depth_over" : Str), ("pair_texts" : Str), ("Part" : Str), ("Kind" : Str), ("Byte" : Str), ("Use" : Str), ("Group" : Str), ("Spread" : Str), ("Row" : Str), ("Record" : Str), ("Overlay" : Str), ("LETTERS_cursors" : Str)]
def names2 : List Str := [("FIGURES_cursors" : Str), ("LONGEST_NAME" : Str), ("is_letter" : Str), ("is_figure" : Str), ("begins_one" : Str), ("Cursor" : Str), ("read_named" : Str), ("read_row" : Str), ("read_inner" : Str), ("read_part" : Str), ("_law_pen" : Str), ("_law_draw" : Str), ("_law_pick" : Str), ("_law_names" : Str), ("_law_part" : Str), ("_law_text" : Str)]
def names3 : List Str := [("_law_plan" : Str), ("_law_signs" : Str), ("_law_kinds" : Str), ("_law_part_one" : Str), ("_law_heard" : Str), ("_law_known" : Str), ("_law_bent_right" : Str), ("_law_part_two" : Str)]
def namesL : List Str := names0 ++ names1 ++ names2 ++ names3
abbrev hkL : PySem.W.Hook := hookY 906 faL fnL spL tfL exL
def obL (s : PySem.W.SharedT) : AlY := obsZ 906 faL fnL spL tfL exL (HandSHeadRun.getT s)
theorem obL_eq (s : PySem.W.SharedT) : obL s = hkL.obs s.abs := obsZ_eq.trans (obsY_eq (HandSHeadRun.getT_eq s))
end Mp

set_option maxHeartbeats 0
/-! Kh2: the top is run -/
namespace Mp
open PySem PySem.W PySem.Calls PyProof.Rows
abbrev rowL : OpenRow := OpenLaw.row PySem.Challenge.rw_manypads_k89_parts_written_and_read_and
abbrev qvL : Program := view rowL.prog [63]
theorem runL (w : World) : HandSHeadRun.RunEq rowL qvL hkL obL 20000 namesL w := by
  intro os
  kernel_rfl
end Mp

set_option maxHeartbeats 0
/-! Kend: the law's row -/
namespace Mp
open PySem PySem.Spec PyProof.Rows L2
open He (ga ma fAd)
open LamX (ExtN Tabs TabS TabB)
theorem fund_same {K : PySem.W.Frag} {x qual : Str} {params : Arguments} {body : List Stmt} {scope : Scope} {dvs : List V} {kws : List (Str × V)} {f : Addr} {fd fd' : FuncData} (a : FunD K x qual params body scope dvs kws f fd) (b : FunD K x qual params body scope dvs kws f fd') : fd' = fd := by
  obtain ⟨_, _, _, _, _, _, _, _, _, _, _, l1, _⟩ := a.ex
  obtain ⟨_, _, _, _, _, _, _, _, _, _, _, l2, _⟩ := b.ex
  rw [l1] at l2
  have e := Option.some.inj l2
  injection e with _ _ e2 _
  injection e2 with e3
  exact e3.symm
theorem cx_none {P : Program} {w : World} {H : Hp} {s : Shared} {e : Value} {s' : Shared} (c : L2.CX P w [] H s (fun _ _ _ => False) e s') : False := by
  obtain ⟨_, _, _, _, _, _, _, _, _, _, _, _, z⟩ := c
  exact z
theorem law_at (w : World) (mg : Str → Option Value) (fa : Addr) (h : Heap) (Y : hkL.says w h) (G : h.Ns mainGlobals mg) (hmg : mg ("law" : Str) = some (.ref fa)) :
    ∃ K : PySem.W.Frag, K.In h ∧ LamX.LawAtS PySem.Challenge.rw_manypads_k89_parts_written_and_read_and w K (L2.CX PySem.Challenge.pw_manypads_k89_parts_written_and_read_and w) 32 63 "script" mg fa h := by
  obtain ⟨K, hK, c⟩ := Y
  have z0 := head_zk hK G c
  obtain ⟨fd, F⟩ := z0.d_law
  have efa : fa = ga K "law" := by
    have := hmg.symm.trans z0.g_law
    exact Value.ref.inj (Option.some.inj this)
  subst efa
  have bd := FunD.bindsA (ps := ["script"]) F fun _ _ _ _ _ _ us hl => match us, hl with | [_], _ => rfl
  refine ⟨K, hK, fd, [He.cT K ("_law_bent_right", none), He.cT K ("_law_part_two", none)], spLaw K [((He.cT K ("_law_bent_right", none)).2, qB), ((He.cT K ("_law_part_two", none)).2, qT)], ?_, ?_, ?_, fun s u => bd s [u] rfl, ?_, ?_⟩
  · intro p hp
    simp only [List.mem_cons, List.not_mem_nil, or_false] at hp
    rcases hp with rfl | rfl
    · exact c.empty _ (by simp [tfL])
    · exact c.empty _ (by simp [tfL])
  · intro p hp
    simp only [List.mem_cons, List.not_mem_nil, or_false] at hp
    rcases hp with rfl | rfl
    · exact c.out _ (by simp [tfL])
    · exact c.out _ (by simp [tfL])
  · intro p hp
    simp only [List.mem_cons, List.not_mem_nil, or_false] at hp
    rcases hp with rfl | rfl
    · exact PySem.W.codeHd_of_K hK (c.hd _ (by simp [tfL]))
    · exact PySem.W.codeHd_of_K hK (c.hd _ (by simp [tfL]))
  · intro H a ns hl hb hT hS
    refine ⟨a, ns, rfl, hS, fun p hp => ?_, fun _ => rfl⟩
    simp only [List.mem_cons, List.not_mem_nil, or_false] at hp
    rcases hp with rfl | rfl
    · exact TabS.nil (hT _ (by simp))
    · exact TabS.nil (hT _ (by simp))
  · intro base hKb hGb hTB
    have z := head_zk (h := h) hKb hGb c
    obtain ⟨fd', F', ok⟩ := law_all (P := PySem.Challenge.pw_manypads_k89_parts_written_and_read_and) (w := w) z (head_zs c) (head_ze c) (head_zx c) (head_ap c) (hTB (He.cT K ("_law_bent_right", none)) (by simp)) (hTB (He.cT K ("_law_part_two", none)) (by simp)) (head_ne c)
    have e := fund_same F F'
    subst e
    exact ok
end Mp
open PySem PySem.W PySem.Calls PyProof.Rows
theorem PySem.Challenge.cw_manypads_k89_parts_written_and_read_and_holds : PySem.Challenge.rw_manypads_k89_parts_written_and_read_and.Holds := by
  w_on; o_law
  refine HandSHeadRun.head_any (r := OpenLaw.row PySem.Challenge.rw_manypads_k89_parts_written_and_read_and) (q := view (OpenLaw.row PySem.Challenge.rw_manypads_k89_parts_written_and_read_and).prog [63]) (H := Mp.hkL) (ob := Mp.obL) (M := 20000) (loose := Mp.namesL)
    (d := HandSHeadRun.topDef (OpenLaw.row PySem.Challenge.rw_manypads_k89_parts_written_and_read_and).prog 63) (kwd := []) Mp.obL_eq
    (by kernel_rfl) (fun s => by kernel_rfl) Mp.runL (by kernel_rfl) (by kernel_rfl) (by kernel_rfl) (by rfl) (by first | assumption | decide +kernel) (by decide +kernel) ⟨rfl, rfl, rfl, rfl, rfl, by decide +kernel⟩ ?hw ?hc
  case hw => w_witness2
  case hc =>
    refine LamX.walk_ofTsE (l := PySem.Challenge.rw_manypads_k89_parts_written_and_read_and) (n := 63) (k := 32) (x := "script") (CX := fun w => L2.CX PySem.Challenge.pw_manypads_k89_parts_written_and_read_and w) rfl (by decide) (by kernel_rfl) ⟨rfl, by decide, by decide⟩ ?F (fun _ _ _ _ _ z => Mp.cx_none z)
    intro w mg fa h Y G hmg0
    have hmg : mg ("law" : PySem.Str) = some (.ref fa) := by
      have e : (HandSHeadRun.topDef (OpenLaw.row PySem.Challenge.rw_manypads_k89_parts_written_and_read_and).prog 63).name = ("law" : PySem.Str) := by kernel_rfl
      rw [← e]
      exact hmg0
    exact Mp.law_at w mg fa h Y G hmg
#print axioms PySem.Challenge.cw_manypads_k89_parts_written_and_read_and_holds
