import PyProof.Rows.All
import PySem.Challenge.RW_soleseat_k87_porters
import Wide.All
import OpenK.AllK
import Wide.FinOn
import HandS.ForMost
import HandS.Exc
import HandS.ExcOwn
import HandS.WordsExc
import HandS.Defaults
import HandS.Codes
import HandS.Flow
import HandS.Wide
import HandS.WideMore
import HandS.IsInst
import HandS.TupAny
import HandS.Conv
import HandS.More
import HandS.Strs
import HandS.ClsMeth
import KE.KUnpackStar
import HandS.Small
import HandS.Zip
import HandS.TupLen
import HandS.WordsDict
import HandS.RaiseMore
import KE.GoesEnumKw
import HandS.Walk
import HandS.HeadHook2
import HandS.HeadHook4
import HandS.HeadNt
import HandS.EndBits
import HandS.Head2
import HandS.HeadEnd
set_option Elab.async false
set_option linter.all false
set_option maxRecDepth 100000
set_option maxHeartbeats 4000000
namespace Ly
open PySem PySem.Spec PyProof.Rows L2
structure G where
  P : Program
  w : World
  K : PySem.W.Frag
  mg : Str → Option Value
  base : Heap
def Fk (g : G) (k : Nat) (sp : Sp) (f : Addr) : Prop := ∃ (fd : FuncData) (ps : List Str) (ds : List Value) (dvs : List V) (sp0 : Sp),
  PySem.W.keepIn g.K (.ref f) = true ∧ FnOk g.P g.w g.K g.mg g.base (L2.CX g.P g.w) k f fd ps sp0 ∧ Binds g.K fd ps ds ∧ Vals dvs ds ∧ ∀ vs H Q E, sp vs H Q E → sp0 (vs ++ dvs) H Q E
def GF (g : G) (k : Nat) (x : Str) (sp : Sp) : Prop := ∃ f, g.mg x = some (.ref f) ∧ Fk g k sp f
def MF (g : G) (k : Nat) (C : Addr) (m : Str) (sp : Sp) : Prop := ∃ f, Meth g.K C m f ∧ Fk g k sp f
def IF (g : G) (k : Nat) (C : Addr) (sp : Sp) : Prop := ∃ f, Mk g.K C f ∧ Fk g k sp f
theorem Fk.imp {g : G} {k : Nat} {sp sp' : Sp} {f : Addr} (F : Fk g k sp f) (h : ∀ vs H Q E, sp' vs H Q E → sp vs H Q E) : Fk g k sp' f := by
  obtain ⟨fd, ps, ds, dvs, sp0, a, b, c, d, e⟩ := F
  exact ⟨fd, ps, ds, dvs, sp0, a, b, c, d, fun vs H Q E z => e vs H Q E (h vs H Q E z)⟩
theorem GF.imp {g : G} {k : Nat} {sp sp' : Sp} {x : Str} (F : GF g k x sp) (h : ∀ vs H Q E, sp' vs H Q E → sp vs H Q E) : GF g k x sp' := let ⟨f, a, b⟩ := F; ⟨f, a, b.imp h⟩
theorem MF.imp {g : G} {k : Nat} {C : Addr} {m : Str} {sp sp' : Sp} (F : MF g k C m sp) (h : ∀ vs H Q E, sp' vs H Q E → sp vs H Q E) : MF g k C m sp' := let ⟨f, a, b⟩ := F; ⟨f, a, b.imp h⟩
def Kn (g : G) (x : Str) : Prop := ∃ f, g.mg x = some (.ref f) ∧ PySem.W.keepIn g.K (.ref f) = true
abbrev gOf (X : Cx) : G := ⟨X.prog, X.w, X.K, X.mg, X.base⟩
def kCall (g : G) (A : Around) (x : Str) (E : XK) : List V → Hp → VK → Prop := fun vs H Q => ∃ k sp, Room k A ∧ GF g k x sp ∧ sp vs H Q E
def tCallG (g : G) (A : Around) (x : Str) (E : XK) (t : TA) : TE := fun σ H Q => t σ H fun vs H1 => kCall g A x E vs H1 Q
def kMake (g : G) (A : Around) (x : Str) (E : XK) : List V → Hp → VK → Prop := fun vs H Q => ∃ k sp C, Room (k + 1) A ∧ g.mg x = some (.ref C) ∧ IF g k C sp ∧
  ∀ p dx, H p = none → H dx = none → dx ≠ p → sp (.ref p :: vs) (upd (upd H dx (.own p)) p (.ins C dx [])) (fun v H2 => v = .non ∧ Q (.ref p) H2) E
def tMakeG (g : G) (A : Around) (x : Str) (E : XK) (t : TA) : TE := fun σ H Q => t σ H fun vs H1 => kMake g A x E vs H1 Q
def tMethG (g : G) (A : Around) (m : Str) (E : XK) (ta : TE) (t : TA) : TE := fun σ H Q => ta σ H fun x H1 => ∃ a C dx fs, x = .ref a ∧ H1 a = some (.ins C dx fs) ∧ Cls g.K C ∧ fs.lookup m = none ∧ (∃ f, Meth g.K C m f) ∧
  t σ H1 fun vs H2 => ∃ k sp, Room k A ∧ MF g k C m sp ∧ sp (x :: vs) H2 Q E
section
variable {X : Cx} {E : XK} {x m : Str} {p pos apos : Pos} {e o : Expr} {es : List Expr} {ta : TE} {t : TA}
theorem run_Fk {pins : List (Addr × Obj)} {σ : L2.St} {H : Hp} {s : Shared} {Q : VK} {us : List Value} {vs : List V} {k : Nat} {sp : Sp} {f : Addr} (F : Fk (gOf X) k sp f) (hr : Room k X.A) (hx : Passes (L2.CX X.prog X.w) X E)
    (I : Inv X pins σ H s) (r : Vals vs us) (h : sp vs H Q E) : wpAny (model X.prog X.w) X.A (call (.ref f) us) (EP X pins σ Q) X.xe s := by
  obtain ⟨fd, ps, ds, dvs, sp0, kp, F, hb, hd, im⟩ := F
  exact run_fn F hr hb hd hx I r (im _ _ _ _ h)
theorem pe_callG (hm : Kn (gOf X) x) (hx : Passes (L2.CX X.prog X.w) X E) (ha : PA X (e :: es) t) (hg : Gl X x := by rfl) (hdb : (x == ("__debug__" : Str)) = false := by decide) (he : starEach (e :: es) X.env = (false, eval e X.env) :: starEach es X.env := by rfl)
    (hpl : (backTo pos (starEach es X.env)).any (·.1) = false := by rfl) : PE X (.Call (.Name x p) (e :: es) [] pos) (tCallG (gOf X) X.A x E t) := by
  obtain ⟨f, hm, hk⟩ := hm
  refine ⟨fun pins s σ H Q I h => ?_⟩
  refine wpAny_Call_Name_kw (ld_glob I hg hm ?_ hdb)
  refine PySem.W.callWith_K (h₀ := X.base) I.ok.mod.kin hk (thn (ha.run pos pins s σ H _ I h) fun us s1 ⟨vs, H1, I1, r, q⟩ => ⟨I1.kIn, ?_⟩) he hpl
  obtain ⟨k, sp, hr, ⟨f', hm', F⟩, q⟩ := q
  have hm2 : X.mg x = some (.ref f') := hm'
  have hm1 : X.mg x = some (.ref f) := hm
  rw [hm1] at hm2
  cases hm2
  exact run_Fk F hr hx I1 r q
theorem pe_callG0 (hm : Kn (gOf X) x) (hx : Passes (L2.CX X.prog X.w) X E) (hg : Gl X x := by rfl) (hdb : (x == ("__debug__" : Str)) = false := by decide) : PE X (.Call (.Name x p) [] [] pos) (tCallG (gOf X) X.A x E tNil) := by
  obtain ⟨f, hm, hk⟩ := hm
  refine ⟨fun pins s σ H Q I h => ?_⟩
  refine wpAny_Call_Name_kw (ld_glob I hg hm ?_ hdb)
  obtain ⟨k, sp, hr, ⟨f', hm', F⟩, q⟩ := h
  have hm2 : X.mg x = some (.ref f') := hm'
  have hm1 : X.mg x = some (.ref f) := hm
  rw [hm1] at hm2
  cases hm2
  exact PySem.W.callWith_K0 I.kIn hk (run_Fk (us := []) F hr hx I .nil q)
theorem run_make2 {pins : List (Addr × Obj)} {σ : L2.St} {H : Hp} {s : Shared} {Q : VK} {us : List Value} {vs : List V} {k : Nat} {sp : Sp} {C : Addr} (F : IF (gOf X) k C sp) (hr : Room (k + 1) X.A) (hx : Passes (L2.CX X.prog X.w) X E)
    (I : Inv X pins σ H s) (r : Vals vs us) (h : ∀ x dx, H x = none → H dx = none → dx ≠ x → sp (.ref x :: vs) (upd (upd H dx (.own x)) x (.ins C dx [])) (fun v H2 => v = .non ∧ Q (.ref x) H2) E) :
    wpAny (model X.prog X.w) X.A (call (.ref C) us) (EP X pins σ Q) X.xe s := by
  obtain ⟨f, M, fd, ps, ds, dvs, sp0, kp, F, hb, hd, im⟩ := F
  exact run_make M F hr hb hd hx I r fun x dx a b c => im _ _ _ _ (h x dx a b c)
theorem pe_makeG (hm : Kn (gOf X) x) (hx : Passes (L2.CX X.prog X.w) X E) (ha : PA X (e :: es) t) (hg : Gl X x := by rfl) (hdb : (x == ("__debug__" : Str)) = false := by decide) (he : starEach (e :: es) X.env = (false, eval e X.env) :: starEach es X.env := by rfl)
    (hpl : (backTo pos (starEach es X.env)).any (·.1) = false := by rfl) : PE X (.Call (.Name x p) (e :: es) [] pos) (tMakeG (gOf X) X.A x E t) := by
  obtain ⟨f, hm, hk⟩ := hm
  refine ⟨fun pins s σ H Q I h => ?_⟩
  refine wpAny_Call_Name_kw (ld_glob I hg hm ?_ hdb)
  refine PySem.W.callWith_K (h₀ := X.base) I.ok.mod.kin hk (thn (ha.run pos pins s σ H _ I h) fun us s1 ⟨vs, H1, I1, r, q⟩ => ⟨I1.kIn, ?_⟩) he hpl
  obtain ⟨k, sp, C, hr, hm', F, q⟩ := q
  have hm2 : X.mg x = some (.ref C) := hm'
  have hm1 : X.mg x = some (.ref f) := hm
  rw [hm1] at hm2
  cases hm2
  exact run_make2 F hr hx I1 r q
theorem pe_makeG0 (hm : Kn (gOf X) x) (hx : Passes (L2.CX X.prog X.w) X E) (hg : Gl X x := by rfl) (hdb : (x == ("__debug__" : Str)) = false := by decide) : PE X (.Call (.Name x p) [] [] pos) (tMakeG (gOf X) X.A x E tNil) := by
  obtain ⟨f, hm, hk⟩ := hm
  refine ⟨fun pins s σ H Q I h => ?_⟩
  refine wpAny_Call_Name_kw (ld_glob I hg hm ?_ hdb)
  obtain ⟨k, sp, C, hr, hm', F, q⟩ := h
  have hm2 : X.mg x = some (.ref C) := hm'
  have hm1 : X.mg x = some (.ref f) := hm
  rw [hm1] at hm2
  cases hm2
  exact PySem.W.callWith_K0 I.kIn hk (run_make2 (us := []) F hr hx I .nil q)
theorem pe_methG {pl : Sem Bool} (hx : Passes (L2.CX X.prog X.w) X E) (he : PE X o ta) (ha : PA X (e :: es) t)
    (hst : starEach (e :: es) X.env = (false, eval e X.env) :: starEach es X.env := by rfl) (hpl : (backTo pos (starEach es X.env)).any (·.1) = false := by rfl)
    (ht : eval (.Call (.Attribute o m apos) (e :: es) [] pos) X.env = (do
      let ov ← eval o X.env
      standAt apos.atName
      let (f, first) ← holding [ov] (getMethod ov m pl)
      callWith pos f first (backTo pos (starEach (e :: es) X.env)) (backToKw pos (keywordEach [] X.env))) := by rfl) :
    PE X (.Call (.Attribute o m apos) (e :: es) [] pos) (tMethG (gOf X) X.A m E ta t) := by
  refine ⟨fun pins s σ H Q I h => ?_⟩
  refine PySem.W.methodCall_KW (pl := pl) (thn (he.run pins s σ H _ I h) fun u s1 ⟨x, H1, I1, rx, a, C, dx, fs, ex, ea, c, l, ⟨f, hm⟩, q⟩ => ?_) ht
  subst ex
  obtain rfl : u = Value.ref a := rx
  refine getmeth_ok I1 ea c hm l ?_
  refine PySem.W.callWith_K (first := [.ref a]) (h₀ := X.base) I.ok.mod.kin hm.kp (thn (ha.run pos pins s1 σ H1 _ I1 q) fun us s2 ⟨vs, H2, I2, r, k, sp, hr, ⟨f', hm', F⟩, q2⟩ => ⟨I2.kIn, ?_⟩) hst hpl
  have e1 := hm.at_
  have e2 : PySem.W.findIn X.K (.ref C) m = some (some (.ref f')) := hm'.at_
  rw [e1] at e2
  cases e2
  exact run_Fk (us := .ref a :: us) (vs := .ref a :: vs) F hr hx I2 (.cons rfl r) q2
theorem pe_methG0 {pl : Sem Bool} (hx : Passes (L2.CX X.prog X.w) X E) (he : PE X o ta)
    (ht : eval (.Call (.Attribute o m apos) [] [] pos) X.env = (do
      let ov ← eval o X.env
      standAt apos.atName
      let (f, first) ← holding [ov] (getMethod ov m pl)
      callWith pos f first (backTo pos (starEach [] X.env)) (backToKw pos (keywordEach [] X.env))) := by rfl) :
    PE X (.Call (.Attribute o m apos) [] [] pos) (tMethG (gOf X) X.A m E ta tNil) := by
  refine ⟨fun pins s σ H Q I h => ?_⟩
  refine PySem.W.methodCall_KW (pl := pl) (thn (he.run pins s σ H _ I h) fun u s1 ⟨x, H1, I1, rx, a, C, dx, fs, ex, ea, c, l, ⟨f, hm⟩, k, sp, hr, ⟨f', hm', F⟩, q⟩ => ?_) ht
  subst ex
  obtain rfl : u = Value.ref a := rx
  refine getmeth_ok I1 ea c hm l ?_
  have e1 := hm.at_
  have e2 : PySem.W.findIn X.K (.ref C) m = some (some (.ref f')) := hm'.at_
  rw [e1] at e2
  cases e2
  exact PySem.W.callWith_K0 (first := [.ref a]) I1.kIn hm.kp (run_Fk (us := [.ref a]) (vs := [.ref a]) F hr hx I1 (.cons rfl .nil) q)
end
abbrev Fct := Hp → Prop
def Stab (F : Fct) : Prop := ∀ B B', Same B B' → F B → F B'
structure Wd (L : List (Addr × HO)) (D : List Fct) (H : Hp) : Prop where
  ex : ∃ B : Hp, Same B H ∧ (∀ F ∈ D, Stab F ∧ F B) ∧ ∀ x ∈ L, H x.1 = some x.2 ∧ B x.1 = none
  nd : (L.map Prod.fst).Nodup
section
variable {L L' : List (Addr × HO)} {D D' : List Fct} {H : Hp} {p : Addr} {o o' : HO} {F : Fct}
theorem Wd.fact (W : Wd L D H) (h : F ∈ D) : F H := by
  obtain ⟨B, s, d, _⟩ := W.ex
  exact (d F h).1 B H s (d F h).2
theorem Wd.stab (W : Wd L D H) (h : F ∈ D) : Stab F := by
  obtain ⟨B, s, d, _⟩ := W.ex
  exact (d F h).1
theorem Wd.at_ (W : Wd L D H) (h : (p, o) ∈ L) : H p = some o := by
  obtain ⟨B, s, d, l⟩ := W.ex
  exact (l _ h).1
theorem Wd.fresh (W : Wd L D H) (hp : H p = none) : p ∉ L.map Prod.fst := by
  intro h
  obtain ⟨x, hx, e⟩ := List.mem_map.mp h
  obtain ⟨B, s, d, l⟩ := W.ex
  have := (l x hx).1
  rw [e, hp] at this
  cases this
theorem Wd.new (W : Wd L D H) (hp : H p = none) (o : HO) : Wd ((p, o) :: L) D (upd H p o) := by
  have fr := W.fresh hp
  obtain ⟨B, s, d, l⟩ := W.ex
  refine ⟨⟨B, fun b u e => ?_, d, fun x hx => ?_⟩, ?_⟩
  · rw [upd_ne (ne_of_none (s b u e) hp)]
    exact s b u e
  · rcases List.mem_cons.mp hx with e | hx
    · subst e
      exact ⟨upd_same, s.free hp⟩
    · obtain ⟨h1, h2⟩ := l x hx
      exact ⟨by rw [upd_ne (ne_of_none h1 hp)]; exact h1, h2⟩
  · rw [List.map_cons]
    exact List.nodup_cons.mpr ⟨fr, W.nd⟩
theorem Wd.put (W : Wd ((p, o) :: L) D H) (o' : HO) : Wd ((p, o') :: L) D (upd H p o') := by
  have nd := W.nd
  obtain ⟨B, s, d, l⟩ := W.ex
  have hp := l (p, o) List.mem_cons_self
  refine ⟨⟨B, fun b u e => ?_, d, fun x hx => ?_⟩, nd⟩
  · have ne : b ≠ p := fun q => by
      rw [q, hp.2] at e
      cases e
    rw [upd_ne ne]
    exact s b u e
  · rcases List.mem_cons.mp hx with e | hx
    · subst e
      exact ⟨upd_same, hp.2⟩
    · obtain ⟨h1, h2⟩ := l x (List.mem_cons_of_mem _ hx)
      have ne : x.1 ≠ p := fun q => (List.nodup_cons.mp nd).1 (by rw [← q]; exact List.mem_map.mpr ⟨x, hx, rfl⟩)
      exact ⟨by rw [upd_ne ne]; exact h1, h2⟩
theorem Wd.perm (W : Wd L D H) (h : L.Perm L') : Wd L' D H := by
  obtain ⟨B, s, d, l⟩ := W.ex
  exact ⟨⟨B, s, d, fun x hx => l x (h.mem_iff.mpr hx)⟩, (h.map Prod.fst).nodup_iff.mp W.nd⟩
theorem Wd.sub (W : Wd L D H) (hl : L'.Sublist L) (hd : ∀ F ∈ D', F ∈ D) : Wd L' D' H := by
  obtain ⟨B, s, d, l⟩ := W.ex
  exact ⟨⟨B, s, fun F hF => d F (hd F hF), fun x hx => l x (hl.subset hx)⟩, W.nd.sublist (hl.map Prod.fst)⟩
theorem Wd.dO {x : Addr × HO} (W : Wd (x :: L) D H) : Wd L D H := W.sub (List.sublist_cons_self _ _) fun _ h => h
theorem Wd.dF (W : Wd L (F :: D) H) : Wd L D H := W.sub (List.Sublist.refl _) fun _ h => List.mem_cons_of_mem _ h
theorem Wd.wk (W : Wd L D H) (hd : ∀ F ∈ D', F ∈ D) : Wd L D' H := W.sub (List.Sublist.refl _) hd
section
variable {a b c d e f g : Addr × HO}
theorem Wd.mv1 (W : Wd (a :: b :: L) D H) : Wd (b :: a :: L) D H := W.perm (List.Perm.swap _ _ _)
theorem Wd.mv2 (W : Wd (a :: b :: c :: L) D H) : Wd (c :: a :: b :: L) D H := W.perm ((List.Perm.cons _ (List.Perm.swap _ _ _)).trans (List.Perm.swap _ _ _))
theorem Wd.mv3 (W : Wd (a :: b :: c :: d :: L) D H) : Wd (d :: a :: b :: c :: L) D H := W.perm ((List.Perm.cons _ ((List.Perm.cons _ (List.Perm.swap _ _ _)).trans (List.Perm.swap _ _ _))).trans (List.Perm.swap _ _ _))
theorem mvP {α : Type} {x : α} {l r : List α} (h : l.Perm (x :: r)) {y : α} : (y :: l).Perm (x :: y :: r) := (List.Perm.cons _ h).trans (List.Perm.swap _ _ _)
theorem Wd.mv4 (W : Wd (a :: b :: c :: d :: e :: L) D H) : Wd (e :: a :: b :: c :: d :: L) D H := W.perm (mvP (mvP (mvP (mvP (List.Perm.refl _)))))
theorem Wd.mv5 (W : Wd (a :: b :: c :: d :: e :: f :: L) D H) : Wd (f :: a :: b :: c :: d :: e :: L) D H := W.perm (mvP (mvP (mvP (mvP (mvP (List.Perm.refl _))))))
theorem Wd.mv6 (W : Wd (a :: b :: c :: d :: e :: f :: g :: L) D H) : Wd (g :: a :: b :: c :: d :: e :: f :: L) D H := W.perm (mvP (mvP (mvP (mvP (mvP (mvP (List.Perm.refl _)))))))
end
theorem Wd.ne {q : Addr} {u : HO} (W : Wd ((p, o) :: L) D H) (h : (q, u) ∈ L) : q ≠ p := fun e =>
  (List.nodup_cons.mp W.nd).1 (by rw [← e]; exact List.mem_map.mpr ⟨(q, u), h, rfl⟩)
theorem Wd.der (W : Wd L D H) (hs : Stab F) (h : ∀ B, (∀ G ∈ D, G B) → F B) : Wd L (F :: D) H := by
  obtain ⟨B, s, d, l⟩ := W.ex
  refine ⟨⟨B, s, fun G hG => ?_, l⟩, W.nd⟩
  rcases List.mem_cons.mp hG with e | hG
  · subst e
    exact ⟨hs, h B fun G hG => (d G hG).2⟩
  · exact d G hG
theorem Wd.frz (W : Wd ((p, o) :: L) D H) (hs : Stab F) (h : ∀ B, (∀ G ∈ D, G B) → B p = some o → F B) : Wd L (F :: D) H := by
  have nd := W.nd
  obtain ⟨B, s, d, l⟩ := W.ex
  have hp := l (p, o) List.mem_cons_self
  have sB : Same B (upd B p o) := fun b u e => by
    rw [upd_ne (ne_of_none e hp.2)]
    exact e
  refine ⟨⟨upd B p o, fun b u e => ?_, fun G hG => ?_, fun x hx => ?_⟩, (List.nodup_cons.mp nd).2⟩
  · by_cases q : b = p
    · subst q
      rw [upd_same] at e
      cases e
      exact hp.1
    · rw [upd_ne q] at e
      exact s b u e
  · rcases List.mem_cons.mp hG with e | hG
    · subst e
      exact ⟨hs, h _ (fun G hG => (d G hG).1 _ _ sB (d G hG).2) upd_same⟩
    · exact ⟨(d G hG).1, (d G hG).1 _ _ sB (d G hG).2⟩
  · obtain ⟨h1, h2⟩ := l x (List.mem_cons_of_mem _ hx)
    refine ⟨h1, ?_⟩
    have ne : x.1 ≠ p := fun q => (List.nodup_cons.mp nd).1 (by rw [← q]; exact List.mem_map.mpr ⟨x, hx, rfl⟩)
    rw [upd_ne ne]
    exact h2
end
theorem Same.tup {K : PySem.W.Frag} {H H' : Hp} {a : Addr} {xs : List V} (e : Same H H') (h : SqT K H a xs) : SqT K H' a xs := by
  rcases h with (h | ⟨o, h⟩) | h
  · exact .inl (.inl (e _ _ h))
  · exact .inl (.inr ⟨o, e _ _ h⟩)
  · exact .inr h
mutual
theorem dp_stab {K : PySem.W.Frag} {B B' : Hp} (s : Same B B') : ∀ {v : V} {d : PyData}, Dp K B v d → Dp K B' v d
  | _, _, .non => .non
  | _, _, .bl b => .bl b
  | _, _, .int i => .int i
  | _, _, .str x => .str x
  | _, _, .lst h r => .lst (s.seq h) (dpAll_stab s r)
  | _, _, .tup h r => .tup (Same.tup s h) (dpAll_stab s r)
theorem dpAll_stab {K : PySem.W.Frag} {B B' : Hp} (s : Same B B') : ∀ {vs : List V} {ds : List PyData}, DpAll K B vs ds → DpAll K B' vs ds
  | _, _, .nil => .nil
  | _, _, .cons h r => .cons (dp_stab s h) (dpAll_stab s r)
end
def isD (K : PySem.W.Frag) (v : V) (d : PyData) : Fct := fun B => Dp K B v d
def isDs (K : PySem.W.Frag) (vs : List V) (ds : List PyData) : Fct := fun B => DpAll K B vs ds
theorem isD_stab {K : PySem.W.Frag} {v : V} {d : PyData} : Stab (isD K v d) := fun _ _ s h => dp_stab s h
theorem isDs_stab {K : PySem.W.Frag} {vs : List V} {ds : List PyData} : Stab (isDs K vs ds) := fun _ _ s h => dpAll_stab s h
theorem dpAll_len {K : PySem.W.Frag} {B : Hp} : ∀ {vs : List V} {ds : List PyData}, DpAll K B vs ds → vs.length = ds.length
  | _, _, .nil => rfl
  | _, _, .cons _ r => congrArg Nat.succ (dpAll_len r)
theorem dpAll_app {K : PySem.W.Frag} {B : Hp} : ∀ {vs ws : List V} {ds es : List PyData}, DpAll K B vs ds → DpAll K B ws es → DpAll K B (vs ++ ws) (ds ++ es)
  | _, _, _, _, .nil, h => h
  | _, _, _, _, .cons a r, h => .cons a (dpAll_app r h)
theorem dpAll_get {K : PySem.W.Frag} {B : Hp} : ∀ {vs : List V} {ds : List PyData} {i : Nat} {v : V}, DpAll K B vs ds → vs[i]? = some v → ∃ d, ds[i]? = some d ∧ Dp K B v d
  | _, _, _, _, .nil, e => by simp at e
  | _, _, 0, _, .cons a _, e => by simp at e; subst e; exact ⟨_, rfl, a⟩
  | _, _, i + 1, _, .cons _ r, e => by
    obtain ⟨d, h1, h2⟩ := dpAll_get (i := i) r (by simpa using e)
    exact ⟨d, by simpa using h1, h2⟩
theorem dpAll_getD {K : PySem.W.Frag} {B : Hp} : ∀ {vs : List V} {ds : List PyData} {i : Nat} {d : PyData}, DpAll K B vs ds → ds[i]? = some d → ∃ v, vs[i]? = some v ∧ Dp K B v d
  | _, _, _, _, .nil, e => by simp at e
  | _, _, 0, _, .cons a _, e => by simp at e; subst e; exact ⟨_, rfl, a⟩
  | _, _, i + 1, _, .cons _ r, e => by
    obtain ⟨d, h1, h2⟩ := dpAll_getD (i := i) r (by simpa using e)
    exact ⟨d, by simpa using h1, h2⟩
theorem dpAll_drop {K : PySem.W.Frag} {B : Hp} : ∀ {vs : List V} {ds : List PyData} (n : Nat), DpAll K B vs ds → DpAll K B (vs.drop n) (ds.drop n)
  | _, _, 0, h => h
  | _, _, _ + 1, .nil => .nil
  | _, _, n + 1, .cons _ r => dpAll_drop n r
theorem dpAll_take {K : PySem.W.Frag} {B : Hp} : ∀ {vs : List V} {ds : List PyData} (n : Nat), DpAll K B vs ds → DpAll K B (vs.take n) (ds.take n)
  | _, _, 0, _ => .nil
  | _, _, _ + 1, .nil => .nil
  | _, _, n + 1, .cons a r => .cons a (dpAll_take n r)
theorem dpAll_ints {K : PySem.W.Frag} {B : Hp} : ∀ ns : List Int, DpAll K B (ns.map V.int) (ns.map PyData.int)
  | [] => .nil
  | n :: r => .cons (.int n) (dpAll_ints r)
theorem ints_of {K : PySem.W.Frag} {B : Hp} : ∀ {vs : List V} {ns : List Int}, DpAll K B vs (ns.map PyData.int) → vs = ns.map V.int
  | _, [], .nil => rfl
  | _, n :: r, .cons h t => by
    cases h
    rw [ints_of t]
    rfl
inductive Fl : V → PyData → Prop
  | non : Fl .non .none
  | bl (b : Bool) : Fl (.bl b) (.bool b)
  | int (i : Int) : Fl (.int i) (.int i)
  | str (x : Str) : Fl (.str x) (.str x)
theorem Fl.dp {K : PySem.W.Frag} {B : Hp} {v : V} {d : PyData} : Fl v d → Dp K B v d
  | .non => .non
  | .bl b => .bl b
  | .int i => .int i
  | .str x => .str x
section
variable {K : PySem.W.Frag} {L : List (Addr × HO)} {D : List Fct} {H : Hp} {p a : Addr} {o : HO} {v : V} {d : PyData} {vs xs : List V} {ds : List PyData}
def Has (K : PySem.W.Frag) (D : List Fct) (v : V) (d : PyData) : Prop := ∀ B, (∀ G ∈ D, G B) → Dp K B v d
def HasAll (K : PySem.W.Frag) (D : List Fct) (vs : List V) (ds : List PyData) : Prop := ∀ B, (∀ G ∈ D, G B) → DpAll K B vs ds
theorem has_fl (h : Fl v d) : Has K D v d := fun _ _ => h.dp
theorem has_mem (h : isD K v d ∈ D) : Has K D v d := fun _ b => b _ h
theorem hasAll_mem (h : isDs K vs ds ∈ D) : HasAll K D vs ds := fun _ b => b _ h
theorem hasAll_nil : HasAll K D [] [] := fun _ _ => .nil
theorem hasAll_cons (h : Has K D v d) (r : HasAll K D vs ds) : HasAll K D (v :: vs) (d :: ds) := fun B b => .cons (h B b) (r B b)
theorem hasAll_app {ws : List V} {es : List PyData} (h : HasAll K D vs ds) (r : HasAll K D ws es) : HasAll K D (vs ++ ws) (ds ++ es) := fun B b => dpAll_app (h B b) (r B b)
theorem hasAll_ints (ns : List Int) : HasAll K D (ns.map V.int) (ns.map PyData.int) := fun _ _ => dpAll_ints ns
theorem Wd.has (W : Wd L D H) (h : Has K D v d) : Dp K H v d := by
  obtain ⟨B, s, dd, _⟩ := W.ex
  exact dp_stab s (h B fun G hG => (dd G hG).2)
theorem Wd.hasAll (W : Wd L D H) (h : HasAll K D vs ds) : DpAll K H vs ds := by
  obtain ⟨B, s, dd, _⟩ := W.ex
  exact dpAll_stab s (h B fun G hG => (dd G hG).2)
theorem Wd.addD (W : Wd L D H) (h : Has K D v d) : Wd L (isD K v d :: D) H := W.der isD_stab h
theorem Wd.addDs (W : Wd L D H) (h : HasAll K D vs ds) : Wd L (isDs K vs ds :: D) H := W.der isDs_stab h
theorem Wd.frzL (W : Wd ((p, .lst vs) :: L) D H) (h : HasAll K D vs ds) : Wd L (isD K (.ref p) (.list ds) :: D) H := W.frz isD_stab fun B b e => .lst (SqL.of e) (h B b)
theorem Wd.frzT (W : Wd ((p, .tup vs) :: L) D H) (h : HasAll K D vs ds) : Wd L (isD K (.ref p) (.tuple ds) :: D) H := W.frz isD_stab fun B b e => .tup (SqT.of e) (h B b)
theorem Wd.openL (W : Wd L D H) (h : Has K D v (.list ds)) : ∃ (a : Addr) (xs : List V), v = .ref a ∧ xs.length = ds.length ∧ SqL K H a xs ∧ Wd L ((fun B => SqL K B a xs) :: isDs K xs ds :: D) H := by
  obtain ⟨B, s, dd, l⟩ := W.ex
  cases h B fun G hG => (dd G hG).2 with
  | @lst a xs _ q r =>
    refine ⟨a, xs, rfl, dpAll_len r, s.seq q, ⟨B, s, fun F hF => ?_, l⟩, W.nd⟩
    rcases List.mem_cons.mp hF with e | hF
    · subst e
      exact ⟨fun _ _ s => s.seq, q⟩
    · rcases List.mem_cons.mp hF with e | hF
      · subst e
        exact ⟨isDs_stab, r⟩
      · exact dd F hF
theorem Wd.openT (W : Wd L D H) (h : Has K D v (.tuple ds)) : ∃ (a : Addr) (xs : List V), v = .ref a ∧ xs.length = ds.length ∧ SqT K H a xs ∧ Wd L ((fun B => SqT K B a xs) :: isDs K xs ds :: D) H := by
  obtain ⟨B, s, dd, l⟩ := W.ex
  cases h B fun G hG => (dd G hG).2 with
  | @tup a xs _ q r =>
    refine ⟨a, xs, rfl, dpAll_len r, Same.tup s q, ⟨B, s, fun F hF => ?_, l⟩, W.nd⟩
    rcases List.mem_cons.mp hF with e | hF
    · subst e
      exact ⟨fun _ _ s => Same.tup s, q⟩
    · rcases List.mem_cons.mp hF with e | hF
      · subst e
        exact ⟨isDs_stab, r⟩
      · exact dd F hF
theorem Wd.item (W : Wd L D H) (h : HasAll K D xs ds) {i : Nat} (hd : ds[i]? = some d) : ∃ v, xs[i]? = some v ∧ Wd L (isD K v d :: D) H := by
  have q := W.hasAll h
  obtain ⟨v, hv, _⟩ := dpAll_getD q hd
  refine ⟨v, hv, W.addD fun B b => ?_⟩
  obtain ⟨d', e1, e2⟩ := dpAll_get (h B b) hv
  rw [hd] at e1
  cases e1
  exact e2
theorem Wd.itemV (W : Wd L D H) (h : HasAll K D xs ds) {i : Nat} (hv : xs[i]? = some v) : ∃ d, ds[i]? = some d ∧ Wd L (isD K v d :: D) H := by
  have q := W.hasAll h
  obtain ⟨d, hd, _⟩ := dpAll_get q hv
  refine ⟨d, hd, W.addD fun B b => ?_⟩
  obtain ⟨d', e1, e2⟩ := dpAll_get (h B b) hv
  rw [hd] at e1
  cases e1
  exact e2
end
section
variable {prog : Program} {w : World} {A : Around} {E : Value → Shared → Prop} {s : Shared} {env : Env}
theorem starL {l : Addr} {items : Array Value} {n i : Nat} {Q : List Value → Shared → Prop} (hl : s.heap.IsList l items) (hh : A.handled = none) (hi : i < n) (hn : n ≤ items.size + 1) (hz : items.size ≤ 16384)
    (h : ∀ (h' : Heap) (tk : Nat), (∀ b o, s.heap.get? b = some o → h'.get? b = some o) →
      Q (items.toList.take i ++ [.ref h'.objs.size] ++ (items.toList.drop i).drop (items.size + 1 - n)) { s with heap := h'.push { cls := .type "list", data := .seq ((items.toList.drop i).take (items.size + 1 - n)).toArray }, toks := tk }) : wpAny (model prog w) A (unpackItems (.ref l) n (some i)) Q E s := by
  have hlt : l ≠ s.heap.objs.size := by obtain ⟨o, ho, _⟩ := hl; exact Nat.ne_of_lt (Heap.lt_size ho)
  unfold unpackItems
  refine wpAny_bind ?_
  unfold notIterableAtAll
  refine wpAny_bind (wpAny_specialOf hl.typeIs slot_list_iter.lookup ?_)
  refine wpAny_pure ?_
  simp only [Bool.false_eq_true, if_false]
  refine wpAny_bind (wpAny_holding (wpAny_pyIter_list hl ?_))
  refine wpAny_bind (wpAny_holding (PySem.W.kun_draw hlt i 0 _ _ ⟨_, Heap.get?_push_size _ rfl, rfl, rfl⟩ (hl.push _) (by omega) fun h₁ hit₁ hs₁ => ?_))
  have hl₁ : h₁.IsList l items := (hl.push _).extBut hs₁.extBut hlt
  rw [Nat.zero_add] at hit₁
  have hit₁' := hit₁
  obtain ⟨oi, hoi, _⟩ := hit₁'
  have hl₁' := hl₁
  obtain ⟨ol, hol, _⟩ := hl₁'
  rw [List.drop_zero]
  have hfl : (items.toList.take i).length = i := by rw [List.length_take, Array.length_toList]; omega
  rw [if_neg (show ¬ ((items.toList.take i).length < i) by rw [hfl]; omega)]
  refine wpAny_bind (wpAny_holding (PySem.W.kun_collect (s := { s with heap := h₁ }) (T := "list_iterator") (.inr (.inr (.inl rfl))) (Walks.list (A := A.in1) hh s.heap.objs.size l hlt items) (fun j u st => st.1.typeIs) (k := i) (by omega) ⟨hit₁, hl₁⟩ (Heap.lt_size hoi) (Heap.lt_size hol) (fun h₂ tk hk => ?_) (by rw [sizeLine_eq]; omega)))
  have hrl : (items.toList.drop i).length = items.size - i := by rw [List.length_drop, Array.length_toList]
  have hmid : (items.toList.drop i).length - (n - 1 - i) = items.size + 1 - n := by rw [hrl]; omega
  show wpAny _ _ (if (items.toList.drop i).length < n - 1 - i then _ else _) _ _ _
  rw [if_neg (by rw [hrl]; omega)]
  show wpAny _ _ (newList ((items.toList.drop i).take ((items.toList.drop i).length - (n - 1 - i))) >>= fun d => pure (items.toList.take i ++ [d] ++ (items.toList.drop i).drop ((items.toList.drop i).length - (n - 1 - i)))) _ _ _
  rw [hmid]
  have keep : ∀ b o, s.heap.get? b = some o → h₂.get? b = some o := fun b o e => hk b o (Nat.ne_of_lt (Heap.lt_size e)) (hs₁.extBut b o (Nat.ne_of_lt (Heap.lt_size e)) (Heap.get?_push_of_some _ e))
  refine wpAny_bind (wpAny_newObj_type (wpAny_pure (h h₂ tk keep)) (by simp only [sizeOk]; rw [List.size_toArray, List.length_take, hrl, sizeLine_eq]; omega))
theorem starT {l : Addr} {items : Array Value} {n i : Nat} {Q : List Value → Shared → Prop} (hl : IsTup s.heap l items) (hh : A.handled = none) (hi : i < n) (hn : n ≤ items.size + 1) (hz : items.size ≤ 16384)
    (h : ∀ (h' : Heap) (tk : Nat), (∀ b o, s.heap.get? b = some o → h'.get? b = some o) →
      Q (items.toList.take i ++ [.ref h'.objs.size] ++ (items.toList.drop i).drop (items.size + 1 - n)) { s with heap := h'.push { cls := .type "list", data := .seq ((items.toList.drop i).take (items.size + 1 - n)).toArray }, toks := tk }) : wpAny (model prog w) A (unpackItems (.ref l) n (some i)) Q E s := by
  have hlt : l ≠ s.heap.objs.size := by obtain ⟨o, ho, _⟩ := hl; exact Nat.ne_of_lt (Heap.lt_size ho)
  unfold unpackItems
  refine wpAny_bind ?_
  unfold notIterableAtAll
  refine wpAny_bind (wpAny_specialOf hl.typeIs slot_tuple_iter.lookup ?_)
  refine wpAny_pure ?_
  simp only [Bool.false_eq_true, if_false]
  refine wpAny_bind (wpAny_holding (iter_tuple hl ?_))
  refine wpAny_bind (wpAny_holding (draw_tuple hlt i 0 _ _ ⟨_, Heap.get?_push_size _ rfl, rfl, rfl⟩ (hl.push _) (by omega) fun h₁ hit₁ hs₁ => ?_))
  have hl₁ : IsTup h₁ l items := (hl.push _).extBut hs₁.extBut hlt
  rw [Nat.zero_add] at hit₁
  have hit₁' := hit₁
  obtain ⟨oi, hoi, _⟩ := hit₁'
  have hl₁' := hl₁
  obtain ⟨ol, hol, _⟩ := hl₁'
  rw [List.drop_zero]
  have hfl : (items.toList.take i).length = i := by rw [List.length_take, Array.length_toList]; omega
  rw [if_neg (show ¬ ((items.toList.take i).length < i) by rw [hfl]; omega)]
  refine wpAny_bind (wpAny_holding (PySem.W.kun_collect (s := { s with heap := h₁ }) (T := "tuple_iterator") (.inr (.inr (.inr rfl))) (Walks.tuple (A := A.in1) hh s.heap.objs.size l hlt items) (fun j u st => st.1.typeIs) (k := i) (by omega) ⟨hit₁, hl₁⟩ (Heap.lt_size hoi) (Heap.lt_size hol) (fun h₂ tk hk => ?_) (by rw [sizeLine_eq]; omega)))
  have hrl : (items.toList.drop i).length = items.size - i := by rw [List.length_drop, Array.length_toList]
  have hmid : (items.toList.drop i).length - (n - 1 - i) = items.size + 1 - n := by rw [hrl]; omega
  show wpAny _ _ (if (items.toList.drop i).length < n - 1 - i then _ else _) _ _ _
  rw [if_neg (by rw [hrl]; omega)]
  show wpAny _ _ (newList ((items.toList.drop i).take ((items.toList.drop i).length - (n - 1 - i))) >>= fun d => pure (items.toList.take i ++ [d] ++ (items.toList.drop i).drop ((items.toList.drop i).length - (n - 1 - i)))) _ _ _
  rw [hmid]
  have keep : ∀ b o, s.heap.get? b = some o → h₂.get? b = some o := fun b o e => hk b o (Nat.ne_of_lt (Heap.lt_size e)) (hs₁.extBut b o (Nat.ne_of_lt (Heap.lt_size e)) (Heap.get?_push_of_some _ e))
  refine wpAny_bind (wpAny_newObj_type (wpAny_pure (h h₂ tk keep)) (by simp only [sizeOk]; rw [List.size_toArray, List.length_take, hrl, sizeLine_eq]; omega))
end
def gStar (K : PySem.W.Frag) (n i : Nat) (t : TGs) : TG := fun v σ H Q => ∃ a xs, v = .ref a ∧ (SqL K H a xs ∨ SqT K H a xs) ∧ n ≤ xs.length + 1 ∧ xs.length ≤ 16384 ∧
  ∀ D, H D = none → t (xs.take i ++ [.ref D] ++ (xs.drop i).drop (xs.length + 1 - n)) σ (upd H D (.lst ((xs.drop i).take (xs.length + 1 - n)))) Q
section
variable {X : Cx} {pos : Pos}
theorem pgs_star {e : Expr} {es : List Expr} {t : TG} {u : TGs} {p : Pos} (h1 : PG X e t) (h2 : PGs X es u)
    (hs : (assignEach (.Starred e p :: es) X.env).map (·.2) = assign e X.env :: (assignEach es X.env).map (·.2) := by rfl) : PGs X (.Starred e p :: es) (gCons t u) := by
  refine ⟨fun pins s σ H vs us Q I r h => ?_⟩
  obtain ⟨v, vr, e1, h⟩ := h
  subst e1
  cases r with
  | cons r rr =>
    rw [hs]
    refine assignInOrder_cons (thn (h1.run pins s σ H _ _ _ I r h) fun _ s1 ⟨σ1, H1, I1, q1⟩ => ?_)
    exact h2.run pins s1 σ1 H1 _ _ Q I1 rr q1
theorem pg_star {es : List Expr} {k : Nat} {t : TGs} {n i : Nat} (hc : X.calm = true) (h : PGs X es t) (hi : i < n := by decide)
    (hn : (assignEach es X.env).length = n := by rfl) (hst : (assignEach es X.env).findIdx? (·.1) = some i := by rfl) : PG X (.Tuple es k pos) (gStar X.K n i t) := by
  refine ⟨fun pins s σ H v u Q I r hw => ?_⟩
  obtain ⟨a, xs, e1, hq, hl, hz, hw⟩ := hw
  subst e1
  cases r
  rw [assign_Tuple]
  refine wpAny_bind (wpAny_standAt ?_)
  unfold unpack
  rw [hn, hst]
  have fin : ∀ (its : List Value) (rv : Vals xs its) (h' : Heap) (tk : Nat), (∀ b o, s.heap.get? b = some o → h'.get? b = some o) →
      wpAny (model X.prog X.w) X.A (assignInOrder ((assignEach es X.env).map (·.2)) (its.toArray.toList.take i ++ [.ref h'.objs.size] ++ (its.toArray.toList.drop i).drop (its.toArray.size + 1 - n))) (fun _ s' => ∃ σ' H', Inv X pins σ' H' s' ∧ Q σ' H') X.xe
        { s with heap := h'.push { cls := .type "list", data := .seq ((its.toArray.toList.drop i).take (its.toArray.size + 1 - n)).toArray }, toks := tk } := by
    intro its rv h' tk hk
    have hlen := rv.length
    have I1 : Inv X pins σ H { s with heap := h', toks := tk } := I.kept hk
    have es : its.toArray.size = xs.length := by rw [List.size_toArray, hlen]
    have I2 : Inv X pins σ (upd H h'.objs.size (.lst ((xs.drop i).take (xs.length + 1 - n)))) { s with heap := h'.push { cls := .type "list", data := .seq ((its.toArray.toList.drop i).take (its.toArray.size + 1 - n)).toArray }, toks := tk } :=
      I1.laid (t' := tk) (fun b ob q => Heap.get?_push_of_some _ q) (Nat.le_refl _) ⟨by rw [List.length_take, List.length_drop, sizeLine_eq]; omega, (its.drop i).take (xs.length + 1 - n), 0, (rv.drop i).take (xs.length + 1 - n), by
        rw [es]
        exact Heap.get?_push_size _ rfl⟩
    have q := hw h'.objs.size (I1.hok.fresh (Nat.le_refl _))
    refine h.run pins _ σ _ _ _ Q I2 ?_ q
    rw [es]
    exact ((rv.take i).append (.cons (show RelV (.ref _) (.ref _) from rfl) .nil)).append ((rv.drop i).drop _)
  refine wpAny_bind (wpAny_holding ?_)
  rcases hq with hq | hq
  · obtain ⟨its, rv, ht, _⟩ := I.list hq
    have es : its.toArray.size = xs.length := by rw [List.size_toArray, rv.length]
    exact starL ht.isList (I.ok.hd hc) hi (by rw [es]; exact hl) (by rw [es]; exact hz) (fin its rv)
  · obtain ⟨its, rv, ht, _⟩ := I.tuple hq
    have es : its.toArray.size = xs.length := by rw [List.size_toArray, rv.length]
    exact starT ht (I.ok.hd hc) hi (by rw [es]; exact hl) (by rw [es]; exact hz) (fin its rv)
end
def kBase (g : G) (A : Around) (C m : Str) (E : XK) : List V → Hp → VK → Prop := fun vs H Q => ∃ k sp f Ca, Room k A ∧ g.mg C = some (.ref Ca) ∧ ClX.CVal g.K Ca (.type "type") m (.ref f) (.ref f) ∧ Fk g k sp f ∧ sp vs H Q E
def tBaseG (g : G) (A : Around) (C m : Str) (E : XK) (t : TA) : TE := fun σ H Q => t σ H fun vs H1 => kBase g A C m E vs H1 Q
def KnB (g : G) (C m : Str) : Prop := ∃ Ca f, g.mg C = some (.ref Ca) ∧ ClX.CRead g.K Ca (.type "type") ∧ ClX.CVal g.K Ca (.type "type") m (.ref f) (.ref f) ∧ PySem.W.keepIn g.K (.ref f) = true
section
variable {X : Cx} {E : XK} {C m : Str} {p pos apos : Pos} {e : Expr} {es : List Expr} {t : TA}
theorem pe_baseG {pl : Sem Bool} (hk : KnB (gOf X) C m) (hx : Passes (L2.CX X.prog X.w) X E) (ha : PA X (e :: es) t) (hg : Gl X C := by rfl) (hdb : (C == ("__debug__" : Str)) = false := by decide)
    (hst : starEach (e :: es) X.env = (false, eval e X.env) :: starEach es X.env := by rfl) (hpl : (backTo pos (starEach es X.env)).any (·.1) = false := by rfl)
    (ht : eval (.Call (.Attribute (.Name C p) m apos) (e :: es) [] pos) X.env = (do
      let ov ← eval (.Name C p) X.env
      standAt apos.atName
      let (f, first) ← holding [ov] (getMethod ov m pl)
      callWith pos f first (backTo pos (starEach (e :: es) X.env)) (backToKw pos (keywordEach [] X.env))) := by rfl) :
    PE X (.Call (.Attribute (.Name C p) m apos) (e :: es) [] pos) (tBaseG (gOf X) X.A C m E t) := by
  obtain ⟨Ca, f, hm, rd, cv, kp⟩ := hk
  refine ⟨fun pins s σ H Q I h => ?_⟩
  refine PySem.W.methodCall_KW (pl := pl) (ld_glob I hg hm ?_ hdb) ht
  refine PySem.W.method_cls I.kIn rd.ga (ClX.getcval_ok I rd cv fun s' I' => ?_)
  refine PySem.W.callWith_K (first := []) (h₀ := X.base) I.ok.mod.kin kp (thn (ha.run pos pins s' σ H _ I' h) fun us s2 ⟨vs, H2, I2, r, k, sp, f', Ca', hr, hm', cv', F, q2⟩ => ⟨I2.kIn, ?_⟩) hst hpl
  have hm1 : X.mg C = some (.ref Ca) := hm
  have hm2 : X.mg C = some (.ref Ca') := hm'
  rw [hm1] at hm2
  cases hm2
  have e1 := cv.at_
  have e2 : PySem.W.findCls X.K (.ref Ca) (.type "type") m = some (.val (.ref f')) := cv'.at_
  rw [e1] at e2
  cases e2
  exact run_Fk F hr hx I2 r q2
end
theorem ix_dict {X : Cx} (hu : X.A.units + 1 < cLine) : IxR X (fun x y H Q => ∃ a v, x = .ref a ∧ DGet H a y (some v) ∧ Q v H) := by
  intro value slice pins s σ H x y v u Q I rx ry h hs
  obtain ⟨a, w, rfl, gd, q⟩ := h
  obtain rfl : v = Value.ref a := rx
  have hT := dict_typeIs I gd
  unfold subscriptTail
  refine wpAny_bind ?_
  rw [getitemInPython_of_ne hT.not_modules]
  refine wpAny_bind (wpAny_specialOf hT PySem.F.slot_dict_getitem.lookup ?_)
  have h₂ : wpAny (model X.prog X.w) X.A (getItem (.ref a) u) (EP X pins σ Q) X.xe s := d_getItem hu I gd ry fun w' s3 I3 rw' => ⟨w, H, I3, rw', q⟩
  have fin : wpAny (model X.prog X.w) X.A (subscripted slice false (.ref a) u) (fun r s₃ => wpAny (model X.prog X.w) X.A (letTemporaryGo value (.ref a) r >>= fun _ => pure r) (EP X pins σ Q) X.xe s₃) X.xe s := by
    rw [hs]
    exact wpAny_operating (wpAny_mono h₂ (fun r s₃ h₃ => wpAny_bind (wpAny_letTemporaryGo (wpAny_pure h₃))) fun _ _ x => x)
  first
    | exact wpAny_pure (wpAny_bind fin)
    | exact wpAny_bind (wpAny_pure (wpAny_bind fin))
    | exact wpAny_bind fin
def kIx (K : PySem.W.Frag) : R2 := fun x y H Q => rIx K x y H Q ∨ ∃ a v, x = .ref a ∧ DGet H a y (some v) ∧ Q v H
theorem ixG {X : Cx} (hu : X.A.units + 1 < cLine) : IxR X (kIx X.K) := ix_seq.or (ix_dict hu)
def kGet (K : PySem.W.Frag) : R2 := fun x y H Q => rIxL K x y H Q ∨ ∃ a v, x = .ref a ∧ DGet H a y (some v) ∧ Q v H
theorem pgetG {X : Cx} (hu : X.A.units + 1 < cLine) : PGet X (kGet X.K) := by
  intro pins s σ H x y v u Q I rx ry h
  rcases h with ⟨p, xs, i, z, rfl, rfl, hq, he, q⟩ | ⟨a, w, rfl, gd, q⟩
  · cases rx
    obtain ⟨t, rfl⟩ := ry
    obtain ⟨its, r, pl, hz⟩ := I.list hq
    obtain ⟨j, h1, h2, h3, h4, h5⟩ := atI_get he
    obtain ⟨w, ew, rw'⟩ := r.get h2
    have hl := r.length
    have hn := line63
    have fin : EP X pins σ Q w s := ⟨z, H, I, rw', q⟩
    by_cases h0 : 0 ≤ i
    · have hj : i.toNat = j := by
        rw [seqIndex_of h0 h5] at h1
        exact Option.some.inj h1
      exact wpAny_getItem_list pl.isList h0 (by omega) (by rw [hj]; simpa using ew) fin
    · have hj : (i + (its.toArray.size : Int)).toNat = j := by
        rw [seqIndex_neg (by omega) h4] at h1
        rw [List.size_toArray, ← hl]
        exact Option.some.inj h1
      exact wpAny_getItem_list_neg pl.isList (by omega) (by rw [List.size_toArray] <;> omega) (by omega) (by rw [hj]; simpa using ew) fin
  · obtain rfl : v = Value.ref a := rx
    exact d_getItem hu I gd ry fun w' s3 I3 rw' => ⟨w, H, I3, rw', q⟩
def kSet : TSet := fun o i v H Q => rSetL o i v H Q ∨ rSetD o i v H Q
theorem psetG {X : Cx} (hu : X.A.units + 1 < cLine) : PSet X kSet := by
  intro pins s σ H o i v ov iv u Q I ro ri rv h
  rcases h with h | h
  · exact set_list pins s σ H o i v ov iv u Q I ro ri rv h
  · exact set_dict hu pins s σ H o i v ov iv u Q I ro ri rv h
def kIpAdd : TIp := fun x y H Q => ipI (fun i j => i + j) x y H Q
def kSl (K : PySem.W.Frag) : V → Option Int → Option Int → Hp → VK → Prop := fun x lo hi H Q => rSlL K x lo hi H Q ∨ (rSlA K x lo hi H Q ∨ rSlS x lo hi H Q)
theorem slG {X : Cx} : SlR X (kSl X.K) := sl_list.or (sl_tupA.or sl_str)
def CPowW (i j : Int) : Prop := 0 ≤ j ∧ (Builtin.Int.intBits i : Int) * j ≤ 2 ^ 27
theorem op_powW {X : Cx} : OpR X (binaryOp .Pow) (rI CPowW fun i j => .int (i ^ j.toNat)) := opI fun _ _ _ _ _ _ _ hc q => pow_int hc.1 hc.2 q
def CDivG (i j : Int) : Prop := 0 < j ∧ (j.natAbs.log2 < 9000)
def kAdd (K : PySem.W.Frag) : R2 := fun x y H Q => rI0 (fun i j => .int (i + j)) x y H Q ∨ (∃ i j, x = .str i ∧ y = .str j ∧ i.length + j.length ≤ sizeLine ∧ Q (.str (i ++ j)) H) ∨ rCat x y H Q ∨ rCatA K x y H Q
theorem op_addG {X : Cx} : OpR X (binaryOp .Add) (kAdd X.K) := op_add.or (op_add_str.or (op_cat.or op_catA))
def kSub : R2 := rI0 fun i j => .int (i - j)
theorem op_subG {X : Cx} : OpR X (binaryOp .Sub) kSub := op_sub
def kMul : R2 := fun x y H Q => rI CMulW (fun i j => .int (i * j)) x y H Q ∨ rRep x y H Q
theorem op_mulG {X : Cx} : OpR X (binaryOp .Mult) kMul := op_mulW.or op_rep
def kDiv : R2 := rI CDivW fun i j => .int (i / j)
theorem op_divG {X : Cx} : OpR X (binaryOp .FloorDiv) kDiv := op_fdivW
def kMod : R2 := rI (fun _ j => 0 < j) fun i j => .int (i % j)
theorem op_modG {X : Cx} : OpR X (binaryOp .Mod) kMod := op_mod
def kPow : R2 := rI CPowW fun i j => .int (i ^ j.toNat)
theorem op_powG {X : Cx} : OpR X (binaryOp .Pow) kPow := op_powW
def kEq (K : PySem.W.Frag) : R2 := fun x y H Q => rEq x y H Q ∨ rEqD K x y H Q
theorem op_eqG {X : Cx} (hu : X.A.units + 64 < cLine) : OpR X (compareOp .Eq) (kEq X.K) := op_eq.or (op_eqD hu)
def kNe (K : PySem.W.Frag) : R2 := fun x y H Q => rNe x y H Q ∨ rNeD K x y H Q
theorem op_neG {X : Cx} (hu : X.A.units + 64 < cLine) : OpR X (compareOp .NotEq) (kNe X.K) := op_ne.or (op_neD hu)
def kLt : R2 := rI0 fun i j => .bl (decide (i < j))
def kLe : R2 := rI0 fun i j => .bl (decide (i ≤ j))
def kGt : R2 := rI0 fun i j => .bl (decide (j < i))
def kGe : R2 := rI0 fun i j => .bl (decide (j ≤ i))
theorem op_ltG {X : Cx} : OpR X (compareOp .Lt) kLt := op_lt
theorem op_leG {X : Cx} : OpR X (compareOp .LtE) kLe := op_le
theorem op_gtG {X : Cx} : OpR X (compareOp .Gt) kGt := op_gt
theorem op_geG {X : Cx} : OpR X (compareOp .GtE) kGe := op_ge
def kIsN : R2 := fun x y H Q => y = .non ∧ Q (.bl (decide (x = .non))) H
def kNotN : R2 := fun x y H Q => y = .non ∧ Q (.bl (!decide (x = .non))) H
theorem op_isG {X : Cx} : OpR X (compareOp .Is) kIsN := op_isN
theorem op_isnotG {X : Cx} : OpR X (compareOp .IsNot) kNotN := op_notN
theorem op_in_dict {X : Cx} (hu : X.A.units + 1 < cLine) : OpR X (compareOp .In) (fun y x H Q => ∃ a o, x = .ref a ∧ DGet H a y o ∧ Q (.bl o.isSome) H) := by
  intro pins s σ H y x iv u Q I ry rx h
  obtain ⟨a, ov, rfl, gd, q⟩ := h
  obtain rfl : u = Value.ref a := rx
  exact d_in hu I gd ry fun s' I' => ⟨.bl _, H, I', rfl, q⟩
theorem CallR.or {X : Cx} {f : Value} {r r' : List V → Hp → VK → Prop} (h : CallR X f r) (h' : CallR X f r') : CallR X f (fun xs H Q => r xs H Q ∨ r' xs H Q) := by
  intro pins s σ H xs us Q I rx q
  rcases q with q | q
  · exact h pins s σ H xs us Q I rx q
  · exact h' pins s σ H xs us Q I rx q
def kIn (K : PySem.W.Frag) : R2 := fun x y H Q => rIn K false x y H Q ∨ (∃ a o, y = .ref a ∧ DGet H a x o ∧ Q (.bl o.isSome) H) ∨ (∃ (c : Nat) (z : Str), x = .str ⟨#[c]⟩ ∧ y = .str z ∧ Q (.bl (decide (c ∈ z.cps.toList))) H)
theorem op_inG {X : Cx} (hu : X.A.units + 1 < cLine) : OpR X (compareOp .In) (kIn X.K) := op_in_seq.or ((op_in_dict hu).or op_in_sign)
theorem op_notIn_dict {X : Cx} (hu : X.A.units + 1 < cLine) : OpR X (compareOp .NotIn) (fun y x H Q => ∃ a o, x = .ref a ∧ DGet H a y o ∧ Q (.bl (!o.isSome)) H) := by
  intro pins s σ H y x iv u Q I ry rx h
  obtain ⟨a, ov, rfl, gd, q⟩ := h
  obtain rfl : u = Value.ref a := rx
  exact d_notIn hu I gd ry fun s' I' => ⟨.bl _, H, I', rfl, q⟩
def kNotIn (K : PySem.W.Frag) : R2 := fun x y H Q => rIn K true x y H Q ∨ (∃ a o, y = .ref a ∧ DGet H a x o ∧ Q (.bl (!o.isSome)) H) ∨ (∃ (c : Nat) (z : Str), x = .str ⟨#[c]⟩ ∧ y = .str z ∧ Q (.bl (!decide (c ∈ z.cps.toList))) H)
theorem op_notInG {X : Cx} (hu : X.A.units + 1 < cLine) : OpR X (compareOp .NotIn) (kNotIn X.K) := op_notIn_seq.or ((op_notIn_dict hu).or op_notIn_sign)
def kLen (K : PySem.W.Frag) : List V → Hp → VK → Prop := fun xs H Q => (∃ p ys, xs = [.ref p] ∧ (SqL K H p ys ∨ SqT K H p ys) ∧ Q (.int ys.length) H) ∨ (∃ z, xs = [.str z] ∧ z.length ≤ sizeLine ∧ Q (.int z.length) H) ∨
  (∃ a kvs, xs = [V.ref a] ∧ H a = some (.dK kvs) ∧ Q (.int kvs.length) H) ∨ rLenT xs H Q
theorem callLen {X : Cx} : CallR X (.builtin "len") (kLen X.K) := CallR.or call_len_seq (CallR.or call_len_str (CallR.or call_lenD call_len_dT))
def kAbs : List V → Hp → VK → Prop := fun xs H Q => ∃ i, xs = [.int i] ∧ Q (.int (if i < 0 then -i else i)) H
theorem callAbs {X : Cx} : CallR X (.builtin "abs") kAbs := call_abs
def kMax (K : PySem.W.Frag) : List V → Hp → VK → Prop := fun xs H Q => (∃ i j, xs = [.int i, .int j] ∧ Q (.int (if j > i then j else i)) H) ∨ rMax K xs H Q
theorem callMax {X : Cx} (hc : X.calm = true) : CallR X (.builtin "max") (kMax X.K) := CallR.or (call_max2 hc) (cr_max hc)
def kMin (K : PySem.W.Frag) : List V → Hp → VK → Prop := rMin K
theorem callMin {X : Cx} (hc : X.calm = true) : CallR X (.builtin "min") (kMin X.K) := cr_min hc
def kSum (K : PySem.W.Frag) : List V → Hp → VK → Prop := rSum K
theorem callSum {X : Cx} (hc : X.calm = true) : CallR X (.builtin "sum") (kSum X.K) := cr_sum hc
def kAll (K : PySem.W.Frag) : List V → Hp → VK → Prop := rAll K
theorem callAll {X : Cx} (hc : X.calm = true) : CallR X (.builtin "all") (kAll X.K) := cr_all hc
def kAny (K : PySem.W.Frag) : List V → Hp → VK → Prop := rAny K
theorem callAny {X : Cx} (hc : X.calm = true) : CallR X (.builtin "any") (kAny X.K) := cr_any hc
def kIsi (K : PySem.W.Frag) : List V → Hp → VK → Prop := fun xs H Q => rIsi K xs H Q ∨ rIsiT K xs H Q
theorem callIsi {X : Cx} : CallR X (.builtin "isinstance") (kIsi X.K) := CallR.or call_isi call_isiT
def kList (K : PySem.W.Frag) : List V → Hp → VK → Prop := fun xs H Q => (∃ p ys, xs = [.ref p] ∧ (SqL K H p ys ∨ SqT K H p ys) ∧ ∀ l, H l = none → Q (.ref l) (upd H l (.lst ys))) ∨
  (∃ (a : Addr) (kvs : List (Key × V)), xs = [.ref a] ∧ Rd H a (.dK kvs) ∧ ∀ p, H p = none → Q (.ref p) (upd H p (.lst (kvs.map fun kv => kV kv.1)))) ∨
  (∃ d kvs, xs = [V.ref d] ∧ Rd H d (.dT kvs) ∧ ∀ p bs, H p = none → IsKeys H kvs bs → Q (.ref p) (upd H p (.lst (bs.map V.ref))))
theorem callList {X : Cx} (hc : X.calm = true) : CallR X (.type "list") (kList X.K) := CallR.or call_list_of (CallR.or (call_listD hc) (call_list_dT hc))
def kTuple (K : PySem.W.Frag) : List V → Hp → VK → Prop := fun xs H Q => ∃ p ys, xs = [.ref p] ∧ ((SqL K H p ys ∧ ∀ l, H l = none → Q (.ref l) (upd H l (.tup ys))) ∨ (SqT K H p ys ∧ Q (.ref p) H))
theorem callTuple {X : Cx} : CallR X (.type "tuple") (kTuple X.K) := call_tuple_of
def kInt : List V → Hp → VK → Prop := fun xs H Q => ((∃ i, xs = [.int i] ∧ Q (.int i) H) ∨ ∃ k, xs = [.bl k] ∧ Q (.int (if k then 1 else 0)) H) ∨ ∃ a n, xs = [.str a] ∧ PySem.intText? a = some n ∧ a.length ≤ 640 ∧ Q (.int n) H
theorem callInt {X : Cx} : CallR X (.type "int") kInt := CallR.or call_int1 call_int_str
def kStr : List V → Hp → VK → Prop := fun xs H Q => ∃ i, xs = [.int i] ∧ i.natAbs.log2 < 1920 ∧ Q (.str (toString i)) H
theorem callStr {X : Cx} : CallR X (.type "str") kStr := call_str_int
def kTru (K : PySem.W.Frag) (x : V) (H : Hp) (Q : Bool → Hp → Prop) : Prop := ∃ k, TruV K x H k ∧ Q k H
def tTruG (K : PySem.W.Frag) (ta : TE) : TT := fun σ H Q => ta σ H fun x H' => kTru K x H' Q
theorem pt_tru {X : Cx} {a : Expr} {ta : TE} (ha : PE X a ta) (he : ∀ whole, isTrue a X.env whole = (do let v ← whole; standAt a.pos; holding [v] (truthy v)) := by intro _; rfl) : PT X a (tTruG X.K ta) := pt_truth ha he
def kIter (K : PySem.W.Frag) (x : V) (H : Hp) (R : It → Hp → Prop) : Prop := (∃ a xs, x = .ref a ∧ SqL K H a xs ∧ R (Itl K a) H) ∨ (∃ a xs, x = .ref a ∧ SqT K H a xs ∧ R (Itt K a) H) ∨ (∃ z, x = .str z ∧ R (Its z) H)
def iSeq (K : PySem.W.Frag) (tl : TE) : TI := fun σ H R => tl σ H fun x H1 => kIter K x H1 R
theorem pi_seq {X : Cx} {tg l : Expr} {tl : TE} (hl : PE X l tl) : PI X tg l (iSeq X.K tl) := by
  refine ⟨fun pins s σ H R I h => ?_⟩
  refine thn (hl.run pins s σ H _ I h) fun v s1 ⟨x, H1, I1, r1, q1⟩ => ?_
  rcases q1 with ⟨a, xs, e, hq, q⟩ | ⟨a, xs, e, hq, q⟩ | ⟨z, e, q⟩
  · subst e
    cases r1
    obtain ⟨its, rv, p, hz⟩ := I1.list hq
    refine wpAny_pyIter_list p.isList ?_
    refine ⟨s1.heap.objs.size, [s1.heap.objs.size], _, _, H1, rfl, I1.kept (t' := s1.toks) fun b o e => Heap.get?_push_of_some _ e, turn_list a _, ⟨_, Heap.get?_push_size _ rfl, rfl, rfl⟩, fun b hb => ?_, q⟩
    have e : b = s1.heap.objs.size := by simpa using hb
    subst e
    exact I1.fpOk (Nat.le_refl _) (I1.hok.fresh (Nat.le_refl _))
  · subst e
    cases r1
    obtain ⟨its, rv, p, hz⟩ := I1.tuple hq
    refine wpAny_pyIter_tuple (show s1.heap.IsTuple a its.toArray from p) ?_
    refine ⟨s1.heap.objs.size, [s1.heap.objs.size], _, _, H1, rfl, I1.kept (t' := s1.toks) fun b o e => Heap.get?_push_of_some _ e, turn_tuple a _, ⟨_, Heap.get?_push_size _ rfl, rfl, rfl⟩, fun b hb => ?_, q⟩
    have e : b = s1.heap.objs.size := by simpa using hb
    subst e
    exact I1.fpOk (Nat.le_refl _) (I1.hok.fresh (Nat.le_refl _))
  · subst e
    obtain ⟨t, rfl⟩ := r1
    cases ha : z.cps.all (· < 128)
    · exact wpAny_pyIter_wide ha (pi_one (tk := s1.toks) I1 _ (turn_str _ z t "str_iterator" (.inr rfl)) ⟨_, Heap.get?_push_size _ rfl, rfl, rfl⟩ q)
    · exact wpAny_pyIter_ascii ha (pi_one (tk := s1.toks) I1 _ (turn_str _ z t "str_ascii_iterator" (.inl rfl)) ⟨_, Heap.get?_push_size _ rfl, rfl, rfl⟩ q)
def Itet (K : PySem.W.Frag) (a : Addr) (c : Int) : It :=
  ⟨fun i H => ∃ (xs : List V) (x : V), SqT K H a xs ∧ xs[i]? = some x, fun i H v H' => ∃ T x, v = .ref T ∧ H T = none ∧ H' = upd H T (.tup [.int (c + (i : Nat)), x]) ∧ ∀ xs, SqT K H a xs → xs[i]? = some x, fun i H => ∃ xs : List V, SqT K H a xs ∧ xs.length ≤ i⟩
theorem turn_enumT {P : Program} {w : World} {K : PySem.W.Frag} {elts : List Expr} {kk : Nat} {tpos : Pos} (a e it : Addr) (c : Int) :
    Turn P w K (.Tuple elts kk tpos) (Itet K a c) [e, it] e (fun i h => (∃ old, IsEnum h e it (c + (i : Nat)) old) ∧ h.IsTupleIter it a i ∧ e ≠ it) where
  mem := by simp
  obj := fun i h st b hb => by
    obtain ⟨⟨old, he⟩, ⟨o, ho, hc, hd⟩, _⟩ := st
    have e' : b = e ∨ b = it := by simpa using hb
    rcases e' with z | z
    · rw [z]; exact ⟨_, he, fun v q => nomatch q⟩
    · rw [z]; exact ⟨o, ho, fun v q => by rw [hd] at q; cases q⟩
  keep := fun i h h' st k => let ⟨⟨old, he⟩, hi, hne⟩ := st; ⟨⟨old, k e (by simp) _ he⟩, hi.at fun o q => k it (by simp) o q, hne⟩
  item := by
    intro X hP hw hK hc i pins s σ H E I hf st hg
    subst hP hw hK
    obtain ⟨⟨old, he⟩, hit, hne⟩ := st
    obtain ⟨xs, x, hq, hx⟩ := hg
    obtain ⟨its, rv, p, hz⟩ := I.tuple hq
    obtain ⟨u, hu, ru⟩ := rv.get hx
    have hel : e < s.heap.objs.size := Heap.lt_size he
    have hil : it < s.heap.objs.size := by obtain ⟨_, q, _⟩ := hit; exact Heap.lt_size q
    have hai : a ≠ it := by
      rintro rfl
      obtain ⟨o1, h1, c1, _⟩ := hit
      obtain ⟨o2, h2, c2, _⟩ := p
      rw [h1] at h2
      cases h2
      rw [c1] at c2
      injection c2 with z
      exact absurd z (by decide)
    have hae : e ≠ a := by
      rintro rfl
      obtain ⟨o2, h2, c2, _⟩ := p
      rw [he] at h2
      cases h2
      injection c2 with z
      exact absurd z (by decide)
    have hlt : i < its.toArray.size := by
      have := (List.getElem?_eq_some_iff.mp hu).1
      simpa using this
    refine wpAny_pyNext_enum_itemC (Draws.tuple (prog := X.prog) (w := X.w) (A := X.A.in1) (I.ok.hd hc) it a hai its.toArray) he ⟨hit, p⟩ hlt hne (by simp [hne, hae]) fun x' h' tk hx' ho ⟨hit', _⟩ hT hsz hk => ?_
    obtain rfl : x' = u := by
      have e1 : its.toArray[i]? = some x' := hx'
      have e2 : its.toArray[i]? = some u := by simpa using hu
      rw [e1] at e2
      exact Option.some.inj e2
    refine ⟨_, rfl, wpAny_letOwnedTupleGo_enum (s := { s with heap := h', toks := tk + 1 }) ho fun h'' he' sb => ?_⟩
    have hT2 : h''.get? s.heap.objs.size = some { cls := .type "tuple", data := .seq #[.int (c + (i : Nat)) tk, x'] } := (sb.2 _ (Nat.ne_of_gt hel)).trans hT
    have new : ObjOk X.prog X.w (upd H s.heap.objs.size (.tup [.int (c + (i : Nat)), x])) h'' s.heap.objs.size (.tup [.int (c + (i : Nat)), x]) :=
      ⟨by show 2 ≤ sizeLine; decide, [.int (c + (i : Nat)) tk, x'], .cons ⟨_, rfl⟩ (.cons ru .nil), ⟨_, hT2, rfl, _, rfl⟩⟩
    have I1 : Inv X pins σ (upd H s.heap.objs.size (.tup [.int (c + (i : Nat)), x])) { s with heap := h'', toks := tk + 1 } :=
      I.turnedNew (ch := [e, it]) (fun b ob hb q => (sb.2 b (fun z => hb (by simp [z]))).trans (hk b ob (fun z => hb (by simp [z])) (fun z => hb (by simp [z])) q)) hf (Nat.le_refl _) new
    refine ⟨.ref s.heap.objs.size, _, I1, rfl, ⟨_, x, rfl, I.hok.fresh (Nat.le_refl _), rfl, fun ys hy => by rw [I.tuple_inj hy hq]; exact hx⟩, ⟨⟨x', ?_⟩, hit'.at fun o q => (sb.2 it (Ne.symm hne)).trans q, hne⟩, fun b hb => ?_⟩
    · have e1 : c + ((i + 1 : Nat) : Int) = c + (i : Nat) + 1 := by omega
      rw [e1]; exact he'
    · have hb' : b < s.heap.objs.size := by
        have e' : b = e ∨ b = it := by simpa using hb
        rcases e' with z | z
        · rw [z]; exact hel
        · rw [z]; exact hil
      rw [upd_ne (Nat.ne_of_lt hb')]
      exact (hf b hb).1
  done := by
    intro X hP hw hK hc i pins s σ H E I hf st hg
    subst hP hw hK
    obtain ⟨⟨old, he⟩, hit, hne⟩ := st
    obtain ⟨xs, hq, hx⟩ := hg
    obtain ⟨its, rv, p, hz⟩ := I.tuple hq
    obtain ⟨f0, f1, f2, f3, f4, f5⟩ := hf it (by simp)
    have hl := rv.length
    have hT : s.TypeIs (.ref e) "enumerate" := ⟨_, he, rfl⟩
    unfold pyNext
    refine wpAny_bind (wpAny_attempt (wpAny_callSpecial?_slot (name := Str.ofString "__next__") hT F.slot_enumerate_next
      (wpAny_call_entry F.slot_enumerate_next hT F.entry_enumerate_next ?_ (F.args_enumerate_next_1 _))))
    show wpAny _ _ (field (.ref e) 2 >>= _) _ _ _
    refine wpAny_bind (wpAny_field he rfl (x := .ref it) rfl ?_)
    refine wpAny_bind (wpAny_nextOf_tuple_end (I.ok.hd hc) hit (show s.heap.IsTuple a its.toArray from p) (by simp; omega) fun h' x he' hx' => ?_)
    obtain ⟨o, ho, hc'⟩ := hx'
    refine wpAny_bind (wpAny_isInstance (T := "StopIteration") (b := true) ⟨o, ho, hc'⟩ isSubtype_stop ?_)
    exact wpAny_pure ⟨rfl, I.turned (t' := s.toks) (fun b o hb q => he' b o hb q) f0 f1 f3 f4 f5⟩
  self := fun A i s Q E st h => let ⟨⟨_, he⟩, _⟩ := st; wpAny_pyIter_enum he h
theorem meets_enumerate_new1 {v : Value} {o : Obj} {H : Heap → Prop} (B : Begins v o H) :
    Meets (Builtin.«enumerate.__new__» ⟨[.type "enumerate", v], []⟩) (fun _ R s => H s.heap ∧
      R (.ok (.ret (.ref (s.heap.push o).objs.size))) { s with heap := (s.heap.push o).push { cls := .type "enumerate", data := .fields #[.none, .bool false, .ref s.heap.objs.size, rawInt 0, .none, .none] } }) :=
  .of_wp fun prog w A R s h => by
    obtain ⟨hp, g, d, tk, os⟩ := s; obtain ⟨h1, h⟩ := h
    have hsub := sub_enumerate
    have q1 : ∀ {A' : Around} {E : Value → Shared → Prop} {Q : Value → Shared → Prop}, Q (.ref hp.objs.size) ⟨hp.push o, g, d, tk, os⟩ → wpAny (model prog w) A' (pyIter v) Q E ⟨hp, g, d, tk, os⟩ :=
      fun q => B.iter prog w _ _ ⟨hp, g, d, tk, os⟩ _ h1 q
    wp_walk using q1
    refine wpAny_stack_any fun st => wpAny_pure ?_
    split
    · rename_i c _ _ _ _ _
      cases (c == Value.type "enumerate")
      · wp_walk using q1
        exact ⟨_, rfl, h⟩
      · wp_walk using q1
        exact ⟨_, rfl, h⟩
    · wp_walk using q1
      exact ⟨_, rfl, h⟩
theorem call_enumerate_new {prog : Program} {w : World} {A : Around} {E : Value → Shared → Prop} {s : Shared} {v : Value} {o : Obj} {H : Heap → Prop} {Q : Value → Shared → Prop} (B : Begins v o H) (h1 : H s.heap)
    (h : ∀ h', IsEnum h' (s.heap.objs.size + 1) s.heap.objs.size 0 .none → h'.get? s.heap.objs.size = some o → h'.objs.size = s.heap.objs.size + 2 →
      (∀ b o, s.heap.get? b = some o → h'.get? b = some o) → Q (.ref (s.heap.objs.size + 1)) { s with heap := h' }) :
    wpAny (model prog w) A (call (.type "enumerate") [v]) Q E s := by
  refine callType_new F.called_enumerate (by decide) (F.typeCall_enumerate_1 _) (F.newCall_enumerate_1 _) (fun obj => F.args_object_init_2 obj _) F.entry_enumerate_new
    (meets_enumerate_new1 B) ⟨h1, ?_⟩
  have hz : (s.heap.push o).objs.size = s.heap.objs.size + 1 := Heap.size_push ..
  show _ ∧ _
  rw [hz]
  have he : IsEnum ((s.heap.push o).push { cls := .type "enumerate", data := .fields #[.none, .bool false, .ref s.heap.objs.size, rawInt 0, .none, .none] }) (s.heap.objs.size + 1) s.heap.objs.size 0 .none := by
    have := Heap.get?_push_size (s.heap.push o) (o := { cls := .type "enumerate", data := .fields #[.none, .bool false, .ref s.heap.objs.size, rawInt 0, .none, .none] }) rfl
    rw [hz] at this; exact this
  refine ⟨⟨_, he, rfl⟩, h _ he (Heap.get?_push_of_some _ (Heap.get?_push_size _ B.free)) (by rw [Heap.size_push, hz]) fun b o x => Heap.get?_push_of_some _ (Heap.get?_push_of_some _ x)⟩
def kEnum (K : PySem.W.Frag) (vs : List V) (H : Hp) (R : It → Hp → Prop) : Prop := (∃ a xs, vs = [.ref a] ∧ SqL K H a xs ∧ R (Ite K a) H) ∨ ∃ a xs, vs = [.ref a] ∧ SqT K H a xs ∧ R (Itet K a 0) H
def iEnumG (K : PySem.W.Frag) (ta : TA) : TI := fun σ H R => ta σ H fun vs H1 => kEnum K vs H1 R
theorem pi_enumG {X : Cx} {e : Expr} {ta : TA} {p pos tpos : Pos} {elts : List Expr} {kk : Nat} (hm : X.mg "enumerate" = none) (ha : PA X [e] ta) (hg : Gl X "enumerate" := by rfl) (hs : starEach [e] X.env = [(false, eval e X.env)] := by rfl) :
    PI X (.Tuple elts kk tpos) (.Call (.Name "enumerate" p) [e] [] pos) (iEnumG X.K ta) := by
  refine ⟨fun pins s σ H R I h => ?_⟩
  refine Call_ (ld_blt I hg hm boot_enumerate (PyProof.Rows.callWith_type1 (thn (ha.run pos pins s σ H _ I h) fun us s1 ⟨vs, H1, I1, r1, q1⟩ => ?_) hs rfl))
  have fp : ∀ b, b = s1.heap.objs.size + 1 ∨ b = s1.heap.objs.size → s1.heap.objs.size ≤ b := fun b e' => by
    rcases e' with z | z
    · rw [z]; exact Nat.le_add_right _ _
    · rw [z]; exact Nat.le_refl _
  rcases q1 with ⟨a, xs, ex, hq, q⟩ | ⟨a, xs, ex, hq, q⟩
  · subst ex
    cases r1 with
    | cons r rr =>
      cases rr
      cases r
      obtain ⟨its, rv, p', hz⟩ := I1.list hq
      refine call_enumerate_list p'.isList fun h' he hit hsz hk => wpAny_pyIter_enum he ?_
      have I2 : Inv X pins σ H1 { s1 with heap := h' } := I1.kept (t' := s1.toks) hk
      refine ⟨s1.heap.objs.size + 1, [s1.heap.objs.size + 1, s1.heap.objs.size], _, _, H1, rfl, I2, turn_enum a (s1.heap.objs.size + 1) s1.heap.objs.size, ⟨⟨.none, he⟩, hit, Nat.succ_ne_self _⟩, fun b hb => ?_, q⟩
      have hle := fp b (by simpa using hb)
      exact I1.fpOk hle (I1.hok.fresh hle)
  · subst ex
    cases r1 with
    | cons r rr =>
      cases rr
      cases r
      obtain ⟨its, rv, p', hz⟩ := I1.tuple hq
      refine call_enumerate_new (begins_tuple a its.toArray) (show s1.heap.IsTuple a its.toArray from p') fun h' he hit hsz hk => wpAny_pyIter_enum he ?_
      have I2 : Inv X pins σ H1 { s1 with heap := h' } := I1.kept (t' := s1.toks) hk
      refine ⟨s1.heap.objs.size + 1, [s1.heap.objs.size + 1, s1.heap.objs.size], _, _, H1, rfl, I2, turn_enumT a (s1.heap.objs.size + 1) s1.heap.objs.size 0, ⟨⟨.none, by simpa using he⟩, ⟨_, hit, rfl, rfl⟩, Nat.succ_ne_self _⟩, fun b hb => ?_, q⟩
      have hle := fp b (by simpa using hb)
      exact I1.fpOk hle (I1.hok.fresh hle)
theorem walk_enumT {K : PySem.W.Frag} {a : Addr} {xs : List V} {c : Int} : Walk (Itet K a c) xs.length (fun H => SqT K H a xs) (YPair (fun i => some (.int (c + (i : Nat)))) (fun i => xs[i]?)) := by
  refine ⟨fun i _ hi q => ⟨xs, xs[i], q, by simp [hi]⟩, fun _ q => ⟨xs, q, Nat.le_refl _⟩, fun i H v H' _ q y => ?_⟩
  obtain ⟨T, x, h1, h2, h3, h4⟩ := y
  exact ⟨T, .int (c + (i : Nat)), x, h1, h2, h3, rfl, h4 xs q⟩
def FT (o : HO) (xs : List V) : Prop := ∃ ob : Obj, o = .frz ob (.tup xs) ∧ ob.cls = .type "tuple" ∧ ob.dict = none
def kTupleG (K : PySem.W.Frag) : List V → Hp → VK → Prop := fun xs H Q => kTuple K xs H Q ∨ ∃ p ys, xs = [.ref p] ∧ SqL K H p ys ∧ ∀ l o, H l = none → FT o ys → Q (.ref l) (upd H l o)
theorem callTupleG {X : Cx} : CallR X (.type "tuple") (kTupleG X.K) := by
  refine CallR.or callTuple ?_
  intro pins s σ H xs us Q I r h
  obtain ⟨p, ys, rfl, hq, q⟩ := h
  obtain ⟨u, rfl, rx⟩ := vals1 r
  cases rx
  obtain ⟨its, r', pl, hz⟩ := I.list hq
  have hlen := r'.length
  refine call_tuple_list pl.isList (fun h' kp => ?_) (by simp only [List.size_toArray] <;> omega)
  have I1 : Inv X pins σ H { s with heap := h' } := I.kept (t' := s.toks) kp
  have I2 : Inv X pins σ (upd H h'.objs.size (.frz { cls := .type "tuple", data := .seq its.toArray } (.tup ys))) { s with heap := h'.push { cls := .type "tuple", data := .seq its.toArray } } :=
    I1.laid (t' := s.toks) (fun b o e => Heap.get?_push_of_some _ e) (Nat.le_refl _) ⟨Heap.get?_push_size _ rfl, show ObjOk X.prog X.w _ _ _ (.tup ys) from ⟨hz, its, r', IsTup.new _ _⟩⟩
  exact ⟨.ref h'.objs.size, _, I2, rfl, q _ _ (I1.hok.fresh (Nat.le_refl _)) ⟨_, rfl, rfl, rfl⟩⟩
def tBMT (r : V → List V → Hp → VK → Prop) (to : TE) (t : TA) : TE := fun σ H Q => to σ H fun x H1 => (∃ p o xs, x = .ref p ∧ H1 p = some o ∧ FT o xs) ∧ t σ H1 fun xs H2 => r x xs H2 Q
theorem pe_bmT {X : Cx} {o e : Expr} {es : List Expr} {to : TE} {t : TA} {name : Str} {apos cpos : Pos} {id : String} {r : V → List V → Hp → VK → Prop} (pa : PlainAttrs "tuple") (slot : Slot "tuple" name id) (hty : typeOf (.builtin id) = pure (.type "method_descriptor")) (hm : MtR X id r) (ho : PE X o to) (ha : PA X (e :: es) t)
    (hbase : attributeBase o name X.env (eval o X.env) = eval o X.env := by rfl)
    (hfew : ((backTo cpos (starEach (e :: es) X.env)).all (fun x => !x.1) && (backToKw cpos (keywordEach [] X.env)).all (fun x => x.1.isSome)
      && decide ((e :: es).length + ([] : List Keyword).length + (if ([] : List Keyword).isEmpty then 0 else 1) < 30)) = true := by rfl)
    (hline : (apos.endLine == cpos.line) = true := by rfl) (hs : starEach (e :: es) X.env = (false, eval e X.env) :: starEach es X.env := by rfl) (hplain : (backTo cpos (starEach es X.env)).any (·.1) = false := by rfl) :
    PE X (.Call (.Attribute o name apos) (e :: es) [] cpos) (tBMT r to t) := by
  refine ⟨fun pins s σ H Q I h => ?_⟩
  refine wpAny_Call_method_late hbase hfew hline rfl (thn (ho.run pins s σ H _ I h) fun v s1 ⟨x, H1, I1, r1, ⟨p, ob, xs, ex, hp, o1, e1, c1, d1⟩, q1⟩ => ?_)
  subst ex
  cases r1
  have hob : s1.heap.get? p = some o1 := by
    have z := I1.hok p _ hp
    rw [e1] at z
    exact z.1
  refine ⟨"tuple", id, pa, slot, hty, ⟨o1, hob, c1⟩, fun a e => ?_, ?_⟩
  · cases e
    exact ⟨o1, hob, d1⟩
  have hA := ha.run cpos pins s1 σ H1 _ I1 q1
  rw [hs] at hA ⊢
  refine Calls.callWith_builtin (by show (false || (backTo cpos (starEach es X.env)).any (·.1)) = false; rw [hplain] <;> rfl) (Calls.evalArgs_plain ?_)
  exact thn hA fun us s2 ⟨vs, H2, I2, r2, q2⟩ => hm pins s2 σ H2 (.ref p) vs (.ref p) us Q I2 rfl r2 q2
def kTIndex (K : PySem.W.Frag) : V → List V → Hp → VK → Prop := fun x xs H Q => ∃ (p : Addr) (ys : List Int) (k : Int) (j : Nat), x = .ref p ∧ xs = [.int k] ∧ SqT K H p (ys.map V.int) ∧ ys[j]? = some k ∧ (∀ m, m < j → ys[m]? ≠ some k) ∧ Q (.int (j : Nat)) H
theorem mt_tindex {X : Cx} : MtR X "tuple.index" (kTIndex X.K) := by
  intro pins s σ H x xs v us Q I rx rs h
  obtain ⟨p, ys, k, j, rfl, rfl, hq, hy, hno, q⟩ := h
  cases rx
  obtain ⟨u, rfl, t, rfl⟩ := vals1 rs
  obtain ⟨its, r, pl, hz⟩ := I.tuple hq
  obtain ⟨⟨cls, dd, dt, sl⟩, ho, hc, n, hd⟩ := pl
  simp only at hc hd
  subst hc
  subst hd
  have hl : its.toArray.size = ys.length := by rw [List.size_toArray, ← r.length, List.length_map]
  have hj : j < its.toArray.size := by rw [hl]; exact (List.getElem?_eq_some_iff.mp hy).1
  have at' : ∀ (m : Nat) (hm : m < its.toArray.size), ∃ y t', ys[m]? = some y ∧ its.toArray[m] = Value.int y t' := fun m hm => by
    have hm' : m < ys.length := by rw [← hl]; exact hm
    obtain ⟨w, hw, t', hw'⟩ := r.get (i := m) (x := .int ys[m]) (by simp [hm'])
    refine ⟨ys[m], t', List.getElem?_eq_getElem hm', ?_⟩
    have e := (List.getElem?_eq_some_iff.mp hw).2
    rw [← hw', ← e]
    simp
  refine call_meets PySem.F.slot_tuple_index ⟨_, ho, rfl⟩ PySem.F.entry_tuple_index (PySem.F.args_tuple_index_2 _ _) (TI.tuple_indexAt p its.toArray n dd sl (.int k t) (eqU (.int k)) j hj ?_ ?_)
    ⟨ho, fun w hw => mem_eqAt (x := .int k) ⟨t, rfl⟩ rfl r (by rw [List.all_map]; exact List.all_eq_true.mpr fun _ _ => rfl) w (by simpa using hw), ⟨.int (j : Nat), H, I.tok _, ⟨_, rfl⟩, q⟩⟩
  · obtain ⟨y, t', h1, h2⟩ := at' j hj
    rw [h2]
    rw [hy] at h1
    cases h1
    simp [eqU, eqV]
  · intro m hm hmj
    obtain ⟨y, t', h1, h2⟩ := at' m hm
    rw [h2]
    have hne : ¬ y = k := fun e => hno m hmj (by rw [h1, e])
    simp [eqU, eqV, hne]
def tGl (g : G) (x : Str) : TE := fun _ H Q => ∃ v u, g.mg x = some u ∧ RelV v u ∧ Q v H
theorem pe_gl {X : Cx} {x : Str} {pos : Pos} (hg : Gl X x := by rfl) (hd : (x == ("__debug__" : Str)) = false := by decide) : PE X (.Name x pos) (tGl (gOf X) x) :=
  ⟨fun _ _ _ H _ I h => let ⟨v, u, hm, r, q⟩ := h; ld_glob I hg hm ⟨v, H, I, r, q⟩ hd⟩
def tDNew : TE := fun _ H Q => (∀ p, H p = none → Q (.ref p) (upd H p (.dK []))) ∨ (∀ p, H p = none → Q (.ref p) (upd H p (.dT [])))
theorem pe_dnew {X : Cx} {pos : Pos} : PE X (.Dict [] [] pos) tDNew := by
  refine ⟨fun pins s σ H Q I h => ?_⟩
  rcases h with h | h
  · exact pe_dnewK.run pins s σ H Q I h
  · exact pe_dnewT.run pins s σ H Q I h
theorem ip_addG {X : Cx} : PIp X .Add kIpAdd := ip_add
abbrev FunG (g : G) (x qual : Str) (st : Stmt) (f : Addr) (fd : FuncData) : Prop := FunD g.K x qual (defArgs st) (defBody st) (defScope st) [] [] f fd
abbrev BodyOk (g : G) (N : List Str) (qual : Str) (st : Stmt) (f : Addr) (k : Nat) (t : G → Around → TS) : Prop :=
  ∀ (cdv : Value) (A : Around) (outer : List Env) (s : Shared) (H : Hp) (E : XK), Room k (cxOf (L2.CX g.P g.w) g.P g.w g.K g.mg g.base N qual (defScope st) f cdv A outer s H E).A →
    PSs (cxOf (L2.CX g.P g.w) g.P g.w g.K g.mg g.base N qual (defScope st) f cdv A outer s H E).nox (defBody st) (t g (cxOf (L2.CX g.P g.w) g.P g.w g.K g.mg g.base N qual (defScope st) f cdv A outer s H E).A)
abbrev BodyOkX (g : G) (N : List Str) (qual : Str) (st : Stmt) (f : Addr) (k : Nat) (t : G → Around → XK → TS) : Prop :=
  ∀ (cdv : Value) (A : Around) (outer : List Env) (s : Shared) (H : Hp) (E : XK), Room k (cxOf (L2.CX g.P g.w) g.P g.w g.K g.mg g.base N qual (defScope st) f cdv A outer s H E).A →
    PSs (cxOf (L2.CX g.P g.w) g.P g.w g.K g.mg g.base N qual (defScope st) f cdv A outer s H E) (defBody st) (t g (cxOf (L2.CX g.P g.w) g.P g.w g.K g.mg g.base N qual (defScope st) f cdv A outer s H E).A E)
theorem Fk.of {g : G} {x qual : Str} {st : Stmt} {f : Addr} {fd : FuncData} {N ps : List Str} {k : Nat} {sp : Sp} {t : G → Around → TS} (F : FunG g x qual st f fd) (S : FnScope N ps (defScope st)) (b : Binds g.K fd ps [])
    (d : BodyOk g N qual st f k t) (len : ∀ vs H Q E, sp vs H Q E → vs.length = ps.length)
    (w : ∀ (A : Around) (vs : List V) (H : Hp) (Q : VK) (E : XK), Room k A → sp vs H Q E → t g A { nx := fun _ H' => Q .non H', rt := Q } (start N vs) H) : Fk g (k + 1) sp f :=
  ⟨fd, ps, [], [], sp, F.kp, F.ok S len fun cdv A outer s H vs Q E hr h => ⟨_, (d cdv A outer s H E hr).nox, w _ vs H Q E hr h⟩, b, .nil, fun vs H Q E h => by rw [List.append_nil]; exact h⟩
theorem Fk.ofX {g : G} {x qual : Str} {st : Stmt} {f : Addr} {fd : FuncData} {N ps : List Str} {k : Nat} {sp : Sp} {t : G → Around → XK → TS} (F : FunG g x qual st f fd) (S : FnScope N ps (defScope st)) (b : Binds g.K fd ps [])
    (d : BodyOkX g N qual st f k t) (len : ∀ vs H Q E, sp vs H Q E → vs.length = ps.length)
    (w : ∀ (A : Around) (vs : List V) (H : Hp) (Q : VK) (E : XK), Room k A → sp vs H Q E → t g A E { nx := fun _ H' => Q .non H', rt := Q } (start N vs) H) : Fk g (k + 1) sp f :=
  ⟨fd, ps, [], [], sp, F.kp, F.ok S len fun cdv A outer s H vs Q E hr h => ⟨_, d cdv A outer s H E hr, w _ vs H Q E hr h⟩, b, .nil, fun vs H Q E h => by rw [List.append_nil]; exact h⟩
open He in
def obsL (fa : List (PySem.W.Frag → Bool)) (fn : List He5.DefA) (K : PySem.W.Frag) : He.AlD := ((fa.all fun f => f K) && fn.all fun d => d.ok K, fn.map fun d => He5.fnA K (d.at_ K))
def valL (fn : List He5.DefA) : He.AlD := (true, fn.map He5.DefA.val)
def SaysL (fa : List (PySem.W.Frag → Bool)) (fn : List He5.DefA) (K : PySem.W.Frag) : Prop := obsL fa fn K = valL fn
def obsLG (n : Nat) (fa : List (PySem.W.Frag → Bool)) (fn : List He5.DefA) (g : Addr → Option Obj) : He.AlD := obsL fa fn (He.frG g (He5.asA g n))
def hookL (n : Nat) (fa : List (PySem.W.Frag → Bool)) (fn : List He5.DefA) : PySem.W.Hook where
  α := He.AlD
  obs := fun s => obsLG n fa fn s.heap.get?
  val := fun _ => valL fn
  says := fun _ h => ∃ K : PySem.W.Frag, K.In h ∧ SaysL fa fn K
  of := fun _ _ e => ⟨_, He.frG_in, e⟩
  keeps := fun _ _ _ ⟨K, hK, c⟩ k => ⟨K, PySem.W.Frag.In.keeps hK k, c⟩
theorem obsLG_eq {n : Nat} {fa : List (PySem.W.Frag → Bool)} {fn : List He5.DefA} {g : Addr → Option Obj} {s : Shared} (h : ∀ a, g a = s.heap.get? a) : obsLG n fa fn g = (hookL n fa fn).obs s := by
  have e : g = s.heap.get? := funext h
  rw [e] <;> rfl
section
variable {fa : List (PySem.W.Frag → Bool)} {fn : List He5.DefA} {K : PySem.W.Frag}
theorem SaysL.fact (c : SaysL fa fn K) (i : Nat) {f : PySem.W.Frag → Bool} (h : fa[i]? = some f := by rfl) : f K = true := by
  have c1 := (He.ba (show ((fa.all fun f => f K) && fn.all fun d => d.ok K) = true from congrArg (fun z : He.AlD => z.1) c)).1
  exact List.all_eq_true.mp c1 f (List.mem_of_getElem? h)
theorem SaysL.def_ (c : SaysL fa fn K) (i : Nat) {d : He5.DefA} (h : fn[i]? = some d := by rfl) : ∃ fd, L2.FunD K d.name d.qual d.params d.body d.scope (d.dvs K) (d.kws K) (d.at_ K) fd := by
  have c2 := (He.ba (show ((fa.all fun f => f K) && fn.all fun d => d.ok K) = true from congrArg (fun z : He.AlD => z.1) c)).2
  have e : fn.map (fun d => He5.fnA K (d.at_ K)) = fn.map He5.DefA.val := congrArg (fun z : He.AlD => z.2) c
  have e2 : (fn.map fun d => He5.fnA K (d.at_ K))[i]? = (fn.map He5.DefA.val)[i]? := by rw [e]
  rw [List.getElem?_map, List.getElem?_map, h] at e2
  exact He5.DefA.funD (Option.some.inj e2) (List.all_eq_true.mp c2 d (List.mem_of_getElem? h))
end
def baseB (C m : Str) (K : PySem.W.Frag) : Bool := PySem.W.readsIn K (He.ga K C) (.type "type") && (He.eqO (PySem.W.specialIn K (.ref (He.ga K C)) "__getattribute__") (some (some (.builtin "type.__getattribute__"))) &&
  (match PySem.W.findCls K (.ref (He.ga K C)) (.type "type") m with
    | some (.val (.ref a)) => decide (a = He.ma K (He.ga K C) m) && PySem.W.keepIn K (.ref a)
    | _ => false))
theorem baseB_ok {g : G} {C m : Str} (hC : g.mg C = some (.ref (He.ga g.K C))) (h : baseB C m g.K = true) : ClX.CRead g.K (He.ga g.K C) (.type "type") ∧ ClX.CVal g.K (He.ga g.K C) (.type "type") m (.ref (He.ma g.K (He.ga g.K C) m)) (.ref (He.ma g.K (He.ga g.K C) m)) ∧ KnB g C m := by
  obtain ⟨h1, h⟩ := He.ba h
  obtain ⟨h2, h⟩ := He.ba h
  have rd : ClX.CRead g.K (He.ga g.K C) (.type "type") := ⟨h1, He.eqO_ok h2⟩
  have cv : ClX.CVal g.K (He.ga g.K C) (.type "type") m (.ref (He.ma g.K (He.ga g.K C) m)) (.ref (He.ma g.K (He.ga g.K C) m)) ∧ PySem.W.keepIn g.K (.ref (He.ma g.K (He.ga g.K C) m)) = true := by
    split at h
    · rename_i a e
      obtain ⟨k1, k2⟩ := He.ba h
      have z := of_decide_eq_true k1
      subst z
      exact ⟨⟨e, rfl⟩, k2⟩
    · cases h
  exact ⟨rd, cv.1, _, _, hC, rd, cv.1, cv.2⟩
abbrev Ow := List (Addr × HO)
section
variable {σ σ' : L2.St} {H : Hp} {Q : VK} {v x y : V} {i : Nat} {ta tb tc te : TE} {t u : TA} {r r' : R2} {D : Ends} {K : PySem.W.Frag} {c d : TT} {QT : Bool → Hp → Prop} {QA : List V → Hp → Prop} {b : Bool}
theorem rd_var (h : σ[i]? = some (some v)) (k : Q v H) : tVar i σ H Q := ⟨v, h, k⟩
theorem rd_c (k : Q v H) : tC v σ H Q := k
theorem rd_op (k : ta σ H fun x H1 => tb σ H1 fun y H2 => r x y H2 Q) : tOp r ta tb σ H Q := k
theorem rd_un {f : V → Hp → VK → Prop} (k : ta σ H fun x H1 => f x H1 Q) : tUn f ta σ H Q := k
theorem rd_nil (k : QA [] H) : tNil σ H QA := k
theorem rd_cons (k : te σ H fun x H1 => t σ H1 fun xs H2 => QA (x :: xs) H2) : tCons te t σ H QA := k
theorem rd_CB {f : List V → Hp → VK → Prop} (k : t σ H fun vs H1 => f vs H1 Q) : tCB f t σ H Q := k
def kLst (xs : List V) (H : Hp) (Q : VK) : Prop := xs.length ≤ sizeLine ∧ ∀ p, H p = none → Q (.ref p) (upd H p (.lst xs))
def kTup (xs : List V) (H : Hp) (Q : VK) : Prop := xs.length ≤ sizeLine ∧ ∀ p, H p = none → Q (.ref p) (upd H p (.tup xs))
theorem rd_lst (k : t σ H fun xs H1 => kLst xs H1 Q) : tLst t σ H Q := k
theorem rd_tup (k : t σ H fun xs H1 => kTup xs H1 Q) : tTup t σ H Q := k
theorem sl_of {n : Nat} (h : n ≤ 1000000) : n ≤ sizeLine := Nat.le_trans h (by decide +kernel)
theorem sl_lt {n : Nat} (h : n < 1000000) : n < sizeLine := Nat.lt_of_lt_of_le h (by decide +kernel)
def kB (x : V) (H : Hp) (Q : Bool → Hp → Prop) : Prop := ∃ k, x = .bl k ∧ Q k H
theorem rd_test (k : te σ H fun x H1 => kB x H1 QT) : tTest te σ H QT := k
theorem k_B (k : QT b H) : kB (.bl b) H QT := ⟨b, rfl, k⟩
theorem rd_tru (k : ta σ H fun x H1 => kTru K x H1 QT) : tTruG K ta σ H QT := k
def kIf (b : Bool) (A B : Prop) : Prop := if b = true then A else B
theorem k_ift {A B : Prop} (k : A) : kIf true A B := k
theorem k_iff {A B : Prop} (k : B) : kIf false A B := iteF k
theorem k_ifT {A B : Prop} (h : b = true) (k : A) : kIf b A B := by subst h; exact k
theorem k_ifF {A B : Prop} (h : b = false) (k : B) : kIf b A B := by subst h; exact iteF k
theorem k_nft {A B : Prop} (k : B) : kIf (!true) A B := iteF k
theorem k_nff {A B : Prop} (k : A) : kIf (!false) A B := k
theorem k_if {A B : Prop} (h1 : b = true → A) (h2 : b = false → B) : kIf b A B := by
  cases b with
  | true => exact h1 rfl
  | false => exact iteF (h2 rfl)
theorem k_ifd {A B p : Prop} [Decidable p] (h1 : p → A) (h2 : ¬ p → B) : kIf (decide p) A B := k_if (fun h => h1 (of_decide_eq_true h)) (fun h => h2 (of_decide_eq_false h))
theorem k_ifnd {A B p : Prop} [Decidable p] (h1 : ¬ p → A) (h2 : p → B) : kIf (!decide p) A B := k_if (fun h => h1 (by simpa using h)) (fun h => h2 (by simpa using h))
theorem k_ifp {A B p : Prop} [Decidable p] (h : p) (k : A) : kIf (decide p) A B := k_ifd (fun _ => k) (fun n => (n h).elim)
theorem k_ifn {A B p : Prop} [Decidable p] (h : ¬ p) (k : B) : kIf (decide p) A B := k_ifd (fun n => (h n).elim) (fun _ => k)
theorem k_ifnp {A B p : Prop} [Decidable p] (h : p) (k : B) : kIf (!decide p) A B := k_ifnd (fun n => (n h).elim) (fun _ => k)
theorem k_ifnn {A B p : Prop} [Decidable p] (h : ¬ p) (k : A) : kIf (!decide p) A B := k_ifnd (fun _ => k) (fun n => (h n).elim)
theorem rd_and (k : c σ H fun b H1 => kIf b (d σ H1 QT) (QT false H1)) : tAnd c d σ H QT := k
theorem rd_or (k : c σ H fun b H1 => kIf b (QT true H1) (d σ H1 QT)) : tOr c d σ H QT := k
theorem rd_not (k : c σ H fun b H1 => QT (!b) H1) : tNot c σ H QT := k
theorem rd_ifE (k : c σ H fun b H1 => kIf b (ta σ H1 Q) (tb σ H1 Q)) : tIf c ta tb σ H Q := k
def kAndV (K : PySem.W.Frag) (x : V) (H : Hp) (Q : VK) (R : Prop) : Prop := ∃ k, TruV K x H k ∧ kIf k R (Q x H)
def kOrV (K : PySem.W.Frag) (x : V) (H : Hp) (Q : VK) (R : Prop) : Prop := ∃ k, TruV K x H k ∧ kIf k (Q x H) R
theorem rd_andT (k : ta σ H fun x H1 => kAndV K x H1 Q (tb σ H1 Q)) : tAndT K ta tb σ H Q := k
theorem rd_orT (k : ta σ H fun x H1 => kOrV K x H1 Q (tb σ H1 Q)) : tOrT K ta tb σ H Q := k
theorem k_andV_bl {R : Prop} (k : kIf b R (Q (.bl b) H)) : kAndV K (.bl b) H Q R := ⟨b, rfl, k⟩
theorem k_orV_bl {R : Prop} (k : kIf b (Q (.bl b) H) R) : kOrV K (.bl b) H Q R := ⟨b, rfl, k⟩
def kNotV (K : PySem.W.Frag) (x : V) (H : Hp) (Q : VK) : Prop := ∃ k, TruV K x H k ∧ Q (.bl (!k)) H
theorem rd_notT (k : ta σ H fun x H1 => kNotV K x H1 Q) : tNotT K ta σ H Q := k
theorem k_notV_bl (k : Q (.bl (!b)) H) : kNotV K (.bl b) H Q := ⟨b, rfl, k⟩
def kFld (K : PySem.W.Frag) (x : V) (f : Str) (H : Hp) (Q : VK) : Prop := ∃ a C dx fs v, x = .ref a ∧ H a = some (.ins C dx fs) ∧ Cls K C ∧ NoAttr K C f ∧ fs.lookup f = some v ∧ Q v H
theorem rd_fld {f : Str} (k : ta σ H fun x H1 => kFld K x f H1 Q) : tFld K ta f σ H Q := k
theorem rd_sl {f : V → Option Int → Option Int → Hp → VK → Prop} {tl th : TO} (k : te σ H fun x H1 => tl σ H1 fun l H2 => th σ H2 fun u H3 => f x l u H3 Q) : tSl f te tl th σ H Q := k
theorem rd_nopart {QO : Option Int → Hp → Prop} (k : QO none H) : tNoPart σ H QO := k
def kPart (x : V) (H : Hp) (QO : Option Int → Hp → Prop) : Prop := ∃ i, x = .int i ∧ QO (some i) H
theorem rd_part {QO : Option Int → Hp → Prop} (k : te σ H fun x H1 => kPart x H1 QO) : tPart te σ H QO := k
theorem k_part {QO : Option Int → Hp → Prop} {i : Int} (k : QO (some i) H) : kPart (.int i) H QO := ⟨i, rfl, k⟩
def kChain (x : V) (H : Hp) (Q : VK) (R : Hp → Prop) : Prop := ∃ k, x = .bl k ∧ kIf k (R H) (Q (.bl false) H)
theorem rd_chain (k : ta σ H fun x H1 => tb σ H1 fun y H2 => r x y H2 fun z H3 => kChain z H3 Q fun H4 => tc σ H4 fun w H5 => r' y w H5 Q) : tChain r r' ta tb tc σ H Q := k
theorem k_chain {R : Hp → Prop} (k : kIf b (R H) (Q (.bl false) H)) : kChain (.bl b) H Q R := ⟨b, rfl, k⟩
def kBM (K : PySem.W.Frag) (T : String) (x : V) (H : Hp) (R : Prop) : Prop := tyV K T x H ∧ R
theorem rd_BM {T : String} {f : V → List V → Hp → VK → Prop} (k : ta σ H fun x H1 => kBM K T x H1 (t σ H1 fun xs H2 => f x xs H2 Q)) : tBM K T f ta t σ H Q := k
theorem rd_BM0 {T : String} {f : V → List V → Hp → VK → Prop} (k : ta σ H fun x H1 => kBM K T x H1 (f x [] H1 Q)) : tBM0 K T f ta σ H Q := k
def kBMT (x : V) (H : Hp) (R : Prop) : Prop := (∃ p o xs, x = .ref p ∧ H p = some o ∧ FT o xs) ∧ R
theorem rd_BMT {f : V → List V → Hp → VK → Prop} (k : ta σ H fun x H1 => kBMT x H1 (t σ H1 fun xs H2 => f x xs H2 Q)) : tBMT f ta t σ H Q := k
def kRng (a b : Int) (H : Hp) (Q : VK) : Prop := RgOk a b ∧ ∀ q, H q = none → Q (.ref q) (upd H q (.lst (rgV a b)))
def kI (x : V) (H : Hp) (R : Int → Hp → Prop) : Prop := ∃ i, x = .int i ∧ R i H
theorem k_I {R : Int → Hp → Prop} {i : Int} (k : R i H) : kI (.int i) H R := ⟨i, rfl, k⟩
theorem rd_lrg1 (k : ta σ H fun x H1 => kI x H1 fun n H2 => kRng 0 n H2 Q) : tLstRg (tRg1 ta) σ H Q := k
theorem rd_call {g : G} {A : Around} {f : Str} {E : XK} (k : t σ H fun vs H1 => kCall g A f E vs H1 Q) : tCallG g A f E t σ H Q := k
theorem k_call {g : G} {A : Around} {f : Str} {E : XK} {k : Nat} {sp : Sp} {vs : List V} (F : GF g k f sp) (hr : Room k A) (h : sp vs H Q E) : kCall g A f E vs H Q := ⟨k, sp, hr, F, h⟩
theorem rd_make {g : G} {A : Around} {f : Str} {E : XK} (k : t σ H fun vs H1 => kMake g A f E vs H1 Q) : tMakeG g A f E t σ H Q := k
theorem k_make {g : G} {A : Around} {f : Str} {E : XK} {k : Nat} {sp : Sp} {vs : List V} {C : Addr} {L : Ow} {Dd : List Fct} (hm : g.mg f = some (.ref C)) (F : IF g k C sp) (hr : Room (k + 1) A) (W : Wd L Dd H)
    (h : ∀ p dx H', Wd ((p, .ins C dx []) :: (dx, .own p) :: L) Dd H' → sp (.ref p :: vs) H' (fun v H2 => v = .non ∧ Q (.ref p) H2) E) : kMake g A f E vs H Q :=
  ⟨k, sp, C, hr, hm, F, fun p dx h1 h2 h3 => h p dx _ (by
    have W1 := W.new h2 (.own p)
    have h4 : upd H dx (.own p) p = none := by rw [upd_ne (Ne.symm h3)]; exact h1
    exact W1.new h4 (.ins C dx []))⟩
theorem rd_base {g : G} {A : Around} {C m : Str} {E : XK} (k : t σ H fun vs H1 => kBase g A C m E vs H1 Q) : tBaseG g A C m E t σ H Q := k
def BF (g : G) (k : Nat) (C m : Str) (sp : Sp) : Prop := ∃ f Ca, g.mg C = some (.ref Ca) ∧ ClX.CVal g.K Ca (.type "type") m (.ref f) (.ref f) ∧ Fk g k sp f
theorem k_base {g : G} {A : Around} {C m : Str} {E : XK} {k : Nat} {sp : Sp} {vs : List V} (F : BF g k C m sp) (hr : Room k A) (h : sp vs H Q E) : kBase g A C m E vs H Q := let ⟨f, Ca, a, b, c⟩ := F; ⟨k, sp, f, Ca, hr, a, b, c, h⟩
def kRecv (g : G) (m : Str) (x : V) (H : Hp) (R : Addr → Prop) : Prop := ∃ a C dx fs, x = .ref a ∧ H a = some (.ins C dx fs) ∧ Cls g.K C ∧ fs.lookup m = none ∧ (∃ f, Meth g.K C m f) ∧ R C
def kMeth (g : G) (A : Around) (C : Addr) (m : Str) (E : XK) (vs : List V) (H : Hp) (Q : VK) : Prop := ∃ k sp, Room k A ∧ MF g k C m sp ∧ sp vs H Q E
theorem rd_meth {g : G} {A : Around} {m : Str} {E : XK} (k : ta σ H fun x H1 => kRecv g m x H1 fun C => t σ H1 fun vs H2 => kMeth g A C m E (x :: vs) H2 Q) : tMethG g A m E ta t σ H Q := k
theorem k_meth {g : G} {A : Around} {C : Addr} {m : Str} {E : XK} {k : Nat} {sp : Sp} {vs : List V} (F : MF g k C m sp) (hr : Room k A) (h : sp vs H Q E) : kMeth g A C m E vs H Q := ⟨k, sp, hr, F, h⟩
theorem k_recv {g : G} {m : Str} {R : Addr → Prop} {a C dx : Addr} {fs : List (Str × V)} (hH : H a = some (.ins C dx fs)) (c : Cls g.K C) (l : fs.lookup m = none) (hm : ∃ f, Meth g.K C m f) (k : R C) : kRecv g m (.ref a) H R := ⟨a, C, dx, fs, rfl, hH, c, l, hm, k⟩
variable {s1 s2 : TS}
theorem rd_seq (k : s1 { D with nx := s2 D } σ H) : tSeq s1 s2 D σ H := k
theorem rd_cut (Mid : L2.St → Hp → Prop) (h1 : s1 { D with nx := Mid } σ H) (h2 : ∀ σ' H', Mid σ' H' → s2 D σ' H') : C8.tCut s1 s2 D σ H := ⟨Mid, h1, h2⟩
theorem rd_cut0 (k : s1 { D with nx := s2 D } σ H) : C8.tCut s1 s2 D σ H := ⟨s2 D, k, fun _ _ h => h⟩
theorem rd_next (k : D.nx σ H) : tNext D σ H := k
theorem rd_cont (k : D.ct σ H) : tCont D σ H := k
theorem rd_break (k : D.bk σ H) : tBreak D σ H := k
theorem rd_ret (k : te σ H D.rt) : tRet te D σ H := k
theorem rd_retN (k : D.rt .non H) : tRetN D σ H := k
theorem rd_drop (k : te σ H fun _ H1 => D.nx σ H1) : tDrop te D σ H := k
theorem rd_asg {gt : TG} (k : te σ H fun x H1 => gt x σ H1 D.nx) : tAsg te gt D σ H := k
theorem rd_ifS (k : c σ H fun b H1 => kIf b (s1 D σ H1) (s2 D σ H1)) : tIfS c s1 s2 D σ H := k
theorem rd_gname {R : L2.St → Hp → Prop} (h : σ.set i (some v) = σ') (k : R σ' H) : gName i v σ H R := by
  subst h
  exact k
def kUnp (K : PySem.W.Frag) (n : Nat) (x : V) (H : Hp) (R : List V → Prop) : Prop := ∃ a xs, x = .ref a ∧ SqT K H a xs ∧ xs.length = n ∧ R xs
theorem rd_gtup {n : Nat} {gs : TGs} {R : L2.St → Hp → Prop} (k : kUnp K n v H fun xs => gs xs σ H R) : gTup K n gs v σ H R := k
theorem rd_gcons {gt : TG} {gs : TGs} {R : L2.St → Hp → Prop} {xs : List V} (k : gt v σ H fun σ' H' => gs xs σ' H' R) : gCons gt gs (v :: xs) σ H R := ⟨v, xs, rfl, k⟩
theorem rd_gnil {R : L2.St → Hp → Prop} (k : R σ H) : gNil [] σ H R := ⟨rfl, k⟩
theorem rd_gsub {to ti : TE} {ts : TSet} {R : L2.St → Hp → Prop} (k : to σ H fun o H1 => ti σ H1 fun j H2 => ts o j v H2 fun H3 => R σ H3) : gSub to ti ts v σ H R := k
def kSetF (K : PySem.W.Frag) (x : V) (f : Str) (y : V) (H : Hp) (R : Hp → Prop) : Prop := ∃ a C dx fs, x = .ref a ∧ H a = some (.ins C dx fs) ∧ Cls K C ∧ NoAttr K C f ∧ fs.length < 1000 ∧ R (upd H a (.ins C dx (putF f y fs)))
theorem rd_sfld {f : Str} (k : tb σ H fun y H1 => ta σ H1 fun x H2 => kSetF K x f y H2 fun H3 => D.nx σ H3) : sFld K ta tb f D σ H := k
theorem rd_augS {to ti : TE} {tg : V → V → Hp → VK → Prop} {tp : TIp} {ts : TSet} (k : to σ H fun o H1 => ti σ H1 fun j H2 => tg o j H2 fun x H3 => te σ H3 fun y H4 => tp x y H4 fun z H5 => ts o j z H5 fun H6 => D.nx σ H6) : tAugS to ti te tg tp ts D σ H := k
theorem rd_aug {tp : TIp} (h : σ[i]? = some (some x)) (k : te σ H fun y H1 => tp x y H1 fun z H2 => D.nx (σ.set i (some z)) H2) : tAug i te tp D σ H := ⟨x, h, k⟩
theorem rd_par {j : Nat} (k : t σ H fun vs H1 => ∃ v w, vs = [v, w] ∧ D.nx ((σ.set i (some v)).set j (some w)) H1) : tPar i j t D σ H := k
end
section
variable {H : Hp} {Q : VK} {K : PySem.W.Frag} {L : Ow} {D : List Fct} {p q : Addr} {v x y : V} {xs ys : List V} {i j : Int} {s z : Str} {b : Bool}
theorem k_lst (W : Wd L D H) (hs : xs.length ≤ sizeLine) (k : ∀ p H', Wd ((p, .lst xs) :: L) D H' → Q (.ref p) H') : kLst xs H Q := ⟨hs, fun p hp => k p _ (W.new hp _)⟩
theorem k_tup (W : Wd L D H) (hs : xs.length ≤ sizeLine) (k : ∀ p H', Wd ((p, .tup xs) :: L) D H' → Q (.ref p) H') : kTup xs H Q := ⟨hs, fun p hp => k p _ (W.new hp _)⟩
theorem k_tupD {ds : List PyData} (W : Wd L D H) (hs : xs.length ≤ sizeLine) (h : HasAll K D xs ds) (k : ∀ p H', Wd L (isD K (.ref p) (.tuple ds) :: D) H' → Q (.ref p) H') : kTup xs H Q := ⟨hs, fun p hp => k p _ ((W.new hp _).frzT h)⟩
theorem k_rng {a : Int} (W : Wd L D H) (h : RgOk a i) (k : ∀ p H', Wd ((p, .lst (rgV a i)) :: L) D H' → Q (.ref p) H') : kRng a i H Q := ⟨h, fun p hp => k p _ (W.new hp _)⟩
theorem k_add_ii (k : Q (.int (i + j)) H) : kAdd K (.int i) (.int j) H Q := .inl ⟨i, j, rfl, rfl, k⟩
theorem k_add_ss (hl : s.length + z.length ≤ sizeLine) (k : Q (.str (s ++ z)) H) : kAdd K (.str s) (.str z) H Q := .inr (.inl ⟨s, z, rfl, rfl, hl, k⟩)
theorem k_add_ll (W : Wd L D H) (h1 : (p, .lst xs) ∈ L) (h2 : (q, .lst ys) ∈ L) (hl : xs.length + ys.length ≤ sizeLine) (k : ∀ r H', Wd ((r, .lst (xs ++ ys)) :: L) D H' → Q (.ref r) H') : kAdd K (.ref p) (.ref q) H Q :=
  .inr (.inr (.inl ⟨p, q, xs, ys, rfl, rfl, W.at_ h1, W.at_ h2, hl, fun r hr => k r _ (W.new hr _)⟩))
theorem k_sub (k : Q (.int (i - j)) H) : kSub (.int i) (.int j) H Q := ⟨i, j, rfl, rfl, k⟩
theorem k_mul (h : CMulW i j) (k : Q (.int (i * j)) H) : kMul (.int i) (.int j) H Q := .inl ⟨i, j, rfl, rfl, h, k⟩
theorem k_rep (W : Wd L D H) (h1 : (p, .lst xs) ∈ L) (h2 : -(2 ^ 63) ≤ i) (h3 : i < 2 ^ 63) (hl : xs.length * i.toNat ≤ sizeLine) (k : ∀ r H', Wd ((r, .lst (List.replicate i.toNat xs).flatten) :: L) D H' → Q (.ref r) H') : kMul (.ref p) (.int i) H Q :=
  .inr ⟨p, i, xs, rfl, rfl, W.at_ h1, h2, h3, hl, fun r hr => k r _ (W.new hr _)⟩
theorem k_div (h : CDivW i j) (k : Q (.int (i / j)) H) : kDiv (.int i) (.int j) H Q := ⟨i, j, rfl, rfl, h, k⟩
theorem k_mod (h : 0 < j) (k : Q (.int (i % j)) H) : kMod (.int i) (.int j) H Q := ⟨i, j, rfl, rfl, h, k⟩
theorem k_pow (h : CPowW i j) (k : Q (.int (i ^ j.toNat)) H) : kPow (.int i) (.int j) H Q := ⟨i, j, rfl, rfl, h, k⟩
theorem k_lt (k : Q (.bl (decide (i < j))) H) : kLt (.int i) (.int j) H Q := ⟨i, j, rfl, rfl, k⟩
theorem k_le (k : Q (.bl (decide (i ≤ j))) H) : kLe (.int i) (.int j) H Q := ⟨i, j, rfl, rfl, k⟩
theorem k_gt (k : Q (.bl (decide (j < i))) H) : kGt (.int i) (.int j) H Q := ⟨i, j, rfl, rfl, k⟩
theorem k_ge (k : Q (.bl (decide (j ≤ i))) H) : kGe (.int i) (.int j) H Q := ⟨i, j, rfl, rfl, k⟩
theorem k_eq_ii (k : Q (.bl (decide (i = j))) H) : kEq K (.int i) (.int j) H Q := .inl ⟨rfl, by rw [show (decide (V.int i = V.int j)) = decide (i = j) from by simp]; exact k⟩
theorem k_eq_ss (k : Q (.bl (decide (s = z))) H) : kEq K (.str s) (.str z) H Q := .inl ⟨rfl, by rw [show (decide (V.str s = V.str z)) = decide (s = z) from by simp]; exact k⟩
theorem k_eq_sc (h : scal x y = true) (k : Q (.bl (decide (x = y))) H) : kEq K x y H Q := .inl ⟨h, k⟩
theorem k_eq_D {d e : PyData} (W : Wd L D H) (hx : Has K D x d) (hy : Has K D y e) (s1 : SeqAt.shaped d = true) (s2 : SeqAt.shaped e = true) (k : Q (.bl (PyData.eqv d e)) H) : kEq K x y H Q := .inr ⟨d, e, W.has hx, W.has hy, s1, s2, k⟩
theorem k_ne_ii (k : Q (.bl (!decide (i = j))) H) : kNe K (.int i) (.int j) H Q := .inl ⟨rfl, by rw [show (decide (V.int i = V.int j)) = decide (i = j) from by simp]; exact k⟩
theorem k_ne_ss (k : Q (.bl (!decide (s = z))) H) : kNe K (.str s) (.str z) H Q := .inl ⟨rfl, by rw [show (decide (V.str s = V.str z)) = decide (s = z) from by simp]; exact k⟩
theorem k_ne_sc (h : scal x y = true) (k : Q (.bl (!decide (x = y))) H) : kNe K x y H Q := .inl ⟨h, k⟩
theorem k_ne_D {d e : PyData} (W : Wd L D H) (hx : Has K D x d) (hy : Has K D y e) (s1 : SeqAt.shaped d = true) (s2 : SeqAt.shaped e = true) (k : Q (.bl (!PyData.eqv d e)) H) : kNe K x y H Q := .inr ⟨d, e, W.has hx, W.has hy, s1, s2, k⟩
theorem k_isN (k : Q (.bl (decide (x = .non))) H) : kIsN x .non H Q := ⟨rfl, k⟩
theorem k_notN (k : Q (.bl (!decide (x = .non))) H) : kNotN x .non H Q := ⟨rfl, k⟩
theorem k_ix_l (W : Wd L D H) (h1 : (p, .lst xs) ∈ L) (h : atI xs i = some v) (k : Q v H) : kIx K (.ref p) (.int i) H Q := .inl (.inl ⟨p, xs, i, v, rfl, rfl, SqL.of (W.at_ h1), h, k⟩)
theorem k_ix_t (W : Wd L D H) (h1 : (p, .tup xs) ∈ L) (h : atI xs i = some v) (k : Q v H) : kIx K (.ref p) (.int i) H Q := .inl (.inr (.inl ⟨p, xs, i, v, rfl, rfl, SqT.of (W.at_ h1), h, k⟩))
theorem k_ix_L (h1 : SqL K H p xs) (h : atI xs i = some v) (k : Q v H) : kIx K (.ref p) (.int i) H Q := .inl (.inl ⟨p, xs, i, v, rfl, rfl, h1, h, k⟩)
theorem k_ix_T (h1 : SqT K H p xs) (h : atI xs i = some v) (k : Q v H) : kIx K (.ref p) (.int i) H Q := .inl (.inr (.inl ⟨p, xs, i, v, rfl, rfl, h1, h, k⟩))
theorem k_get_l (W : Wd L D H) (h1 : (p, .lst xs) ∈ L) (h : atI xs i = some v) (k : Q v H) : kGet K (.ref p) (.int i) H Q := .inl ⟨p, xs, i, v, rfl, rfl, SqL.of (W.at_ h1), h, k⟩
theorem k_ipadd (k : Q (.int (i + j)) H) : kIpAdd (.int i) (.int j) H Q := ⟨i, j, rfl, rfl, k⟩
theorem k_ipsub (k : Q (.int (i - j)) H) : ipI (fun i j => i - j) (.int i) (.int j) H Q := ⟨i, j, rfl, rfl, k⟩
theorem k_set_l {R : Hp → Prop} {n : Nat} (W : Wd ((p, .lst xs) :: L) D H) (h : ixN xs.length i = some n) (k : ∀ H', Wd ((p, .lst (xs.set n v)) :: L) D H' → R H') : kSet (.ref p) (.int i) v H R :=
  .inl ⟨p, xs, i, n, rfl, rfl, W.at_ List.mem_cons_self, h, k _ (W.put _)⟩
theorem k_fld {C dx : Addr} {fs : List (Str × V)} {f : Str} (hH : H p = some (.ins C dx fs)) (c : Cls K C) (n : NoAttr K C f) (l : fs.lookup f = some v) (k : Q v H) : kFld K (.ref p) f H Q := ⟨p, C, dx, fs, v, rfl, hH, c, n, l, k⟩
theorem k_setF {C dx : Addr} {fs fs' : List (Str × V)} {f : Str} {R : Hp → Prop} (W : Wd ((p, .ins C dx fs) :: L) D H) (c : Cls K C) (n : NoAttr K C f) (e : putF f y fs = fs') (hl : fs.length < 1000) (k : ∀ H', Wd ((p, .ins C dx fs') :: L) D H' → R H') : kSetF K (.ref p) f y H R :=
  ⟨p, C, dx, fs, rfl, W.at_ List.mem_cons_self, c, n, hl, by subst e; exact k _ (W.put _)⟩
theorem k_len_l (W : Wd L D H) (h1 : (p, .lst xs) ∈ L) (k : Q (.int xs.length) H) : kLen K [.ref p] H Q := .inl ⟨p, xs, rfl, .inl (SqL.of (W.at_ h1)), k⟩
theorem k_len_t (W : Wd L D H) (h1 : (p, .tup xs) ∈ L) (k : Q (.int xs.length) H) : kLen K [.ref p] H Q := .inl ⟨p, xs, rfl, .inr (SqT.of (W.at_ h1)), k⟩
theorem k_len_L (h1 : SqL K H p xs) (k : Q (.int xs.length) H) : kLen K [.ref p] H Q := .inl ⟨p, xs, rfl, .inl h1, k⟩
theorem k_len_T (h1 : SqT K H p xs) (k : Q (.int xs.length) H) : kLen K [.ref p] H Q := .inl ⟨p, xs, rfl, .inr h1, k⟩
theorem k_len_s (h : s.length ≤ sizeLine) (k : Q (.int s.length) H) : kLen K [.str s] H Q := .inr (.inl ⟨s, rfl, h, k⟩)
theorem k_abs (k : Q (.int (if i < 0 then -i else i)) H) : kAbs [.int i] H Q := ⟨i, rfl, k⟩
theorem k_max2 (k : Q (.int (if j > i then j else i)) H) : kMax K [.int i, .int j] H Q := .inl ⟨i, j, rfl, k⟩
theorem k_app {R : VK} (W : Wd ((p, .lst xs) :: L) D H) (hl : xs.length < sizeLine) (k : ∀ H', Wd ((p, .lst (xs ++ [v])) :: L) D H' → R .non H') : rAppend (.ref p) [v] H R :=
  ⟨p, xs, v, rfl, rfl, W.at_ List.mem_cons_self, hl, k _ (W.put _)⟩
theorem k_ext {R : VK} (W : Wd ((p, .lst xs) :: L) D H) (h2 : (q, .lst ys) ∈ L) (hl : xs.length + ys.length ≤ sizeLine) (k : ∀ H', Wd ((p, .lst (xs ++ ys)) :: L) D H' → R .non H') : rExtend (.ref p) [.ref q] H R :=
  ⟨p, q, xs, ys, rfl, rfl, W.at_ List.mem_cons_self, W.at_ (List.mem_cons_of_mem _ h2), hl, k _ (W.put _)⟩
theorem k_popAt {R : VK} {n : Nat} (W : Wd ((p, .lst xs) :: L) D H) (h1 : -(2 ^ 63) ≤ i) (h2 : i < 2 ^ 63) (h3 : seqIndex? i xs.length = some n) (h4 : xs[n]? = some v) (k : ∀ H', Wd ((p, .lst (xs.eraseIdx n)) :: L) D H' → R v H') : rPopAt (.ref p) [.int i] H R :=
  ⟨p, xs, i, n, v, rfl, rfl, W.at_ List.mem_cons_self, h1, h2, h3, h4, k _ (W.put _)⟩
theorem k_clear {R : VK} (W : Wd ((p, .lst xs) :: L) D H) (k : ∀ H', Wd ((p, .lst []) :: L) D H' → R .non H') : rClear (.ref p) [] H R := ⟨p, xs, rfl, rfl, W.at_ List.mem_cons_self, k _ (W.put _)⟩
theorem k_bm_l {R : Prop} (W : Wd L D H) (h1 : (p, .lst xs) ∈ L) (k : R) : kBM K "list" (.ref p) H R := ⟨.inl ⟨rfl, xs, SqL.of (W.at_ h1)⟩, k⟩
theorem k_bmt {R : Prop} {o : HO} (hH : H p = some o) (h : FT o xs) (k : R) : kBMT (.ref p) H R := ⟨⟨p, o, xs, rfl, hH, h⟩, k⟩
theorem k_list_l (W : Wd L D H) (h1 : (p, .lst xs) ∈ L) (k : ∀ r H', Wd ((r, .lst xs) :: L) D H' → Q (.ref r) H') : kList K [.ref p] H Q := .inl ⟨p, xs, rfl, .inl (SqL.of (W.at_ h1)), fun r hr => k r _ (W.new hr _)⟩
theorem k_list_L (W : Wd L D H) (h1 : SqL K H p xs) (k : ∀ r H', Wd ((r, .lst xs) :: L) D H' → Q (.ref r) H') : kList K [.ref p] H Q := .inl ⟨p, xs, rfl, .inl h1, fun r hr => k r _ (W.new hr _)⟩
theorem k_list_T (W : Wd L D H) (h1 : SqT K H p xs) (k : ∀ r H', Wd ((r, .lst xs) :: L) D H' → Q (.ref r) H') : kList K [.ref p] H Q := .inl ⟨p, xs, rfl, .inr h1, fun r hr => k r _ (W.new hr _)⟩
theorem k_tuple_l (W : Wd L D H) (h1 : SqL K H p xs) (k : ∀ r H', Wd ((r, .tup xs) :: L) D H' → Q (.ref r) H') : kTupleG K [.ref p] H Q := .inl ⟨p, xs, rfl, .inl ⟨h1, fun r hr => k r _ (W.new hr _)⟩⟩
theorem k_tuple_f (W : Wd L D H) (h1 : SqL K H p xs) (k : ∀ r o H', FT o xs → Wd ((r, o) :: L) D H' → Q (.ref r) H') : kTupleG K [.ref p] H Q := .inr ⟨p, xs, rfl, h1, fun r o hr ho => k r o _ ho (W.new hr _)⟩
theorem k_tuple_t (h1 : SqT K H p xs) (k : Q (.ref p) H) : kTupleG K [.ref p] H Q := .inl ⟨p, xs, rfl, .inr ⟨h1, k⟩⟩
theorem k_sl_L (W : Wd L D H) {lo hi : Option Int} (h1 : SqL K H p xs) (k : ∀ r H', Wd ((r, .lst (cutV xs lo hi)) :: L) D H' → Q (.ref r) H') : kSl K (.ref p) lo hi H Q := .inl ⟨p, xs, rfl, h1, fun r hr => k r _ (W.new hr _)⟩
theorem k_unp {R : List V → Prop} {n : Nat} (h1 : SqT K H p xs) (hl : xs.length = n) (k : R xs) : kUnp K n (.ref p) H R := ⟨p, xs, rfl, h1, hl, k⟩
theorem k_isi {c : V} {t u : Value} (hc : ClsV c u) (ht : TyX K H x t) (e : PySem.W.kitOne K t u = some b) (k : Q (.bl b) H) : kIsi K [x, c] H Q := .inl ⟨x, c, t, u, b, rfl, hc, ht, e, k⟩
theorem k_isi_ty {T U : String} (ht : TyX K H x (.type T)) (e : kitB T U = some b) (k : Q (.bl b) H) : kIsi K [x, .ty U] H Q := k_isi (.ty U) ht (kit_ty e) k
theorem k_tru_bl {R : Bool → Hp → Prop} (k : R b H) : kTru K (.bl b) H R := ⟨b, rfl, k⟩
theorem k_tru_int {R : Bool → Hp → Prop} (k : R (i != 0) H) : kTru K (.int i) H R := ⟨_, rfl, k⟩
theorem k_tru_non {R : Bool → Hp → Prop} (k : R false H) : kTru K .non H R := ⟨_, rfl, k⟩
theorem k_tru_L {R : Bool → Hp → Prop} (h : SqL K H p xs) (k : R (!xs.isEmpty) H) : kTru K (.ref p) H R := ⟨_, .inl ⟨xs, h, rfl⟩, k⟩
theorem k_tru_T {R : Bool → Hp → Prop} (h : SqT K H p xs) (k : R (!xs.isEmpty) H) : kTru K (.ref p) H R := ⟨_, .inr (.inl ⟨xs, h, rfl⟩), k⟩
theorem k_tru_s {R : Bool → Hp → Prop} (h : s.length ≤ sizeLine) (k : R ((s.length : Int) != 0) H) : kTru K (.str s) H R := ⟨_, ⟨h, rfl⟩, k⟩
theorem Wd.sq (W : Wd L D H) (h : (p, .lst xs) ∈ L) : SqL K H p xs := SqL.of (W.at_ h)
theorem Wd.st (W : Wd L D H) (h : (p, .tup xs) ∈ L) : SqT K H p xs := SqT.of (W.at_ h)
theorem k_set0 {R : Hp → Prop} {a : V} (W : Wd ((p, .lst (a :: xs)) :: L) D H) (k : ∀ H', Wd ((p, .lst (v :: xs)) :: L) D H' → R H') : kSet (.ref p) (.int 0) v H R :=
  k_set_l (n := 0) W (by rw [List.length_cons]; unfold ixN; rw [if_pos (by decide), if_pos (by omega)]; rfl) k
theorem k_set1 {R : Hp → Prop} {a b : V} (W : Wd ((p, .lst (a :: b :: xs)) :: L) D H) (k : ∀ H', Wd ((p, .lst (a :: v :: xs)) :: L) D H' → R H') : kSet (.ref p) (.int 1) v H R :=
  k_set_l (n := 1) W (by rw [List.length_cons, List.length_cons]; unfold ixN; rw [if_pos (by decide), if_pos (by omega)]; rfl) k
theorem k_set2 {R : Hp → Prop} {a b c : V} (W : Wd ((p, .lst (a :: b :: c :: xs)) :: L) D H) (k : ∀ H', Wd ((p, .lst (a :: b :: v :: xs)) :: L) D H' → R H') : kSet (.ref p) (.int 2) v H R :=
  k_set_l (n := 2) W (by rw [List.length_cons, List.length_cons, List.length_cons]; unfold ixN; rw [if_pos (by decide), if_pos (by omega)]; rfl) k
theorem k_set3 {R : Hp → Prop} {a b c d : V} (W : Wd ((p, .lst (a :: b :: c :: d :: xs)) :: L) D H) (k : ∀ H', Wd ((p, .lst (a :: b :: c :: v :: xs)) :: L) D H' → R H') : kSet (.ref p) (.int 3) v H R :=
  k_set_l (n := 3) W (by rw [List.length_cons, List.length_cons, List.length_cons, List.length_cons]; unfold ixN; rw [if_pos (by decide), if_pos (by omega)]; rfl) k
theorem k_set4 {R : Hp → Prop} {a b c d e : V} (W : Wd ((p, .lst (a :: b :: c :: d :: e :: xs)) :: L) D H) (k : ∀ H', Wd ((p, .lst (a :: b :: c :: d :: v :: xs)) :: L) D H' → R H') : kSet (.ref p) (.int 4) v H R :=
  k_set_l (n := 4) W (by rw [List.length_cons, List.length_cons, List.length_cons, List.length_cons, List.length_cons]; unfold ixN; rw [if_pos (by decide), if_pos (by omega)]; rfl) k
theorem k_pop0 {R : VK} (W : Wd ((p, .lst (v :: xs)) :: L) D H) (k : ∀ H', Wd ((p, .lst xs) :: L) D H' → R v H') : rPopAt (.ref p) [.int 0] H R :=
  k_popAt (n := 0) W (by decide) (by decide) (by rw [List.length_cons]; unfold seqIndex?; simp) rfl k
theorem k_tru_l {R : Bool → Hp → Prop} (W : Wd L D H) (h : (p, .lst xs) ∈ L) (k : R (!xs.isEmpty) H) : kTru K (.ref p) H R := k_tru_L (W.sq h) k
end
section
variable {σ : L2.St} {H : Hp} {Q : VK} {K : PySem.W.Frag} {L : Ow} {Dd : List Fct} {a b : Addr} {xs ys : List V} {i j : Int} {D : Ends} {gt : TG} {tb : TS} {wi : TI} {tl : TE} {ta : TA} {tt : TT} {te tk tv : TE} {R : It → Hp → Prop} {J : It} {n : Nat} {Gd : Hp → Prop} {Y : Nat → Hp → V → Hp → Prop} {vs : List Nat}
def kFor (J : It) (gt : TG) (tb : TS) (D : Ends) (σ : L2.St) (H : Hp) : Prop := ∃ W : Nat → Nat → L2.St → Hp → Prop, (∃ m, W 0 m σ H) ∧ ∀ i m σ H, W i m σ H →
  (J.stop i H ∧ D.nx σ H) ∨ (J.go i H ∧ ∃ N : L2.St → Hp → Prop, (∀ σ' H', N σ' H' → ∃ m', m' < m ∧ W (i + 1) m' σ' H') ∧ ∀ x H', J.yld i H x H' → gt x σ H' fun σ2 H2 => tb { D with nx := N, ct := N, bk := D.nx } σ2 H2)
theorem rd_for (k : wi σ H fun J H1 => kFor J gt tb D σ H1) : tFor wi gt tb D σ H := k
theorem k_for (w : Walk J n Gd Y) (Pv : Nat → L2.St → Hp → Prop) (h0 : Pv 0 σ H) (hG : ∀ i σ H, i ≤ n → Pv i σ H → Gd H)
    (hs : ∀ i x σ H H', i < n → Pv i σ H → Y i H x H' → gt x σ H' fun σ2 H2 => tb { D with nx := Pv (i + 1), ct := Pv (i + 1), bk := D.nx } σ2 H2) (hd : ∀ σ H, Pv n σ H → D.nx σ H) : kFor J gt tb D σ H := for_it w Pv h0 hG hs hd
theorem rd_seqI (k : tl σ H fun x H1 => kIter K x H1 R) : iSeq K tl σ H R := k
theorem k_iter_L (h : SqL K H a xs) (k : R (Itl K a) H) : kIter K (.ref a) H R := .inl ⟨a, xs, rfl, h, k⟩
theorem k_iter_T (h : SqT K H a xs) (k : R (Itt K a) H) : kIter K (.ref a) H R := .inr (.inl ⟨a, xs, rfl, h, k⟩)
theorem k_iter_S {z : Str} (k : R (Its z) H) : kIter K (.str z) H R := .inr (.inr ⟨z, rfl, k⟩)
def kRng1 (vs : List V) (H : Hp) (R : It → Hp → Prop) : Prop := ∃ j : Int, vs = [.int j] ∧ -(2 ^ 62) ≤ j ∧ j < 2 ^ 62 ∧ R (Itr 0 j.toNat) H
def kRng2 (vs : List V) (H : Hp) (R : It → Hp → Prop) : Prop := ∃ i j : Int, vs = [.int i, .int j] ∧ (-(2 ^ 62) ≤ i ∧ i < 2 ^ 62 ∧ -(2 ^ 62) ≤ j ∧ j < 2 ^ 62) ∧ R (Itr i (j - i).toNat) H
theorem rd_rng1 (k : ta σ H fun vs H1 => kRng1 vs H1 R) : iRng1 ta σ H R := k
theorem rd_rng2 (k : ta σ H fun vs H1 => kRng2 vs H1 R) : iRng2 ta σ H R := k
theorem k_rng1 (h1 : -(2 ^ 62) ≤ j) (h2 : j < 2 ^ 62) (k : R (Itr 0 j.toNat) H) : kRng1 [.int j] H R := ⟨j, rfl, h1, h2, k⟩
theorem k_rng2 (h1 : -(2 ^ 62) ≤ i) (h2 : i < 2 ^ 62) (h3 : -(2 ^ 62) ≤ j) (h4 : j < 2 ^ 62) (k : R (Itr i (j - i).toNat) H) : kRng2 [.int i, .int j] H R := ⟨i, j, rfl, ⟨h1, h2, h3, h4⟩, k⟩
theorem rd_enum (k : ta σ H fun vs H1 => kEnum K vs H1 R) : iEnumG K ta σ H R := k
theorem k_enum_L (h : SqL K H a xs) (k : R (Ite K a) H) : kEnum K [.ref a] H R := .inl ⟨a, xs, rfl, h, k⟩
theorem k_enum_T (h : SqT K H a xs) (k : R (Itet K a 0) H) : kEnum K [.ref a] H R := .inr ⟨a, xs, rfl, h, k⟩
def kLc (J : It) (gt : TG) (tt : TT) (te : TE) (vs : List Nat) (σ : L2.St) (H1 : Hp) (Q : VK) : Prop := ∀ D, H1 D = none → ∃ W : Nat → Nat → Hp → Prop, (∃ m, W 0 m (upd H1 D (.lst []))) ∧ ∀ i m H, W i m H →
  (J.stop i H ∧ Q (.ref D) H) ∨ (J.go i H ∧ ∃ Nx : Hp → Prop, (∀ H', Nx H' → ∃ m', m' < m ∧ W (i + 1) m' H') ∧ ∀ x H', J.yld i H x H' → gt x (wipe σ vs) H' fun σ2 H2 => wipe σ2 vs = wipe σ vs ∧ tt σ2 H2 fun b H3 =>
    if b = true then te σ2 H3 fun y H4 => ∃ acc, H4 D = some (.lst acc) ∧ acc.length < sizeLine ∧ Nx (upd H4 D (.lst (acc ++ [y]))) else Nx H3)
theorem rd_lc (k : wi σ H fun J H1 => kLc J gt tt te vs σ H1 Q) : tLc wi gt tt te vs σ H Q := k
def kPush (D : Addr) (N : Hp → Prop) (y : V) (H : Hp) : Prop := ∃ acc, H D = some (.lst acc) ∧ acc.length < sizeLine ∧ N (upd H D (.lst (acc ++ [y])))
theorem k_push {N : Hp → Prop} {y : V} {acc : List V} (W : Wd ((a, .lst acc) :: L) Dd H) (hl : acc.length < sizeLine) (k : ∀ H', Wd ((a, .lst (acc ++ [y])) :: L) Dd H' → N H') : kPush a N y H :=
  ⟨acc, W.at_ List.mem_cons_self, hl, k _ (W.put _)⟩
theorem k_lc (w : Walk J n Gd Y) (W : Wd L Dd H) (Pv : Addr → Nat → Hp → Prop) (h0 : ∀ p H', Wd ((p, .lst []) :: L) Dd H' → Pv p 0 H') (hG : ∀ p i H, i ≤ n → Pv p i H → Gd H)
    (hs : ∀ p i x H H', i < n → Pv p i H → Y i H x H' → gt x (wipe σ vs) H' fun σ2 H2 => wipe σ2 vs = wipe σ vs ∧ tt σ2 H2 fun b H3 => kIf b (te σ2 H3 fun y H4 => kPush p (Pv p (i + 1)) y H4) (Pv p (i + 1) H3)) (hd : ∀ p H, Pv p n H → Q (.ref p) H) : kLc J gt tt te vs σ H Q :=
  fun p hp => lc_it w (Pv p) (h0 p _ (W.new hp _)) (hG p) (fun i x H H' hi a b => hs p i x H H' hi a b) (hd p)
end
def isT (K : PySem.W.Frag) (a : Addr) (xs : List V) : Fct := fun B => SqT K B a xs
def isL (K : PySem.W.Frag) (a : Addr) (xs : List V) : Fct := fun B => SqL K B a xs
section
variable {H : Hp} {Q : VK} {K : PySem.W.Frag} {L : Ow} {D : List Fct} {p : Addr} {v x y z : V} {xs : List V} {ds : List PyData} {d d0 d1 d2 : PyData} {i : Int} {s : Str} {b : Bool}
theorem Wd.tupl (W : Wd L D H) (h : isT K p xs ∈ D) : SqT K H p xs := W.fact h
theorem Wd.list (W : Wd L D H) (h : isL K p xs ∈ D) : SqL K H p xs := W.fact h
theorem Wd.opT (W : Wd L D H) (h : isD K v (.tuple ds) ∈ D) : ∃ (a : Addr) (xs : List V), v = .ref a ∧ xs.length = ds.length ∧ Wd L (isT K a xs :: isDs K xs ds :: D) H := let ⟨a, xs, e, l, _, W⟩ := W.openT (has_mem h); ⟨a, xs, e, l, W⟩
theorem Wd.opL (W : Wd L D H) (h : isD K v (.list ds) ∈ D) : ∃ (a : Addr) (xs : List V), v = .ref a ∧ xs.length = ds.length ∧ Wd L (isL K a xs :: isDs K xs ds :: D) H := let ⟨a, xs, e, l, _, W⟩ := W.openL (has_mem h); ⟨a, xs, e, l, W⟩
theorem Wd.ds_cons (W : Wd L D H) (h : isDs K (x :: xs) (d :: ds) ∈ D) : Wd L (isD K x d :: isDs K xs ds :: D) H := by
  have W1 : Wd L (isDs K xs ds :: D) H := W.der isDs_stab fun B b => by
    have q : DpAll K B (x :: xs) (d :: ds) := b _ h
    cases q with
    | cons _ r => exact r
  exact W1.der isD_stab fun B b => by
    have q : DpAll K B (x :: xs) (d :: ds) := b _ (List.mem_cons_of_mem _ h)
    cases q with
    | cons a _ => exact a
theorem Wd.op1 (W : Wd L D H) (h : isD K v (.tuple [d0]) ∈ D) : ∃ (a : Addr) (x : V), v = .ref a ∧ Wd L (isT K a [x] :: isD K x d0 :: D) H := by
  obtain ⟨a, xs, e, l, W⟩ := W.opT h
  match xs, l with
  | [x], _ =>
    have W2 := W.ds_cons (List.mem_cons_of_mem _ List.mem_cons_self)
    exact ⟨a, x, e, W2.wk fun F hF => by simp only [List.mem_cons] at hF ⊢; rcases hF with h | h | h <;> simp only [h, true_or, or_true]⟩
theorem Wd.op2 (W : Wd L D H) (h : isD K v (.tuple [d0, d1]) ∈ D) : ∃ (a : Addr) (x y : V), v = .ref a ∧ Wd L (isT K a [x, y] :: isD K x d0 :: isD K y d1 :: D) H := by
  obtain ⟨a, xs, e, l, W⟩ := W.opT h
  match xs, l with
  | [x, y], _ =>
    have W2 := W.ds_cons (List.mem_cons_of_mem _ List.mem_cons_self)
    have W3 := W2.ds_cons (List.mem_cons_of_mem _ List.mem_cons_self)
    exact ⟨a, x, y, e, W3.wk fun F hF => by simp only [List.mem_cons] at hF ⊢; rcases hF with h | h | h | h <;> simp only [h, true_or, or_true]⟩
theorem Wd.op3 (W : Wd L D H) (h : isD K v (.tuple [d0, d1, d2]) ∈ D) : ∃ (a : Addr) (x y z : V), v = .ref a ∧ Wd L (isT K a [x, y, z] :: isD K x d0 :: isD K y d1 :: isD K z d2 :: D) H := by
  obtain ⟨a, xs, e, l, W⟩ := W.opT h
  match xs, l with
  | [x, y, z], _ =>
    have W2 := W.ds_cons (List.mem_cons_of_mem _ List.mem_cons_self)
    have W3 := W2.ds_cons (List.mem_cons_of_mem _ List.mem_cons_self)
    have W4 := W3.ds_cons (List.mem_cons_of_mem _ List.mem_cons_self)
    exact ⟨a, x, y, z, e, W4.wk fun F hF => by simp only [List.mem_cons] at hF ⊢; rcases hF with h | h | h | h | h <;> simp only [h, true_or, or_true]⟩
theorem Wd.vint (W : Wd L D H) (h : isD K v (.int i) ∈ D) : v = .int i := by
  have q : Dp K H v (.int i) := W.fact h
  cases q
  rfl
theorem Wd.vstr (W : Wd L D H) (h : isD K v (.str s) ∈ D) : v = .str s := by
  have q : Dp K H v (.str s) := W.fact h
  cases q
  rfl
theorem Wd.vbl (W : Wd L D H) (h : isD K v (.bool b) ∈ D) : v = .bl b := by
  have q : Dp K H v (.bool b) := W.fact h
  cases q
  rfl
theorem Wd.vnon (W : Wd L D H) (h : isD K v .none ∈ D) : v = .non := by
  have q : Dp K H v .none := W.fact h
  cases q
  rfl
theorem ty_T (h : SqT K H p xs) : TyX K H (.ref p) (.type "tuple") := by
  rcases h with (h | ⟨o, h⟩) | ⟨o, its, n, h, c, _⟩
  · exact .base (.tup h)
  · exact .fTuple h
  · exact .kTuple h c
theorem ty_L (h : SqL K H p xs) : TyX K H (.ref p) (.type "list") := by
  rcases h with (h | ⟨o, h⟩) | ⟨o, its, n, h, c, _⟩
  · exact .base (.lst h)
  · exact .base (.frz h)
  · exact .kList h c
theorem k_ix_Tm (W : Wd L D H) (h1 : isT K p xs ∈ D) (h : atI xs i = some v) (k : Q v H) : kIx K (.ref p) (.int i) H Q := k_ix_T (W.tupl h1) h k
theorem k_ix_Lm (W : Wd L D H) (h1 : isL K p xs ∈ D) (h : atI xs i = some v) (k : Q v H) : kIx K (.ref p) (.int i) H Q := k_ix_L (W.list h1) h k
theorem k_len_Tm (W : Wd L D H) (h1 : isT K p xs ∈ D) (k : Q (.int xs.length) H) : kLen K [.ref p] H Q := k_len_T (W.tupl h1) k
theorem k_len_Lm (W : Wd L D H) (h1 : isL K p xs ∈ D) (k : Q (.int xs.length) H) : kLen K [.ref p] H Q := k_len_L (W.list h1) k
theorem k_unp_Tm {R : List V → Prop} {n : Nat} (W : Wd L D H) (h1 : isT K p xs ∈ D) (hl : xs.length = n) (k : R xs) : kUnp K n (.ref p) H R := k_unp (W.tupl h1) hl k
theorem k_isi_Tm {U : String} (W : Wd L D H) (h1 : isT K p xs ∈ D) (e : kitB "tuple" U = some b) (k : Q (.bl b) H) : kIsi K [.ref p, .ty U] H Q := k_isi_ty (ty_T (W.tupl h1)) e k
theorem k_isi_Lm {U : String} (W : Wd L D H) (h1 : isL K p xs ∈ D) (e : kitB "list" U = some b) (k : Q (.bl b) H) : kIsi K [.ref p, .ty U] H Q := k_isi_ty (ty_L (W.list h1)) e k
theorem k_isi_l {U : String} (W : Wd L D H) (h1 : (p, .lst xs) ∈ L) (e : kitB "list" U = some b) (k : Q (.bl b) H) : kIsi K [.ref p, .ty U] H Q := k_isi_ty (ty_L (W.sq h1)) e k
theorem k_isi_t {U : String} (W : Wd L D H) (h1 : (p, .tup xs) ∈ L) (e : kitB "tuple" U = some b) (k : Q (.bl b) H) : kIsi K [.ref p, .ty U] H Q := k_isi_ty (ty_T (W.st h1)) e k
theorem k_isi_int {U : String} (e : kitB "int" U = some b) (k : Q (.bl b) H) : kIsi K [.int i, .ty U] H Q := k_isi_ty (.base (.int i)) e k
theorem k_isi_bl {U : String} {c : Bool} (e : kitB "bool" U = some b) (k : Q (.bl b) H) : kIsi K [.bl c, .ty U] H Q := k_isi_ty (.base (.bl c)) e k
theorem k_isi_str {U : String} (e : kitB "str" U = some b) (k : Q (.bl b) H) : kIsi K [.str s, .ty U] H Q := k_isi_ty (.base (.str s)) e k
theorem k_isi_non {U : String} (e : kitB "NoneType" U = some b) (k : Q (.bl b) H) : kIsi K [.non, .ty U] H Q := k_isi_ty (.base .non) e k
theorem k_iter_Tm {R : It → Hp → Prop} (W : Wd L D H) (h1 : isT K p xs ∈ D) (k : R (Itt K p) H) : kIter K (.ref p) H R := k_iter_T (W.tupl h1) k
theorem k_iter_Lm {R : It → Hp → Prop} (W : Wd L D H) (h1 : isL K p xs ∈ D) (k : R (Itl K p) H) : kIter K (.ref p) H R := k_iter_L (W.list h1) k
theorem k_iter_l {R : It → Hp → Prop} (W : Wd L D H) (h1 : (p, .lst xs) ∈ L) (k : R (Itl K p) H) : kIter K (.ref p) H R := k_iter_L (W.sq h1) k
end
structure ClsF (K : PySem.W.Frag) (C : Addr) (fs : List Str) : Prop where
  cl : Cls K C
  na : ∀ f ∈ fs, NoAttr K C f
theorem lk_nil {f : Str} : List.lookup f ([] : List (Str × V)) = none := rfl
theorem lk_eq {f : Str} {v : V} {r : List (Str × V)} : List.lookup f ((f, v) :: r) = some v := by rw [List.lookup_cons, beq_self_eq_true]
theorem lk_ne {f g : Str} {v : V} {r : List (Str × V)} (h : (f == g) = false) : List.lookup f ((g, v) :: r) = List.lookup f r := by rw [List.lookup_cons, h]
theorem pf_nil {f : Str} {y : V} : putF f y [] = [(f, y)] := rfl
theorem pf_eq {f : Str} {y v : V} {r : List (Str × V)} : putF f y ((f, v) :: r) = (f, y) :: r := if_pos rfl
theorem pf_ne {f g : Str} {y v : V} {r : List (Str × V)} (h : (g == f) = false) : putF f y ((g, v) :: r) = (g, v) :: putF f y r := if_neg (by simpa using h)
def kI2 (x y : V) (H : Hp) (R : Int → Int → Hp → Prop) : Prop := ∃ a b, x = .int a ∧ y = .int b ∧ R a b H
theorem k_I2 {i j : Int} {H : Hp} {R : Int → Int → Hp → Prop} (k : R i j H) : kI2 (.int i) (.int j) H R := ⟨i, j, rfl, rfl, k⟩
def kRngT (a b : Int) (H : Hp) (Q : VK) : Prop := RgOk a b ∧ ∀ q, H q = none → Q (.ref q) (upd H q (.tup (rgV a b)))
def kCut (A : (L2.St → Hp → Prop) → Prop) (B : L2.St → Hp → Prop) : Prop := ∃ Mid : L2.St → Hp → Prop, A Mid ∧ ∀ σ' H', Mid σ' H' → B σ' H'
theorem k_cut {A : (L2.St → Hp → Prop) → Prop} {B : L2.St → Hp → Prop} (Mid : L2.St → Hp → Prop) (h1 : A Mid) (h2 : ∀ σ' H', Mid σ' H' → B σ' H') : kCut A B := ⟨Mid, h1, h2⟩
theorem k_cut0 {A : (L2.St → Hp → Prop) → Prop} {B : L2.St → Hp → Prop} (h : A B) : kCut A B := ⟨B, h, fun _ _ h => h⟩
def kVar (σ : L2.St) (i : Nat) (H : Hp) (Q : VK) : Prop := ∃ v, σ[i]? = some (some v) ∧ Q v H
def kStore (i : Nat) (v : V) (σ : L2.St) (R : L2.St → Prop) : Prop := R (σ.set i (some v))
theorem k_var {σ : L2.St} {i : Nat} {H : Hp} {Q : VK} {v : V} (h : σ[i]? = some (some v)) (k : Q v H) : kVar σ i H Q := ⟨v, h, k⟩
theorem k_store {σ σ' : L2.St} {i : Nat} {v : V} {R : L2.St → Prop} (h : σ.set i (some v) = σ') (k : R σ') : kStore i v σ R := by
  subst h
  exact k
def kGl (g : G) (x : Str) (H : Hp) (Q : VK) : Prop := ∃ v u, g.mg x = some u ∧ RelV v u ∧ Q v H
theorem k_gl {g : G} {x : Str} {H : Hp} {Q : VK} {v : V} (h : ∃ u, g.mg x = some u ∧ RelV v u) (k : Q v H) : kGl g x H Q := let ⟨u, a, b⟩ := h; ⟨v, u, a, b, k⟩
@[reducible] def rVar (i : Nat) : TE := fun σ H Q => kVar σ i H Q
@[reducible] def rC (v : V) : TE := fun _ H Q => Q v H
@[reducible] def rGl (g : G) (x : Str) : TE := fun _ H Q => kGl g x H Q
@[reducible] def rOp (r : R2) (ta tb : TE) : TE := fun σ H Q => ta σ H fun x H1 => tb σ H1 fun y H2 => r x y H2 Q
@[reducible] def rUn (f : V → Hp → VK → Prop) (ta : TE) : TE := fun σ H Q => ta σ H fun x H1 => f x H1 Q
@[reducible] def rNil : TA := fun _ H Q => Q [] H
@[reducible] def rCons (te : TE) (t : TA) : TA := fun σ H Q => te σ H fun x H1 => t σ H1 fun xs H2 => Q (x :: xs) H2
@[reducible] def rCB (f : List V → Hp → VK → Prop) (t : TA) : TE := fun σ H Q => t σ H fun vs H1 => f vs H1 Q
@[reducible] def rLst (t : TA) : TE := fun σ H Q => t σ H fun xs H1 => kLst xs H1 Q
@[reducible] def rTup (t : TA) : TE := fun σ H Q => t σ H fun xs H1 => kTup xs H1 Q
@[reducible] def rTest (te : TE) : TT := fun σ H Q => te σ H fun x H1 => kB x H1 Q
@[reducible] def rTru (K : PySem.W.Frag) (te : TE) : TT := fun σ H Q => te σ H fun x H1 => kTru K x H1 Q
@[reducible] def rAnd (c d : TT) : TT := fun σ H Q => c σ H fun b H1 => kIf b (d σ H1 Q) (Q false H1)
@[reducible] def rOr (c d : TT) : TT := fun σ H Q => c σ H fun b H1 => kIf b (Q true H1) (d σ H1 Q)
@[reducible] def rNot (c : TT) : TT := fun σ H Q => c σ H fun b H1 => Q (!b) H1
@[reducible] def rIf (c : TT) (ta tb : TE) : TE := fun σ H Q => c σ H fun b H1 => kIf b (ta σ H1 Q) (tb σ H1 Q)
@[reducible] def rAndT (K : PySem.W.Frag) (ta tb : TE) : TE := fun σ H Q => ta σ H fun x H1 => kAndV K x H1 Q (tb σ H1 Q)
@[reducible] def rOrT (K : PySem.W.Frag) (ta tb : TE) : TE := fun σ H Q => ta σ H fun x H1 => kOrV K x H1 Q (tb σ H1 Q)
@[reducible] def rNotT (K : PySem.W.Frag) (ta : TE) : TE := fun σ H Q => ta σ H fun x H1 => kNotV K x H1 Q
@[reducible] def rFld (K : PySem.W.Frag) (ta : TE) (f : Str) : TE := fun σ H Q => ta σ H fun x H1 => kFld K x f H1 Q
@[reducible] def rNoPart : TO := fun _ H Q => Q none H
@[reducible] def rPart (te : TE) : TO := fun σ H Q => te σ H fun x H1 => kPart x H1 Q
@[reducible] def rSl (f : V → Option Int → Option Int → Hp → VK → Prop) (te : TE) (tl th : TO) : TE := fun σ H Q => te σ H fun x H1 => tl σ H1 fun l H2 => th σ H2 fun u H3 => f x l u H3 Q
@[reducible] def rChain (r r' : R2) (ta tb tc : TE) : TE := fun σ H Q => ta σ H fun x H1 => tb σ H1 fun y H2 => r x y H2 fun z H3 => kChain z H3 Q fun H4 => tc σ H4 fun w H5 => r' y w H5 Q
@[reducible] def rBM (K : PySem.W.Frag) (T : String) (f : V → List V → Hp → VK → Prop) (ta : TE) (t : TA) : TE := fun σ H Q => ta σ H fun x H1 => kBM K T x H1 (t σ H1 fun xs H2 => f x xs H2 Q)
@[reducible] def rBM0 (K : PySem.W.Frag) (T : String) (f : V → List V → Hp → VK → Prop) (ta : TE) : TE := fun σ H Q => ta σ H fun x H1 => kBM K T x H1 (f x [] H1 Q)
@[reducible] def rBMT (f : V → List V → Hp → VK → Prop) (ta : TE) (t : TA) : TE := fun σ H Q => ta σ H fun x H1 => kBMT x H1 (t σ H1 fun xs H2 => f x xs H2 Q)
@[reducible] def rLrg1 (ta : TE) : TE := fun σ H Q => ta σ H fun x H1 => kI x H1 fun n H2 => kRng 0 n H2 Q
@[reducible] def rLrg2 (ta tb : TE) : TE := fun σ H Q => ta σ H fun x H1 => tb σ H1 fun y H2 => kI2 x y H2 fun m n H3 => kRng m n H3 Q
@[reducible] def rTrg1 (ta : TE) : TE := fun σ H Q => ta σ H fun x H1 => kI x H1 fun n H2 => kRngT 0 n H2 Q
@[reducible] def rCall (g : G) (A : Around) (x : Str) (E : XK) (t : TA) : TE := fun σ H Q => t σ H fun vs H1 => kCall g A x E vs H1 Q
@[reducible] def rMake (g : G) (A : Around) (x : Str) (E : XK) (t : TA) : TE := fun σ H Q => t σ H fun vs H1 => kMake g A x E vs H1 Q
@[reducible] def rBase (g : G) (A : Around) (C m : Str) (E : XK) (t : TA) : TE := fun σ H Q => t σ H fun vs H1 => kBase g A C m E vs H1 Q
@[reducible] def rMeth (g : G) (A : Around) (m : Str) (E : XK) (ta : TE) (t : TA) : TE := fun σ H Q => ta σ H fun x H1 => kRecv g m x H1 fun C => t σ H1 fun vs H2 => kMeth g A C m E (x :: vs) H2 Q
@[reducible] def rSeq (s1 s2 : TS) : TS := fun D σ H => s1 { D with nx := s2 D } σ H
@[reducible] def rNext : TS := fun D σ H => D.nx σ H
@[reducible] def rCont : TS := fun D σ H => D.ct σ H
@[reducible] def rBreak : TS := fun D σ H => D.bk σ H
@[reducible] def rRet (te : TE) : TS := fun D σ H => te σ H D.rt
@[reducible] def rRetN : TS := fun D _ H => D.rt .non H
@[reducible] def rDrop (te : TE) : TS := fun D σ H => te σ H fun _ H1 => D.nx σ H1
@[reducible] def rAsg (te : TE) (gt : TG) : TS := fun D σ H => te σ H fun x H1 => gt x σ H1 D.nx
@[reducible] def rIfS (c : TT) (s1 s2 : TS) : TS := fun D σ H => c σ H fun b H1 => kIf b (s1 D σ H1) (s2 D σ H1)
@[reducible] def rName (i : Nat) : TG := fun v σ H R => kStore i v σ fun σ' => R σ' H
@[reducible] def rGTup (K : PySem.W.Frag) (n : Nat) (gs : TGs) : TG := fun v σ H R => kUnp K n v H fun xs => gs xs σ H R
def kGCons (vs : List V) (R : V → List V → Prop) : Prop := ∃ v r, vs = v :: r ∧ R v r
def kGNil (vs : List V) (R : Prop) : Prop := vs = [] ∧ R
theorem k_gcons {v : V} {r : List V} {R : V → List V → Prop} (k : R v r) : kGCons (v :: r) R := ⟨v, r, rfl, k⟩
theorem k_gnil {R : Prop} (k : R) : kGNil [] R := ⟨rfl, k⟩
@[reducible] def rGNil : TGs := fun vs σ H R => kGNil vs (R σ H)
@[reducible] def rGCons (gt : TG) (gs : TGs) : TGs := fun vs σ H R => kGCons vs fun v r => gt v σ H fun σ' H' => gs r σ' H' R
@[reducible] def rGSub (to ti : TE) (ts : TSet) : TG := fun v σ H R => to σ H fun o H1 => ti σ H1 fun j H2 => ts o j v H2 fun H3 => R σ H3
def kStar (K : PySem.W.Frag) (n i : Nat) (v : V) (H : Hp) (R : List V → Hp → Prop) : Prop := ∃ a xs, v = .ref a ∧ (SqL K H a xs ∨ SqT K H a xs) ∧ n ≤ xs.length + 1 ∧ xs.length ≤ 16384 ∧
  ∀ D, H D = none → R (xs.take i ++ [.ref D] ++ (xs.drop i).drop (xs.length + 1 - n)) (upd H D (.lst ((xs.drop i).take (xs.length + 1 - n))))
@[reducible] def rGStar (K : PySem.W.Frag) (n i : Nat) (gs : TGs) : TG := fun v σ H R => kStar K n i v H fun vs H1 => gs vs σ H1 R
@[reducible] def rSFld (K : PySem.W.Frag) (ta tb : TE) (f : Str) : TS := fun D σ H => tb σ H fun y H1 => ta σ H1 fun x H2 => kSetF K x f y H2 fun H3 => D.nx σ H3
@[reducible] def rAugS (to ti te : TE) (tg : V → V → Hp → VK → Prop) (tp : TIp) (ts : TSet) : TS := fun D σ H => to σ H fun o H1 => ti σ H1 fun j H2 => tg o j H2 fun x H3 => te σ H3 fun y H4 => tp x y H4 fun z H5 => ts o j z H5 fun H6 => D.nx σ H6
def kVar1 (σ : L2.St) (i : Nat) (R : V → Prop) : Prop := ∃ x, σ[i]? = some (some x) ∧ R x
theorem k_var1 {σ : L2.St} {i : Nat} {v : V} {R : V → Prop} (h : σ[i]? = some (some v)) (k : R v) : kVar1 σ i R := ⟨v, h, k⟩
@[reducible] def rAug (i : Nat) (te : TE) (tp : TIp) : TS := fun D σ H => kVar1 σ i fun x => te σ H fun y H1 => tp x y H1 fun z H2 => kStore i z σ fun σ' => D.nx σ' H2
def kPar (i j : Nat) (vs : List V) (σ : L2.St) (R : L2.St → Prop) : Prop := ∃ v w, vs = [v, w] ∧ R ((σ.set i (some v)).set j (some w))
theorem k_par {i j : Nat} {v w : V} {σ σ' : L2.St} {R : L2.St → Prop} (h : (σ.set i (some v)).set j (some w) = σ') (k : R σ') : kPar i j [v, w] σ R := ⟨v, w, rfl, by rw [h]; exact k⟩
@[reducible] def rPar (i j : Nat) (t : TA) : TS := fun D σ H => t σ H fun vs H1 => kPar i j vs σ fun σ' => D.nx σ' H1
@[reducible] def rSeqI (K : PySem.W.Frag) (tl : TE) : TI := fun σ H R => tl σ H fun x H1 => kIter K x H1 R
@[reducible] def rRng1 (ta : TA) : TI := fun σ H R => ta σ H fun vs H1 => kRng1 vs H1 R
@[reducible] def rRng2 (ta : TA) : TI := fun σ H R => ta σ H fun vs H1 => kRng2 vs H1 R
@[reducible] def rEnum (K : PySem.W.Frag) (ta : TA) : TI := fun σ H R => ta σ H fun vs H1 => kEnum K vs H1 R
@[reducible] def rLc (wi : TI) (gt : TG) (tt : TT) (te : TE) (vs : List Nat) : TE := fun σ H Q => wi σ H fun J H1 => kLc J gt tt te vs σ H1 Q
@[reducible] def rYes : TT := fun _ H Q => Q true H
@[reducible] def rFor (wi : TI) (gt : TG) (tb : TS) : TS := fun D σ H => wi σ H fun J H1 => kFor J gt tb D σ H1
@[reducible] def rCut (s1 s2 : TS) : TS := fun D σ H => kCut (fun N => s1 { D with nx := N } σ H) (s2 D)
theorem at0 {x : V} {xs : List V} : atI (x :: xs) 0 = some x := by unfold atI ixN; rw [if_pos (by decide), if_pos (by simp only [List.length_cons]; omega)]; rfl
theorem at1 {x a : V} {xs : List V} : atI (a :: x :: xs) 1 = some x := by unfold atI ixN; rw [if_pos (by decide), if_pos (by simp only [List.length_cons]; omega)]; rfl
theorem at2 {x a b : V} {xs : List V} : atI (a :: b :: x :: xs) 2 = some x := by unfold atI ixN; rw [if_pos (by decide), if_pos (by simp only [List.length_cons]; omega)]; rfl
theorem at3 {x a b c : V} {xs : List V} : atI (a :: b :: c :: x :: xs) 3 = some x := by unfold atI ixN; rw [if_pos (by decide), if_pos (by simp only [List.length_cons]; omega)]; rfl
theorem at4 {x a b c d : V} {xs : List V} : atI (a :: b :: c :: d :: x :: xs) 4 = some x := by unfold atI ixN; rw [if_pos (by decide), if_pos (by simp only [List.length_cons]; omega)]; rfl
section
variable {K : PySem.W.Frag} {H : Hp} {Q : VK} {x y z : V} {vs : List V} {L : Ow} {D : List Fct} {p q : Addr} {xs ys : List V} {i j : Int} {f : Str} {v : V}
theorem g_kIx (h : kIx K x y H Q) : kIx K x y H Q := h
theorem g_kGet (h : kGet K x y H Q) : kGet K x y H Q := h
theorem g_kLen (h : kLen K vs H Q) : kLen K vs H Q := h
theorem g_kEq (h : kEq K x y H Q) : kEq K x y H Q := h
theorem g_kNe (h : kNe K x y H Q) : kNe K x y H Q := h
theorem g_kAdd (h : kAdd K x y H Q) : kAdd K x y H Q := h
theorem g_kMul (h : kMul x y H Q) : kMul x y H Q := h
theorem g_kSub (h : kSub x y H Q) : kSub x y H Q := h
theorem g_kFld (h : kFld K x f H Q) : kFld K x f H Q := h
theorem g_kMax (h : kMax K vs H Q) : kMax K vs H Q := h
theorem g_kMin (h : kMin K vs H Q) : kMin K vs H Q := h
theorem g_kAbs (h : kAbs vs H Q) : kAbs vs H Q := h
theorem g_kIsi (h : kIsi K vs H Q) : kIsi K vs H Q := h
theorem g_rAppend (h : rAppend x vs H Q) : rAppend x vs H Q := h
theorem g_rExtend (h : rExtend x vs H Q) : rExtend x vs H Q := h
theorem g_rPopAt (h : rPopAt x vs H Q) : rPopAt x vs H Q := h
theorem g_rPop (h : rPop x vs H Q) : rPop x vs H Q := h
theorem g_rClear (h : rClear x vs H Q) : rClear x vs H Q := h
theorem g_kLst (h : kLst vs H Q) : kLst vs H Q := h
theorem g_kTup (h : kTup vs H Q) : kTup vs H Q := h
theorem g_kIpAdd (h : kIpAdd x y H Q) : kIpAdd x y H Q := h
theorem g_kNotV (h : kNotV K x H Q) : kNotV K x H Q := h
theorem g_kSet {R : Hp → Prop} (h : kSet x y z H R) : kSet x y z H R := h
theorem g_kSetF {R : Hp → Prop} (h : kSetF K x f y H R) : kSetF K x f y H R := h
theorem g_kTru {R : Bool → Hp → Prop} (h : kTru K x H R) : kTru K x H R := h
theorem g_kIf {b : Bool} {A B : Prop} (h : kIf b A B) : kIf b A B := h
theorem g_kIter {R : It → Hp → Prop} (h : kIter K x H R) : kIter K x H R := h
theorem g_kUnp {R : List V → Prop} {n : Nat} (h : kUnp K n x H R) : kUnp K n x H R := h
theorem g_kBM {R : Prop} {T : String} (h : kBM K T x H R) : kBM K T x H R := h
theorem g_kAndV {R : Prop} (h : kAndV K x H Q R) : kAndV K x H Q R := h
theorem g_kOrV {R : Prop} (h : kOrV K x H Q R) : kOrV K x H Q R := h
theorem k_fldC {C dx : Addr} {fs : List (Str × V)} {nm : List Str} (W : Wd L D H) (hm : (p, .ins C dx fs) ∈ L) (c : ClsF K C nm) (l : fs.lookup f = some v) (hn : f ∈ nm) (k : Q v H) : kFld K (.ref p) f H Q := k_fld (W.at_ hm) c.cl (c.na _ hn) l k
theorem k_setFC {C dx : Addr} {fs fs' : List (Str × V)} {nm : List Str} {R : Hp → Prop} (W : Wd ((p, .ins C dx fs) :: L) D H) (c : ClsF K C nm) (e : putF f y fs = fs') (hl : fs.length < 1000) (hn : f ∈ nm) (k : ∀ H', Wd ((p, .ins C dx fs') :: L) D H' → R H') : kSetF K (.ref p) f y H R :=
  k_setF W c.cl (c.na _ hn) e hl k
end
section
variable {σ : L2.St} {H : Hp} {Q : VK} {K : PySem.W.Frag} {L : Ow} {D : List Fct} {p : Addr} {gt : TG} {tt : TT} {te : TE} {J : It} {n : Nat} {Gd : Hp → Prop} {Y : Nat → Hp → V → Hp → Prop} {vs : List Nat} {xs acc : List V} {ds : List PyData} {bs : List Bool}
theorem Has.mono {D' : List Fct} {v : V} {d : PyData} (h : Has K D v d) (s : D ⊆ D') : Has K D' v d := fun B b => h B fun G hG => b G (s hG)
theorem HasAll.mono {D' : List Fct} (h : HasAll K D xs ds) (s : D ⊆ D') : HasAll K D' xs ds := fun B b => h B fun G hG => b G (s hG)
theorem k_lcD (w : Walk J n Gd Y) (W : Wd L D H) (hn : n ≤ sizeLine) (e : Nat → PyData) (hG : ∀ p acc D0 H, D ⊆ D0 → Wd ((p, .lst acc) :: L) D0 H → Gd H)
    (hs : ∀ p i x H H' acc D0 (N : VK) (Z : Hp → Prop), i < n → D ⊆ D0 → Wd ((p, .lst acc) :: L) D0 H → Y i H x H' → (∀ y H4 D1, D0 ⊆ D1 → Has K D1 y (e i) → Wd ((p, .lst acc) :: L) D1 H4 → N y H4) →
      gt x (wipe σ vs) H' fun σ2 H2 => wipe σ2 vs = wipe σ vs ∧ tt σ2 H2 fun b H3 => kIf b (te σ2 H3 N) (Z H3))
    (hd : ∀ p acc D0 H, D ⊆ D0 → HasAll K D0 acc ((List.range n).map e) → Wd ((p, .lst acc) :: L) D0 H → Q (.ref p) H) : kLc J gt tt te vs σ H Q := by
  refine k_lc w W (fun p i H => ∃ acc D0, D ⊆ D0 ∧ HasAll K D0 acc ((List.range i).map e) ∧ acc.length = i ∧ Wd ((p, .lst acc) :: L) D0 H) (fun p H' W => ⟨[], D, fun _ h => h, hasAll_nil, rfl, W⟩) (fun p i H _ ⟨acc, D0, s, _, _, W⟩ => hG p acc D0 H s W) ?_ (fun p H ⟨acc, D0, s, h, _, W⟩ => hd p acc D0 H s h W)
  rintro p i x H H' hi ⟨acc, D0, s, h, hl, W⟩ y
  refine hs p i x H H' acc D0 _ _ hi s W y ?_
  intro y H4 D1 s1 hy W
  refine k_push W (by omega) fun H5 W => ⟨acc ++ [y], D1, fun _ h => s1 (s h), ?_, by simp [hl], W⟩
  rw [List.range_succ, List.map_append]
  exact hasAll_app (h.mono s1) (hasAll_cons hy hasAll_nil)
theorem bls_of {B : Hp} : ∀ {vs : List V} {bs : List Bool}, DpAll K B vs (bs.map PyData.bool) → vs = bs.map V.bl
  | _, [], .nil => rfl
  | _, b :: r, .cons h t => by
    cases h
    rw [bls_of t]
    rfl
theorem Wd.bls (W : Wd L D H) (h : HasAll K D xs (bs.map PyData.bool)) : xs = bs.map V.bl := bls_of (W.hasAll h)
theorem Wd.ints (W : Wd L D H) {ns : List Int} (h : HasAll K D xs (ns.map PyData.int)) : xs = ns.map V.int := ints_of (W.hasAll h)
theorem k_all (h : SqL K H p (bs.map V.bl)) (k : Q (.bl (bs.all id)) H) : kAll K [.ref p] H Q := ⟨p, bs, rfl, h, k⟩
theorem range_rep {α : Type} {n : Nat} {a : α} {f : Nat → α} (h : ∀ i, f i = a) : (List.range n).map f = List.replicate n a := by
  induction n with
  | zero => rfl
  | succ n ih => rw [List.range_succ, List.map_append, ih, List.replicate_succ', List.map_singleton, h]
theorem k_all_tt (W : Wd ((p, .lst acc) :: L) D H) {n : Nat} (h : HasAll K D acc ((List.range n).map fun _ => PyData.bool true)) (k : Q (.bl true) H) : kAll K [.ref p] H Q := by
  rw [show ((List.range n).map fun _ => PyData.bool true) = (List.replicate n true).map PyData.bool from by rw [range_rep (fun _ => rfl), List.map_replicate]] at h
  have e := W.bls h
  subst e
  exact k_all (W.sq List.mem_cons_self) (by rw [show (List.replicate n true).all id = true from by simp]; exact k)
end
def Spm {α : Type} (l r : List α) : Prop := ∃ e, l.Perm (r ++ e)
section
variable {α : Type} {a b c d e f g h x : α} {l r : List α}
theorem spR : Spm l l := ⟨[], by rw [List.append_nil]⟩
theorem Spm.p {l' : List α} (p : l'.Perm (x :: l)) (h : Spm l r) : Spm l' (x :: r) := let ⟨e, q⟩ := h; ⟨e, p.trans (List.Perm.cons _ q)⟩
theorem sp0 (h : Spm l r) : Spm (x :: l) (x :: r) := h.p (List.Perm.refl _)
theorem sp1 (h : Spm (a :: l) r) : Spm (a :: x :: l) (x :: r) := h.p (mvP (List.Perm.refl _))
theorem sp2 (h : Spm (a :: b :: l) r) : Spm (a :: b :: x :: l) (x :: r) := h.p (mvP (mvP (List.Perm.refl _)))
theorem sp3 (h : Spm (a :: b :: c :: l) r) : Spm (a :: b :: c :: x :: l) (x :: r) := h.p (mvP (mvP (mvP (List.Perm.refl _))))
theorem sp4 (h : Spm (a :: b :: c :: d :: l) r) : Spm (a :: b :: c :: d :: x :: l) (x :: r) := h.p (mvP (mvP (mvP (mvP (List.Perm.refl _)))))
theorem sp5 (h : Spm (a :: b :: c :: d :: e :: l) r) : Spm (a :: b :: c :: d :: e :: x :: l) (x :: r) := h.p (mvP (mvP (mvP (mvP (mvP (List.Perm.refl _))))))
theorem sp6 (h : Spm (a :: b :: c :: d :: e :: f :: l) r) : Spm (a :: b :: c :: d :: e :: f :: x :: l) (x :: r) := h.p (mvP (mvP (mvP (mvP (mvP (mvP (List.Perm.refl _)))))))
theorem sp7 (h : Spm (a :: b :: c :: d :: e :: f :: g :: l) r) : Spm (a :: b :: c :: d :: e :: f :: g :: x :: l) (x :: r) := h.p (mvP (mvP (mvP (mvP (mvP (mvP (mvP (List.Perm.refl _))))))))
theorem spS (q : Spm l r) : Spm (x :: l) r := let ⟨e, h⟩ := q; ⟨x :: e, (List.Perm.cons x h).trans List.perm_middle.symm⟩
theorem spC (q : Spm l r) : Spm (x :: l) (x :: r) := sp0 q
theorem spN : Spm l [] := ⟨l, List.Perm.refl _⟩
theorem fsR : l ⊆ l := fun _ h => h
theorem fsC (h : x ∈ l) (s : r ⊆ l) : (x :: r) ⊆ l := fun y hy => by
  rcases List.mem_cons.mp hy with e | hy
  · rw [e]; exact h
  · exact s hy
theorem fsT (s : r ⊆ l) : r ⊆ (x :: l) := fun _ h => List.mem_cons_of_mem _ (s h)
theorem fsN : ([] : List α) ⊆ l := fun _ h => (List.not_mem_nil h).elim
end
theorem Wd.arr {L L' : Ow} {D D' : List Fct} {H : Hp} (W : Wd L D H) (p : Spm L L') (s : D' ⊆ D) : Wd L' D' H := by
  obtain ⟨e, q⟩ := p
  exact (W.perm q).sub (List.sublist_append_left _ _) fun F h => s h
theorem Wd.ord {L L' : Ow} {D : List Fct} {H : Hp} (W : Wd L D H) (p : Spm L L') : Wd L' D H := W.arr p fsR
section
variable {σ : L2.St} {H : Hp} {Q : VK} {K : PySem.W.Frag} {L : Ow} {D : List Fct} {p a : Addr} {gt : TG} {tt : TT} {te : TE} {J : It} {n : Nat} {Gd : Hp → Prop} {Y : Nat → Hp → V → Hp → Prop} {vs : List Nat} {xs acc : List V} {ds es : List PyData} {v : V} {i : Int}
theorem range_getD {α : Type} {d : α} : ∀ {es : List α}, (List.range es.length).map (fun i => es.getD i d) = es := by
  intro es
  apply List.ext_getElem
  · simp
  · intro i h1 h2
    simp [h2]
theorem k_lcL (w : Walk J n Gd Y) (W : Wd L D H) (es : List PyData) (hl : es.length = n) (hn : n ≤ sizeLine) (hG : ∀ p acc D0 H, D ⊆ D0 → Wd ((p, .lst acc) :: L) D0 H → Gd H)
    (hs : ∀ p i x H H' acc D0 d (N : VK) (Z : Hp → Prop), es[i]? = some d → D ⊆ D0 → Wd ((p, .lst acc) :: L) D0 H → Y i H x H' → (∀ y H4 D1, D0 ⊆ D1 → Has K D1 y d → Wd ((p, .lst acc) :: L) D1 H4 → N y H4) →
      gt x (wipe σ vs) H' fun σ2 H2 => wipe σ2 vs = wipe σ vs ∧ tt σ2 H2 fun b H3 => kIf b (te σ2 H3 N) (Z H3))
    (hd : ∀ p acc H, acc.length = n → Wd ((p, .lst acc) :: L) (isDs K acc es :: D) H → Q (.ref p) H) : kLc J gt tt te vs σ H Q := by
  subst hl
  refine k_lcD (K := K) w W hn (fun i => es.getD i .none) hG ?_ ?_
  · intro p i x H H' acc D0 N Z hi s W y hN
    refine hs p i x H H' acc D0 es[i] N Z (by simp [hi]) s W y ?_
    intro y H4 D1 s1 h W
    exact hN y H4 D1 s1 (by simpa [hi] using h) W
  · intro p acc D0 H s h W
    rw [range_getD] at h
    exact hd p acc H (dpAll_len (W.hasAll h)) ((W.addDs h).arr spR (fsC List.mem_cons_self (fsT s)))
theorem has_ds (h : isDs K xs ds ∈ D) : HasAll K D xs ds := hasAll_mem h
def isFT (a : Addr) (xs : List V) : Fct := fun B => ∃ o, B a = some o ∧ FT o xs
theorem isFT_stab : Stab (isFT a xs) := fun _ _ s ⟨o, h, f⟩ => ⟨o, s _ _ h, f⟩
theorem isT_stab : Stab (isT K a xs) := fun _ _ s h => Same.tup s h
theorem isL_stab : Stab (isL K a xs) := fun _ _ s h => s.seq h
theorem FT.sq {B : Hp} {o : HO} (f : FT o xs) (h : B a = some o) : SqT K B a xs := by
  obtain ⟨ob, rfl, _⟩ := f
  exact .inl (.inr ⟨ob, h⟩)
theorem Wd.frzFT {o : HO} (W : Wd ((a, o) :: L) D H) (f : FT o xs) : Wd L (isFT a xs :: isT K a xs :: D) H :=
  (W.frz (F := isFT a xs) isFT_stab fun B _ e => ⟨o, e, f⟩).der (F := isT K a xs) isT_stab (fun B b => let ⟨o, h, f⟩ : isFT a xs B := b _ List.mem_cons_self; f.sq h) |>.arr spR (fsC (List.mem_cons_of_mem _ List.mem_cons_self) (fsC List.mem_cons_self (fsT (fsT fsR))))
theorem Wd.ft (W : Wd L D H) (h : isFT a xs ∈ D) : ∃ o, H a = some o ∧ FT o xs := W.fact h
theorem k_bmtF {R : Prop} (W : Wd L D H) (h : isFT a xs ∈ D) (k : R) : kBMT (.ref a) H R := let ⟨_, h1, h2⟩ := W.ft h; k_bmt h1 h2 k
theorem Wd.lenL (W : Wd L D H) (h : isDs K xs ds ∈ D) : xs.length = ds.length := dpAll_len (W.hasAll (hasAll_mem h))
theorem Wd.frzLs (W : Wd ((p, .lst xs) :: L) D H) (h : isDs K xs ds ∈ D) : Wd L (isD K (.ref p) (.list ds) :: D) H := W.frzL (hasAll_mem h)
theorem atI_map {α : Type} {f : α → V} {ms : List α} {i : Nat} {m : α} (h : ms[i]? = some m) : atI (ms.map f) (i : Int) = some (f m) := by
  have hi := (List.getElem?_eq_some_iff.mp h).1
  unfold atI ixN
  rw [if_pos (Int.natCast_nonneg i), if_pos (by rw [List.length_map]; omega)]
  simp [h]
end
section
variable {H : Hp} {Q : VK} {K : PySem.W.Frag} {L : Ow} {D : List Fct} {a : Addr} {xs : List V} {x : V}
theorem k_star21 {R : List V → Hp → Prop} (W : Wd L D H) (h : isL K a (x :: xs) ∈ D) (hl : xs.length < 16384) (k : ∀ d H', Wd ((d, .lst xs) :: L) D H' → R [x, .ref d] H') : kStar K 2 1 (.ref a) H R := by
  refine ⟨a, x :: xs, rfl, .inl (W.list h), by simp, by simp; omega, fun d hd => ?_⟩
  have := k d _ (W.new hd (.lst xs))
  simpa using this
theorem k_recvM {g : G} {m : Str} {R : Addr → Prop} {C dx : Addr} {fs : List (Str × V)} {nm : List Str} {k : Nat} {sp : Sp} (W : Wd L D H) (h : (a, .ins C dx fs) ∈ L) (c : ClsF g.K C nm) (F : MF g k C m sp) (l : fs.lookup m = none) (q : R C) : kRecv g m (.ref a) H R :=
  let ⟨f, hf, _⟩ := F
  k_recv (W.at_ h) c.cl l ⟨f, hf⟩ q
end
def Shp (k : Nat) (d : PyData) : Prop := d.canLay0 = true ∧ d.depth ≤ k
theorem shp_all {k : Nat} : ∀ {ds : List PyData}, (∀ d ∈ ds, Shp k d) → PyData.canLayAll0 ds = true ∧ PyData.depthAll ds ≤ k
  | [], _ => ⟨rfl, Nat.zero_le _⟩
  | d :: r, h => by
    have h1 := h d List.mem_cons_self
    have h2 := shp_all (ds := r) fun x hx => h x (List.mem_cons_of_mem _ hx)
    have e1 : PyData.canLayAll0 (d :: r) = (d.canLay0 && PyData.canLayAll0 r) := by simp [PyData.canLayAll0]
    have e2 : PyData.depthAll (d :: r) = max d.depth (PyData.depthAll r) := by simp [PyData.depthAll]
    rw [e1, e2]
    exact ⟨by rw [h1.1, h2.1]; rfl, Nat.max_le.mpr ⟨h1.2, h2.2⟩⟩
theorem shp_int {k : Nat} {i : Int} : Shp k (.int i) := ⟨by simp [PyData.canLay0], by simp [PyData.depth]⟩
theorem shp_str {k : Nat} {s : Str} (h : PyData.strOk s = true) : Shp k (.str s) := ⟨by simp only [PyData.canLay0]; exact h, by simp [PyData.depth]⟩
theorem shp_bool {k : Nat} {b : Bool} : Shp k (.bool b) := ⟨by simp [PyData.canLay0], by simp [PyData.depth]⟩
theorem shp_none {k : Nat} : Shp k .none := ⟨by simp [PyData.canLay0], by simp [PyData.depth]⟩
theorem shp_list {k : Nat} {ds : List PyData} (h : ∀ d ∈ ds, Shp k d) : Shp (k + 1) (.list ds) := by
  have q := shp_all h
  refine ⟨by simp only [PyData.canLay0]; exact q.1, ?_⟩
  have e : PyData.depth (.list ds) = PyData.depthAll ds + 1 := by simp only [PyData.depth]
  omega
theorem shp_tuple {k : Nat} {ds : List PyData} (h : ∀ d ∈ ds, Shp k d) : Shp (k + 1) (.tuple ds) := by
  have q := shp_all h
  refine ⟨by simp only [PyData.canLay0]; exact q.1, ?_⟩
  have e : PyData.depth (.tuple ds) = PyData.depthAll ds + 1 := by simp only [PyData.depth]
  omega
theorem Shp.up {k j : Nat} {d : PyData} (h : Shp k d) (l : k ≤ j) : Shp j d := ⟨h.1, Nat.le_trans h.2 l⟩
theorem Shp.ok {k : Nat} {d : PyData} (h : Shp k d) (l : k ≤ 64 := by decide) : SeqAt.shaped d = true := by
  show (d.canLay0 && decide (d.depth ≤ 64)) = true
  rw [h.1, decide_eq_true (Nat.le_trans h.2 l)]
  rfl
theorem Shp.eqv {k : Nat} {d : PyData} (h : Shp k d) : PyData.eqv d d = true := by
  exact PySem.SeqAt.eqv_refl d h.1
theorem mem1 {α : Type} {P : α → Prop} {a : α} (h : P a) : ∀ x ∈ [a], P x := fun x hx => by
  rw [List.mem_singleton.mp hx]
  exact h
theorem mem2 {α : Type} {P : α → Prop} {a b : α} (h : P a) (h2 : P b) : ∀ x ∈ [a, b], P x := fun x hx => by
  rcases List.mem_cons.mp hx with e | hx
  · rw [e]; exact h
  · exact mem1 h2 x hx
theorem mem_cons' {α : Type} {P : α → Prop} {a : α} {r : List α} (h : P a) (h2 : ∀ x ∈ r, P x) : ∀ x ∈ a :: r, P x := fun x hx => by
  rcases List.mem_cons.mp hx with e | hx
  · rw [e]; exact h
  · exact h2 x hx
theorem mem_map {α β : Type} {P : β → Prop} {f : α → β} {r : List α} (h : ∀ x ∈ r, P (f x)) : ∀ x ∈ r.map f, P x := fun x hx => by
  obtain ⟨y, hy, rfl⟩ := List.mem_map.mp hx
  exact h y hy
theorem Fk.up {g : G} {j k : Nat} {sp : Sp} {f : Addr} (F : Fk g j sp f) (h : j ≤ k) : Fk g k sp f := let ⟨fd, ps, ds, dvs, sp0, a, b, c, d, e⟩ := F; ⟨fd, ps, ds, dvs, sp0, a, b.mono h, c, d, e⟩
theorem GF.up {g : G} {j k : Nat} {sp : Sp} {x : Str} (F : GF g j x sp) (h : j ≤ k) : GF g k x sp := let ⟨f, a, b⟩ := F; ⟨f, a, b.up h⟩
theorem MF.up {g : G} {j k : Nat} {sp : Sp} {C : Addr} {m : Str} (F : MF g j C m sp) (h : j ≤ k) : MF g k C m sp := let ⟨f, a, b⟩ := F; ⟨f, a, b.up h⟩
theorem IF.up {g : G} {j k : Nat} {sp : Sp} {C : Addr} (F : IF g j C sp) (h : j ≤ k) : IF g k C sp := let ⟨f, a, b⟩ := F; ⟨f, a, b.up h⟩
structure Pt (g : G) (qual : Str) (st : Stmt) (f : Addr) (N ps : List Str) (t : G → Around → TS) : Prop where
  ex : ∃ x fd, FunG g x qual st f fd ∧ Binds g.K fd ps []
  sc : FnScope N ps (defScope st)
  d : ∀ k, BodyOk g N qual st f k t
theorem Pt.fk {g : G} {qual : Str} {st : Stmt} {f : Addr} {N ps : List Str} {t : G → Around → TS} (P : Pt g qual st f N ps t) (k : Nat) {sp : Sp} (len : ∀ vs H Q E, sp vs H Q E → vs.length = ps.length)
    (w : ∀ (A : Around) (vs : List V) (H : Hp) (Q : VK) (E : XK), Room k A → sp vs H Q E → t g A { nx := fun _ H' => Q .non H', rt := Q } (start N vs) H) : Fk g (k + 1) sp f :=
  let ⟨x, fd, F, b⟩ := P.ex
  Fk.of F P.sc b (P.d k) len w
theorem start_wd {K : PySem.W.Frag} {H : Hp} {a : Addr} {xs : List V} (h : SqL K H a xs) : Wd [] [isL K a xs] H :=
  ⟨⟨H, Same.refl H, mem1 ⟨isL_stab, h⟩, fun _ h => (List.not_mem_nil h).elim⟩, List.nodup_nil⟩
theorem nat_of_bits {i : Int} {n : Nat} (h : Builtin.Int.intBits i ≤ n) : i.natAbs < 2 ^ n := by
  by_cases e : i.natAbs = 0
  · rw [e]
    exact Nat.two_pow_pos n
  · unfold Builtin.Int.intBits at h
    rw [if_neg (by simpa using e)] at h
    exact (Nat.log2_lt e).mp (by omega)
theorem cx_false {P : Program} {w : World} {H : Hp} {s : Shared} {e : Value} {s' : Shared} (h : L2.CX P w [] H s (fun _ _ _ => False) e s') : False :=
  let ⟨_, _, _, _, _, _, _, _, _, _, _, _, z⟩ := h
  z
theorem walk_end {l : PySem.W.OpenLaw} {n k : Nat} {q : Program} {loose : List Str} {XP : (Str → Option Value) → Heap → Prop} {YP : World → Heap → Prop} {d : DefRec} {x : Str}
    (hn : l.most = some n) (hn2 : n ≤ sizeLine) (hdf : d.params.defaults = []) (hr : Room k callerA)
    (F : ∀ (w : World) (mg : Str → Option Value) (fa : Addr) (h : Heap), YP w h → h.Ns mainGlobals mg → mg d.name = some (.ref fa) →
      ∃ (K : PySem.W.Frag) (fd : FuncData) (sp : Sp), K.In h ∧ (∀ (s : Shared) (u : Value), BindsTo s fd ⟨[u], []⟩ [(x, u)]) ∧
        (∀ (H : Hp) (a : Addr) (ns : List Int), ns.length ≤ n → (∀ z ∈ ns, z.natAbs < 2 ^ 1048576) → SqL K H a (ns.map V.int) → sp [.ref a] H (fun v _ => v = .bl true) fun _ _ _ => False) ∧
        ∀ base : Heap, K.In base → base.Ns mainGlobals mg → FnOk l.prog w K mg base (L2.CX l.prog w) k fa fd [x] sp) :
    PySem.W.WalkO q loose XP YP l.row.toRowW d [] (fun f vs => PySem.call f vs) := by
  refine Att.attach_callB hn hdf fun w s₀ s₁ mg mb fa o pm cd doc a vs ns G Y ho hd hcd hmg hobj hints hlen hbits hg => ?_
  obtain ⟨K, fd, sp, KX, hb, hsp, hF⟩ := F w mg fa _ Y G.T.g hmg
  exact law_call KX G.T.g G.T.b G.T.builtins G.T.nolimit hg hobj hints (Nat.le_trans hlen hn2) hr hF hb (fun H _ hS => hsp H a ns hlen (fun z hz => nat_of_bits (hbits z hz)) hS) fun H e s' => cx_false
def t_is_number (g : G) (A : Around) : TS := (tRet (tAndT g.K (tCB (kIsi g.K) (tCons (tVar 0) (tCons (tC (.ty "int")) tNil))) (tNotT g.K (tCB (kIsi g.K) (tCons (tVar 0) (tCons (tC (.ty "bool")) tNil))))))
def r_is_number (g : G) (A : Around) : TS := (rRet (rAndT g.K (rCB (kIsi g.K) (rCons (rVar 0) (rCons (rC (.ty "int")) rNil))) (rNotT g.K (rCB (kIsi g.K) (rCons (rVar 0) (rCons (rC (.ty "bool")) rNil))))))
theorem e_is_number (g : G) (A : Around) : t_is_number g A = r_is_number g A := by kernel_rfl
def t_is_word (g : G) (A : Around) : TS := (tSeq (tIfS (tOr (tNot (tTruG g.K (tCB (kIsi g.K) (tCons (tVar 0) (tCons (tC (.ty "str")) tNil))))) (tTest (tOp (kEq g.K) (tVar 0) (tGl g "MARK"))))
  (tRet (tC (.bl false)))
  tNext)
  (tRet (tAndT g.K (tChain kLe kLe (tC (.int 1)) (tCB (kLen g.K) (tCons (tVar 0) tNil)) (tGl g "MOST_SIGNS")) (tCB (kAll g.K) (tCons (tLc (iSeq g.K (tVar 0)) (gName 1) tYes (tOp (kIn g.K) (tVar 1) (tGl g "LETTERS")) [1]) tNil)))))
def r_is_word (g : G) (A : Around) : TS := (rSeq (rIfS (rOr (rNot (rTru g.K (rCB (kIsi g.K) (rCons (rVar 0) (rCons (rC (.ty "str")) rNil))))) (rTest (rOp (kEq g.K) (rVar 0) (rGl g "MARK"))))
  (rRet (rC (.bl false)))
  rNext)
  (rRet (rAndT g.K (rChain kLe kLe (rC (.int 1)) (rCB (kLen g.K) (rCons (rVar 0) rNil)) (rGl g "MOST_SIGNS")) (rCB (kAll g.K) (rCons (rLc (rSeqI g.K (rVar 0)) (rName 1) rYes (rOp (kIn g.K) (rVar 1) (rGl g "LETTERS")) [1]) rNil)))))
theorem e_is_word (g : G) (A : Around) : t_is_word g A = r_is_word g A := by kernel_rfl
def t_is_part (g : G) (A : Around) : TS := (tSeq (tIfS (tTruG g.K (tCB (kIsi g.K) (tCons (tVar 0) (tCons (tC (.ty "tuple")) tNil))))
  (tRet (tAndT g.K (tOp kLt (tVar 1) (tGl g "MOST_DEEP")) (tCB (kAll g.K) (tCons (tLc (iSeq g.K (tVar 0)) (gName 2) tYes (tCallG g A "is_part" E0 (tCons (tVar 2) (tCons (tOp (kAdd g.K) (tVar 1) (tC (.int 1))) tNil))) [2]) tNil))))
  tNext)
  (tRet (tAndT g.K (tCallG g A "is_number" E0 (tCons (tVar 0) tNil)) (tChain kLe kLt (tC (.int 0)) (tVar 0) (tGl g "BOUND")))))
def r_is_part (g : G) (A : Around) : TS := (rSeq (rIfS (rTru g.K (rCB (kIsi g.K) (rCons (rVar 0) (rCons (rC (.ty "tuple")) rNil))))
  (rRet (rAndT g.K (rOp kLt (rVar 1) (rGl g "MOST_DEEP")) (rCB (kAll g.K) (rCons (rLc (rSeqI g.K (rVar 0)) (rName 2) rYes (rCall g A "is_part" E0 (rCons (rVar 2) (rCons (rOp (kAdd g.K) (rVar 1) (rC (.int 1))) rNil))) [2]) rNil))))
  rNext)
  (rRet (rAndT g.K (rCall g A "is_number" E0 (rCons (rVar 0) rNil)) (rChain kLe kLt (rC (.int 0)) (rVar 0) (rGl g "BOUND")))))
theorem e_is_part (g : G) (A : Around) : t_is_part g A = r_is_part g A := by kernel_rfl
def t_letter_fault (g : G) (A : Around) : TS := (tSeq (tIfS (tOr (tNot (tTruG g.K (tCB (kIsi g.K) (tCons (tVar 0) (tCons (tC (.ty "tuple")) tNil))))) (tOr (tTest (tOp (kEq g.K) (tVar 0) (tTup tNil))) (tNot (tTruG g.K (tCallG g A "is_word" E0 (tCons (tOp (kIx g.K) (tVar 0) (tC (.int 0))) tNil))))))
  (tRet (tC (.int 0)))
  tNext)
  (tSeq (tFor (iEnumG g.K (tCons (tVar 0) tNil)) (gTup g.K 2 (gCons (gName 1) (gCons (gName 2) gNil)))
  (tIfS (tAnd (tTest (tOp kGt (tVar 1) (tC (.int 0)))) (tNot (tTruG g.K (tCallG g A "is_part" E0 (tCons (tVar 2) (tCons (tC (.int 1)) tNil))))))
  (tRet (tVar 1))
  tNext))
  (tRet (tC .non))))
@[reducible] def rb_letter_fault_0 (g : G) (A : Around) : TS := (rIfS (rAnd (rTest (rOp kGt (rVar 1) (rC (.int 0)))) (rNot (rTru g.K (rCall g A "is_part" E0 (rCons (rVar 2) (rCons (rC (.int 1)) rNil))))))
  (rRet (rVar 1))
  rNext)
def r_letter_fault (g : G) (A : Around) : TS := (rSeq (rIfS (rOr (rNot (rTru g.K (rCB (kIsi g.K) (rCons (rVar 0) (rCons (rC (.ty "tuple")) rNil))))) (rOr (rTest (rOp (kEq g.K) (rVar 0) (rTup rNil))) (rNot (rTru g.K (rCall g A "is_word" E0 (rCons (rOp (kIx g.K) (rVar 0) (rC (.int 0))) rNil))))))
  (rRet (rC (.int 0)))
  rNext)
  (rSeq (rFor (rEnum g.K (rCons (rVar 0) rNil)) (rGTup g.K 2 (rGCons (rName 1) (rGCons (rName 2) rGNil)))
  (rb_letter_fault_0 g A))
  (rRet (rC .non))))
theorem e_letter_fault (g : G) (A : Around) : t_letter_fault g A = r_letter_fault g A := by kernel_rfl
def t_is_letter (g : G) (A : Around) : TS := (tRet (tOp kIsN (tCallG g A "letter_fault" E0 (tCons (tVar 0) tNil)) (tC .non)))
def r_is_letter (g : G) (A : Around) : TS := (rRet (rOp kIsN (rCall g A "letter_fault" E0 (rCons (rVar 0) rNil)) (rC .non)))
theorem e_is_letter (g : G) (A : Around) : t_is_letter g A = r_is_letter g A := by kernel_rfl
def t_is_below (g : G) (A : Around) : TS := (tRet (tAndT g.K (tCallG g A "is_number" E0 (tCons (tVar 0) tNil)) (tChain kLe kLt (tC (.int 0)) (tVar 0) (tVar 1))))
def r_is_below (g : G) (A : Around) : TS := (rRet (rAndT g.K (rCall g A "is_number" E0 (rCons (rVar 0) rNil)) (rChain kLe kLt (rC (.int 0)) (rVar 0) (rVar 1))))
theorem e_is_below (g : G) (A : Around) : t_is_below g A = r_is_below g A := by kernel_rfl
def t_is_sending (g : G) (A : Around) : TS := (tRet (tAndT g.K (tCB (kIsi g.K) (tCons (tVar 0) (tCons (tC (.ty "tuple")) tNil))) (tAndT g.K (tOp (kEq g.K) (tCB (kLen g.K) (tCons (tVar 0) tNil)) (tC (.int 2))) (tAndT g.K (tCallG g A "is_below" E0 (tCons (tOp (kIx g.K) (tVar 0) (tC (.int 0))) (tCons (tVar 1) tNil))) (tCallG g A "is_letter" E0 (tCons (tOp (kIx g.K) (tVar 0) (tC (.int 1))) tNil))))))
def r_is_sending (g : G) (A : Around) : TS := (rRet (rAndT g.K (rCB (kIsi g.K) (rCons (rVar 0) (rCons (rC (.ty "tuple")) rNil))) (rAndT g.K (rOp (kEq g.K) (rCB (kLen g.K) (rCons (rVar 0) rNil)) (rC (.int 2))) (rAndT g.K (rCall g A "is_below" E0 (rCons (rOp (kIx g.K) (rVar 0) (rC (.int 0))) (rCons (rVar 1) rNil))) (rCall g A "is_letter" E0 (rCons (rOp (kIx g.K) (rVar 0) (rC (.int 1))) rNil))))))
theorem e_is_sending (g : G) (A : Around) : t_is_sending g A = r_is_sending g A := by kernel_rfl
def t_is_play (g : G) (A : Around) : TS := (tSeq (tIfS (tOr (tNot (tTruG g.K (tCB (kIsi g.K) (tCons (tVar 0) (tCons (tC (.ty "tuple")) tNil))))) (tOr (tTest (tOp (kNe g.K) (tCB (kLen g.K) (tCons (tVar 0) tNil)) (tC (.int 2)))) (tNot (tTruG g.K (tCB (kIsi g.K) (tCons (tOp (kIx g.K) (tVar 0) (tC (.int 0))) (tCons (tC (.ty "bool")) tNil)))))))
  (tRet (tC (.bl false)))
  tNext)
  (tRet (tAndT g.K (tCB (kIsi g.K) (tCons (tOp (kIx g.K) (tVar 0) (tC (.int 1))) (tCons (tC (.ty "list")) tNil))) (tCB (kAll g.K) (tCons (tLc (iSeq g.K (tOp (kIx g.K) (tVar 0) (tC (.int 1)))) (gName 2) tYes (tCallG g A "is_sending" E0 (tCons (tVar 2) (tCons (tVar 1) tNil))) [2]) tNil)))))
def r_is_play (g : G) (A : Around) : TS := (rSeq (rIfS (rOr (rNot (rTru g.K (rCB (kIsi g.K) (rCons (rVar 0) (rCons (rC (.ty "tuple")) rNil))))) (rOr (rTest (rOp (kNe g.K) (rCB (kLen g.K) (rCons (rVar 0) rNil)) (rC (.int 2)))) (rNot (rTru g.K (rCB (kIsi g.K) (rCons (rOp (kIx g.K) (rVar 0) (rC (.int 0))) (rCons (rC (.ty "bool")) rNil)))))))
  (rRet (rC (.bl false)))
  rNext)
  (rRet (rAndT g.K (rCB (kIsi g.K) (rCons (rOp (kIx g.K) (rVar 0) (rC (.int 1))) (rCons (rC (.ty "list")) rNil))) (rCB (kAll g.K) (rCons (rLc (rSeqI g.K (rOp (kIx g.K) (rVar 0) (rC (.int 1)))) (rName 2) rYes (rCall g A "is_sending" E0 (rCons (rVar 2) (rCons (rVar 1) rNil))) [2]) rNil)))))
theorem e_is_play (g : G) (A : Around) : t_is_play g A = r_is_play g A := by kernel_rfl
def t_law_box (g : G) (A : Around) : TS := (tRet (tLst (tCons (tCB (kList g.K) (tCons (tVar 0) tNil)) (tCons (tC (.int 0)) (tCons (tC (.int 0)) (tCons (tC (.int 5)) tNil))))))
def r_law_box (g : G) (A : Around) : TS := (rRet (rLst (rCons (rCB (kList g.K) (rCons (rVar 0) rNil)) (rCons (rC (.int 0)) (rCons (rC (.int 0)) (rCons (rC (.int 5)) rNil))))))
theorem e_law_box (g : G) (A : Around) : t_law_box g A = r_law_box g A := by kernel_rfl
def t_law_pick (g : G) (A : Around) : TS := (tSeq (tAugS (tVar 0) (tC (.int 2)) (tC (.int 1)) (kGet g.K) kIpAdd kSet)
  (C8.tCut (tIfS (tAnd (tTest (tOp (kEq g.K) (tOp (kIx g.K) (tVar 0) (tC (.int 1))) (tC (.int 0)))) (tTruG g.K (tOp (kIx g.K) (tVar 0) (tC (.int 0)))))
  (tSeq (tAsg (tCB (kAbs) (tCons (tBM g.K "list" rPopAt (tOp (kIx g.K) (tVar 0) (tC (.int 0))) (tCons (tC (.int 0)) tNil)) tNil)) (gName 2))
  (tIfS (tTest (tOp kGe (tVar 2) (tOp kPow (tC (.int 10)) (tC (.int 18)))))
  (tAsg (tVar 2) (gSub (tVar 0) (tC (.int 1)) kSet))
  (tAsg (tOp kMod (tOp (kAdd g.K) (tOp kMul (tOp (kIx g.K) (tVar 0) (tC (.int 3))) (tC (.int 31))) (tVar 2)) (tOp kPow (tC (.int 10)) (tC (.int 18)))) (gSub (tVar 0) (tC (.int 3)) kSet))))
  tNext)
  (tSeq (tIfS (tTest (tOp kGt (tOp (kIx g.K) (tVar 0) (tC (.int 1))) (tC (.int 0))))
  (tSeq (tAsg (tOp kMod (tOp (kIx g.K) (tVar 0) (tC (.int 1))) (tVar 1)) (gName 3))
  (tSeq (tAsg (tOp kDiv (tOp (kIx g.K) (tVar 0) (tC (.int 1))) (tVar 1)) (gSub (tVar 0) (tC (.int 1)) kSet))
  (tRet (tVar 3))))
  tNext)
  (tSeq (tAsg (tOp kMod (tOp kPow (tOp (kAdd g.K) (tOp (kAdd g.K) (tOp kMul (tOp (kIx g.K) (tVar 0) (tC (.int 3))) (tOp (kAdd g.K) (tOp kMul (tC (.int 2)) (tOp (kIx g.K) (tVar 0) (tC (.int 2)))) (tC (.int 3)))) (tOp kMul (tC (.int 104729)) (tOp (kIx g.K) (tVar 0) (tC (.int 2))))) (tC (.int 17))) (tC (.int 3))) (tC (.int 2147483647))) (gName 4))
  (tRet (tOp kMod (tOp kDiv (tVar 4) (tC (.int 16))) (tVar 1)))))))
def r_law_pick (g : G) (A : Around) : TS := (rSeq (rAugS (rVar 0) (rC (.int 2)) (rC (.int 1)) (kGet g.K) kIpAdd kSet)
  (rCut (rIfS (rAnd (rTest (rOp (kEq g.K) (rOp (kIx g.K) (rVar 0) (rC (.int 1))) (rC (.int 0)))) (rTru g.K (rOp (kIx g.K) (rVar 0) (rC (.int 0)))))
  (rSeq (rAsg (rCB (kAbs) (rCons (rBM g.K "list" rPopAt (rOp (kIx g.K) (rVar 0) (rC (.int 0))) (rCons (rC (.int 0)) rNil)) rNil)) (rName 2))
  (rIfS (rTest (rOp kGe (rVar 2) (rOp kPow (rC (.int 10)) (rC (.int 18)))))
  (rAsg (rVar 2) (rGSub (rVar 0) (rC (.int 1)) kSet))
  (rAsg (rOp kMod (rOp (kAdd g.K) (rOp kMul (rOp (kIx g.K) (rVar 0) (rC (.int 3))) (rC (.int 31))) (rVar 2)) (rOp kPow (rC (.int 10)) (rC (.int 18)))) (rGSub (rVar 0) (rC (.int 3)) kSet))))
  rNext)
  (rSeq (rIfS (rTest (rOp kGt (rOp (kIx g.K) (rVar 0) (rC (.int 1))) (rC (.int 0))))
  (rSeq (rAsg (rOp kMod (rOp (kIx g.K) (rVar 0) (rC (.int 1))) (rVar 1)) (rName 3))
  (rSeq (rAsg (rOp kDiv (rOp (kIx g.K) (rVar 0) (rC (.int 1))) (rVar 1)) (rGSub (rVar 0) (rC (.int 1)) kSet))
  (rRet (rVar 3))))
  rNext)
  (rSeq (rAsg (rOp kMod (rOp kPow (rOp (kAdd g.K) (rOp (kAdd g.K) (rOp kMul (rOp (kIx g.K) (rVar 0) (rC (.int 3))) (rOp (kAdd g.K) (rOp kMul (rC (.int 2)) (rOp (kIx g.K) (rVar 0) (rC (.int 2)))) (rC (.int 3)))) (rOp kMul (rC (.int 104729)) (rOp (kIx g.K) (rVar 0) (rC (.int 2))))) (rC (.int 17))) (rC (.int 3))) (rC (.int 2147483647))) (rName 4))
  (rRet (rOp kMod (rOp kDiv (rVar 4) (rC (.int 16))) (rVar 1)))))))
theorem e_law_pick (g : G) (A : Around) : t_law_pick g A = r_law_pick g A := by kernel_rfl
def t_law_plays (g : G) (A : Around) : TS := (tSeq (tAsg (tLst tNil) (gName 2))
  (tSeq (tFor (iRng1 (tCons (tCallG g A "_law_pick" E0 (tCons (tVar 0) (tCons (tC (.int 40)) tNil))) tNil)) (gName 3)
  (tSeq (tAsg (tLst tNil) (gName 4))
  (tSeq (tFor (iRng1 (tCons (tOp (kIx g.K) (tLst (tCons (tC (.int 0)) (tCons (tC (.int 0)) (tCons (tC (.int 1)) (tCons (tC (.int 1)) (tCons (tC (.int 2)) (tCons (tC (.int 5)) tNil))))))) (tCallG g A "_law_pick" E0 (tCons (tVar 0) (tCons (tC (.int 6)) tNil)))) tNil)) (gName 5)
  (tSeq (tAsg (tCallG g A "_law_pick" E0 (tCons (tVar 0) (tCons (tVar 1) tNil))) (gName 6))
  (tDrop (tBM g.K "list" rAppend (tVar 4) (tCons (tTup (tCons (tVar 6) (tCons (tTup (tCons (tOp (kIx g.K) (tLst (tCons (tC (.str "ask")) (tCons (tC (.str "key")) (tCons (tC (.str "yes")) (tCons (tC (.str "q")) tNil))))) (tCallG g A "_law_pick" E0 (tCons (tVar 0) (tCons (tC (.int 4)) tNil)))) (tCons (tCallG g A "_law_pick" E0 (tCons (tVar 0) (tCons (tOp kPow (tC (.int 10)) (tC (.int 9))) tNil))) tNil))) tNil))) tNil)))))
  (tDrop (tBM g.K "list" rAppend (tVar 2) (tCons (tTup (tCons (tOp (kEq g.K) (tCallG g A "_law_pick" E0 (tCons (tVar 0) (tCons (tC (.int 2)) tNil))) (tC (.int 1))) (tCons (tVar 4) tNil))) tNil))))))
  (tRet (tVar 2))))
@[reducible] def rb_law_plays_0 (g : G) (A : Around) : TS := (rSeq (rAsg (rCall g A "_law_pick" E0 (rCons (rVar 0) (rCons (rVar 1) rNil))) (rName 6))
  (rDrop (rBM g.K "list" rAppend (rVar 4) (rCons (rTup (rCons (rVar 6) (rCons (rTup (rCons (rOp (kIx g.K) (rLst (rCons (rC (.str "ask")) (rCons (rC (.str "key")) (rCons (rC (.str "yes")) (rCons (rC (.str "q")) rNil))))) (rCall g A "_law_pick" E0 (rCons (rVar 0) (rCons (rC (.int 4)) rNil)))) (rCons (rCall g A "_law_pick" E0 (rCons (rVar 0) (rCons (rOp kPow (rC (.int 10)) (rC (.int 9))) rNil))) rNil))) rNil))) rNil))))
@[reducible] def rb_law_plays_1 (g : G) (A : Around) : TS := (rSeq (rAsg (rLst rNil) (rName 4))
  (rSeq (rFor (rRng1 (rCons (rOp (kIx g.K) (rLst (rCons (rC (.int 0)) (rCons (rC (.int 0)) (rCons (rC (.int 1)) (rCons (rC (.int 1)) (rCons (rC (.int 2)) (rCons (rC (.int 5)) rNil))))))) (rCall g A "_law_pick" E0 (rCons (rVar 0) (rCons (rC (.int 6)) rNil)))) rNil)) (rName 5)
  (rb_law_plays_0 g A))
  (rDrop (rBM g.K "list" rAppend (rVar 2) (rCons (rTup (rCons (rOp (kEq g.K) (rCall g A "_law_pick" E0 (rCons (rVar 0) (rCons (rC (.int 2)) rNil))) (rC (.int 1))) (rCons (rVar 4) rNil))) rNil)))))
def r_law_plays (g : G) (A : Around) : TS := (rSeq (rAsg (rLst rNil) (rName 2))
  (rSeq (rFor (rRng1 (rCons (rCall g A "_law_pick" E0 (rCons (rVar 0) (rCons (rC (.int 40)) rNil))) rNil)) (rName 3)
  (rb_law_plays_1 g A))
  (rRet (rVar 2))))
theorem e_law_plays (g : G) (A : Around) : t_law_plays g A = r_law_plays g A := by kernel_rfl
def t_law_play (g : G) (A : Around) : TS := (tSeq (tAugS (tVar 1) (tC (.int 0)) (tC (.int 1)) (kGet g.K) kIpAdd kSet)
  (tSeq (tIfS (tTest (tOp kLe (tOp (kIx g.K) (tVar 1) (tC (.int 0))) (tCB (kLen g.K) (tCons (tVar 0) tNil))))
  (tRet (tOp (kIx g.K) (tVar 0) (tOp kSub (tOp (kIx g.K) (tVar 1) (tC (.int 0))) (tC (.int 1)))))
  tNext)
  (tRet (tTup (tCons (tC (.bl true)) (tCons (tLst tNil) tNil))))))
def r_law_play (g : G) (A : Around) : TS := (rSeq (rAugS (rVar 1) (rC (.int 0)) (rC (.int 1)) (kGet g.K) kIpAdd kSet)
  (rSeq (rIfS (rTest (rOp kLe (rOp (kIx g.K) (rVar 1) (rC (.int 0))) (rCB (kLen g.K) (rCons (rVar 0) rNil))))
  (rRet (rOp (kIx g.K) (rVar 0) (rOp kSub (rOp (kIx g.K) (rVar 1) (rC (.int 0))) (rC (.int 1)))))
  rNext)
  (rRet (rTup (rCons (rC (.bl true)) (rCons (rLst rNil) rNil))))))
theorem e_law_play (g : G) (A : Around) : t_law_play g A = r_law_play g A := by kernel_rfl
def t_law_unlike (g : G) (A : Around) : TS := (tSeq (tAsg (tLstRg (tRg1 (tC (.int 60)))) (gName 2))
  (tSeq (tAsg (tLst tNil) (gName 3))
  (tSeq (tFor (iRng1 (tCons (tVar 1) tNil)) (gName 4)
  (tDrop (tBM g.K "list" rAppend (tVar 3) (tCons (tBM g.K "list" rPopAt (tVar 2) (tCons (tCallG g A "_law_pick" E0 (tCons (tVar 0) (tCons (tCB (kLen g.K) (tCons (tVar 2) tNil)) tNil))) tNil)) tNil))))
  (tRet (tVar 3)))))
@[reducible] def rb_law_unlike_0 (g : G) (A : Around) : TS := (rDrop (rBM g.K "list" rAppend (rVar 3) (rCons (rBM g.K "list" rPopAt (rVar 2) (rCons (rCall g A "_law_pick" E0 (rCons (rVar 0) (rCons (rCB (kLen g.K) (rCons (rVar 2) rNil)) rNil))) rNil)) rNil)))
def r_law_unlike (g : G) (A : Around) : TS := (rSeq (rAsg (rLrg1 (rC (.int 60))) (rName 2))
  (rSeq (rAsg (rLst rNil) (rName 3))
  (rSeq (rFor (rRng1 (rCons (rVar 1) rNil)) (rName 4)
  (rb_law_unlike_0 g A))
  (rRet (rVar 3)))))
theorem e_law_unlike (g : G) (A : Around) : t_law_unlike g A = r_law_unlike g A := by kernel_rfl
def t_law_turned (g : G) (A : Around) : TS := (tRet (tLc (iSeq g.K (tVar 1)) (gTup g.K 2 (gCons (gName 2) (gCons (gName 3) gNil))) tYes (tTup (tCons (tOp (kIx g.K) (tVar 0) (tVar 2)) (tCons (tVar 3) tNil))) [2, 3]))
def r_law_turned (g : G) (A : Around) : TS := (rRet (rLc (rSeqI g.K (rVar 1)) (rGTup g.K 2 (rGCons (rName 2) (rGCons (rName 3) rGNil))) rYes (rTup (rCons (rOp (kIx g.K) (rVar 0) (rVar 2)) (rCons (rVar 3) rNil))) [2, 3]))
theorem e_law_turned (g : G) (A : Around) : t_law_turned g A = r_law_turned g A := by kernel_rfl
def t_law_pairs (g : G) (A : Around) : TS := (tSeq (tIfS (tOr (tNot (tTruG g.K (tCB (kIsi g.K) (tCons (tVar 0) (tCons (tC (.ty "list")) tNil))))) (tTest (tOp (kNe g.K) (tVar 0) (tVar 1))))
  (tRet (tC (.bl false)))
  tNext)
  (tSeq (tFor (iSeq g.K (tVar 0)) (gName 2)
  (tIfS (tOr (tNot (tTruG g.K (tCB (kIsi g.K) (tCons (tVar 2) (tCons (tC (.ty "tuple")) tNil))))) (tOr (tNot (tTruG g.K (tCB (kIsi g.K) (tCons (tOp (kIx g.K) (tVar 2) (tC (.int 0))) (tCons (tC (.ty "int")) tNil))))) (tNot (tTruG g.K (tCB (kIsi g.K) (tCons (tOp (kIx g.K) (tVar 2) (tC (.int 1))) (tCons (tC (.ty "tuple")) tNil)))))))
  (tRet (tC (.bl false)))
  tNext))
  (tRet (tC (.bl true)))))
@[reducible] def rb_law_pairs_0 (g : G) (A : Around) : TS := (rIfS (rOr (rNot (rTru g.K (rCB (kIsi g.K) (rCons (rVar 2) (rCons (rC (.ty "tuple")) rNil))))) (rOr (rNot (rTru g.K (rCB (kIsi g.K) (rCons (rOp (kIx g.K) (rVar 2) (rC (.int 0))) (rCons (rC (.ty "int")) rNil))))) (rNot (rTru g.K (rCB (kIsi g.K) (rCons (rOp (kIx g.K) (rVar 2) (rC (.int 1))) (rCons (rC (.ty "tuple")) rNil)))))))
  (rRet (rC (.bl false)))
  rNext)
def r_law_pairs (g : G) (A : Around) : TS := (rSeq (rIfS (rOr (rNot (rTru g.K (rCB (kIsi g.K) (rCons (rVar 0) (rCons (rC (.ty "list")) rNil))))) (rTest (rOp (kNe g.K) (rVar 0) (rVar 1))))
  (rRet (rC (.bl false)))
  rNext)
  (rSeq (rFor (rSeqI g.K (rVar 0)) (rName 2)
  (rb_law_pairs_0 g A))
  (rRet (rC (.bl true)))))
theorem e_law_pairs (g : G) (A : Around) : t_law_pairs g A = r_law_pairs g A := by kernel_rfl
def t_law_deeds (g : G) (A : Around) : TS := (tSeq (tAsg (tLc (iSeq g.K (tVar 1)) (gName 4) tYes (tTup (tCons (tC (.str "hear")) (tCons (tVar 4) tNil))) [4]) (gName 3))
  (C8.tCut (tIfS (tTest (tOp (kEq g.K) (tOp (kIx g.K) (tVar 0) (tC (.int 0))) (tC (.str "out"))))
  (tDrop (tBM g.K "list" rExtend (tVar 3) (tCons (tOp kMul (tLst (tCons (tTup (tCons (tC (.str "ask")) (tCons (tC (.int 0)) tNil))) tNil)) (tCB (kLen g.K) (tCons (tVar 1) tNil))) tNil)))
  tNext)
  (C8.tCut (tIfS (tTest (tOp (kEq g.K) (tOp (kIx g.K) (tVar 0) (tC (.int 0))) (tC (.str "in"))))
  (tDrop (tBM g.K "list" rExtend (tVar 3) (tCons (tOp kMul (tLst (tCons (tTup (tCons (tC (.str "leave")) (tCons (tC (.int 0)) tNil))) tNil)) (tCB (kLen g.K) (tCons (tVar 1) tNil))) tNil)))
  tNext)
  (C8.tCut (tIfS (tTruG g.K (tOp (kIx g.K) (tVar 0) (tC (.int 2))))
  (tDrop (tBM g.K "list" rExtend (tVar 3) (tCons (tOp kMul (tLst (tCons (tTup (tCons (tC (.str "yours")) (tCons (tVar 2) tNil))) tNil)) (tCB (kLen g.K) (tCons (tVar 1) tNil))) tNil)))
  tNext)
  (tRet (tVar 3))))))
def r_law_deeds (g : G) (A : Around) : TS := (rSeq (rAsg (rLc (rSeqI g.K (rVar 1)) (rName 4) rYes (rTup (rCons (rC (.str "hear")) (rCons (rVar 4) rNil))) [4]) (rName 3))
  (rCut (rIfS (rTest (rOp (kEq g.K) (rOp (kIx g.K) (rVar 0) (rC (.int 0))) (rC (.str "out"))))
  (rDrop (rBM g.K "list" rExtend (rVar 3) (rCons (rOp kMul (rLst (rCons (rTup (rCons (rC (.str "ask")) (rCons (rC (.int 0)) rNil))) rNil)) (rCB (kLen g.K) (rCons (rVar 1) rNil))) rNil)))
  rNext)
  (rCut (rIfS (rTest (rOp (kEq g.K) (rOp (kIx g.K) (rVar 0) (rC (.int 0))) (rC (.str "in"))))
  (rDrop (rBM g.K "list" rExtend (rVar 3) (rCons (rOp kMul (rLst (rCons (rTup (rCons (rC (.str "leave")) (rCons (rC (.int 0)) rNil))) rNil)) (rCB (kLen g.K) (rCons (rVar 1) rNil))) rNil)))
  rNext)
  (rCut (rIfS (rTru g.K (rOp (kIx g.K) (rVar 0) (rC (.int 2))))
  (rDrop (rBM g.K "list" rExtend (rVar 3) (rCons (rOp kMul (rLst (rCons (rTup (rCons (rC (.str "yours")) (rCons (rVar 2) rNil))) rNil)) (rCB (kLen g.K) (rCons (rVar 1) rNil))) rNil)))
  rNext)
  (rRet (rVar 3))))))
theorem e_law_deeds (g : G) (A : Around) : t_law_deeds g A = r_law_deeds g A := by kernel_rfl
def t_law_done (g : G) (A : Around) : TS := (tSeq (tIfS (tTest (tOp (kEq g.K) (tOp (kIx g.K) (tVar 1) (tC (.int 0))) (tC (.str "ask"))))
  (tRet (tMethG g A "ask" E0 (tVar 0) tNil))
  tNext)
  (tSeq (tIfS (tTest (tOp (kEq g.K) (tOp (kIx g.K) (tVar 1) (tC (.int 0))) (tC (.str "leave"))))
  (tRet (tMethG g A "leave" E0 (tVar 0) tNil))
  tNext)
  (tSeq (tIfS (tTest (tOp (kEq g.K) (tOp (kIx g.K) (tVar 1) (tC (.int 0))) (tC (.str "yours"))))
  (tRet (tMethG g A "hear" E0 (tVar 0) (tCons (tOp (kIx g.K) (tVar 1) (tC (.int 1))) (tCons (tTup (tCons (tC (.str "yours")) tNil)) tNil))))
  tNext)
  (tRet (tMethG g A "hear" E0 (tVar 0) (tCons (tOp (kIx g.K) (tVar 1) (tC (.int 1))) (tCons (tVar 2) tNil)))))))
def r_law_done (g : G) (A : Around) : TS := (rSeq (rIfS (rTest (rOp (kEq g.K) (rOp (kIx g.K) (rVar 1) (rC (.int 0))) (rC (.str "ask"))))
  (rRet (rMeth g A "ask" E0 (rVar 0) rNil))
  rNext)
  (rSeq (rIfS (rTest (rOp (kEq g.K) (rOp (kIx g.K) (rVar 1) (rC (.int 0))) (rC (.str "leave"))))
  (rRet (rMeth g A "leave" E0 (rVar 0) rNil))
  rNext)
  (rSeq (rIfS (rTest (rOp (kEq g.K) (rOp (kIx g.K) (rVar 1) (rC (.int 0))) (rC (.str "yours"))))
  (rRet (rMeth g A "hear" E0 (rVar 0) (rCons (rOp (kIx g.K) (rVar 1) (rC (.int 1))) (rCons (rTup (rCons (rC (.str "yours")) rNil)) rNil))))
  rNext)
  (rRet (rMeth g A "hear" E0 (rVar 0) (rCons (rOp (kIx g.K) (rVar 1) (rC (.int 1))) (rCons (rVar 2) rNil)))))))
theorem e_law_done (g : G) (A : Around) : t_law_done g A = r_law_done g A := by kernel_rfl
def t_law_due (g : G) (A : Around) : TS := (tSeq (tIfS (tTest (tOp (kEq g.K) (tOp (kIx g.K) (tVar 1) (tC (.int 0))) (tC (.str "yours"))))
  (tSeq (tAsg (tC (.str "in")) (gSub (tVar 0) (tC (.int 0)) kSet))
  (tSeq (tAsg (tC (.bl false)) (gSub (tVar 0) (tC (.int 2)) kSet))
  (tRet (tLst tNil))))
  tNext)
  (tSeq (tAsg (tCallG g A "_law_turned" E0 (tCons (tVar 3) (tCons (tOp (kIx g.K) (tVar 2) (tC (.int 1))) tNil))) (gName 5))
  (tSeq (tIfS (tTest (tOp (kEq g.K) (tOp (kIx g.K) (tVar 1) (tC (.int 0))) (tC (.str "leave"))))
  (tSeq (tAsg (tC (.str "out")) (gSub (tVar 0) (tC (.int 0)) kSet))
  (tSeq (tAsg (tC (.str "out")) (gSub (tVar 0) (tC (.int 1)) kSet))
  (tRet (tOp (kAdd g.K) (tIf (tTest (tOp kNotN (tVar 4) (tC .non))) (tLst (tCons (tTup (tCons (tVar 4) (tCons (tTup (tCons (tC (.str "done")) tNil)) tNil))) tNil)) (tLst tNil)) (tVar 5)))))
  tNext)
  (tSeq (tAsg (tOp (kIx g.K) (tVar 0) (tC (.int 1))) (gName 6))
  (C8.tCut (tIfS (tTest (tOp (kEq g.K) (tOp (kIx g.K) (tVar 1) (tC (.int 0))) (tC (.str "ask"))))
  (tSeq (tAsg (tC (.str "asking")) (gSub (tVar 0) (tC (.int 0)) kSet))
  (tAsg (tC (.str "asking")) (gSub (tVar 0) (tC (.int 1)) kSet)))
  tNext)
  (C8.tCut (tIfS (tAnd (tTest (tOp (kEq g.K) (tOp (kIx g.K) (tVar 0) (tC (.int 1))) (tC (.str "asking")))) (tTruG g.K (tOp (kIx g.K) (tVar 2) (tC (.int 0)))))
  (tAsg (tC (.str "in")) (gSub (tVar 0) (tC (.int 1)) kSet))
  tNext)
  (tSeq (tIfS (tOr (tTest (tOp (kEq g.K) (tOp (kIx g.K) (tVar 0) (tC (.int 1))) (tVar 6))) (tTest (tOp (kNe g.K) (tOp (kIx g.K) (tVar 0) (tC (.int 1))) (tC (.str "in")))))
  (tRet (tVar 5))
  tNext)
  (tSeq (tIfS (tTest (tOp kIsN (tVar 4) (tC .non)))
  (tSeq (tAsg (tC (.str "in")) (gSub (tVar 0) (tC (.int 0)) kSet))
  (tRet (tVar 5)))
  tNext)
  (tSeq (tAsg (tC (.bl true)) (gSub (tVar 0) (tC (.int 2)) kSet))
  (tRet (tOp (kAdd g.K) (tVar 5) (tLst (tCons (tTup (tCons (tVar 4) (tCons (tTup (tCons (tC (.str "please")) tNil)) tNil))) tNil)))))))))))))
def r_law_due (g : G) (A : Around) : TS := (rSeq (rIfS (rTest (rOp (kEq g.K) (rOp (kIx g.K) (rVar 1) (rC (.int 0))) (rC (.str "yours"))))
  (rSeq (rAsg (rC (.str "in")) (rGSub (rVar 0) (rC (.int 0)) kSet))
  (rSeq (rAsg (rC (.bl false)) (rGSub (rVar 0) (rC (.int 2)) kSet))
  (rRet (rLst rNil))))
  rNext)
  (rSeq (rAsg (rCall g A "_law_turned" E0 (rCons (rVar 3) (rCons (rOp (kIx g.K) (rVar 2) (rC (.int 1))) rNil))) (rName 5))
  (rSeq (rIfS (rTest (rOp (kEq g.K) (rOp (kIx g.K) (rVar 1) (rC (.int 0))) (rC (.str "leave"))))
  (rSeq (rAsg (rC (.str "out")) (rGSub (rVar 0) (rC (.int 0)) kSet))
  (rSeq (rAsg (rC (.str "out")) (rGSub (rVar 0) (rC (.int 1)) kSet))
  (rRet (rOp (kAdd g.K) (rIf (rTest (rOp kNotN (rVar 4) (rC .non))) (rLst (rCons (rTup (rCons (rVar 4) (rCons (rTup (rCons (rC (.str "done")) rNil)) rNil))) rNil)) (rLst rNil)) (rVar 5)))))
  rNext)
  (rSeq (rAsg (rOp (kIx g.K) (rVar 0) (rC (.int 1))) (rName 6))
  (rCut (rIfS (rTest (rOp (kEq g.K) (rOp (kIx g.K) (rVar 1) (rC (.int 0))) (rC (.str "ask"))))
  (rSeq (rAsg (rC (.str "asking")) (rGSub (rVar 0) (rC (.int 0)) kSet))
  (rAsg (rC (.str "asking")) (rGSub (rVar 0) (rC (.int 1)) kSet)))
  rNext)
  (rCut (rIfS (rAnd (rTest (rOp (kEq g.K) (rOp (kIx g.K) (rVar 0) (rC (.int 1))) (rC (.str "asking")))) (rTru g.K (rOp (kIx g.K) (rVar 2) (rC (.int 0)))))
  (rAsg (rC (.str "in")) (rGSub (rVar 0) (rC (.int 1)) kSet))
  rNext)
  (rSeq (rIfS (rOr (rTest (rOp (kEq g.K) (rOp (kIx g.K) (rVar 0) (rC (.int 1))) (rVar 6))) (rTest (rOp (kNe g.K) (rOp (kIx g.K) (rVar 0) (rC (.int 1))) (rC (.str "in")))))
  (rRet (rVar 5))
  rNext)
  (rSeq (rIfS (rTest (rOp kIsN (rVar 4) (rC .non)))
  (rSeq (rAsg (rC (.str "in")) (rGSub (rVar 0) (rC (.int 0)) kSet))
  (rRet (rVar 5)))
  rNext)
  (rSeq (rAsg (rC (.bl true)) (rGSub (rVar 0) (rC (.int 2)) kSet))
  (rRet (rOp (kAdd g.K) (rVar 5) (rLst (rCons (rTup (rCons (rVar 4) (rCons (rTup (rCons (rC (.str "please")) rNil)) rNil))) rNil)))))))))))))
theorem e_law_due (g : G) (A : Around) : t_law_due g A = r_law_due g A := by kernel_rfl
def t_law (g : G) (A : Around) : TS := (tSeq (tAsg (tCallG g A "_law_box" E0 (tCons (tSl (kSl g.K) (tVar 0) tNoPart (tPart (tC (.int 3)))) tNil)) (gName 1))
  (tSeq (tAsg (tOp (kAdd g.K) (tC (.int 1)) (tCallG g A "_law_pick" E0 (tCons (tVar 1) (tCons (tC (.int 6)) tNil)))) (gName 2))
  (tSeq (tAsg (tCallG g A "_law_unlike" E0 (tCons (tVar 1) (tCons (tOp (kAdd g.K) (tVar 2) (tC (.int 1))) tNil))) (gName 3))
  (tSeq (tAsg (tSl (kSl g.K) (tVar 3) tNoPart (tPart (tVar 2))) (gName 4))
  (tSeq (tAsg (tOp (kIx g.K) (tVar 4) (tCallG g A "_law_pick" E0 (tCons (tVar 1) (tCons (tVar 2) tNil)))) (gName 5))
  (tSeq (tAsg (tIf (tTest (tOp kGt (tCallG g A "_law_pick" E0 (tCons (tVar 1) (tCons (tC (.int 4)) tNil))) (tC (.int 0)))) (tOp (kIx g.K) (tVar 3) (tVar 2)) (tC .non)) (gName 6))
  (tSeq (tAsg (tCallG g A "_law_plays" E0 (tCons (tVar 1) (tCons (tVar 2) tNil))) (gName 7))
  (tSeq (tAsg (tCB (kList g.K) (tCons (tVar 4) tNil)) (gName 8))
  (tSeq (tAsg (tMakeG g A "Member" E0 (tCons (tVar 5) (tCons (tMakeG g A "Puppet" E0 (tCons (tBM g.K "list" (rIndex g.K) (tVar 4) (tCons (tVar 5) tNil)) (tCons (tVar 2) (tCons (tVar 7) tNil)))) (tCons (tVar 8) (tCons (tVar 6) tNil))))) (gName 9))
  (tSeq (tDrop (tBM0 g.K "list" rClear (tVar 8)))
  (tSeq (tAsg (tLst (tCons (tC (.str "out")) (tCons (tC (.str "out")) (tCons (tC (.bl false)) tNil)))) (gName 10))
  (tSeq (tAsg (tLst (tCons (tC (.int 0)) tNil)) (gName 11))
  (tSeq (tFor (iSeq g.K (tSl (kSl g.K) (tVar 0) (tPart (tC (.int 3))) tNoPart)) (gName 12)
  (tSeq (tAsg (tCallG g A "_law_deeds" E0 (tCons (tVar 10) (tCons (tVar 4) (tCons (tVar 6) tNil)))) (gName 13))
  (tSeq (tAsg (tOp (kIx g.K) (tVar 13) (tOp kMod (tVar 12) (tCB (kLen g.K) (tCons (tVar 13) tNil)))) (gName 14))
  (tSeq (tAsg (tTup (tCons (tC (.bl true)) (tCons (tLst tNil) tNil))) (gName 15))
  (C8.tCut (tIfS (tTest (tOp (kNe g.K) (tOp (kIx g.K) (tVar 14) (tC (.int 0))) (tC (.str "yours"))))
  (tAsg (tCallG g A "_law_play" E0 (tCons (tVar 7) (tCons (tVar 11) tNil))) (gName 15))
  tNext)
  (tSeq (tAsg (tCallG g A "_law_done" E0 (tCons (tVar 9) (tCons (tVar 14) (tCons (tTup (tCons (tC (.str "key")) (tCons (tOp kMod (tVar 12) (tOp kPow (tC (.int 10)) (tC (.int 60)))) tNil))) tNil)))) (gName 16))
  (tSeq (tIfS (tNot (tTruG g.K (tCallG g A "_law_pairs" E0 (tCons (tVar 16) (tCons (tCallG g A "_law_due" E0 (tCons (tVar 10) (tCons (tVar 14) (tCons (tVar 15) (tCons (tVar 4) (tCons (tVar 6) tNil)))))) tNil)))))
  (tRet (tC (.bl false)))
  tNext)
  (tSeq (tIfS (tOr (tTest (tOp (kNe g.K) (tFld g.K (tVar 9) "state") (tOp (kIx g.K) (tVar 10) (tC (.int 0))))) (tTest (tOp (kNe g.K) (tFld g.K (tFld g.K (tVar 9) "inner") "state") (tOp (kIx g.K) (tVar 10) (tC (.int 1))))))
  (tRet (tC (.bl false)))
  tNext)
  (tIfS (tOr (tTest (tOp (kNe g.K) (tFld g.K (tVar 9) "me") (tVar 5))) (tOr (tTest (tOp (kNe g.K) (tFld g.K (tVar 9) "porter") (tVar 6))) (tTest (tOp (kNe g.K) (tMethG g A "unplayed" E0 (tFld g.K (tVar 9) "inner") tNil) (tCB (kMax g.K) (tCons (tC (.int 0)) (tCons (tOp kSub (tCB (kLen g.K) (tCons (tVar 7) tNil)) (tOp (kIx g.K) (tVar 11) (tC (.int 0)))) tNil)))))))
  (tRet (tC (.bl false)))
  tNext)))))))))
  (tRet (tC (.bl true))))))))))))))))
@[reducible] def rb_law_0 (g : G) (A : Around) : TS := (rSeq (rAsg (rCall g A "_law_deeds" E0 (rCons (rVar 10) (rCons (rVar 4) (rCons (rVar 6) rNil)))) (rName 13))
  (rSeq (rAsg (rOp (kIx g.K) (rVar 13) (rOp kMod (rVar 12) (rCB (kLen g.K) (rCons (rVar 13) rNil)))) (rName 14))
  (rSeq (rAsg (rTup (rCons (rC (.bl true)) (rCons (rLst rNil) rNil))) (rName 15))
  (rCut (rIfS (rTest (rOp (kNe g.K) (rOp (kIx g.K) (rVar 14) (rC (.int 0))) (rC (.str "yours"))))
  (rAsg (rCall g A "_law_play" E0 (rCons (rVar 7) (rCons (rVar 11) rNil))) (rName 15))
  rNext)
  (rSeq (rAsg (rCall g A "_law_done" E0 (rCons (rVar 9) (rCons (rVar 14) (rCons (rTup (rCons (rC (.str "key")) (rCons (rOp kMod (rVar 12) (rOp kPow (rC (.int 10)) (rC (.int 60)))) rNil))) rNil)))) (rName 16))
  (rSeq (rIfS (rNot (rTru g.K (rCall g A "_law_pairs" E0 (rCons (rVar 16) (rCons (rCall g A "_law_due" E0 (rCons (rVar 10) (rCons (rVar 14) (rCons (rVar 15) (rCons (rVar 4) (rCons (rVar 6) rNil)))))) rNil)))))
  (rRet (rC (.bl false)))
  rNext)
  (rSeq (rIfS (rOr (rTest (rOp (kNe g.K) (rFld g.K (rVar 9) "state") (rOp (kIx g.K) (rVar 10) (rC (.int 0))))) (rTest (rOp (kNe g.K) (rFld g.K (rFld g.K (rVar 9) "inner") "state") (rOp (kIx g.K) (rVar 10) (rC (.int 1))))))
  (rRet (rC (.bl false)))
  rNext)
  (rIfS (rOr (rTest (rOp (kNe g.K) (rFld g.K (rVar 9) "me") (rVar 5))) (rOr (rTest (rOp (kNe g.K) (rFld g.K (rVar 9) "porter") (rVar 6))) (rTest (rOp (kNe g.K) (rMeth g A "unplayed" E0 (rFld g.K (rVar 9) "inner") rNil) (rCB (kMax g.K) (rCons (rC (.int 0)) (rCons (rOp kSub (rCB (kLen g.K) (rCons (rVar 7) rNil)) (rOp (kIx g.K) (rVar 11) (rC (.int 0)))) rNil)))))))
  (rRet (rC (.bl false)))
  rNext))))))))
def r_law (g : G) (A : Around) : TS := (rSeq (rAsg (rCall g A "_law_box" E0 (rCons (rSl (kSl g.K) (rVar 0) rNoPart (rPart (rC (.int 3)))) rNil)) (rName 1))
  (rSeq (rAsg (rOp (kAdd g.K) (rC (.int 1)) (rCall g A "_law_pick" E0 (rCons (rVar 1) (rCons (rC (.int 6)) rNil)))) (rName 2))
  (rSeq (rAsg (rCall g A "_law_unlike" E0 (rCons (rVar 1) (rCons (rOp (kAdd g.K) (rVar 2) (rC (.int 1))) rNil))) (rName 3))
  (rSeq (rAsg (rSl (kSl g.K) (rVar 3) rNoPart (rPart (rVar 2))) (rName 4))
  (rSeq (rAsg (rOp (kIx g.K) (rVar 4) (rCall g A "_law_pick" E0 (rCons (rVar 1) (rCons (rVar 2) rNil)))) (rName 5))
  (rSeq (rAsg (rIf (rTest (rOp kGt (rCall g A "_law_pick" E0 (rCons (rVar 1) (rCons (rC (.int 4)) rNil))) (rC (.int 0)))) (rOp (kIx g.K) (rVar 3) (rVar 2)) (rC .non)) (rName 6))
  (rSeq (rAsg (rCall g A "_law_plays" E0 (rCons (rVar 1) (rCons (rVar 2) rNil))) (rName 7))
  (rSeq (rAsg (rCB (kList g.K) (rCons (rVar 4) rNil)) (rName 8))
  (rSeq (rAsg (rMake g A "Member" E0 (rCons (rVar 5) (rCons (rMake g A "Puppet" E0 (rCons (rBM g.K "list" (rIndex g.K) (rVar 4) (rCons (rVar 5) rNil)) (rCons (rVar 2) (rCons (rVar 7) rNil)))) (rCons (rVar 8) (rCons (rVar 6) rNil))))) (rName 9))
  (rSeq (rDrop (rBM0 g.K "list" rClear (rVar 8)))
  (rSeq (rAsg (rLst (rCons (rC (.str "out")) (rCons (rC (.str "out")) (rCons (rC (.bl false)) rNil)))) (rName 10))
  (rSeq (rAsg (rLst (rCons (rC (.int 0)) rNil)) (rName 11))
  (rSeq (rFor (rSeqI g.K (rSl (kSl g.K) (rVar 0) (rPart (rC (.int 3))) rNoPart)) (rName 12)
  (rb_law_0 g A))
  (rRet (rC (.bl true))))))))))))))))
theorem e_law (g : G) (A : Around) : t_law g A = r_law g A := by kernel_rfl
def t_Seat_init (g : G) (A : Around) : TS := (tSeq (sFld g.K (tVar 0) (tVar 1) "me")
  (tSeq (sFld g.K (tVar 0) (tC (.str "out")) "state")
  (sFld g.K (tVar 0) (tC (.bl false)) "sits")))
def r_Seat_init (g : G) (A : Around) : TS := (rSeq (rSFld g.K (rVar 0) (rVar 1) "me")
  (rSeq (rSFld g.K (rVar 0) (rC (.str "out")) "state")
  (rSFld g.K (rVar 0) (rC (.bl false)) "sits")))
theorem e_Seat_init (g : G) (A : Around) : t_Seat_init g A = r_Seat_init g A := by kernel_rfl
def t_Seat_ask (g : G) (A : Around) : TS := (tSeq (sFld g.K (tVar 0) (tC (.str "in")) "state")
  (tRet (tLst tNil)))
def r_Seat_ask (g : G) (A : Around) : TS := (rSeq (rSFld g.K (rVar 0) (rC (.str "in")) "state")
  (rRet (rLst rNil)))
theorem e_Seat_ask (g : G) (A : Around) : t_Seat_ask g A = r_Seat_ask g A := by kernel_rfl
def t_Seat_leave (g : G) (A : Around) : TS := (tSeq (sFld g.K (tVar 0) (tC (.str "out")) "state")
  (tRet (tLst tNil)))
def r_Seat_leave (g : G) (A : Around) : TS := (rSeq (rSFld g.K (rVar 0) (rC (.str "out")) "state")
  (rRet (rLst rNil)))
theorem e_Seat_leave (g : G) (A : Around) : t_Seat_leave g A = r_Seat_leave g A := by kernel_rfl
def t_Seat_hear (g : G) (A : Around) : TS := (tRet (tLst tNil))
def r_Seat_hear (g : G) (A : Around) : TS := (rRet (rLst rNil))
theorem e_Seat_hear (g : G) (A : Around) : t_Seat_hear g A = r_Seat_hear g A := by kernel_rfl
def t_Seat_gone (g : G) (A : Around) : TS := (tRet (tLst tNil))
def r_Seat_gone (g : G) (A : Around) : TS := (rRet (rLst rNil))
theorem e_Seat_gone (g : G) (A : Around) : t_Seat_gone g A = r_Seat_gone g A := by kernel_rfl
def t_Puppet_init (g : G) (A : Around) : TS := (tSeq (tDrop (tBaseG g A "Seat" "__init__" E0 (tCons (tVar 0) (tCons (tVar 1) tNil))))
  (tSeq (tFor (iEnumG g.K (tCons (tVar 3) tNil)) (gTup g.K 2 (gCons (gName 4) (gCons (gName 5) gNil)))
  (tIfS (tNot (tTruG g.K (tCallG g A "is_play" E0 (tCons (tVar 5) (tCons (tVar 2) tNil)))))
  tNever
  tNext))
  (sFld g.K (tVar 0) (tLc (iSeq g.K (tVar 3)) (gTup g.K 2 (gCons (gName 6) (gCons (gName 7) gNil))) tYes (tTup (tCons (tVar 6) (tCons (tCB (kList g.K) (tCons (tVar 7) tNil)) tNil))) [6, 7]) "plays")))
@[reducible] def rb_Puppet_init_0 (g : G) (A : Around) : TS := (rIfS (rNot (rTru g.K (rCall g A "is_play" E0 (rCons (rVar 5) (rCons (rVar 2) rNil)))))
  tNever
  rNext)
def r_Puppet_init (g : G) (A : Around) : TS := (rSeq (rDrop (rBase g A "Seat" "__init__" E0 (rCons (rVar 0) (rCons (rVar 1) rNil))))
  (rSeq (rFor (rEnum g.K (rCons (rVar 3) rNil)) (rGTup g.K 2 (rGCons (rName 4) (rGCons (rName 5) rGNil)))
  (rb_Puppet_init_0 g A))
  (rSFld g.K (rVar 0) (rLc (rSeqI g.K (rVar 3)) (rGTup g.K 2 (rGCons (rName 6) (rGCons (rName 7) rGNil))) rYes (rTup (rCons (rVar 6) (rCons (rCB (kList g.K) (rCons (rVar 7) rNil)) rNil))) [6, 7]) "plays")))
theorem e_Puppet_init (g : G) (A : Around) : t_Puppet_init g A = r_Puppet_init g A := by kernel_rfl
def t_Puppet_unplayed (g : G) (A : Around) : TS := (tRet (tCB (kLen g.K) (tCons (tFld g.K (tVar 0) "plays") tNil)))
def r_Puppet_unplayed (g : G) (A : Around) : TS := (rRet (rCB (kLen g.K) (rCons (rFld g.K (rVar 0) "plays") rNil)))
theorem e_Puppet_unplayed (g : G) (A : Around) : t_Puppet_unplayed g A = r_Puppet_unplayed g A := by kernel_rfl
def t_Puppet_play (g : G) (A : Around) : TS := (tSeq (tIfS (tTest (tOp (kEq g.K) (tFld g.K (tVar 0) "plays") (tLst tNil)))
  (tRet (tTup (tCons (tC (.bl true)) (tCons (tLst tNil) tNil))))
  tNext)
  (tSeq (tAsg (tFld g.K (tVar 0) "plays") (gStar g.K 2 1 (gCons (gName 1) (gCons (gName 2) gNil))))
  (tSeq (sFld g.K (tVar 0) (tVar 2) "plays")
  (tRet (tVar 1)))))
def r_Puppet_play (g : G) (A : Around) : TS := (rSeq (rIfS (rTest (rOp (kEq g.K) (rFld g.K (rVar 0) "plays") (rLst rNil)))
  (rRet (rTup (rCons (rC (.bl true)) (rCons (rLst rNil) rNil))))
  rNext)
  (rSeq (rAsg (rFld g.K (rVar 0) "plays") (rGStar g.K 2 1 (rGCons (rName 1) (rGCons (rName 2) rGNil))))
  (rSeq (rSFld g.K (rVar 0) (rVar 2) "plays")
  (rRet (rVar 1)))))
theorem e_Puppet_play (g : G) (A : Around) : t_Puppet_play g A = r_Puppet_play g A := by kernel_rfl
def t_Puppet_ask (g : G) (A : Around) : TS := (tSeq (tAsg (tMethG g A "play" E0 (tVar 0) tNil) (gTup g.K 2 (gCons (gName 1) (gCons (gName 2) gNil))))
  (tSeq (sFld g.K (tVar 0) (tIf (tTruG g.K (tVar 1)) (tC (.str "in")) (tC (.str "asking"))) "state")
  (tRet (tVar 2))))
def r_Puppet_ask (g : G) (A : Around) : TS := (rSeq (rAsg (rMeth g A "play" E0 (rVar 0) rNil) (rGTup g.K 2 (rGCons (rName 1) (rGCons (rName 2) rGNil))))
  (rSeq (rSFld g.K (rVar 0) (rIf (rTru g.K (rVar 1)) (rC (.str "in")) (rC (.str "asking"))) "state")
  (rRet (rVar 2))))
theorem e_Puppet_ask (g : G) (A : Around) : t_Puppet_ask g A = r_Puppet_ask g A := by kernel_rfl
def t_Puppet_leave (g : G) (A : Around) : TS := (tSeq (tAsg (tMethG g A "play" E0 (tVar 0) tNil) (gTup g.K 2 (gCons (gName 1) (gCons (gName 2) gNil))))
  (tSeq (sFld g.K (tVar 0) (tC (.str "out")) "state")
  (tRet (tVar 2))))
def r_Puppet_leave (g : G) (A : Around) : TS := (rSeq (rAsg (rMeth g A "play" E0 (rVar 0) rNil) (rGTup g.K 2 (rGCons (rName 1) (rGCons (rName 2) rGNil))))
  (rSeq (rSFld g.K (rVar 0) (rC (.str "out")) "state")
  (rRet (rVar 2))))
theorem e_Puppet_leave (g : G) (A : Around) : t_Puppet_leave g A = r_Puppet_leave g A := by kernel_rfl
def t_Puppet_hear (g : G) (A : Around) : TS := (tSeq (tAsg (tMethG g A "play" E0 (tVar 0) tNil) (gTup g.K 2 (gCons (gName 3) (gCons (gName 4) gNil))))
  (C8.tCut (tIfS (tAnd (tTruG g.K (tVar 3)) (tTest (tOp (kEq g.K) (tFld g.K (tVar 0) "state") (tC (.str "asking")))))
  (sFld g.K (tVar 0) (tC (.str "in")) "state")
  tNext)
  (tRet (tVar 4))))
def r_Puppet_hear (g : G) (A : Around) : TS := (rSeq (rAsg (rMeth g A "play" E0 (rVar 0) rNil) (rGTup g.K 2 (rGCons (rName 3) (rGCons (rName 4) rGNil))))
  (rCut (rIfS (rAnd (rTru g.K (rVar 3)) (rTest (rOp (kEq g.K) (rFld g.K (rVar 0) "state") (rC (.str "asking")))))
  (rSFld g.K (rVar 0) (rC (.str "in")) "state")
  rNext)
  (rRet (rVar 4))))
theorem e_Puppet_hear (g : G) (A : Around) : t_Puppet_hear g A = r_Puppet_hear g A := by kernel_rfl
def t_Puppet_gone (g : G) (A : Around) : TS := (tRet (tMethG g A "hear" E0 (tVar 0) (tCons (tVar 1) (tCons (tC .non) tNil))))
def r_Puppet_gone (g : G) (A : Around) : TS := (rRet (rMeth g A "hear" E0 (rVar 0) (rCons (rVar 1) (rCons (rC .non) rNil))))
theorem e_Puppet_gone (g : G) (A : Around) : t_Puppet_gone g A = r_Puppet_gone g A := by kernel_rfl
def t_Link_init (g : G) (A : Around) : TS := (tSeq (tDrop (tBaseG g A "Seat" "__init__" E0 (tCons (tVar 0) (tCons (tVar 1) tNil))))
  (tSeq (sFld g.K (tVar 0) (tVar 2) "inner")
  (tSeq (sFld g.K (tVar 0) (tCB (kTupleG g.K) (tCons (tVar 3) tNil)) "mates")
  (tSeq (sFld g.K (tVar 0) (tVar 4) "porter")
  (sFld g.K (tVar 0) (tC (.bl false)) "passed_on")))))
def r_Link_init (g : G) (A : Around) : TS := (rSeq (rDrop (rBase g A "Seat" "__init__" E0 (rCons (rVar 0) (rCons (rVar 1) rNil))))
  (rSeq (rSFld g.K (rVar 0) (rVar 2) "inner")
  (rSeq (rSFld g.K (rVar 0) (rCB (kTupleG g.K) (rCons (rVar 3) rNil)) "mates")
  (rSeq (rSFld g.K (rVar 0) (rVar 4) "porter")
  (rSFld g.K (rVar 0) (rC (.bl false)) "passed_on")))))
theorem e_Link_init (g : G) (A : Around) : t_Link_init g A = r_Link_init g A := by kernel_rfl
def t_Link_outward (g : G) (A : Around) : TS := (tRet (tLc (iSeq g.K (tVar 1)) (gTup g.K 2 (gCons (gName 2) (gCons (gName 3) gNil))) tYes (tTup (tCons (tOp (kIx g.K) (tFld g.K (tVar 0) "mates") (tVar 2)) (tCons (tVar 3) tNil))) [2, 3]))
def r_Link_outward (g : G) (A : Around) : TS := (rRet (rLc (rSeqI g.K (rVar 1)) (rGTup g.K 2 (rGCons (rName 2) (rGCons (rName 3) rGNil))) rYes (rTup (rCons (rOp (kIx g.K) (rFld g.K (rVar 0) "mates") (rVar 2)) (rCons (rVar 3) rNil))) [2, 3]))
theorem e_Link_outward (g : G) (A : Around) : t_Link_outward g A = r_Link_outward g A := by kernel_rfl
def t_Link_inward (g : G) (A : Around) : TS := (tRet (tMethG g A "onward" E0 (tVar 0) (tCons (tMethG g A "hear" E0 (tFld g.K (tVar 0) "inner") (tCons (tBMT (kTIndex g.K) (tFld g.K (tVar 0) "mates") (tCons (tVar 1) tNil)) (tCons (tVar 2) tNil))) tNil)))
def r_Link_inward (g : G) (A : Around) : TS := (rRet (rMeth g A "onward" E0 (rVar 0) (rCons (rMeth g A "hear" E0 (rFld g.K (rVar 0) "inner") (rCons (rBMT (kTIndex g.K) (rFld g.K (rVar 0) "mates") (rCons (rVar 1) rNil)) (rCons (rVar 2) rNil))) rNil)))
theorem e_Link_inward (g : G) (A : Around) : t_Link_inward g A = r_Link_inward g A := by kernel_rfl
def t_Link_onward (g : G) (A : Around) : TS := (tSeq (tAsg (tMethG g A "outward" E0 (tVar 0) (tCons (tVar 1) tNil)) (gName 2))
  (C8.tCut (tIfS (tAnd (tTest (tOp (kEq g.K) (tFld g.K (tFld g.K (tVar 0) "inner") "state") (tC (.str "in")))) (tNot (tTruG g.K (tFld g.K (tVar 0) "passed_on"))))
  (tSeq (sFld g.K (tVar 0) (tC (.bl true)) "passed_on")
  (tDrop (tBM g.K "list" rExtend (tVar 2) (tCons (tMethG g A "risen" E0 (tVar 0) tNil) tNil))))
  tNext)
  (tRet (tVar 2))))
def r_Link_onward (g : G) (A : Around) : TS := (rSeq (rAsg (rMeth g A "outward" E0 (rVar 0) (rCons (rVar 1) rNil)) (rName 2))
  (rCut (rIfS (rAnd (rTest (rOp (kEq g.K) (rFld g.K (rFld g.K (rVar 0) "inner") "state") (rC (.str "in")))) (rNot (rTru g.K (rFld g.K (rVar 0) "passed_on"))))
  (rSeq (rSFld g.K (rVar 0) (rC (.bl true)) "passed_on")
  (rDrop (rBM g.K "list" rExtend (rVar 2) (rCons (rMeth g A "risen" E0 (rVar 0) rNil) rNil))))
  rNext)
  (rRet (rVar 2))))
theorem e_Link_onward (g : G) (A : Around) : t_Link_onward g A = r_Link_onward g A := by kernel_rfl
def t_Link_risen (g : G) (A : Around) : TS := (tSeq (tIfS (tTest (tOp kIsN (tFld g.K (tVar 0) "porter") (tC .non)))
  (tRet (tMethG g A "granted" E0 (tVar 0) tNil))
  tNext)
  (tRet (tLst (tCons (tTup (tCons (tFld g.K (tVar 0) "porter") (tCons (tTup (tCons (tC (.str "please")) tNil)) tNil))) tNil))))
def r_Link_risen (g : G) (A : Around) : TS := (rSeq (rIfS (rTest (rOp kIsN (rFld g.K (rVar 0) "porter") (rC .non)))
  (rRet (rMeth g A "granted" E0 (rVar 0) rNil))
  rNext)
  (rRet (rLst (rCons (rTup (rCons (rFld g.K (rVar 0) "porter") (rCons (rTup (rCons (rC (.str "please")) rNil)) rNil))) rNil))))
theorem e_Link_risen (g : G) (A : Around) : t_Link_risen g A = r_Link_risen g A := by kernel_rfl
def t_Link_granted (g : G) (A : Around) : TS := (tRet (tLst tNil))
def r_Link_granted (g : G) (A : Around) : TS := (rRet (rLst rNil))
theorem e_Link_granted (g : G) (A : Around) : t_Link_granted g A = r_Link_granted g A := by kernel_rfl
def t_Link_let_go (g : G) (A : Around) : TS := (tSeq (sFld g.K (tVar 0) (tC (.bl false)) "passed_on")
  (tSeq (tAsg (tLst tNil) (gName 1))
  (C8.tCut (tIfS (tTest (tOp kNotN (tFld g.K (tVar 0) "porter") (tC .non)))
  (tDrop (tBM g.K "list" rAppend (tVar 1) (tCons (tTup (tCons (tFld g.K (tVar 0) "porter") (tCons (tTup (tCons (tC (.str "done")) tNil)) tNil))) tNil)))
  tNext)
  (tSeq (tDrop (tBM g.K "list" rExtend (tVar 1) (tCons (tMethG g A "outward" E0 (tVar 0) (tCons (tMethG g A "leave" E0 (tFld g.K (tVar 0) "inner") tNil) tNil)) tNil)))
  (tRet (tVar 1))))))
def r_Link_let_go (g : G) (A : Around) : TS := (rSeq (rSFld g.K (rVar 0) (rC (.bl false)) "passed_on")
  (rSeq (rAsg (rLst rNil) (rName 1))
  (rCut (rIfS (rTest (rOp kNotN (rFld g.K (rVar 0) "porter") (rC .non)))
  (rDrop (rBM g.K "list" rAppend (rVar 1) (rCons (rTup (rCons (rFld g.K (rVar 0) "porter") (rCons (rTup (rCons (rC (.str "done")) rNil)) rNil))) rNil)))
  rNext)
  (rSeq (rDrop (rBM g.K "list" rExtend (rVar 1) (rCons (rMeth g A "outward" E0 (rVar 0) (rCons (rMeth g A "leave" E0 (rFld g.K (rVar 0) "inner") rNil) rNil)) rNil)))
  (rRet (rVar 1))))))
theorem e_Link_let_go (g : G) (A : Around) : t_Link_let_go g A = r_Link_let_go g A := by kernel_rfl
def t_Member_ask (g : G) (A : Around) : TS := (tSeq (sFld g.K (tVar 0) (tC (.str "asking")) "state")
  (tRet (tMethG g A "onward" E0 (tVar 0) (tCons (tMethG g A "ask" E0 (tFld g.K (tVar 0) "inner") tNil) tNil))))
def r_Member_ask (g : G) (A : Around) : TS := (rSeq (rSFld g.K (rVar 0) (rC (.str "asking")) "state")
  (rRet (rMeth g A "onward" E0 (rVar 0) (rCons (rMeth g A "ask" E0 (rFld g.K (rVar 0) "inner") rNil) rNil))))
theorem e_Member_ask (g : G) (A : Around) : t_Member_ask g A = r_Member_ask g A := by kernel_rfl
def t_Member_leave (g : G) (A : Around) : TS := (tSeq (sFld g.K (tVar 0) (tC (.str "out")) "state")
  (tRet (tMethG g A "let_go" E0 (tVar 0) tNil)))
def r_Member_leave (g : G) (A : Around) : TS := (rSeq (rSFld g.K (rVar 0) (rC (.str "out")) "state")
  (rRet (rMeth g A "let_go" E0 (rVar 0) rNil)))
theorem e_Member_leave (g : G) (A : Around) : t_Member_leave g A = r_Member_leave g A := by kernel_rfl
def t_Member_granted (g : G) (A : Around) : TS := (tSeq (sFld g.K (tVar 0) (tC (.str "in")) "state")
  (tRet (tLst tNil)))
def r_Member_granted (g : G) (A : Around) : TS := (rSeq (rSFld g.K (rVar 0) (rC (.str "in")) "state")
  (rRet (rLst rNil)))
theorem e_Member_granted (g : G) (A : Around) : t_Member_granted g A = r_Member_granted g A := by kernel_rfl
def t_Member_hear (g : G) (A : Around) : TS := (tSeq (tIfS (tTest (tOp (kEq g.K) (tVar 1) (tFld g.K (tVar 0) "porter")))
  (tRet (tMethG g A "granted" E0 (tVar 0) tNil))
  tNext)
  (tRet (tMethG g A "inward" E0 (tVar 0) (tCons (tVar 1) (tCons (tVar 2) tNil)))))
def r_Member_hear (g : G) (A : Around) : TS := (rSeq (rIfS (rTest (rOp (kEq g.K) (rVar 1) (rFld g.K (rVar 0) "porter")))
  (rRet (rMeth g A "granted" E0 (rVar 0) rNil))
  rNext)
  (rRet (rMeth g A "inward" E0 (rVar 0) (rCons (rVar 1) (rCons (rVar 2) rNil)))))
theorem e_Member_hear (g : G) (A : Around) : t_Member_hear g A = r_Member_hear g A := by kernel_rfl
def t_law_deeds_k87 (g : G) (A : Around) : TS := (tSeq (tAsg (tLc (iSeq g.K (tVar 1)) (gName 5) tYes (tTup (tCons (tVar 5) (tCons (tC (.str "letter")) tNil))) [5]) (gName 4))
  (C8.tCut (tIfS (tOr (tTest (tOp kIsN (tOp (kIx g.K) (tVar 0) (tC (.int 0))) (tC .non))) (tAnd (tTruG g.K (tOp (kIx g.K) (tVar 0) (tC (.int 4)))) (tTest (tOp kIsN (tOp (kIx g.K) (tVar 0) (tC (.int 1))) (tC .non)))))
  (tDrop (tBM g.K "list" rExtend (tVar 4) (tCons (tLc (iSeq g.K (tVar 2)) (gName 5) (tTest (tOp (kNe g.K) (tVar 5) (tOp (kIx g.K) (tVar 0) (tC (.int 0))))) (tTup (tCons (tVar 5) (tCons (tC (.str "please")) tNil))) [5]) tNil)))
  tNext)
  (C8.tCut (tIfS (tTruG g.K (tOp (kIx g.K) (tVar 0) (tC (.int 3))))
  (tDrop (tBM g.K "list" rExtend (tVar 4) (tCons (tOp kMul (tLst (tCons (tTup (tCons (tVar 3) (tCons (tC (.str "yours")) tNil))) tNil)) (tCB (kLen g.K) (tCons (tVar 1) tNil))) tNil)))
  tNext)
  (C8.tCut (tIfS (tTruG g.K (tOp (kIx g.K) (tVar 0) (tC (.int 4))))
  (tDrop (tBM g.K "list" rExtend (tVar 4) (tCons (tOp kMul (tLst (tCons (tTup (tCons (tOp (kIx g.K) (tVar 0) (tC (.int 0))) (tCons (tC (.str "done")) tNil))) tNil)) (tCB (kLen g.K) (tCons (tVar 1) tNil))) tNil)))
  tNext)
  (tRet (tVar 4))))))
def r_law_deeds_k87 (g : G) (A : Around) : TS := (rSeq (rAsg (rLc (rSeqI g.K (rVar 1)) (rName 5) rYes (rTup (rCons (rVar 5) (rCons (rC (.str "letter")) rNil))) [5]) (rName 4))
  (rCut (rIfS (rOr (rTest (rOp kIsN (rOp (kIx g.K) (rVar 0) (rC (.int 0))) (rC .non))) (rAnd (rTru g.K (rOp (kIx g.K) (rVar 0) (rC (.int 4)))) (rTest (rOp kIsN (rOp (kIx g.K) (rVar 0) (rC (.int 1))) (rC .non)))))
  (rDrop (rBM g.K "list" rExtend (rVar 4) (rCons (rLc (rSeqI g.K (rVar 2)) (rName 5) (rTest (rOp (kNe g.K) (rVar 5) (rOp (kIx g.K) (rVar 0) (rC (.int 0))))) (rTup (rCons (rVar 5) (rCons (rC (.str "please")) rNil))) [5]) rNil)))
  rNext)
  (rCut (rIfS (rTru g.K (rOp (kIx g.K) (rVar 0) (rC (.int 3))))
  (rDrop (rBM g.K "list" rExtend (rVar 4) (rCons (rOp kMul (rLst (rCons (rTup (rCons (rVar 3) (rCons (rC (.str "yours")) rNil))) rNil)) (rCB (kLen g.K) (rCons (rVar 1) rNil))) rNil)))
  rNext)
  (rCut (rIfS (rTru g.K (rOp (kIx g.K) (rVar 0) (rC (.int 4))))
  (rDrop (rBM g.K "list" rExtend (rVar 4) (rCons (rOp kMul (rLst (rCons (rTup (rCons (rOp (kIx g.K) (rVar 0) (rC (.int 0))) (rCons (rC (.str "done")) rNil))) rNil)) (rCB (kLen g.K) (rCons (rVar 1) rNil))) rNil)))
  rNext)
  (rRet (rVar 4))))))
theorem e_law_deeds_k87 (g : G) (A : Around) : t_law_deeds_k87 g A = r_law_deeds_k87 g A := by kernel_rfl
def t_law_risen (g : G) (A : Around) : TS := (tSeq (tIfS (tTest (tOp kNotN (tVar 1) (tC .non)))
  (tSeq (tAsg (tC (.bl true)) (gSub (tVar 0) (tC (.int 3)) kSet))
  (tRet (tLst (tCons (tTup (tCons (tVar 1) (tCons (tTup (tCons (tC (.str "please")) tNil)) tNil))) tNil))))
  tNext)
  (tSeq (tAsg (tC (.bl true)) (gSub (tVar 0) (tC (.int 4)) kSet))
  (tRet (tLst (tCons (tTup (tCons (tOp (kIx g.K) (tVar 0) (tC (.int 0))) (tCons (tTup (tCons (tC (.str "yours")) tNil)) tNil))) tNil)))))
def r_law_risen (g : G) (A : Around) : TS := (rSeq (rIfS (rTest (rOp kNotN (rVar 1) (rC .non)))
  (rSeq (rAsg (rC (.bl true)) (rGSub (rVar 0) (rC (.int 3)) kSet))
  (rRet (rLst (rCons (rTup (rCons (rVar 1) (rCons (rTup (rCons (rC (.str "please")) rNil)) rNil))) rNil))))
  rNext)
  (rSeq (rAsg (rC (.bl true)) (rGSub (rVar 0) (rC (.int 4)) kSet))
  (rRet (rLst (rCons (rTup (rCons (rOp (kIx g.K) (rVar 0) (rC (.int 0))) (rCons (rTup (rCons (rC (.str "yours")) rNil)) rNil))) rNil)))))
theorem e_law_risen (g : G) (A : Around) : t_law_risen g A = r_law_risen g A := by kernel_rfl
def t_law_asked (g : G) (A : Around) : TS := (tSeq (tAsg (tC (.str "asking")) (gSub (tVar 0) (tC (.int 2)) kSet))
  (tSeq (tIfS (tNot (tTruG g.K (tOp (kIx g.K) (tVar 1) (tC (.int 0)))))
  (tRet (tVar 2))
  tNext)
  (tSeq (tAsg (tC (.str "in")) (gSub (tVar 0) (tC (.int 2)) kSet))
  (tRet (tOp (kAdd g.K) (tVar 2) (tCallG g A "_law_risen" E0 (tCons (tVar 0) (tCons (tVar 3) tNil))))))))
def r_law_asked (g : G) (A : Around) : TS := (rSeq (rAsg (rC (.str "asking")) (rGSub (rVar 0) (rC (.int 2)) kSet))
  (rSeq (rIfS (rNot (rTru g.K (rOp (kIx g.K) (rVar 1) (rC (.int 0)))))
  (rRet (rVar 2))
  rNext)
  (rSeq (rAsg (rC (.str "in")) (rGSub (rVar 0) (rC (.int 2)) kSet))
  (rRet (rOp (kAdd g.K) (rVar 2) (rCall g A "_law_risen" E0 (rCons (rVar 0) (rCons (rVar 3) rNil))))))))
theorem e_law_asked (g : G) (A : Around) : t_law_asked g A = r_law_asked g A := by kernel_rfl
def t_law_due_k87 (g : G) (A : Around) : TS := (tSeq (tIfS (tTest (tOp (kEq g.K) (tOp (kIx g.K) (tVar 1) (tC (.int 1))) (tC (.str "yours"))))
  (tSeq (tAsg (tC (.bl false)) (gSub (tVar 0) (tC (.int 3)) kSet))
  (tSeq (tAsg (tC (.bl true)) (gSub (tVar 0) (tC (.int 4)) kSet))
  (tRet (tLst (tCons (tTup (tCons (tOp (kIx g.K) (tVar 0) (tC (.int 0))) (tCons (tTup (tCons (tC (.str "yours")) tNil)) tNil))) tNil)))))
  tNext)
  (tSeq (tIfS (tAnd (tTest (tOp (kEq g.K) (tOp (kIx g.K) (tVar 1) (tC (.int 1))) (tC (.str "please")))) (tTest (tOp kNotN (tOp (kIx g.K) (tVar 0) (tC (.int 0))) (tC .non))))
  (tSeq (tAsg (tOp (kIx g.K) (tVar 1) (tC (.int 0))) (gSub (tVar 0) (tC (.int 1)) kSet))
  (tRet (tLst tNil)))
  tNext)
  (tSeq (tAsg (tCallG g A "_law_play" E0 (tCons (tOp (kIx g.K) (tVar 2) (tC (.int 0))) (tCons (tOp (kIx g.K) (tVar 2) (tC (.int 1))) tNil))) (gName 5))
  (tSeq (tAsg (tLc (iSeq g.K (tOp (kIx g.K) (tVar 5) (tC (.int 1)))) (gTup g.K 2 (gCons (gName 7) (gCons (gName 8) gNil))) tYes (tTup (tCons (tOp (kIx g.K) (tVar 3) (tVar 7)) (tCons (tVar 8) tNil))) [7, 8]) (gName 6))
  (tSeq (tIfS (tTest (tOp (kEq g.K) (tOp (kIx g.K) (tVar 1) (tC (.int 1))) (tC (.str "please"))))
  (tSeq (tAsg (tOp (kIx g.K) (tVar 1) (tC (.int 0))) (gSub (tVar 0) (tC (.int 0)) kSet))
  (tRet (tCallG g A "_law_asked" E0 (tCons (tVar 0) (tCons (tVar 5) (tCons (tVar 6) (tCons (tVar 4) tNil)))))))
  tNext)
  (tSeq (tIfS (tTest (tOp (kEq g.K) (tOp (kIx g.K) (tVar 1) (tC (.int 1))) (tC (.str "letter"))))
  (tSeq (tIfS (tOr (tTest (tOp (kNe g.K) (tOp (kIx g.K) (tVar 0) (tC (.int 2))) (tC (.str "asking")))) (tNot (tTruG g.K (tOp (kIx g.K) (tVar 5) (tC (.int 0))))))
  (tRet (tVar 6))
  tNext)
  (tSeq (tAsg (tC (.str "in")) (gSub (tVar 0) (tC (.int 2)) kSet))
  (tRet (tOp (kAdd g.K) (tVar 6) (tCallG g A "_law_risen" E0 (tCons (tVar 0) (tCons (tVar 4) tNil)))))))
  tNext)
  (tSeq (tAsg (tC (.str "out")) (gSub (tVar 0) (tC (.int 2)) kSet))
  (tSeq (tAsg (tC (.bl false)) (gSub (tVar 0) (tC (.int 4)) kSet))
  (C8.tCut (tIfS (tTest (tOp kNotN (tVar 4) (tC .non)))
  (tAsg (tOp (kAdd g.K) (tLst (tCons (tTup (tCons (tVar 4) (tCons (tTup (tCons (tC (.str "done")) tNil)) tNil))) tNil)) (tVar 6)) (gName 6))
  tNext)
  (tSeq (tAsg (tOp (kIx g.K) (tVar 0) (tC (.int 1))) (gSub (tVar 0) (tC (.int 0)) kSet))
  (tSeq (tAsg (tC .non) (gSub (tVar 0) (tC (.int 1)) kSet))
  (tSeq (tIfS (tTest (tOp kIsN (tOp (kIx g.K) (tVar 0) (tC (.int 0))) (tC .non)))
  (tRet (tVar 6))
  tNext)
  (tSeq (tAsg (tCallG g A "_law_play" E0 (tCons (tOp (kIx g.K) (tVar 2) (tC (.int 0))) (tCons (tOp (kIx g.K) (tVar 2) (tC (.int 1))) tNil))) (gName 5))
  (tRet (tOp (kAdd g.K) (tVar 6) (tCallG g A "_law_asked" E0 (tCons (tVar 0) (tCons (tVar 5) (tCons (tLc (iSeq g.K (tOp (kIx g.K) (tVar 5) (tC (.int 1)))) (gTup g.K 2 (gCons (gName 7) (gCons (gName 8) gNil))) tYes (tTup (tCons (tOp (kIx g.K) (tVar 3) (tVar 7)) (tCons (tVar 8) tNil))) [7, 8]) (tCons (tVar 4) tNil))))))))))))))))))))
def r_law_due_k87 (g : G) (A : Around) : TS := (rSeq (rIfS (rTest (rOp (kEq g.K) (rOp (kIx g.K) (rVar 1) (rC (.int 1))) (rC (.str "yours"))))
  (rSeq (rAsg (rC (.bl false)) (rGSub (rVar 0) (rC (.int 3)) kSet))
  (rSeq (rAsg (rC (.bl true)) (rGSub (rVar 0) (rC (.int 4)) kSet))
  (rRet (rLst (rCons (rTup (rCons (rOp (kIx g.K) (rVar 0) (rC (.int 0))) (rCons (rTup (rCons (rC (.str "yours")) rNil)) rNil))) rNil)))))
  rNext)
  (rSeq (rIfS (rAnd (rTest (rOp (kEq g.K) (rOp (kIx g.K) (rVar 1) (rC (.int 1))) (rC (.str "please")))) (rTest (rOp kNotN (rOp (kIx g.K) (rVar 0) (rC (.int 0))) (rC .non))))
  (rSeq (rAsg (rOp (kIx g.K) (rVar 1) (rC (.int 0))) (rGSub (rVar 0) (rC (.int 1)) kSet))
  (rRet (rLst rNil)))
  rNext)
  (rSeq (rAsg (rCall g A "_law_play" E0 (rCons (rOp (kIx g.K) (rVar 2) (rC (.int 0))) (rCons (rOp (kIx g.K) (rVar 2) (rC (.int 1))) rNil))) (rName 5))
  (rSeq (rAsg (rLc (rSeqI g.K (rOp (kIx g.K) (rVar 5) (rC (.int 1)))) (rGTup g.K 2 (rGCons (rName 7) (rGCons (rName 8) rGNil))) rYes (rTup (rCons (rOp (kIx g.K) (rVar 3) (rVar 7)) (rCons (rVar 8) rNil))) [7, 8]) (rName 6))
  (rSeq (rIfS (rTest (rOp (kEq g.K) (rOp (kIx g.K) (rVar 1) (rC (.int 1))) (rC (.str "please"))))
  (rSeq (rAsg (rOp (kIx g.K) (rVar 1) (rC (.int 0))) (rGSub (rVar 0) (rC (.int 0)) kSet))
  (rRet (rCall g A "_law_asked" E0 (rCons (rVar 0) (rCons (rVar 5) (rCons (rVar 6) (rCons (rVar 4) rNil)))))))
  rNext)
  (rSeq (rIfS (rTest (rOp (kEq g.K) (rOp (kIx g.K) (rVar 1) (rC (.int 1))) (rC (.str "letter"))))
  (rSeq (rIfS (rOr (rTest (rOp (kNe g.K) (rOp (kIx g.K) (rVar 0) (rC (.int 2))) (rC (.str "asking")))) (rNot (rTru g.K (rOp (kIx g.K) (rVar 5) (rC (.int 0))))))
  (rRet (rVar 6))
  rNext)
  (rSeq (rAsg (rC (.str "in")) (rGSub (rVar 0) (rC (.int 2)) kSet))
  (rRet (rOp (kAdd g.K) (rVar 6) (rCall g A "_law_risen" E0 (rCons (rVar 0) (rCons (rVar 4) rNil)))))))
  rNext)
  (rSeq (rAsg (rC (.str "out")) (rGSub (rVar 0) (rC (.int 2)) kSet))
  (rSeq (rAsg (rC (.bl false)) (rGSub (rVar 0) (rC (.int 4)) kSet))
  (rCut (rIfS (rTest (rOp kNotN (rVar 4) (rC .non)))
  (rAsg (rOp (kAdd g.K) (rLst (rCons (rTup (rCons (rVar 4) (rCons (rTup (rCons (rC (.str "done")) rNil)) rNil))) rNil)) (rVar 6)) (rName 6))
  rNext)
  (rSeq (rAsg (rOp (kIx g.K) (rVar 0) (rC (.int 1))) (rGSub (rVar 0) (rC (.int 0)) kSet))
  (rSeq (rAsg (rC .non) (rGSub (rVar 0) (rC (.int 1)) kSet))
  (rSeq (rIfS (rTest (rOp kIsN (rOp (kIx g.K) (rVar 0) (rC (.int 0))) (rC .non)))
  (rRet (rVar 6))
  rNext)
  (rSeq (rAsg (rCall g A "_law_play" E0 (rCons (rOp (kIx g.K) (rVar 2) (rC (.int 0))) (rCons (rOp (kIx g.K) (rVar 2) (rC (.int 1))) rNil))) (rName 5))
  (rRet (rOp (kAdd g.K) (rVar 6) (rCall g A "_law_asked" E0 (rCons (rVar 0) (rCons (rVar 5) (rCons (rLc (rSeqI g.K (rOp (kIx g.K) (rVar 5) (rC (.int 1)))) (rGTup g.K 2 (rGCons (rName 7) (rGCons (rName 8) rGNil))) rYes (rTup (rCons (rOp (kIx g.K) (rVar 3) (rVar 7)) (rCons (rVar 8) rNil))) [7, 8]) (rCons (rVar 4) rNil))))))))))))))))))))
theorem e_law_due_k87 (g : G) (A : Around) : t_law_due_k87 g A = r_law_due_k87 g A := by kernel_rfl
def t_law_k87 (g : G) (A : Around) : TS := (tSeq (tAsg (tCallG g A "_law_box" E0 (tCons (tSl (kSl g.K) (tVar 0) tNoPart (tPart (tC (.int 3)))) tNil)) (gName 1))
  (tSeq (tAsg (tOp (kAdd g.K) (tC (.int 1)) (tCallG g A "_law_pick" E0 (tCons (tVar 1) (tCons (tC (.int 6)) tNil)))) (gName 2))
  (tSeq (tAsg (tOp (kAdd g.K) (tC (.int 1)) (tCallG g A "_law_pick" E0 (tCons (tVar 1) (tCons (tC (.int 5)) tNil)))) (gName 3))
  (tSeq (tAsg (tCallG g A "_law_unlike" E0 (tCons (tVar 1) (tCons (tOp (kAdd g.K) (tOp (kAdd g.K) (tVar 2) (tVar 3)) (tC (.int 1))) tNil))) (gName 4))
  (tSeq (tAsg (tSl (kSl g.K) (tVar 4) tNoPart (tPart (tVar 2))) (gName 5))
  (tSeq (tAsg (tSl (kSl g.K) (tVar 4) (tPart (tVar 2)) (tPart (tOp (kAdd g.K) (tVar 2) (tVar 3)))) (gName 6))
  (tSeq (tAsg (tOp (kIx g.K) (tVar 5) (tCallG g A "_law_pick" E0 (tCons (tVar 1) (tCons (tVar 2) tNil)))) (gName 7))
  (tSeq (tAsg (tIf (tTest (tOp kGt (tCallG g A "_law_pick" E0 (tCons (tVar 1) (tCons (tC (.int 4)) tNil))) (tC (.int 0)))) (tOp (kIx g.K) (tVar 4) (tOp (kAdd g.K) (tVar 2) (tVar 3))) (tC .non)) (gName 8))
  (tSeq (tAsg (tLst (tCons (tCallG g A "_law_plays" E0 (tCons (tVar 1) (tCons (tVar 2) tNil))) (tCons (tLst (tCons (tC (.int 0)) tNil)) tNil))) (gName 9))
  (tSeq (tAsg (tCB (kList g.K) (tCons (tVar 5) tNil)) (gName 10))
  (tSeq (tAsg (tMakeG g A "Porter" E0 (tCons (tVar 7) (tCons (tMakeG g A "Puppet" E0 (tCons (tBM g.K "list" (rIndex g.K) (tVar 5) (tCons (tVar 7) tNil)) (tCons (tVar 2) (tCons (tOp (kIx g.K) (tVar 9) (tC (.int 0))) tNil)))) (tCons (tVar 10) (tCons (tVar 8) tNil))))) (gName 11))
  (tSeq (tDrop (tBM0 g.K "list" rClear (tVar 10)))
  (tSeq (tAsg (tLst (tCons (tC .non) (tCons (tC .non) (tCons (tC (.str "out")) (tCons (tC (.bl false)) (tCons (tC (.bl false)) tNil)))))) (gName 12))
  (tSeq (tFor (iSeq g.K (tSl (kSl g.K) (tVar 0) (tPart (tC (.int 3))) tNoPart)) (gName 13)
  (tSeq (tAsg (tCallG g A "_law_deeds" E0 (tCons (tVar 12) (tCons (tVar 5) (tCons (tVar 6) (tCons (tVar 8) tNil))))) (gName 14))
  (tSeq (tAsg (tOp (kIx g.K) (tVar 14) (tOp kMod (tVar 13) (tCB (kLen g.K) (tCons (tVar 14) tNil)))) (gName 15))
  (tSeq (tAsg (tIf (tTest (tOp (kEq g.K) (tOp (kIx g.K) (tVar 15) (tC (.int 1))) (tC (.str "letter")))) (tTup (tCons (tC (.str "key")) (tCons (tOp kMod (tVar 13) (tOp kPow (tC (.int 10)) (tC (.int 60)))) tNil))) (tTup (tCons (tOp (kIx g.K) (tVar 15) (tC (.int 1))) tNil))) (gName 16))
  (tSeq (tAsg (tCallG g A "_law_due" E0 (tCons (tVar 12) (tCons (tVar 15) (tCons (tVar 9) (tCons (tVar 5) (tCons (tVar 8) tNil)))))) (gName 17))
  (tSeq (tIfS (tNot (tTruG g.K (tCallG g A "_law_pairs" E0 (tCons (tMethG g A "hear" E0 (tVar 11) (tCons (tOp (kIx g.K) (tVar 15) (tC (.int 0))) (tCons (tVar 16) tNil))) (tCons (tVar 17) tNil)))))
  (tRet (tC (.bl false)))
  tNext)
  (tSeq (tIfS (tOr (tTest (tOp (kNe g.K) (tFld g.K (tVar 11) "serves") (tOp (kIx g.K) (tVar 12) (tC (.int 0))))) (tOr (tTest (tOp (kNe g.K) (tFld g.K (tFld g.K (tVar 11) "inner") "state") (tOp (kIx g.K) (tVar 12) (tC (.int 2))))) (tTest (tOp (kNe g.K) (tFld g.K (tVar 11) "state") (tC (.str "out"))))))
  (tRet (tC (.bl false)))
  tNext)
  (tIfS (tOr (tTest (tOp (kNe g.K) (tFld g.K (tVar 11) "me") (tVar 7))) (tTest (tOp (kNe g.K) (tFld g.K (tVar 11) "porter") (tVar 8))))
  (tRet (tC (.bl false)))
  tNext))))))))
  (tRet (tC (.bl true)))))))))))))))))
@[reducible] def rb_law_k87_0 (g : G) (A : Around) : TS := (rSeq (rAsg (rCall g A "_law_deeds" E0 (rCons (rVar 12) (rCons (rVar 5) (rCons (rVar 6) (rCons (rVar 8) rNil))))) (rName 14))
  (rSeq (rAsg (rOp (kIx g.K) (rVar 14) (rOp kMod (rVar 13) (rCB (kLen g.K) (rCons (rVar 14) rNil)))) (rName 15))
  (rSeq (rAsg (rIf (rTest (rOp (kEq g.K) (rOp (kIx g.K) (rVar 15) (rC (.int 1))) (rC (.str "letter")))) (rTup (rCons (rC (.str "key")) (rCons (rOp kMod (rVar 13) (rOp kPow (rC (.int 10)) (rC (.int 60)))) rNil))) (rTup (rCons (rOp (kIx g.K) (rVar 15) (rC (.int 1))) rNil))) (rName 16))
  (rSeq (rAsg (rCall g A "_law_due" E0 (rCons (rVar 12) (rCons (rVar 15) (rCons (rVar 9) (rCons (rVar 5) (rCons (rVar 8) rNil)))))) (rName 17))
  (rSeq (rIfS (rNot (rTru g.K (rCall g A "_law_pairs" E0 (rCons (rMeth g A "hear" E0 (rVar 11) (rCons (rOp (kIx g.K) (rVar 15) (rC (.int 0))) (rCons (rVar 16) rNil))) (rCons (rVar 17) rNil)))))
  (rRet (rC (.bl false)))
  rNext)
  (rSeq (rIfS (rOr (rTest (rOp (kNe g.K) (rFld g.K (rVar 11) "serves") (rOp (kIx g.K) (rVar 12) (rC (.int 0))))) (rOr (rTest (rOp (kNe g.K) (rFld g.K (rFld g.K (rVar 11) "inner") "state") (rOp (kIx g.K) (rVar 12) (rC (.int 2))))) (rTest (rOp (kNe g.K) (rFld g.K (rVar 11) "state") (rC (.str "out"))))))
  (rRet (rC (.bl false)))
  rNext)
  (rIfS (rOr (rTest (rOp (kNe g.K) (rFld g.K (rVar 11) "me") (rVar 7))) (rTest (rOp (kNe g.K) (rFld g.K (rVar 11) "porter") (rVar 8))))
  (rRet (rC (.bl false)))
  rNext)))))))
def r_law_k87 (g : G) (A : Around) : TS := (rSeq (rAsg (rCall g A "_law_box" E0 (rCons (rSl (kSl g.K) (rVar 0) rNoPart (rPart (rC (.int 3)))) rNil)) (rName 1))
  (rSeq (rAsg (rOp (kAdd g.K) (rC (.int 1)) (rCall g A "_law_pick" E0 (rCons (rVar 1) (rCons (rC (.int 6)) rNil)))) (rName 2))
  (rSeq (rAsg (rOp (kAdd g.K) (rC (.int 1)) (rCall g A "_law_pick" E0 (rCons (rVar 1) (rCons (rC (.int 5)) rNil)))) (rName 3))
  (rSeq (rAsg (rCall g A "_law_unlike" E0 (rCons (rVar 1) (rCons (rOp (kAdd g.K) (rOp (kAdd g.K) (rVar 2) (rVar 3)) (rC (.int 1))) rNil))) (rName 4))
  (rSeq (rAsg (rSl (kSl g.K) (rVar 4) rNoPart (rPart (rVar 2))) (rName 5))
  (rSeq (rAsg (rSl (kSl g.K) (rVar 4) (rPart (rVar 2)) (rPart (rOp (kAdd g.K) (rVar 2) (rVar 3)))) (rName 6))
  (rSeq (rAsg (rOp (kIx g.K) (rVar 5) (rCall g A "_law_pick" E0 (rCons (rVar 1) (rCons (rVar 2) rNil)))) (rName 7))
  (rSeq (rAsg (rIf (rTest (rOp kGt (rCall g A "_law_pick" E0 (rCons (rVar 1) (rCons (rC (.int 4)) rNil))) (rC (.int 0)))) (rOp (kIx g.K) (rVar 4) (rOp (kAdd g.K) (rVar 2) (rVar 3))) (rC .non)) (rName 8))
  (rSeq (rAsg (rLst (rCons (rCall g A "_law_plays" E0 (rCons (rVar 1) (rCons (rVar 2) rNil))) (rCons (rLst (rCons (rC (.int 0)) rNil)) rNil))) (rName 9))
  (rSeq (rAsg (rCB (kList g.K) (rCons (rVar 5) rNil)) (rName 10))
  (rSeq (rAsg (rMake g A "Porter" E0 (rCons (rVar 7) (rCons (rMake g A "Puppet" E0 (rCons (rBM g.K "list" (rIndex g.K) (rVar 5) (rCons (rVar 7) rNil)) (rCons (rVar 2) (rCons (rOp (kIx g.K) (rVar 9) (rC (.int 0))) rNil)))) (rCons (rVar 10) (rCons (rVar 8) rNil))))) (rName 11))
  (rSeq (rDrop (rBM0 g.K "list" rClear (rVar 10)))
  (rSeq (rAsg (rLst (rCons (rC .non) (rCons (rC .non) (rCons (rC (.str "out")) (rCons (rC (.bl false)) (rCons (rC (.bl false)) rNil)))))) (rName 12))
  (rSeq (rFor (rSeqI g.K (rSl (kSl g.K) (rVar 0) (rPart (rC (.int 3))) rNoPart)) (rName 13)
  (rb_law_k87_0 g A))
  (rRet (rC (.bl true)))))))))))))))))
theorem e_law_k87 (g : G) (A : Around) : t_law_k87 g A = r_law_k87 g A := by kernel_rfl
def t_Porter_init (g : G) (A : Around) : TS := (tSeq (tDrop (tBaseG g A "Link" "__init__" E0 (tCons (tVar 0) (tCons (tVar 1) (tCons (tVar 2) (tCons (tVar 3) (tCons (tVar 4) tNil)))))))
  (tSeq (sFld g.K (tVar 0) (tC .non) "serves")
  (sFld g.K (tVar 0) (tLst tNil) "pleas")))
def r_Porter_init (g : G) (A : Around) : TS := (rSeq (rDrop (rBase g A "Link" "__init__" E0 (rCons (rVar 0) (rCons (rVar 1) (rCons (rVar 2) (rCons (rVar 3) (rCons (rVar 4) rNil)))))))
  (rSeq (rSFld g.K (rVar 0) (rC .non) "serves")
  (rSFld g.K (rVar 0) (rLst rNil) "pleas")))
theorem e_Porter_init (g : G) (A : Around) : t_Porter_init g A = r_Porter_init g A := by kernel_rfl
def t_Porter_granted (g : G) (A : Around) : TS := (tRet (tLst (tCons (tTup (tCons (tFld g.K (tVar 0) "serves") (tCons (tTup (tCons (tC (.str "yours")) tNil)) tNil))) tNil)))
def r_Porter_granted (g : G) (A : Around) : TS := (rRet (rLst (rCons (rTup (rCons (rFld g.K (rVar 0) "serves") (rCons (rTup (rCons (rC (.str "yours")) rNil)) rNil))) rNil)))
theorem e_Porter_granted (g : G) (A : Around) : t_Porter_granted g A = r_Porter_granted g A := by kernel_rfl
def t_Porter_hear (g : G) (A : Around) : TS := (tSeq (tIfS (tTest (tOp (kEq g.K) (tVar 1) (tFld g.K (tVar 0) "porter")))
  (tRet (tMethG g A "granted" E0 (tVar 0) tNil))
  tNext)
  (tSeq (tIfS (tTest (tOp (kIn g.K) (tVar 1) (tFld g.K (tVar 0) "mates")))
  (tRet (tMethG g A "inward" E0 (tVar 0) (tCons (tVar 1) (tCons (tVar 2) tNil))))
  tNext)
  (tSeq (tIfS (tTest (tOp (kEq g.K) (tOp (kIx g.K) (tVar 2) (tC (.int 0))) (tC (.str "please"))))
  (tRet (tMethG g A "pleased" E0 (tVar 0) (tCons (tVar 1) tNil)))
  tNext)
  (tRet (tMethG g A "freed" E0 (tVar 0) tNil)))))
def r_Porter_hear (g : G) (A : Around) : TS := (rSeq (rIfS (rTest (rOp (kEq g.K) (rVar 1) (rFld g.K (rVar 0) "porter")))
  (rRet (rMeth g A "granted" E0 (rVar 0) rNil))
  rNext)
  (rSeq (rIfS (rTest (rOp (kIn g.K) (rVar 1) (rFld g.K (rVar 0) "mates")))
  (rRet (rMeth g A "inward" E0 (rVar 0) (rCons (rVar 1) (rCons (rVar 2) rNil))))
  rNext)
  (rSeq (rIfS (rTest (rOp (kEq g.K) (rOp (kIx g.K) (rVar 2) (rC (.int 0))) (rC (.str "please"))))
  (rRet (rMeth g A "pleased" E0 (rVar 0) (rCons (rVar 1) rNil)))
  rNext)
  (rRet (rMeth g A "freed" E0 (rVar 0) rNil)))))
theorem e_Porter_hear (g : G) (A : Around) : t_Porter_hear g A = r_Porter_hear g A := by kernel_rfl
def t_Porter_pleased (g : G) (A : Around) : TS := (tSeq (tIfS (tTest (tOp kNotN (tFld g.K (tVar 0) "serves") (tC .non)))
  (tSeq (tDrop (tBM g.K "list" rAppend (tFld g.K (tVar 0) "pleas") (tCons (tVar 1) tNil)))
  (tRet (tLst tNil)))
  tNext)
  (tSeq (sFld g.K (tVar 0) (tVar 1) "serves")
  (tRet (tMethG g A "onward" E0 (tVar 0) (tCons (tMethG g A "ask" E0 (tFld g.K (tVar 0) "inner") tNil) tNil)))))
def r_Porter_pleased (g : G) (A : Around) : TS := (rSeq (rIfS (rTest (rOp kNotN (rFld g.K (rVar 0) "serves") (rC .non)))
  (rSeq (rDrop (rBM g.K "list" rAppend (rFld g.K (rVar 0) "pleas") (rCons (rVar 1) rNil)))
  (rRet (rLst rNil)))
  rNext)
  (rSeq (rSFld g.K (rVar 0) (rVar 1) "serves")
  (rRet (rMeth g A "onward" E0 (rVar 0) (rCons (rMeth g A "ask" E0 (rFld g.K (rVar 0) "inner") rNil) rNil)))))
theorem e_Porter_pleased (g : G) (A : Around) : t_Porter_pleased g A = r_Porter_pleased g A := by kernel_rfl
def t_Porter_freed (g : G) (A : Around) : TS := (tSeq (tAsg (tMethG g A "let_go" E0 (tVar 0) tNil) (gName 1))
  (tSeq (sFld g.K (tVar 0) (tC .non) "serves")
  (C8.tCut (tIfS (tTruG g.K (tFld g.K (tVar 0) "pleas"))
  (tSeq (sFld g.K (tVar 0) (tBM g.K "list" rPopAt (tFld g.K (tVar 0) "pleas") (tCons (tC (.int 0)) tNil)) "serves")
  (tDrop (tBM g.K "list" rExtend (tVar 1) (tCons (tMethG g A "onward" E0 (tVar 0) (tCons (tMethG g A "ask" E0 (tFld g.K (tVar 0) "inner") tNil) tNil)) tNil))))
  tNext)
  (tRet (tVar 1)))))
def r_Porter_freed (g : G) (A : Around) : TS := (rSeq (rAsg (rMeth g A "let_go" E0 (rVar 0) rNil) (rName 1))
  (rSeq (rSFld g.K (rVar 0) (rC .non) "serves")
  (rCut (rIfS (rTru g.K (rFld g.K (rVar 0) "pleas"))
  (rSeq (rSFld g.K (rVar 0) (rBM g.K "list" rPopAt (rFld g.K (rVar 0) "pleas") (rCons (rC (.int 0)) rNil)) "serves")
  (rDrop (rBM g.K "list" rExtend (rVar 1) (rCons (rMeth g A "onward" E0 (rVar 0) (rCons (rMeth g A "ask" E0 (rFld g.K (rVar 0) "inner") rNil) rNil)) rNil))))
  rNext)
  (rRet (rVar 1)))))
theorem e_Porter_freed (g : G) (A : Around) : t_Porter_freed g A = r_Porter_freed g A := by kernel_rfl
local macro_rules | `(tactic| walk_at "mem") => `(tactic| first
  | with_reducible assumption
  | with_reducible exact List.mem_cons_self
  | with_reducible exact List.mem_cons_of_mem _ List.mem_cons_self
  | with_reducible exact List.mem_cons_of_mem _ (List.mem_cons_of_mem _ List.mem_cons_self)
  | with_reducible exact List.mem_cons_of_mem _ (List.mem_cons_of_mem _ (List.mem_cons_of_mem _ List.mem_cons_self))
  | with_reducible exact List.mem_cons_of_mem _ (List.mem_cons_of_mem _ (List.mem_cons_of_mem _ (List.mem_cons_of_mem _ List.mem_cons_self)))
  | (with_reducible refine List.mem_cons_of_mem _ (List.mem_cons_of_mem _ (List.mem_cons_of_mem _ (List.mem_cons_of_mem _ (List.mem_cons_of_mem _ ?_)))); walk_at "mem")
  | with_reducible exact List.mem_cons_of_mem _ (by with_reducible assumption)
  | with_reducible exact List.mem_cons_of_mem _ (List.mem_cons_of_mem _ (by with_reducible assumption))
  | with_reducible exact List.mem_cons_of_mem _ (List.mem_cons_of_mem _ (List.mem_cons_of_mem _ (by with_reducible assumption)))
  | with_reducible exact List.mem_cons_of_mem _ (List.mem_cons_of_mem _ (List.mem_cons_of_mem _ (List.mem_cons_of_mem _ (by with_reducible assumption)))))
local macro_rules | `(tactic| walk_at "lk") => `(tactic| (simp (disch := decide +kernel) only [lk_eq, lk_ne]; exact rfl))
local macro_rules | `(tactic| walk_at "lkn") => `(tactic| (simp (disch := decide +kernel) only [lk_nil, lk_ne]))
local macro_rules | `(tactic| walk_at "pf") => `(tactic| (simp (disch := decide +kernel) only [pf_eq, pf_ne, pf_nil]; exact rfl))
local macro_rules | `(tactic| walk_at "ati") => `(tactic| first
  | with_reducible exact at0
  | with_reducible exact at1
  | with_reducible exact at2
  | with_reducible exact at3
  | with_reducible exact at4
  | with_unfolding_all exact rfl)
local macro_rules | `(tactic| walk_at "sz") => `(tactic| (refine sl_of ?_; simp only [List.length_cons, List.length_nil]; omega))
local macro_rules | `(tactic| walk_at "set") => `(tactic| (simp only [wipe, List.foldl_cons, List.foldl_nil, List.set]; exact rfl))
local macro_rules | `(tactic| walk_at "norm") => `(tactic| with_reducible conv => whnf)
set_option hygiene false
local macro_rules | `(tactic| walk_at "spm") => `(tactic| first
  | with_reducible exact spR
  | (with_reducible refine sp0 ?_; walk_at "spm")
  | (with_reducible refine sp1 ?_; walk_at "spm")
  | (with_reducible refine sp2 ?_; walk_at "spm")
  | (with_reducible refine sp3 ?_; walk_at "spm")
  | (with_reducible refine sp4 ?_; walk_at "spm")
  | (with_reducible refine sp5 ?_; walk_at "spm")
  | (with_reducible refine sp6 ?_; walk_at "spm")
  | (with_reducible refine sp7 ?_; walk_at "spm")
  | (with_reducible refine spS ?_; walk_at "spm"))
local macro_rules | `(tactic| walk_at "spm9") => `(tactic| first
  | exact spR
  | exact spN
  | (refine sp0 ?_; walk_at "spm9")
  | (refine sp1 ?_; walk_at "spm9")
  | (refine sp2 ?_; walk_at "spm9")
  | (refine sp3 ?_; walk_at "spm9")
  | (refine sp4 ?_; walk_at "spm9")
  | (refine sp5 ?_; walk_at "spm9")
  | (refine sp6 ?_; walk_at "spm9")
  | (refine sp7 ?_; walk_at "spm9")
  | (refine spS ?_; walk_at "spm9"))
local macro_rules | `(tactic| walk_at "sub") => `(tactic| first
  | with_reducible exact fsR
  | with_reducible assumption
  | (with_reducible refine fsT ?_; walk_at "sub")
  | (with_reducible refine fsC (by walk_at "mem") ?_; walk_at "sub")
  | with_reducible exact fsN)
local macro_rules | `(tactic| walk_at "wd") => `(tactic| exact W.arr (by walk_at "spm") (by walk_at "sub"))
local macro_rules | `(tactic| walk_at "fr") => `(tactic| first
  | with_reducible exact W
  | with_reducible exact W.mv1
  | with_reducible exact W.mv2
  | with_reducible exact W.mv3
  | with_reducible exact W.mv4
  | with_reducible exact W.mv5
  | with_reducible exact W.mv6)
local macro_rules | `(tactic| walk_at "app") => `(tactic| (with_reducible refine k_app (by walk_at "fr") (sl_lt (by first | omega | (simp only [List.length_append, List.length_cons, List.length_nil, List.length_map]; omega))) ?_; clear W; (try clear H); intro H W))
local macro_rules | `(tactic| walk_at "st") => `(tactic| first
  | with_reducible refine k_var (by with_unfolding_all exact rfl) ?_
  | with_reducible refine k_store (by walk_at "set") ?_
  | with_reducible refine k_B ?_
  | (with_reducible refine g_kIf ?_; first
    | with_reducible refine k_ift ?_
    | with_reducible refine k_iff ?_
    | with_reducible refine k_nft ?_
    | with_reducible refine k_nff ?_
    | with_reducible refine k_ifT (by decide +kernel) ?_
    | with_reducible refine k_ifF (by decide +kernel) ?_)
  | (with_reducible refine g_kIx ?_; first
    | with_reducible refine k_ix_l W (by walk_at "mem") (by walk_at "ati") ?_
    | with_reducible refine k_ix_Tm W (by walk_at "mem") (by walk_at "ati") ?_
    | with_reducible refine k_ix_t W (by walk_at "mem") (by walk_at "ati") ?_
    | with_reducible refine k_ix_Lm W (by walk_at "mem") (by walk_at "ati") ?_)
  | (with_reducible refine g_kFld ?_; with_reducible refine k_fldC W (by walk_at "mem") (by with_reducible assumption) (by walk_at "lk") (by walk_at "mem") ?_)
  | (with_reducible refine g_kSetF ?_; with_reducible refine k_setFC (by walk_at "fr") (by with_reducible assumption) (by walk_at "pf") (by simp) (by walk_at "mem") ?_; clear W; (try clear H); intro H W)
  | (with_reducible refine g_kEq ?_; first
    | with_reducible refine k_eq_ii ?_
    | with_reducible refine k_eq_ss ?_)
  | (with_reducible refine g_kNe ?_; first
    | with_reducible refine k_ne_ii ?_
    | with_reducible refine k_ne_ss ?_)
  | (with_reducible refine g_kIsi ?_; first
    | with_reducible refine k_isi_int (b := true) (by decide +kernel) ?_
    | with_reducible refine k_isi_int (b := false) (by decide +kernel) ?_
    | with_reducible refine k_isi_Tm (b := true) W (by walk_at "mem") (by decide +kernel) ?_
    | with_reducible refine k_isi_Tm (b := false) W (by walk_at "mem") (by decide +kernel) ?_
    | with_reducible refine k_isi_Lm (b := true) W (by walk_at "mem") (by decide +kernel) ?_
    | with_reducible refine k_isi_Lm (b := false) W (by walk_at "mem") (by decide +kernel) ?_
    | with_reducible refine k_isi_l (b := true) W (by walk_at "mem") (by decide +kernel) ?_
    | with_reducible refine k_isi_l (b := false) W (by walk_at "mem") (by decide +kernel) ?_
    | with_reducible refine k_isi_t (b := true) W (by walk_at "mem") (by decide +kernel) ?_
    | with_reducible refine k_isi_t (b := false) W (by walk_at "mem") (by decide +kernel) ?_
    | with_reducible refine k_isi_bl (b := true) (by decide +kernel) ?_
    | with_reducible refine k_isi_bl (b := false) (by decide +kernel) ?_
    | with_reducible refine k_isi_str (b := true) (by decide +kernel) ?_
    | with_reducible refine k_isi_str (b := false) (by decide +kernel) ?_
    | with_reducible refine k_isi_non (b := true) (by decide +kernel) ?_
    | with_reducible refine k_isi_non (b := false) (by decide +kernel) ?_)
  | (with_reducible refine g_kTru ?_; first
    | with_reducible refine k_tru_bl ?_
    | with_reducible refine k_tru_int ?_
    | with_reducible refine k_tru_non ?_
    | with_reducible refine k_tru_l W (by walk_at "mem") ?_)
  | (with_reducible refine g_kLen ?_; first
    | with_reducible refine k_len_Tm W (by walk_at "mem") ?_
    | with_reducible refine k_len_Lm W (by walk_at "mem") ?_
    | with_reducible refine k_len_l W (by walk_at "mem") ?_
    | with_reducible refine k_len_t W (by walk_at "mem") ?_)
  | (with_reducible refine g_kGet ?_; with_reducible refine k_get_l W (by walk_at "mem") (by walk_at "ati") ?_)
  | (with_reducible refine g_kSet ?_; (first
    | with_reducible refine k_set0 (by walk_at "fr") ?_
    | with_reducible refine k_set1 (by walk_at "fr") ?_
    | with_reducible refine k_set2 (by walk_at "fr") ?_
    | with_reducible refine k_set3 (by walk_at "fr") ?_
    | with_reducible refine k_set4 (by walk_at "fr") ?_); clear W; (try clear H); intro H W)
  | with_reducible refine k_add_ii ?_
  | with_reducible refine k_sub ?_
  | with_reducible refine k_chain ?_
  | with_reducible refine k_lt ?_
  | with_reducible refine k_le ?_
  | with_reducible refine k_gt ?_
  | with_reducible refine k_ge ?_
  | (with_reducible refine g_kNotV ?_; with_reducible refine k_notV_bl ?_)
  | (with_reducible refine g_kAndV ?_; with_reducible refine k_andV_bl ?_)
  | (with_reducible refine g_kOrV ?_; with_reducible refine k_orV_bl ?_)
  | (with_reducible refine g_kUnp ?_; first
    | with_reducible refine k_unp_Tm W (by walk_at "mem") (by with_unfolding_all exact rfl) ?_
    | with_reducible refine k_unp (W.st (by walk_at "mem")) (by with_unfolding_all exact rfl) ?_)
  | with_reducible refine k_gcons ?_
  | with_reducible refine k_gnil ?_
  | with_reducible refine k_isN ?_
  | with_reducible refine k_notN ?_
  | with_reducible refine k_ipadd ?_
  | with_reducible refine k_part ?_
  | (with_reducible refine g_kBM ?_; with_reducible refine k_bm_l W (by walk_at "mem") ?_)
  | (with_reducible refine g_kLst ?_; with_reducible refine k_lst W (by walk_at "sz") ?_; clear W; (try clear H); intro _ H W)
  | (with_reducible refine g_kTup ?_; with_reducible refine k_tup W (by walk_at "sz") ?_; clear W; (try clear H); intro _ H W)
  | (with_reducible refine g_kIter ?_; first
    | with_reducible refine k_iter_Tm W (by walk_at "mem") ?_
    | with_reducible refine k_iter_Lm W (by walk_at "mem") ?_
    | with_reducible refine k_iter_l W (by walk_at "mem") ?_
    | with_reducible refine k_iter_S ?_)
  | with_reducible refine k_I ?_
  | with_reducible refine k_abs ?_
  | with_reducible refine k_max2 ?_
  | (with_reducible refine k_pop0 (by walk_at "fr") ?_; clear W; (try clear H); intro H W)
  | with_reducible refine k_ipsub ?_
  | with_reducible refine k_var1 (by with_unfolding_all exact rfl) ?_
  | with_reducible refine k_par (by walk_at "set") ?_)
set_option hygiene true
local macro_rules | `(tactic| walk_at "rd") => `(tactic| (walk_at "norm"; repeat (walk_at "st"; walk_at "norm")))
structure BxOk (cells : List Int) (b1 b2 b3 n : Int) : Prop where
  cells : ∀ c ∈ cells, c.natAbs < 2 ^ 1048576
  p1 : 0 ≤ b1
  p2 : 0 ≤ b2
  l2 : b2 ≤ n
  p3 : 0 ≤ b3
  l3 : b3 < 10 ^ 18
abbrev bxO (cl : Addr) (b1 b2 b3 : Int) : HO := .lst [.ref cl, .int b1, .int b2, .int b3]
abbrev clO (cells : List Int) : HO := .lst (cells.map V.int)
def spPick : Sp := fun vs H Q _ => ∃ (bx cl : Addr) (cells : List Int) (b1 b2 b3 m n : Int) (L : Ow) (D : List Fct), vs = [.ref bx, .int m] ∧ 0 < m ∧ m < 2 ^ 64 ∧ BxOk cells b1 b2 b3 n ∧ n < 2 ^ 60 ∧ Wd ((bx, bxO cl b1 b2 b3) :: (cl, clO cells) :: L) D H ∧
  ∀ (r : Int) (cells : List Int) (b1 b2 b3 : Int) H', 0 ≤ r → r < m → BxOk cells b1 b2 b3 (n + 1) → Wd ((bx, bxO cl b1 b2 b3) :: (cl, clO cells) :: L) D H' → Q (.int r) H'
theorem pow_lt {i j : Int} (h0 : 0 ≤ i) (h : i ≤ j) {n : Nat} (hj : j.natAbs < 2 ^ n) : i.natAbs < 2 ^ n := by omega
theorem natAbs_lt_of {i : Int} {n : Nat} (h0 : 0 ≤ i) (h : i < 2 ^ n) : i.natAbs < 2 ^ n := by
  have e : ((2 ^ n : Nat) : Int) = (2 : Int) ^ n := by simp
  omega
theorem bits_le {i : Int} {n : Nat} (h : i.natAbs < 2 ^ n) : Builtin.Int.intBits i ≤ n := by
  unfold Builtin.Int.intBits
  split
  · omega
  · rename_i h0
    have : i.natAbs ≠ 0 := by simpa using h0
    exact Nat.lt_iff_add_one_le.mp ((Nat.log2_lt this).mpr h)
theorem ten18 : ((10 : Int) ^ (18 : Int).toNat) = 1000000000000000000 := by decide +kernel
theorem cpow_10_18 : CPowW 10 18 := ⟨by decide, by decide +kernel⟩
theorem lg {a : Nat} {n : Nat} (h : a < 2 ^ n) (h0 : 0 < n) : a.log2 < n := by
  by_cases e : a = 0
  · subst e
    simpa using h0
  · exact (Nat.log2_lt e).mpr h
theorem bx_pow {a b : Int} (h0 : 0 ≤ a) (h1 : a < 10 ^ 18) (h2 : 0 ≤ b) (h3 : b < 2 ^ 61) : CPowW (a * (2 * b + 3) + 104729 * b + 17) 3 := by
  have e1 : (a * (2 * b + 3)).natAbs < 2 ^ (60 + 63) := wide_lt (natAbs_lt_of h0 (by omega)) (natAbs_lt_of (by omega) (by omega))
  have e2 : (a * (2 * b + 3) + 104729 * b + 17).natAbs < 2 ^ 124 := by omega
  have e3 := bits_le e2
  exact ⟨by decide, by omega⟩
theorem w_pick {g : G} {A : Around} {vs : List V} {H : Hp} {Q : VK} {E : XK} (h : spPick vs H Q E) : t_law_pick g A { nx := fun _ H' => Q .non H', rt := Q } (start ["box", "many", "cell", "told", "mixed"] vs) H := by
  obtain ⟨bx, cl, cells, b1, b2, b3, m, n, L, D, rfl, h0, hm, ⟨oc, o1, o2, o3, o4, o5⟩, hn, W, k⟩ := h
  rw [e_law_pick]
  show r_law_pick g A _ [some (.ref bx), some (.int m), none, none, none] H
  unfold r_law_pick
  walk_at "rd"
  refine k_cut (fun σ H => ∃ (c : Option V) (cells : List Int) (b1 b2 b3 : Int), σ = [some (.ref bx), some (.int m), c, none, none] ∧ BxOk cells b1 b2 b3 (n + 1) ∧ Wd ((bx, bxO cl b1 b2 b3) :: (cl, clO cells) :: L) D H) ?_ ?_
  · walk_at "rd"
    refine k_ifd (fun hb => ?_) (fun hb => ?_)
    · walk_at "rd"
      cases cells with
      | nil => exact k_iff ⟨none, [], b1, b2 + 1, b3, rfl, ⟨oc, o1, by omega, by omega, o4, o5⟩, W⟩
      | cons c r =>
        refine k_ift ?_
        have oc1 := oc c List.mem_cons_self
        rw [clO, List.map_cons] at W
        walk_at "rd"
        refine k_pow cpow_10_18 ?_
        rw [ten18]
        walk_at "rd"
        refine k_ifd (fun hc => ?_) (fun hc => ?_)
        · walk_at "rd"
          refine ⟨_, r, _, _, _, rfl, ⟨fun x hx => oc x (List.mem_cons_of_mem _ hx), ?_, by omega, by omega, o4, o5⟩, W⟩
          split <;> omega
        · walk_at "rd"
          refine k_mul (wide_mul (a := 64) (b := 6) (natAbs_lt_of o4 (by omega)) (by decide) (by decide) (by decide) (by decide)) ?_
          walk_at "rd"
          refine k_pow cpow_10_18 ?_
          rw [ten18]
          refine k_mod (by decide) ?_
          walk_at "rd"
          exact ⟨_, r, _, _, _, rfl, ⟨fun x hx => oc x (List.mem_cons_of_mem _ hx), o1, by omega, by omega, Int.emod_nonneg _ (by decide), Int.emod_lt_of_pos _ (by decide)⟩, W⟩
    · walk_at "rd"
      exact ⟨none, cells, b1, b2 + 1, b3, rfl, ⟨oc, o1, by omega, by omega, o4, o5⟩, W⟩
  · rintro σ H ⟨c, cells, b1, b2, b3, rfl, ⟨oc, o1, o2, o3, o4, o5⟩, W⟩
    walk_at "rd"
    refine k_ifd (fun hb => ?_) (fun hb => ?_)
    · walk_at "rd"
      refine k_mod h0 ?_
      walk_at "rd"
      refine k_div (wide_div (b := 64) h0 (natAbs_lt_of (Int.le_of_lt h0) hm) (by decide) (by decide)) ?_
      walk_at "rd"
      exact k _ cells _ b2 b3 _ (Int.emod_nonneg _ (by omega)) (Int.emod_lt_of_pos _ h0) ⟨oc, Int.ediv_nonneg o1 (Int.le_of_lt h0), o2, o3, o4, o5⟩ W
    · walk_at "rd"
      refine k_mul (wide_mul (a := 2) (b := 64) (by decide) (natAbs_lt_of o2 (by omega)) (by decide) (by decide) (by decide)) ?_
      walk_at "rd"
      refine k_mul (wide_mul (a := 64) (b := 70) (natAbs_lt_of o4 (by omega)) (natAbs_lt_of (by omega) (by omega)) (by decide) (by decide) (by decide)) ?_
      walk_at "rd"
      refine k_mul (wide_mul (a := 20) (b := 64) (by decide) (natAbs_lt_of o2 (by omega)) (by decide) (by decide) (by decide)) ?_
      walk_at "rd"
      refine k_pow (bx_pow o4 o5 o2 (by omega)) ?_
      walk_at "rd"
      refine k_mod (by decide) ?_
      walk_at "rd"
      refine k_div ⟨by decide, by decide +kernel⟩ ?_
      walk_at "rd"
      refine k_mod h0 ?_
      walk_at "rd"
      exact k _ cells b1 b2 b3 _ (Int.emod_nonneg _ (by omega)) (Int.emod_lt_of_pos _ h0) ⟨oc, o1, o2, o3, o4, o5⟩ W
def bnd60 : Int := 1000000000000000000000000000000000000000000000000000000000000
def wordOk (w : Str) : Bool := !decide (w = "gone") && (decide (1 ≤ w.length) && decide (w.length ≤ 8)) && w.cps.toList.all fun c => decide (c ∈ ("abcdefghijklmnopqrstuvwxyz" : Str).cps.toList)
structure LetG (g : G) : Prop where
  mark : ∃ u, g.mg "MARK" = some u ∧ RelV (.str "gone") u
  letters : ∃ u, g.mg "LETTERS" = some u ∧ RelV (.str "abcdefghijklmnopqrstuvwxyz") u
  most : ∃ u, g.mg "MOST_SIGNS" = some u ∧ RelV (.int 8) u
  bound : ∃ u, g.mg "BOUND" = some u ∧ RelV (.int bnd60) u
def spNum : Sp := fun vs H Q _ => ∃ i, vs = [.int i] ∧ Q (.bl true) H
def spWord : Sp := fun vs H Q _ => ∃ w L D, vs = [.str w] ∧ wordOk w = true ∧ Wd L D H ∧ ∀ H', Wd L D H' → Q (.bl true) H'
theorem w_number {g : G} {A : Around} {vs : List V} {H : Hp} {Q : VK} {E : XK} (h : spNum vs H Q E) : t_is_number g A { nx := fun _ H' => Q .non H', rt := Q } (start ["thing"] vs) H := by
  obtain ⟨i, rfl, k⟩ := h
  rw [e_is_number]
  show r_is_number g A _ [some (.int i)] H
  unfold r_is_number
  walk_at "rd"
  exact k
theorem str_len (w : Str) : w.cps.size = w.length := rfl
theorem w_word {g : G} {A : Around} {vs : List V} {H : Hp} {Q : VK} {E : XK} (hg : LetG g) (h : spWord vs H Q E) : t_is_word g A { nx := fun _ H' => Q .non H', rt := Q } (start ["thing", "sign"] vs) H := by
  obtain ⟨w, L, D, rfl, hw, W, k⟩ := h
  unfold wordOk at hw
  simp only [Bool.and_eq_true, Bool.not_eq_true', decide_eq_false_iff_not, decide_eq_true_eq, List.all_eq_true] at hw
  obtain ⟨⟨h1, h2, h3⟩, h4⟩ := hw
  rw [e_is_word]
  show r_is_word g A _ [some (.str w), none] H
  unfold r_is_word
  walk_at "rd"
  refine k_gl hg.mark ?_
  walk_at "rd"
  refine k_ifn h1 ?_
  walk_at "rd"
  refine k_len_s (sl_of (by omega)) ?_
  walk_at "rd"
  refine k_ifp (by omega) ?_
  walk_at "rd"
  refine k_gl hg.most ?_
  walk_at "rd"
  rw [show decide ((w.length : Int) ≤ 8) = true from by simp; omega]
  walk_at "rd"
  refine k_lcD (K := g.K) walk_str W (sl_of (by rw [str_len]; omega)) (fun _ => .bool true) (fun _ _ _ _ _ _ => trivial) ?_ ?_
  · rintro p i x H _ acc D0 N Z hi s W ⟨rfl, c, hc, rfl⟩ hN
    walk_at "rd"
    refine ⟨rfl, ?_⟩
    walk_at "rd"
    refine k_gl hg.letters ?_
    refine .inr (.inr ⟨c, _, rfl, rfl, ?_⟩)
    refine hN _ _ D0 (fun _ h => h) (has_fl ?_) W
    rw [decide_eq_true (h4 c (Array.mem_toList_iff.mpr (Array.mem_of_getElem? hc)))]
    exact .bl true
  · intro p acc D0 H s hh W
    exact k_all_tt W hh (k _ (W.dO.wk s))
def partD (n : Int) : Prop := 0 ≤ n ∧ n < bnd60
def letD (w : Str) (ns : List Int) : PyData := .tuple (.str w :: ns.map PyData.int)
structure LetOk (w : Str) (ns : List Int) : Prop where
  wd : wordOk w = true
  pt : ∀ n ∈ ns, partD n
def spPart : Sp := fun vs H Q _ => ∃ n d, vs = [.int n, .int d] ∧ partD n ∧ Q (.bl true) H
theorem w_part {g : G} {A : Around} {vs : List V} {H : Hp} {Q : VK} {E : XK} {k1 : Nat} (hg : LetG g) (hr : Room k1 A) (f1 : GF g k1 "is_number" spNum) (h : spPart vs H Q E) : t_is_part g A { nx := fun _ H' => Q .non H', rt := Q } (start ["thing", "deep", "part"] vs) H := by
  obtain ⟨n, d, rfl, ⟨h0, h1⟩, k⟩ := h
  rw [e_is_part]
  show r_is_part g A _ [some (.int n), some (.int d), none] H
  unfold r_is_part
  walk_at "rd"
  refine k_call f1 hr ⟨_, rfl, ?_⟩
  walk_at "rd"
  refine k_ifp h0 ?_
  walk_at "rd"
  refine k_gl hg.bound ?_
  walk_at "rd"
  rw [decide_eq_true h1]
  exact k
theorem wordOk.str {w : Str} (h : wordOk w = true) : PyData.strOk w = true := by
  unfold wordOk at h
  simp only [Bool.and_eq_true, List.all_eq_true, decide_eq_true_eq] at h
  have h4 := h.2
  have l : ∀ c ∈ ("abcdefghijklmnopqrstuvwxyz" : Str).cps.toList, c < 1114112 := by decide +kernel
  unfold PyData.strOk
  rw [Array.all_eq_true']
  intro x hx
  exact decide_eq_true (l x (h4 x (Array.mem_toList_iff.mpr hx)))
theorem LetOk.shp {w : Str} {ns : List Int} (h : LetOk w ns) : Shp 1 (letD w ns) := shp_tuple (mem_cons' (shp_str (wordOk.str h.wd)) (mem_map fun _ _ => shp_int))
theorem Wd.let_ {K : PySem.W.Frag} {L : Ow} {D : List Fct} {H : Hp} {v : V} {w : Str} {ns : List Int} (W : Wd L D H) (h : isD K v (letD w ns) ∈ D) : ∃ a, v = .ref a ∧ Wd L (isT K a (.str w :: ns.map V.int) :: D) H := by
  obtain ⟨a, xs, e, l, W⟩ := W.opT h
  match xs, l with
  | x :: r, _ =>
    have W2 := W.ds_cons (List.mem_cons_of_mem _ List.mem_cons_self)
    have e1 := W2.vstr List.mem_cons_self
    have e2 := W2.ints (hasAll_mem (List.mem_cons_of_mem _ List.mem_cons_self))
    subst e1 e2
    exact ⟨a, e, W.wk fun F hF => by simp only [List.mem_cons] at hF ⊢; rcases hF with h | h <;> simp only [h, true_or, or_true]⟩
def spFault (g : G) : Sp := fun vs H Q _ => ∃ v w ns L D, vs = [v] ∧ isD g.K v (letD w ns) ∈ D ∧ LetOk w ns ∧ Wd L D H ∧ ∀ H', Wd L D H' → Q .non H'
theorem w_fault {g : G} {A : Around} {vs : List V} {H : Hp} {Q : VK} {E : XK} {k1 k2 : Nat} (hr1 : Room k1 A) (hr2 : Room k2 A) (f1 : GF g k1 "is_word" spWord) (f2 : GF g k2 "is_part" spPart) (h : spFault g vs H Q E) : t_letter_fault g A { nx := fun _ H' => Q .non H', rt := Q } (start ["thing", "place", "part"] vs) H := by
  obtain ⟨v, w, ns, L, D, rfl, hv, ⟨hw, hp⟩, W, k⟩ := h
  obtain ⟨a, rfl, W1⟩ := W.let_ hv
  have hv1 := List.mem_cons_of_mem (isT g.K a (.str w :: ns.map V.int)) hv
  have ht : isT g.K a (.str w :: ns.map V.int) ∈ isT g.K a (.str w :: ns.map V.int) :: D := List.mem_cons_self
  revert hv1 ht W1
  generalize hD : isT g.K a (.str w :: ns.map V.int) :: D = D1
  intro W hv ht
  have k : ∀ H', Wd L D1 H' → Q .non H' := fun H' W' => by
    subst hD
    exact k H' W'.dF
  clear hD
  rw [e_letter_fault]
  show r_letter_fault g A _ [some (.ref a), none, none] H
  unfold r_letter_fault
  walk_at "rd"
  have W1 := W.frzT (K := g.K) hasAll_nil
  clear W
  refine k_eq_D W1 (has_mem (List.mem_cons_of_mem _ hv)) (has_mem List.mem_cons_self) (LetOk.shp ⟨hw, hp⟩).ok rfl ?_
  have W := W1.dF
  clear W1
  rw [show PyData.eqv (letD w ns) (.tuple []) = false from rfl]
  walk_at "rd"
  refine k_call f1 hr1 ⟨w, L, D1, rfl, hw, W, fun H W => ?_⟩
  walk_at "rd"
  refine k_enum_T (W.tupl ht) ?_
  refine k_for walk_enumT (fun i σ H => (∃ x y, σ = [some (.ref a), x, y]) ∧ Wd L D1 H) ⟨⟨_, _, rfl⟩, W⟩ (fun i σ H _ h => h.2.tupl ht) ?_ ?_
  · rintro i x σ H H' hi ⟨⟨x1, x2, rfl⟩, W⟩ ⟨T, y, z, rfl, hT, rfl, ey, ez⟩
    have W := W.new hT (.tup [y, z])
    cases ey
    walk_at "rd"
    match i, ez with
    | 0, ez =>
      refine k_ifn (by decide) ?_
      walk_at "rd"
      exact ⟨⟨_, _, rfl⟩, W.dO⟩
    | i + 1, ez =>
      refine k_ifp (by omega) ?_
      obtain ⟨n, hn, rfl⟩ : ∃ n, ns[i]? = some n ∧ V.int n = z := by simpa using ez
      walk_at "rd"
      refine k_call f2 hr2 ⟨n, 1, rfl, hp n (List.mem_of_getElem? hn), ?_⟩
      walk_at "rd"
      exact ⟨⟨_, _, rfl⟩, W.dO⟩
  · rintro σ H ⟨⟨x1, x2, rfl⟩, W⟩
    walk_at "rd"
    exact k _ W
def spLetter (g : G) : Sp := fun vs H Q _ => ∃ v w ns L D, vs = [v] ∧ isD g.K v (letD w ns) ∈ D ∧ LetOk w ns ∧ Wd L D H ∧ ∀ H', Wd L D H' → Q (.bl true) H'
theorem w_letter {g : G} {A : Around} {vs : List V} {H : Hp} {Q : VK} {E : XK} {k1 : Nat} (hr1 : Room k1 A) (f1 : GF g k1 "letter_fault" (spFault g)) (h : spLetter g vs H Q E) : t_is_letter g A { nx := fun _ H' => Q .non H', rt := Q } (start ["thing"] vs) H := by
  obtain ⟨v, w, ns, L, D, rfl, hv, ok, W, k⟩ := h
  rw [e_is_letter]
  show r_is_letter g A _ [some v] H
  unfold r_is_letter
  walk_at "rd"
  refine k_call f1 hr1 ⟨v, w, ns, L, D, rfl, hv, ok, W, fun H W => ?_⟩
  walk_at "rd"
  exact k _ W
def spBelow : Sp := fun vs H Q _ => ∃ (i n : Int), vs = [.int i, .int n] ∧ 0 ≤ i ∧ i < n ∧ Q (.bl true) H
theorem w_below {g : G} {A : Around} {vs : List V} {H : Hp} {Q : VK} {E : XK} {k1 : Nat} (hr1 : Room k1 A) (f1 : GF g k1 "is_number" spNum) (h : spBelow vs H Q E) : t_is_below g A { nx := fun _ H' => Q .non H', rt := Q } (start ["thing", "many"] vs) H := by
  obtain ⟨i, n, rfl, h0, h1, k⟩ := h
  rw [e_is_below]
  show r_is_below g A _ [some (.int i), some (.int n)] H
  unfold r_is_below
  walk_at "rd"
  refine k_call f1 hr1 ⟨i, rfl, ?_⟩
  walk_at "rd"
  refine k_ifp h0 ?_
  walk_at "rd"
  rw [decide_eq_true h1]
  exact k
def sendD (to : Int) (w : Str) (ns : List Int) : PyData := .tuple [.int to, letD w ns]
structure SendOk (n : Int) (d : PyData) : Prop where
  ex : ∃ to w ns, d = sendD to w ns ∧ 0 ≤ to ∧ to < n ∧ LetOk w ns
structure PlayOk (n : Int) (d : PyData) : Prop where
  ex : ∃ b ss, d = .tuple [.bool b, .list ss] ∧ ss.length ≤ 1000 ∧ ∀ s ∈ ss, SendOk n s
def spSending (g : G) : Sp := fun vs H Q _ => ∃ v d n L D, vs = [v, .int n] ∧ isD g.K v d ∈ D ∧ SendOk n d ∧ Wd L D H ∧ ∀ H', Wd L D H' → Q (.bl true) H'
theorem w_sending {g : G} {A : Around} {vs : List V} {H : Hp} {Q : VK} {E : XK} {k1 k2 : Nat} (hr1 : Room k1 A) (hr2 : Room k2 A) (f1 : GF g k1 "is_below" spBelow) (f2 : GF g k2 "is_letter" (spLetter g)) (h : spSending g vs H Q E) : t_is_sending g A { nx := fun _ H' => Q .non H', rt := Q } (start ["thing", "seats"] vs) H := by
  obtain ⟨v, d, n, L, D, rfl, hv, ⟨to, w, ns, rfl, h0, h1, hl⟩, W, k⟩ := h
  obtain ⟨a, x, y, rfl, W1⟩ := W.op2 hv
  clear W
  have W := W1
  clear W1
  have ex := W.vint (List.mem_cons_of_mem _ List.mem_cons_self)
  subst ex
  rw [e_is_sending]
  show r_is_sending g A _ [some (.ref a), some (.int n)] H
  unfold r_is_sending
  walk_at "rd"
  refine k_ifp (by simp) ?_
  walk_at "rd"
  refine k_call f1 hr1 ⟨_, _, rfl, h0, h1, ?_⟩
  walk_at "rd"
  refine k_call f2 hr2 ⟨_, w, ns, L, _, rfl, List.mem_cons_of_mem _ (List.mem_cons_of_mem _ List.mem_cons_self), hl, W, fun H W => ?_⟩
  walk_at "rd"
  exact k _ W.dF.dF.dF
def spIsPlay (g : G) : Sp := fun vs H Q _ => ∃ v d n L D, vs = [v, .int n] ∧ isD g.K v d ∈ D ∧ PlayOk n d ∧ Wd L D H ∧ ∀ H', Wd L D H' → Q (.bl true) H'
theorem w_is_play {g : G} {A : Around} {vs : List V} {H : Hp} {Q : VK} {E : XK} {k1 : Nat} (hr1 : Room k1 A) (f1 : GF g k1 "is_sending" (spSending g)) (h : spIsPlay g vs H Q E) : t_is_play g A { nx := fun _ H' => Q .non H', rt := Q } (start ["thing", "seats", "part"] vs) H := by
  obtain ⟨v, d, n, L, D, rfl, hv, ⟨b, ss, rfl, hl, hs⟩, W, k⟩ := h
  obtain ⟨a, x, y, rfl, W1⟩ := W.op2 hv
  clear W
  have ex := W1.vbl (List.mem_cons_of_mem _ List.mem_cons_self)
  subst ex
  obtain ⟨q, ys, rfl, hys, W2⟩ := W1.opL (List.mem_cons_of_mem _ (List.mem_cons_of_mem _ List.mem_cons_self))
  clear W1
  have W := W2
  clear W2
  rw [e_is_play]
  show r_is_play g A _ [some (.ref a), some (.int n), none] H
  unfold r_is_play
  walk_at "rd"
  refine k_ifnp (by simp) ?_
  walk_at "rd"
  refine k_lcD (K := g.K) walk_list W (sl_of (by omega)) (fun _ => .bool true) (fun _ _ _ _ s W => W.list (s List.mem_cons_self)) ?_ ?_
  · rintro p i x H _ acc D0 N Z hi s W ⟨rfl, hx⟩ hN
    obtain ⟨d, hd, W1⟩ := W.itemV (hasAll_mem (s (List.mem_cons_of_mem _ List.mem_cons_self))) hx
    walk_at "rd"
    refine ⟨rfl, ?_⟩
    walk_at "rd"
    refine k_call f1 hr1 ⟨x, d, n, _, _, rfl, List.mem_cons_self, hs d (List.mem_of_getElem? hd), W1, fun H W => ?_⟩
    exact hN _ _ _ (fun _ h => h) (has_fl (.bl true)) W.dF
  · intro p acc D0 H s hh W
    exact k_all_tt W hh (k _ (W.dO.wk fun F hF => s (by simp only [List.mem_cons]; exact .inr (.inr (.inr (.inr (.inr hF)))))))
theorem atI_get {xs : List V} {r : Int} (h0 : 0 ≤ r) (h1 : r < xs.length) : ∃ v, atI xs r = some v ∧ xs[r.toNat]? = some v ∧ v ∈ xs := by
  have h : r.toNat < xs.length := by omega
  refine ⟨xs[r.toNat], ?_, by simp [h], List.getElem_mem h⟩
  unfold atI ixN
  rw [if_pos h0, if_pos h1]
  simp [h]
theorem BxOk.up {cells : List Int} {b1 b2 b3 n m : Int} (h : BxOk cells b1 b2 b3 n) (l : n ≤ m) : BxOk cells b1 b2 b3 m := ⟨h.cells, h.p1, h.p2, Int.le_trans h.l2 l, h.p3, h.l3⟩
theorem ten9 : ((10 : Int) ^ (9 : Int).toNat) = 1000000000 := by decide +kernel
theorem cpow_10_9 : CPowW 10 9 := ⟨by decide, by decide +kernel⟩
def spBox : Sp := fun vs H Q _ => ∃ p cells L D, vs = [.ref p] ∧ (p, HO.lst (cells.map V.int)) ∈ L ∧ Wd L D H ∧ ∀ bx cl H', Wd ((bx, bxO cl 0 0 5) :: (cl, clO cells) :: L) D H' → Q (.ref bx) H'
theorem w_box {g : G} {A : Around} {vs : List V} {H : Hp} {Q : VK} {E : XK} (h : spBox vs H Q E) : t_law_box g A { nx := fun _ H' => Q .non H', rt := Q } (start ["cells"] vs) H := by
  obtain ⟨p, cells, L, D, rfl, hp, W, k⟩ := h
  rw [e_law_box]
  show r_law_box g A _ [some (.ref p)] H
  unfold r_law_box
  walk_at "rd"
  refine k_list_l W hp ?_
  clear W
  intro cl H W
  walk_at "rd"
  exact k _ _ _ W
theorem mem3 {α : Type} {P : α → Prop} {l : List α} {a : α} (h : ∀ x ∈ l, P x) (h2 : P a) : ∀ x ∈ l ++ [a], P x := fun x hx => by
  rcases List.mem_append.mp hx with e | hx
  · exact h x e
  · rw [List.mem_singleton.mp hx]; exact h2
def spPlays (g : G) : Sp := fun vs H Q _ => ∃ bx cl cells b1 b2 b3 n N L D, vs = [.ref bx, .int n] ∧ 0 < n ∧ n < 2 ^ 64 ∧ BxOk cells b1 b2 b3 N ∧ N < 2 ^ 50 ∧ Wd ((bx, bxO cl b1 b2 b3) :: (cl, clO cells) :: L) D H ∧
  ∀ v ds cells b1 b2 b3 H', ds.length ≤ 40 → (∀ d ∈ ds, PlayOk n d) → BxOk cells b1 b2 b3 (N + 2000) → Wd ((bx, bxO cl b1 b2 b3) :: (cl, clO cells) :: L) (isD g.K v (.list ds) :: D) H' → Q v H'
theorem w_plays {g : G} {A : Around} {vs : List V} {H : Hp} {Q : VK} {E : XK} {k1 : Nat} (hr1 : Room k1 A) (f1 : GF g k1 "_law_pick" spPick) (h : spPlays g vs H Q E) : t_law_plays g A { nx := fun _ H' => Q .non H', rt := Q } (start ["box", "parts", "plays", "k", "sends", "j", "to"] vs) H := by
  obtain ⟨bx, cl, cells, b1, b2, b3, n, N, L, D, rfl, h0, hn, ob, hN, W, k⟩ := h
  rw [e_law_plays]
  show r_law_plays g A _ [some (.ref bx), some (.int n), none, none, none, none, none] H
  unfold r_law_plays
  walk_at "rd"
  rename_i pl
  refine k_call f1 hr1 ⟨bx, cl, cells, b1, b2, b3, 40, N, _, D, rfl, by decide, by decide, ob, by omega, W.mv2.mv2, ?_⟩
  clear ob W H
  intro r cells b1 b2 b3 H hr0 hr1' ob W
  walk_at "rd"
  refine k_rng1 (by omega) (by omega) ?_
  refine k_for walk_range (fun i σ H => ∃ vs ds cells b1 b2 b3 D0 x3 x4 x5 x6, σ = [some (.ref bx), some (.int n), some (.ref pl), x3, x4, x5, x6] ∧ D ⊆ D0 ∧ vs.length = i ∧ ds.length = i ∧ HasAll g.K D0 vs ds ∧ (∀ d ∈ ds, PlayOk n d) ∧ BxOk cells b1 b2 b3 (N + 1 + 30 * i) ∧ Wd ((bx, bxO cl b1 b2 b3) :: (cl, clO cells) :: (pl, .lst vs) :: L) D0 H) ⟨[], [], cells, b1, b2, b3, D, _, _, _, _, rfl, fun _ h => h, rfl, rfl, hasAll_nil, fun _ h => (List.not_mem_nil h).elim, ob.up (by omega), W⟩ (fun _ _ _ _ _ => trivial) ?_ ?_
  · clear ob W
    rintro i x σ H H' hi ⟨vs, ds, cells, b1, b2, b3, D0, x3, x4, x5, x6, rfl, sD, lv, ld, hA, hP, ob, W⟩ ⟨rfl, rfl⟩
    walk_at "rd"
    rename_i sd t0
    refine k_call f1 hr1 ⟨bx, cl, cells, b1, b2, b3, 6, _, _, D0, rfl, by decide, by decide, ob, by omega, W.mv3.mv3, ?_⟩
    clear ob W H
    intro r cells b1 b2 b3 H hr0 hr1' ob W
    obtain ⟨v, hv, _, hm⟩ := atI_get (xs := [V.int 0, V.int 0, V.int 1, V.int 1, V.int 2, V.int 5]) hr0 hr1'
    obtain ⟨j, rfl, hj⟩ : ∃ j : Int, v = .int j ∧ 0 ≤ j ∧ j ≤ 5 := by
      simp only [List.mem_cons, List.not_mem_nil, or_false] at hm
      rcases hm with rfl | rfl | rfl | rfl | rfl | rfl <;> exact ⟨_, rfl, by decide, by decide⟩
    clear hm
    refine k_ix_l W (by walk_at "mem") hv ?_
    walk_at "rd"
    refine k_rng1 (by omega) (by omega) ?_
    refine k_for walk_range (fun i' σ H => ∃ ws es cells b1 b2 b3 D1 x5 x6, σ = [some (.ref bx), some (.int n), some (.ref pl), some (.int (0 + (i : Nat))), some (.ref sd), x5, x6] ∧ D0 ⊆ D1 ∧ ws.length = i' ∧ es.length = i' ∧ HasAll g.K D1 ws es ∧ (∀ d ∈ es, SendOk n d) ∧ BxOk cells b1 b2 b3 (N + 1 + 30 * i + 1 + 3 * i') ∧ Wd ((bx, bxO cl b1 b2 b3) :: (cl, clO cells) :: (sd, .lst ws) :: (pl, .lst vs) :: L) D1 H) ⟨[], [], cells, b1, b2, b3, D0, _, _, rfl, fun _ h => h, rfl, rfl, hasAll_nil, fun _ h => (List.not_mem_nil h).elim, ob.up (by omega), W.mv2.dO⟩ (fun _ _ _ _ _ => trivial) ?_ ?_
    · clear ob W
      rintro i' x σ H H' hi' ⟨ws, es, cells, b1, b2, b3, D1, x5, x6, rfl, sD1, lw, le, hB, hS, ob, W⟩ ⟨rfl, rfl⟩
      walk_at "rd"
      refine k_call f1 hr1 ⟨bx, cl, cells, b1, b2, b3, n, _, _, D1, rfl, h0, hn, ob, by omega, W, ?_⟩
      clear ob W
      intro to cells b1 b2 b3 H ht0 ht1 ob W
      walk_at "rd"
      rename_i t1
      refine k_call f1 hr1 ⟨bx, cl, cells, b1, b2, b3, 4, _, _, D1, rfl, by decide, by decide, ob, by omega, W.mv2.mv2, ?_⟩
      clear ob W H
      intro r4 cells b1 b2 b3 H hr40 hr41 ob W
      obtain ⟨v, hv, _, hm⟩ := atI_get (xs := [V.str "ask", V.str "key", V.str "yes", V.str "q"]) hr40 hr41
      obtain ⟨w, rfl, hw⟩ : ∃ w : Str, v = .str w ∧ wordOk w = true := by
        simp only [List.mem_cons, List.not_mem_nil, or_false] at hm
        rcases hm with rfl | rfl | rfl | rfl <;> exact ⟨_, rfl, by decide +kernel⟩
      clear hm
      refine k_ix_l W (by walk_at "mem") hv ?_
      walk_at "rd"
      refine k_pow cpow_10_9 ?_
      rw [ten9]
      walk_at "rd"
      refine k_call f1 hr1 ⟨bx, cl, cells, b1, b2, b3, _, _, _, D1, rfl, by decide, by decide, ob, by omega, W, ?_⟩
      clear ob W H
      intro num cells b1 b2 b3 H hn0 hn1 ob W
      walk_at "rd"
      rename_i u1 u2
      have W1 := W.mv1.frzT (K := g.K) (hasAll_cons (has_fl (.str w)) (hasAll_cons (has_fl (.int num)) hasAll_nil))
      clear W
      have W := W1.frzT (K := g.K) (hasAll_cons (has_fl (.int to)) (hasAll_cons (has_mem List.mem_cons_self) hasAll_nil))
      clear W1
      walk_at "app"
      refine ⟨ws ++ [.ref u2], es ++ [sendD to w [num]], cells, b1, b2, b3, _, _, _, rfl, by walk_at "sub", by simp [lw], by simp [le], hasAll_app (hB.mono fun _ h => List.mem_cons_of_mem _ (List.mem_cons_of_mem _ h)) (hasAll_cons (has_mem List.mem_cons_self) hasAll_nil), mem3 hS ⟨to, w, [num], rfl, ht0, ht1, hw, mem1 ⟨hn0, ?_⟩⟩, ob.up (by omega), W.ord (by walk_at "spm")⟩
      unfold bnd60
      omega
    · clear ob W
      rintro σ H ⟨ws, es, cells, b1, b2, b3, D1, x5, x6, rfl, sD1, lw, le, hB, hS, ob, W⟩
      walk_at "rd"
      refine k_call f1 hr1 ⟨bx, cl, cells, b1, b2, b3, 2, _, _, D1, rfl, by decide, by decide, ob, by omega, W, ?_⟩
      clear ob W H
      intro r2 cells b1 b2 b3 H hr20 hr21 ob W
      walk_at "rd"
      rename_i u1
      have W1 := W.mv3.frzL (K := g.K) hB
      clear W
      have W := W1.frzT (K := g.K) (hasAll_cons (has_fl (.bl _)) (hasAll_cons (has_mem List.mem_cons_self) hasAll_nil))
      clear W1
      walk_at "app"
      have sD2 := List.Subset.trans sD sD1
      exact ⟨vs ++ [.ref u1], ds ++ [_], cells, b1, b2, b3, _, _, _, _, _, rfl, by walk_at "sub", by simp [lv], by simp [ld], hasAll_app (hA.mono fun _ h => List.mem_cons_of_mem _ (List.mem_cons_of_mem _ (sD1 h))) (hasAll_cons (has_mem List.mem_cons_self) hasAll_nil), mem3 hP ⟨_, es, rfl, by omega, hS⟩, ob.up (by omega), W.ord (by walk_at "spm")⟩
  · rintro σ H ⟨vs, ds, cells, b1, b2, b3, D0, x3, x4, x5, x6, rfl, sD, lv, ld, hA, hP, ob, W⟩
    walk_at "rd"
    exact k _ ds _ _ _ _ _ (by omega) hP (ob.up (by omega)) ((W.mv2.frzL hA).wk fun F hF => by
      rcases List.mem_cons.mp hF with e | e
      · rw [e]; exact List.mem_cons_self
      · exact List.mem_cons_of_mem _ (sD e))
structure Snd where
  to : Nat
  w : Str
  ns : List Int
abbrev Ply := Bool × List Snd
def sndD (s : Snd) : PyData := sendD s.to s.w s.ns
def plyD (p : Ply) : PyData := .tuple [.bool p.1, .list (p.2.map sndD)]
def SndOk (n : Nat) (s : Snd) : Prop := s.to < n ∧ LetOk s.w s.ns
def PlyOk (n : Nat) (p : Ply) : Prop := p.2.length ≤ 1000 ∧ ∀ s ∈ p.2, SndOk n s
def hdP (ps : List Ply) : Ply := ps.headD (true, [])
def outD (ms : List Int) (s : Snd) : PyData := .tuple [.int (ms.getD s.to 0), letD s.w s.ns]
def poV : Option Int → V
  | none => .non
  | some i => .int i
abbrev seatF : List Str := ["me", "state", "sits"]
abbrev pupF : List Str := ["me", "state", "sits", "plays"]
abbrev memF : List Str := ["me", "state", "sits", "inner", "mates", "porter", "passed_on"]
abbrev pupO (C dx : Addr) (me : V) (st : Str) (pl : V) : HO := .ins C dx [("me", me), ("state", .str st), ("sits", .bl false), ("plays", pl)]
abbrev memO (C dx : Addr) (me : V) (st : Str) (ip mt : Addr) (po : V) (pd : Bool) : HO := .ins C dx [("me", me), ("state", .str st), ("sits", .bl false), ("inner", .ref ip), ("mates", .ref mt), ("porter", po), ("passed_on", .bl pd)]
def spSeatInit (g : G) : Sp := fun vs H Q _ => ∃ p C dx me L D, vs = [.ref p, me] ∧ ClsF g.K C seatF ∧ Wd ((p, HO.ins C dx []) :: L) D H ∧ ∀ H', Wd ((p, HO.ins C dx [("me", me), ("state", .str "out"), ("sits", .bl false)]) :: L) D H' → Q .non H'
theorem w_seat_init {g : G} {A : Around} {vs : List V} {H : Hp} {Q : VK} {E : XK} (h : spSeatInit g vs H Q E) : t_Seat_init g A { nx := fun _ H' => Q .non H', rt := Q } (start ["self", "me"] vs) H := by
  obtain ⟨p, C, dx, me, L, D, rfl, hC, W, k⟩ := h
  rw [e_Seat_init]
  show r_Seat_init g A _ [some (.ref p), some me] H
  unfold r_Seat_init
  walk_at "rd"
  exact k _ W
def spPupInit (g : G) (C : Addr) : Sp := fun vs H Q _ => ∃ p dx me n v, ∃ ps : List Ply, ∃ L D, vs = [.ref p, .int me, .int (n : Nat), v] ∧ isD g.K v (.list (ps.map plyD)) ∈ D ∧ ps.length ≤ 1000 ∧ (∀ p ∈ ps, PlyOk n p) ∧ Wd ((p, HO.ins C dx []) :: L) D H ∧
  ∀ pl H', Wd ((p, pupO C dx (.int me) "out" pl) :: L) (isD g.K pl (.list (ps.map plyD)) :: D) H' → Q .non H'
theorem SndOk.send {n : Nat} {s : Snd} (h : SndOk n s) : SendOk n (sndD s) := ⟨s.to, s.w, s.ns, rfl, by omega, by have := h.1; omega, h.2⟩
theorem PlyOk.play {n : Nat} {p : Ply} (h : PlyOk n p) : PlayOk n (plyD p) := ⟨p.1, p.2.map sndD, rfl, by rw [List.length_map]; exact h.1, mem_map fun s hs => (h.2 s hs).send⟩
theorem w_pup_init {g : G} {C : Addr} {A : Around} {vs : List V} {H : Hp} {Q : VK} {E : XK} {k1 k2 : Nat} (hr1 : Room k1 A) (hr2 : Room k2 A) (hC : ClsF g.K C pupF) (f1 : BF g k1 "Seat" "__init__" (spSeatInit g)) (f2 : GF g k2 "is_play" (spIsPlay g)) (h : spPupInit g C vs H Q E) :
    t_Puppet_init g A { nx := fun _ H' => Q .non H', rt := Q } (start ["self", "me", "seats", "plays", "place", "play", "goes", "sends"] vs) H := by
  obtain ⟨p, dx, me, n, v, ps, L, D, rfl, hv, hl, ok, W, k⟩ := h
  obtain ⟨q, ys, rfl, hys, W1⟩ := W.opL hv
  rw [List.length_map] at hys
  clear W
  have W := W1
  clear W1
  rw [e_Puppet_init]
  show r_Puppet_init g A _ [some (.ref p), some (.int me), some (.int n), some (.ref q), none, none, none, none] H
  unfold r_Puppet_init
  walk_at "rd"
  refine k_base f1 hr1 ⟨p, C, dx, .int me, L, _, rfl, ⟨hC.cl, fun f hf => hC.na f (by simp only [List.mem_cons, List.not_mem_nil, or_false] at hf ⊢; rcases hf with h | h | h <;> simp [h])⟩, W, ?_⟩
  clear W H
  intro H W
  walk_at "rd"
  refine k_enum_L (W.list List.mem_cons_self) ?_
  refine k_for walk_enum (fun i σ H => (∃ x y, σ = [some (.ref p), some (.int me), some (.int n), some (.ref q), x, y, none, none]) ∧ Wd ((p, HO.ins C dx [("me", .int me), ("state", .str "out"), ("sits", .bl false)]) :: L) (isL g.K q ys :: isDs g.K ys (ps.map plyD) :: D) H) ⟨⟨_, _, rfl⟩, W⟩ (fun i σ H _ h => h.2.list List.mem_cons_self) ?_ ?_
  · clear W H
    rintro i x σ H H' hi ⟨⟨x1, x2, rfl⟩, W⟩ ⟨T, y, z, rfl, hT, rfl, ey, ez⟩
    have W := W.new hT (.tup [y, z])
    obtain ⟨d, hd, W1⟩ := W.itemV (hasAll_mem (List.mem_cons_of_mem _ List.mem_cons_self)) ez
    rw [List.getElem?_map] at hd
    obtain ⟨pl, hpl, rfl⟩ := Option.map_eq_some_iff.mp hd
    clear W
    have W := W1
    clear W1
    walk_at "rd"
    refine k_call f2 hr2 ⟨z, _, n, _, _, rfl, List.mem_cons_self, (ok pl (List.mem_of_getElem? hpl)).play, W, ?_⟩
    intro H W
    walk_at "rd"
    exact ⟨⟨_, _, rfl⟩, W.dO.dF⟩
  · clear W H
    rintro σ H ⟨⟨x1, x2, rfl⟩, W⟩
    walk_at "rd"
    refine k_lcL (K := g.K) walk_list W (ps.map plyD) (by rw [List.length_map, hys]) (sl_of (by omega)) (fun _ _ _ _ s W => W.list (s List.mem_cons_self)) ?_ ?_
    · rintro p' i x H _ acc D0 d N Z hd s W ⟨rfl, hx⟩ hN
      obtain ⟨d', hd', W1⟩ := W.itemV (hasAll_mem (s (List.mem_cons_of_mem _ List.mem_cons_self))) hx
      rw [hd] at hd'
      cases hd'
      rw [List.getElem?_map] at hd
      obtain ⟨⟨b, ss⟩, hpl, rfl⟩ := Option.map_eq_some_iff.mp hd
      have hss := (ok _ (List.mem_of_getElem? hpl)).1
      obtain ⟨a, u1, u2, rfl, W2⟩ := W1.op2 List.mem_cons_self
      have e1 := W2.vbl (List.mem_cons_of_mem _ List.mem_cons_self)
      subst e1
      obtain ⟨q2, ys2, rfl, hys2, W3⟩ := W2.opL (List.mem_cons_of_mem _ (List.mem_cons_of_mem _ List.mem_cons_self))
      clear W W1 W2
      have W := W3
      clear W3
      walk_at "rd"
      refine ⟨rfl, ?_⟩
      walk_at "rd"
      refine k_list_L W (W.list List.mem_cons_self) ?_
      clear W
      intro l H W
      walk_at "rd"
      have W1 := W.mv1.frzLs (K := g.K) (List.mem_cons_of_mem _ List.mem_cons_self)
      have W2 := W1.frzT (K := g.K) (hasAll_cons (has_fl (.bl b)) (hasAll_cons (has_mem List.mem_cons_self) hasAll_nil))
      exact hN _ _ _ (by walk_at "sub") (has_mem List.mem_cons_self) W2
    · clear W
      intro l acc H ha W
      have W1 := W.frzLs List.mem_cons_self
      clear W
      have W := W1
      clear W1
      walk_at "rd"
      exact k _ _ (W.arr spR (by walk_at "sub"))
theorem SndOk.shp {n : Nat} {s : Snd} (h : SndOk n s) : Shp 2 (sndD s) := shp_tuple (mem2 shp_int h.2.shp)
theorem PlyOk.shp {n : Nat} {p : Ply} (h : PlyOk n p) : Shp 4 (plyD p) := shp_tuple (mem2 shp_bool (shp_list (mem_map fun s hs => (h.2 s hs).shp)))
def spUnplayed (g : G) (C : Addr) : Sp := fun vs H Q _ => ∃ p dx me st pl ds L D, vs = [.ref p] ∧ isD g.K pl (.list ds) ∈ D ∧ Wd ((p, pupO C dx me st pl) :: L) D H ∧ ∀ H', Wd ((p, pupO C dx me st pl) :: L) D H' → Q (.int ds.length) H'
theorem w_unplayed {g : G} {C : Addr} {A : Around} {vs : List V} {H : Hp} {Q : VK} {E : XK} (hC : ClsF g.K C pupF) (h : spUnplayed g C vs H Q E) : t_Puppet_unplayed g A { nx := fun _ H' => Q .non H', rt := Q } (start ["self"] vs) H := by
  obtain ⟨p, dx, me, st, pl, ds, L, D, rfl, hp, W, k⟩ := h
  obtain ⟨q, ys, rfl, hys, W1⟩ := W.opL hp
  clear W
  have W := W1
  clear W1
  rw [e_Puppet_unplayed]
  show r_Puppet_unplayed g A _ [some (.ref p)] H
  unfold r_Puppet_unplayed
  walk_at "rd"
  rw [hys]
  exact k _ W.dF.dF
def spPPlay (g : G) (C : Addr) : Sp := fun vs H Q _ => ∃ p dx me st pl n, ∃ ps : List Ply, ∃ L D, vs = [.ref p] ∧ isD g.K pl (.list (ps.map plyD)) ∈ D ∧ ps.length ≤ 1000 ∧ (∀ p ∈ ps, PlyOk n p) ∧ Wd ((p, pupO C dx me st pl) :: L) D H ∧
  ∀ v pl' H', Wd ((p, pupO C dx me st pl') :: L) (isD g.K v (plyD (hdP ps)) :: isD g.K pl' (.list (ps.tail.map plyD)) :: D) H' → Q v H'
theorem w_pplay {g : G} {C : Addr} {A : Around} {vs : List V} {H : Hp} {Q : VK} {E : XK} (hC : ClsF g.K C pupF) (h : spPPlay g C vs H Q E) : t_Puppet_play g A { nx := fun _ H' => Q .non H', rt := Q } (start ["self", "first", "rest"] vs) H := by
  obtain ⟨p, dx, me, st, pl, n, ps, L, D, rfl, hp, hl, ok, W, k⟩ := h
  have hsh : Shp 5 (.list (ps.map plyD)) := shp_list (mem_map fun p hp => (ok p hp).shp)
  rw [e_Puppet_play]
  show r_Puppet_play g A _ [some (.ref p), none, none] H
  unfold r_Puppet_play
  walk_at "rd"
  have W1 := W.frzL (K := g.K) hasAll_nil
  refine k_eq_D W1 (has_mem (List.mem_cons_of_mem _ hp)) (has_mem List.mem_cons_self) hsh.ok rfl ?_
  clear W
  have W := W1.dF
  clear W1
  cases ps with
  | nil =>
    rw [show PyData.eqv (.list (([] : List Ply).map plyD)) (.list []) = true from rfl]
    walk_at "rd"
    have W1 := W.mv1.frzL (K := g.K) hasAll_nil
    have W2 := W1.frzT (K := g.K) (hasAll_cons (has_fl (.bl true)) (hasAll_cons (has_mem List.mem_cons_self) hasAll_nil))
    exact k _ _ _ (W2.arr spR (fsC List.mem_cons_self (fsC (List.mem_cons_of_mem _ (List.mem_cons_of_mem _ hp)) (by walk_at "sub"))))
  | cons x r =>
    have k : ∀ v pl' H', Wd ((p, pupO C dx me st pl') :: L) (isD g.K v (plyD x) :: isD g.K pl' (.list (r.map plyD)) :: D) H' → Q v H' := k
    rw [show PyData.eqv (.list ((x :: r).map plyD)) (.list []) = false from rfl]
    obtain ⟨q, ys, rfl, hys, W1⟩ := W.opL hp
    clear W
    match ys, hys with
    | y :: yr, hys =>
      have W := W1.ds_cons (List.mem_cons_of_mem _ List.mem_cons_self)
      clear W1
      have hyr : yr.length = r.length := by simpa using hys
      simp only [List.length_cons] at hl
      walk_at "rd"
      refine k_star21 W (by walk_at "mem") (by omega) ?_
      clear W
      intro d H W
      walk_at "rd"
      have W1 := W.mv1.frzL (K := g.K) (hasAll_mem (List.mem_cons_of_mem _ List.mem_cons_self))
      exact k _ _ _ (W1.arr spR (by walk_at "sub"))
structure PupS where
  st : Str
  ps : List Ply
def spPDeed (g : G) (C : Addr) (n : Nat) (f : Bool → Str → Str) : Sp := fun vs H Q _ => ∃ p dx me st pl m, ∃ ps : List Ply, ∃ rs L D, vs = .ref p :: rs ∧ rs.length = n ∧ isD g.K pl (.list (ps.map plyD)) ∈ D ∧ ps.length ≤ 1000 ∧ (∀ p ∈ ps, PlyOk m p) ∧ Wd ((p, pupO C dx me st pl) :: L) D H ∧
  ∀ v pl' H', Wd ((p, pupO C dx me (f (hdP ps).1 st) pl') :: L) (isD g.K v (.list ((hdP ps).2.map sndD)) :: isD g.K pl' (.list (ps.tail.map plyD)) :: D) H' → Q v H'
abbrev fAsk (b : Bool) (st : Str) : Str := if b then "in" else "asking"
abbrev fLeave (b : Bool) (st : Str) : Str := "out"
abbrev fHear (b : Bool) (st : Str) : Str := if b && decide (st = "asking") then "in" else st
theorem w_pask {g : G} {C : Addr} {A : Around} {vs : List V} {H : Hp} {Q : VK} {E : XK} {k1 : Nat} (hr1 : Room k1 A) (hC : ClsF g.K C pupF) (f1 : MF g k1 C "play" (spPPlay g C)) (h : spPDeed g C 0 fAsk vs H Q E) : t_Puppet_ask g A { nx := fun _ H' => Q .non H', rt := Q } (start ["self", "goes", "sends"] vs) H := by
  obtain ⟨p, dx, me, st, pl, n, ps, rs, L, D, rfl, hrs, hp, hl, ok, W, k⟩ := h
  cases rs with
  | cons _ _ => cases hrs
  | nil =>
    rw [e_Puppet_ask]
    show r_Puppet_ask g A _ [some (.ref p), none, none] H
    unfold r_Puppet_ask
    walk_at "rd"
    refine k_recvM W (by walk_at "mem") hC f1 (by walk_at "lkn") ?_
    walk_at "rd"
    refine k_meth f1 hr1 ⟨p, dx, me, st, pl, n, ps, L, D, rfl, hp, hl, ok, W, ?_⟩
    clear W H
    intro v pl' H W
    generalize hdP ps = x at W k
    obtain ⟨b, ss⟩ := x
    obtain ⟨a, u1, u2, rfl, W1⟩ := W.op2 List.mem_cons_self
    have e1 := W1.vbl (List.mem_cons_of_mem _ List.mem_cons_self)
    subst e1
    clear W
    have W := W1
    clear W1
    walk_at "rd"
    cases b with
    | true =>
      walk_at "rd"
      exact k _ _ _ (W.arr spR (by walk_at "sub"))
    | false =>
      walk_at "rd"
      exact k _ _ _ (W.arr spR (by walk_at "sub"))
theorem w_pleave {g : G} {C : Addr} {A : Around} {vs : List V} {H : Hp} {Q : VK} {E : XK} {k1 : Nat} (hr1 : Room k1 A) (hC : ClsF g.K C pupF) (f1 : MF g k1 C "play" (spPPlay g C)) (h : spPDeed g C 0 fLeave vs H Q E) : t_Puppet_leave g A { nx := fun _ H' => Q .non H', rt := Q } (start ["self", "goes", "sends"] vs) H := by
  obtain ⟨p, dx, me, st, pl, n, ps, rs, L, D, rfl, hrs, hp, hl, ok, W, k⟩ := h
  cases rs with
  | cons _ _ => cases hrs
  | nil =>
    rw [e_Puppet_leave]
    show r_Puppet_leave g A _ [some (.ref p), none, none] H
    unfold r_Puppet_leave
    walk_at "rd"
    refine k_recvM W (by walk_at "mem") hC f1 (by walk_at "lkn") ?_
    walk_at "rd"
    refine k_meth f1 hr1 ⟨p, dx, me, st, pl, n, ps, L, D, rfl, hp, hl, ok, W, ?_⟩
    clear W H
    intro v pl' H W
    generalize hdP ps = x at W k
    obtain ⟨b, ss⟩ := x
    obtain ⟨a, u1, u2, rfl, W1⟩ := W.op2 List.mem_cons_self
    have e1 := W1.vbl (List.mem_cons_of_mem _ List.mem_cons_self)
    subst e1
    clear W
    have W := W1
    clear W1
    walk_at "rd"
    exact k _ _ _ (W.arr spR (by walk_at "sub"))
theorem w_phear {g : G} {C : Addr} {A : Around} {vs : List V} {H : Hp} {Q : VK} {E : XK} {k1 : Nat} (hr1 : Room k1 A) (hC : ClsF g.K C pupF) (f1 : MF g k1 C "play" (spPPlay g C)) (h : spPDeed g C 2 fHear vs H Q E) : t_Puppet_hear g A { nx := fun _ H' => Q .non H', rt := Q } (start ["self", "sender", "letter", "goes", "sends"] vs) H := by
  obtain ⟨p, dx, me, st, pl, n, ps, rs, L, D, rfl, hrs, hp, hl, ok, W, k⟩ := h
  match rs, hrs with
  | [sn, lt], _ =>
    rw [e_Puppet_hear]
    show r_Puppet_hear g A _ [some (.ref p), some sn, some lt, none, none] H
    unfold r_Puppet_hear
    walk_at "rd"
    refine k_recvM W (by walk_at "mem") hC f1 (by walk_at "lkn") ?_
    walk_at "rd"
    refine k_meth f1 hr1 ⟨p, dx, me, st, pl, n, ps, L, D, rfl, hp, hl, ok, W, ?_⟩
    clear W H
    intro v pl' H W
    generalize hdP ps = x at W k
    obtain ⟨b, ss⟩ := x
    obtain ⟨a, u1, u2, rfl, W1⟩ := W.op2 List.mem_cons_self
    have e1 := W1.vbl (List.mem_cons_of_mem _ List.mem_cons_self)
    subst e1
    clear W
    have W := W1
    clear W1
    walk_at "rd"
    refine k_cut0 ?_
    walk_at "rd"
    cases b with
    | true =>
      walk_at "rd"
      refine k_ifd (fun hb => ?_) (fun hb => ?_)
      · walk_at "rd"
        refine k _ _ _ (W.arr ?_ (by walk_at "sub"))
        rw [show fHear true st = "in" from if_pos (by simp [hb])]
        exact spR
      · walk_at "rd"
        refine k _ _ _ (W.arr ?_ (by walk_at "sub"))
        rw [show fHear true st = st from if_neg (by simp [hb])]
        exact spR
    | false =>
      walk_at "rd"
      exact k _ _ _ (W.arr spR (by walk_at "sub"))
def spLinkInit (g : G) (C : Addr) : Sp := fun vs H Q _ => ∃ p dx me ip hd, ∃ ms : List Int, ∃ po L D, vs = [.ref p, me, .ref ip, .ref hd, po] ∧ (hd, HO.lst (ms.map V.int)) ∈ L ∧ Wd ((p, HO.ins C dx []) :: L) D H ∧
  ∀ mt H', Wd ((p, memO C dx me "out" ip mt po false) :: L) (isFT mt (ms.map V.int) :: isT g.K mt (ms.map V.int) :: D) H' → Q .non H'
theorem w_link_init {g : G} {C : Addr} {A : Around} {vs : List V} {H : Hp} {Q : VK} {E : XK} {k1 : Nat} (hr1 : Room k1 A) (hC : ClsF g.K C memF) (f1 : BF g k1 "Seat" "__init__" (spSeatInit g)) (h : spLinkInit g C vs H Q E) :
    t_Link_init g A { nx := fun _ H' => Q .non H', rt := Q } (start ["self", "me", "inner", "mates", "porter"] vs) H := by
  obtain ⟨p, dx, me, ip, hd, ms, po, L, D, rfl, hh, W, k⟩ := h
  rw [e_Link_init]
  show r_Link_init g A _ [some (.ref p), some me, some (.ref ip), some (.ref hd), some po] H
  unfold r_Link_init
  walk_at "rd"
  refine k_base f1 hr1 ⟨p, C, dx, me, L, _, rfl, ⟨hC.cl, fun f hf => hC.na f (by simp only [List.mem_cons, List.not_mem_nil, or_false] at hf ⊢; rcases hf with h | h | h <;> simp [h])⟩, W, ?_⟩
  clear W H
  intro H W
  walk_at "rd"
  refine k_tuple_f W (W.sq (List.mem_cons_of_mem _ hh)) ?_
  clear W H
  intro mt o H hf W
  have W1 := W.frzFT (K := g.K) hf
  clear W
  have W := W1
  clear W1
  walk_at "rd"
  exact k _ _ W
def SsOk (n : Nat) (ss : List Snd) : Prop := ss.length ≤ 1000 ∧ ∀ s ∈ ss, SndOk n s
def spOut (g : G) (C : Addr) : Sp := fun vs H Q _ => ∃ m dx me st ip mt po pd v, ∃ ms : List Int, ∃ ss : List Snd, ∃ L D, vs = [.ref m, v] ∧ isD g.K v (.list (ss.map sndD)) ∈ D ∧ isT g.K mt (ms.map V.int) ∈ D ∧ SsOk ms.length ss ∧ Wd ((m, memO C dx me st ip mt po pd) :: L) D H ∧
  ∀ q xs H', xs.length = ss.length → Wd ((q, .lst xs) :: (m, memO C dx me st ip mt po pd) :: L) (isDs g.K xs (ss.map (outD ms)) :: D) H' → Q (.ref q) H'
theorem w_out {g : G} {C : Addr} {A : Around} {vs : List V} {H : Hp} {Q : VK} {E : XK} (hC : ClsF g.K C memF) (h : spOut g C vs H Q E) : t_Link_outward g A { nx := fun _ H' => Q .non H', rt := Q } (start ["self", "letters", "to", "letter"] vs) H := by
  obtain ⟨m, dx, me, st, ip, mt, po, pd, v, ms, ss, L, D, rfl, hv, ht, ⟨hl, ok⟩, W, k⟩ := h
  obtain ⟨q, ys, rfl, hys, W1⟩ := W.opL hv
  rw [List.length_map] at hys
  clear W
  have W := W1
  clear W1
  rw [e_Link_outward]
  show r_Link_outward g A _ [some (.ref m), some (.ref q), none, none] H
  unfold r_Link_outward
  walk_at "rd"
  refine k_lcL (K := g.K) walk_list W (ss.map (outD ms)) (by rw [List.length_map, hys]) (sl_of (by omega)) (fun _ _ _ _ s W => W.list (s List.mem_cons_self)) ?_ ?_
  · rintro p' i x H _ acc D0 d N Z hd s W ⟨rfl, hx⟩ hN
    obtain ⟨d', hd', W1⟩ := W.itemV (hasAll_mem (s (List.mem_cons_of_mem _ List.mem_cons_self))) hx
    rw [List.getElem?_map] at hd hd'
    obtain ⟨sn, hsn, rfl⟩ := Option.map_eq_some_iff.mp hd
    rw [hsn] at hd'
    cases hd'
    have hok := ok _ (List.mem_of_getElem? hsn)
    obtain ⟨a, u1, u2, rfl, W2⟩ := W1.op2 List.mem_cons_self
    have e1 := W2.vint (List.mem_cons_of_mem _ List.mem_cons_self)
    subst e1
    have ht' := s (List.mem_cons_of_mem _ (List.mem_cons_of_mem _ ht))
    have hmm : ms[sn.to]? = some (ms.getD sn.to 0) := by
      have := hok.1
      simp [List.getD, this]
    clear W W1
    have W := W2
    clear W2
    walk_at "rd"
    refine ⟨rfl, ?_⟩
    walk_at "rd"
    refine k_ix_T (W.tupl (List.mem_cons_of_mem _ (List.mem_cons_of_mem _ (List.mem_cons_of_mem _ (List.mem_cons_of_mem _ ht'))))) (atI_map hmm) ?_
    walk_at "rd"
    have W1 := W.frzT (K := g.K) (hasAll_cons (has_fl (.int _)) (hasAll_cons (has_mem (List.mem_cons_of_mem _ (List.mem_cons_of_mem _ List.mem_cons_self))) hasAll_nil))
    exact hN _ _ _ (by walk_at "sub") (has_mem List.mem_cons_self) W1
  · clear W
    intro l acc H ha W
    exact k _ _ _ (by rw [ha, hys]) (W.arr spR (by walk_at "sub"))
def riseD : Option Int → List PyData
  | none => []
  | some i => [.tuple [.int i, .tuple [.str "please"]]]
def doneD : Option Int → List PyData
  | none => []
  | some i => [.tuple [.int i, .tuple [.str "done"]]]
def riseS (po : Option Int) (st : Str) : Str := if po = none then "in" else st
def spGranted (C : Addr) : Sp := fun vs H Q _ => ∃ m dx me st ip mt po pd L D, vs = [.ref m] ∧ Wd ((m, memO C dx me st ip mt po pd) :: L) D H ∧ ∀ q H', Wd ((q, .lst []) :: (m, memO C dx me "in" ip mt po pd) :: L) D H' → Q (.ref q) H'
theorem w_granted {g : G} {C : Addr} {A : Around} {vs : List V} {H : Hp} {Q : VK} {E : XK} (hC : ClsF g.K C memF) (h : spGranted C vs H Q E) : t_Member_granted g A { nx := fun _ H' => Q .non H', rt := Q } (start ["self"] vs) H := by
  obtain ⟨m, dx, me, st, ip, mt, po, pd, L, D, rfl, W, k⟩ := h
  rw [e_Member_granted]
  show r_Member_granted g A _ [some (.ref m)] H
  unfold r_Member_granted
  walk_at "rd"
  exact k _ _ W
def spRisen (g : G) (C : Addr) : Sp := fun vs H Q _ => ∃ m dx me st ip mt po pd L D, vs = [.ref m] ∧ Wd ((m, memO C dx me st ip mt (poV po) pd) :: L) D H ∧
  ∀ q xs H', Wd ((q, .lst xs) :: (m, memO C dx me (riseS po st) ip mt (poV po) pd) :: L) (isDs g.K xs (riseD po) :: D) H' → Q (.ref q) H'
theorem w_risen {g : G} {C : Addr} {A : Around} {vs : List V} {H : Hp} {Q : VK} {E : XK} {k1 : Nat} (hr1 : Room k1 A) (hC : ClsF g.K C memF) (f1 : MF g k1 C "granted" (spGranted C)) (h : spRisen g C vs H Q E) : t_Link_risen g A { nx := fun _ H' => Q .non H', rt := Q } (start ["self"] vs) H := by
  obtain ⟨m, dx, me, st, ip, mt, po, pd, L, D, rfl, W, k⟩ := h
  rw [e_Link_risen]
  show r_Link_risen g A _ [some (.ref m)] H
  unfold r_Link_risen
  walk_at "rd"
  cases po with
  | none =>
    refine k_ifp rfl ?_
    walk_at "rd"
    refine k_recvM W (by walk_at "mem") hC f1 (by walk_at "lkn") ?_
    walk_at "rd"
    refine k_meth f1 hr1 ⟨m, dx, me, st, ip, mt, _, pd, _, _, rfl, W, ?_⟩
    clear W H
    intro q H W
    exact k _ _ _ (W.addDs hasAll_nil)
  | some i =>
    refine k_ifn (by simp [poV]) ?_
    walk_at "rd"
    have W1 := W.mv2.frzT (K := g.K) (hasAll_cons (has_fl (.str _)) hasAll_nil)
    have W2 := W1.mv1.frzT (K := g.K) (hasAll_cons (has_fl (.int i)) (hasAll_cons (has_mem List.mem_cons_self) hasAll_nil))
    have W3 := W2.addDs (K := g.K) (hasAll_cons (has_mem List.mem_cons_self) hasAll_nil)
    rw [show riseS (some i) st = st from if_neg (by simp), show riseD (some i) = [.tuple [.int i, .tuple [.str "please"]]] from rfl] at k
    exact k _ _ _ (W3.arr spR (by walk_at "sub"))
def onwC (ist : Str) (pd : Bool) : Bool := decide (ist = "in") && !pd
def spOnward (g : G) (C Cp : Addr) : Sp := fun vs H Q _ => ∃ m dx me st ip mt po pd v pdx pme ist pl, ∃ ms : List Int, ∃ ss : List Snd, ∃ L D, vs = [.ref m, v] ∧ isD g.K v (.list (ss.map sndD)) ∈ D ∧ isT g.K mt (ms.map V.int) ∈ D ∧ SsOk ms.length ss ∧
  Wd ((m, memO C dx me st ip mt (poV po) pd) :: (ip, pupO Cp pdx pme ist pl) :: L) D H ∧
  ∀ q xs H', xs.length ≤ ss.length + 1 → Wd ((q, .lst xs) :: (m, memO C dx me (if onwC ist pd then riseS po st else st) ip mt (poV po) (pd || onwC ist pd)) :: (ip, pupO Cp pdx pme ist pl) :: L) (isDs g.K xs (ss.map (outD ms) ++ (if onwC ist pd then riseD po else [])) :: D) H' → Q (.ref q) H'
theorem riseD_len (po : Option Int) : (riseD po).length ≤ 1 := by cases po <;> simp [riseD]
theorem w_onward {g : G} {C Cp : Addr} {A : Around} {vs : List V} {H : Hp} {Q : VK} {E : XK} {k1 k2 : Nat} (hr1 : Room k1 A) (hr2 : Room k2 A) (hC : ClsF g.K C memF) (hCp : ClsF g.K Cp pupF) (f1 : MF g k1 C "outward" (spOut g C)) (f2 : MF g k2 C "risen" (spRisen g C)) (h : spOnward g C Cp vs H Q E) :
    t_Link_onward g A { nx := fun _ H' => Q .non H', rt := Q } (start ["self", "letters", "sent"] vs) H := by
  obtain ⟨m, dx, me, st, ip, mt, po, pd, v, pdx, pme, ist, pl, ms, ss, L, D, rfl, hv, ht, ok, W, k⟩ := h
  rw [e_Link_onward]
  show r_Link_onward g A _ [some (.ref m), some v, none] H
  unfold r_Link_onward
  walk_at "rd"
  refine k_recvM W (by walk_at "mem") hC f1 (by walk_at "lkn") ?_
  walk_at "rd"
  refine k_meth f1 hr1 ⟨m, dx, me, st, ip, mt, _, pd, v, ms, ss, _, D, rfl, hv, ht, ok, W, ?_⟩
  clear W H
  intro q xs H hx W
  walk_at "rd"
  refine k_cut0 ?_
  walk_at "rd"
  refine k_ifd (fun hi => ?_) (fun hi => ?_)
  · cases pd with
    | false =>
      walk_at "rd"
      refine k_recvM W (by walk_at "mem") hC f2 (by walk_at "lkn") ?_
      walk_at "rd"
      refine k_meth f2 hr2 ⟨m, dx, me, st, ip, mt, po, true, _, _, rfl, W, ?_⟩
      clear W H
      intro q2 xs2 H W
      have l1 := W.lenL List.mem_cons_self
      have l2 := riseD_len po
      have l3 := ok.1
      walk_at "rd"
      refine k_ext (by walk_at "fr") (by walk_at "mem") (sl_of (by omega)) ?_
      clear W H
      intro H W
      walk_at "rd"
      have W1 := W.addDs (hasAll_app (hasAll_mem (List.mem_cons_of_mem _ List.mem_cons_self)) (hasAll_mem List.mem_cons_self))
      refine k q (xs ++ xs2) H (by simp; omega) ?_
      rw [show onwC ist false = true from by simp [onwC, hi]]
      simp only [↓reduceIte, Bool.or_true, Bool.or_false, List.append_nil, Bool.false_eq_true]
      exact W1.arr (by walk_at "spm") (by walk_at "sub")
    | true =>
      walk_at "rd"
      refine k q xs H (by omega) ?_
      rw [show onwC ist true = false from by simp [onwC]]
      simp only [↓reduceIte, Bool.or_true, Bool.or_false, List.append_nil, Bool.false_eq_true]
      exact W
  · walk_at "rd"
    refine k q xs H (by omega) ?_
    rw [show onwC ist pd = false from by simp [onwC, hi]]
    simp only [↓reduceIte, Bool.or_true, Bool.or_false, List.append_nil, Bool.false_eq_true]
    exact W
def spLetGo (g : G) (C Cp : Addr) : Sp := fun vs H Q _ => ∃ m dx me st ip mt po pd pdx pme ist pl, ∃ ms : List Int, ∃ ps : List Ply, ∃ L D, vs = [.ref m] ∧ isD g.K pl (.list (ps.map plyD)) ∈ D ∧ isT g.K mt (ms.map V.int) ∈ D ∧ ps.length ≤ 1000 ∧ (∀ p ∈ ps, PlyOk ms.length p) ∧
  Wd ((m, memO C dx me st ip mt (poV po) pd) :: (ip, pupO Cp pdx pme ist pl) :: L) D H ∧
  ∀ q xs pl' H', xs.length ≤ 1001 → Wd ((q, .lst xs) :: (m, memO C dx me st ip mt (poV po) false) :: (ip, pupO Cp pdx pme "out" pl') :: L) (isDs g.K xs (doneD po ++ (hdP ps).2.map (outD ms)) :: isD g.K pl' (.list (ps.tail.map plyD)) :: D) H' → Q (.ref q) H'
theorem doneD_len (po : Option Int) : (doneD po).length ≤ 1 := by cases po <;> simp [doneD]
theorem hdP_ok {n : Nat} {ps : List Ply} (h : ∀ p ∈ ps, PlyOk n p) : SsOk n (hdP ps).2 := by
  cases ps with
  | nil => exact ⟨Nat.zero_le _, fun _ h => (List.not_mem_nil h).elim⟩
  | cons x r => exact h x List.mem_cons_self
theorem w_letgo {g : G} {C Cp : Addr} {A : Around} {vs : List V} {H : Hp} {Q : VK} {E : XK} {k1 k2 : Nat} (hr1 : Room k1 A) (hr2 : Room k2 A) (hC : ClsF g.K C memF) (hCp : ClsF g.K Cp pupF) (f1 : MF g k1 C "outward" (spOut g C)) (f2 : MF g k2 Cp "leave" (spPDeed g Cp 0 fLeave)) (h : spLetGo g C Cp vs H Q E) :
    t_Link_let_go g A { nx := fun _ H' => Q .non H', rt := Q } (start ["self", "sent"] vs) H := by
  obtain ⟨m, dx, me, st, ip, mt, po, pd, pdx, pme, ist, pl, ms, ps, L, D, rfl, hpl, ht, hl, ok, W, k⟩ := h
  rw [e_Link_let_go]
  show r_Link_let_go g A _ [some (.ref m), none] H
  unfold r_Link_let_go
  walk_at "rd"
  rename_i q
  refine k_cut (fun σ H => ∃ xs, σ = [some (.ref m), some (.ref q)] ∧ Wd ((q, .lst xs) :: (m, memO C dx me st ip mt (poV po) false) :: (ip, pupO Cp pdx pme ist pl) :: L) (isDs g.K xs (doneD po) :: D) H) ?_ ?_
  · walk_at "rd"
    cases po with
    | none =>
      refine k_ifnp rfl ?_
      exact ⟨[], rfl, W.addDs hasAll_nil⟩
    | some i =>
      refine k_ifnn (by simp [poV]) ?_
      walk_at "rd"
      have W1 := W.mv1.frzT (K := g.K) (hasAll_cons (has_fl (.str _)) hasAll_nil)
      have W2 := W1.frzT (K := g.K) (hasAll_cons (has_fl (.int i)) (hasAll_cons (has_mem List.mem_cons_self) hasAll_nil))
      clear W
      have W := W2.addDs (K := g.K) (hasAll_cons (has_mem List.mem_cons_self) hasAll_nil)
      clear W1 W2
      walk_at "app"
      exact ⟨_, rfl, W.arr spR (fsC List.mem_cons_self (by walk_at "sub"))⟩
  · clear W
    rintro σ H ⟨xs, rfl, W⟩
    walk_at "rd"
    refine k_recvM W (by walk_at "mem") hC f1 (by walk_at "lkn") ?_
    walk_at "rd"
    refine k_recvM W (by walk_at "mem") hCp f2 (by walk_at "lkn") ?_
    walk_at "rd"
    refine k_meth f2 hr2 ⟨ip, pdx, pme, ist, pl, ms.length, ps, [], (q, .lst xs) :: (m, memO C dx me st ip mt (poV po) false) :: L, _, rfl, rfl, List.mem_cons_of_mem _ hpl, hl, ok, W.ord (by walk_at "spm"), ?_⟩
    clear W H
    intro v pl' H W
    have sok := hdP_ok ok
    walk_at "rd"
    refine k_meth f1 hr1 ⟨m, dx, me, st, ip, mt, _, _, v, ms, (hdP ps).2, (q, .lst xs) :: (ip, pupO Cp pdx pme "out" pl') :: L, _, rfl, List.mem_cons_self, List.mem_cons_of_mem _ (List.mem_cons_of_mem _ (List.mem_cons_of_mem _ ht)), sok, W.ord (by walk_at "spm"), ?_⟩
    clear W H
    intro q2 xs2 H hx W
    have l1 := W.lenL (List.mem_cons_of_mem _ (List.mem_cons_of_mem _ (List.mem_cons_of_mem _ List.mem_cons_self)))
    have l2 := doneD_len po
    have l3 := sok.1
    walk_at "rd"
    refine k_ext (by walk_at "fr") (by walk_at "mem") (sl_of (by omega)) ?_
    clear W H
    intro H W
    walk_at "rd"
    have W1 := W.addDs (hasAll_app (hasAll_mem (List.mem_cons_of_mem _ (List.mem_cons_of_mem _ (List.mem_cons_of_mem _ List.mem_cons_self)))) (hasAll_mem List.mem_cons_self))
    exact k q (xs ++ xs2) pl' H (by simp; omega) (W1.arr (by walk_at "spm") (by walk_at "sub"))
structure MV where
  m : Addr
  dx : Addr
  me : V
  st : Str
  ip : Addr
  mt : Addr
  po : Option Int
  pd : Bool
  pdx : Addr
  pme : V
  ist : Str
  pl : V
  ms : List Int
  ps : List Ply
  L : Ow
  D : List Fct
structure MV.In (g : G) (C Cp : Addr) (x : MV) (H : Hp) : Prop where
  pls : isD g.K x.pl (.list (x.ps.map plyD)) ∈ x.D
  ft : isFT x.mt (x.ms.map V.int) ∈ x.D
  tt : isT g.K x.mt (x.ms.map V.int) ∈ x.D
  len : x.ps.length ≤ 1000
  ok : ∀ p ∈ x.ps, PlyOk x.ms.length p
  W : Wd ((x.m, memO C x.dx x.me x.st x.ip x.mt (poV x.po) x.pd) :: (x.ip, pupO Cp x.pdx x.pme x.ist x.pl) :: x.L) x.D H
def MV.Out (g : G) (C Cp : Addr) (x : MV) (f : Bool → Str → Str) (Q : VK) : Prop := ∀ q xs pl' H', xs.length ≤ 1001 →
  Wd ((q, .lst xs) :: (x.m, memO C x.dx x.me (if onwC (f (hdP x.ps).1 x.ist) x.pd then riseS x.po x.st else x.st) x.ip x.mt (poV x.po) (x.pd || onwC (f (hdP x.ps).1 x.ist) x.pd)) :: (x.ip, pupO Cp x.pdx x.pme (f (hdP x.ps).1 x.ist) pl') :: x.L)
    (isDs g.K xs ((hdP x.ps).2.map (outD x.ms) ++ (if onwC (f (hdP x.ps).1 x.ist) x.pd then riseD x.po else [])) :: isD g.K pl' (.list (x.ps.tail.map plyD)) :: x.D) H' → Q (.ref q) H'
def spInward (g : G) (C Cp : Addr) : Sp := fun vs H Q _ => ∃ x : MV, ∃ s lt, vs = [.ref x.m, .int s, lt] ∧ s ∈ x.ms ∧ x.In g C Cp H ∧ x.Out g C Cp fHear Q
theorem idx_of {α : Type} [DecidableEq α] {s : α} : ∀ {ms : List α}, s ∈ ms → ∃ j : Nat, ms[j]? = some s ∧ ∀ m, m < j → ms[m]? ≠ some s
  | [], h => (List.not_mem_nil h).elim
  | a :: r, h => by
    by_cases e : a = s
    · exact ⟨0, by simp [e], fun m hm => (Nat.not_lt_zero m hm).elim⟩
    · have h2 : s ∈ r := by
        rcases List.mem_cons.mp h with h | h
        · exact (e h.symm).elim
        · exact h
      obtain ⟨j, h3, h4⟩ := idx_of h2
      refine ⟨j + 1, by simpa using h3, fun m hm => ?_⟩
      cases m with
      | zero => simpa using e
      | succ m => simpa using h4 m (by omega)
theorem w_inward {g : G} {C Cp : Addr} {A : Around} {vs : List V} {H : Hp} {Q : VK} {E : XK} {k1 k2 : Nat} (hr1 : Room k1 A) (hr2 : Room k2 A) (hC : ClsF g.K C memF) (hCp : ClsF g.K Cp pupF) (f1 : MF g k1 C "onward" (spOnward g C Cp)) (f2 : MF g k2 Cp "hear" (spPDeed g Cp 2 fHear)) (h : spInward g C Cp vs H Q E) :
    t_Link_inward g A { nx := fun _ H' => Q .non H', rt := Q } (start ["self", "sender", "letter"] vs) H := by
  obtain ⟨⟨m, dx, me, st, ip, mt, po, pd, pdx, pme, ist, pl, ms, ps, L, D⟩, s, lt, rfl, hs, ⟨hpl, hf, ht, hl, ok, W⟩, k⟩ := h
  dsimp only at hs hpl hf ht hl ok W k
  obtain ⟨j, hj, hj2⟩ := idx_of hs
  rw [e_Link_inward]
  show r_Link_inward g A _ [some (.ref m), some (.int s), some lt] H
  unfold r_Link_inward
  walk_at "rd"
  refine k_recvM W (by walk_at "mem") hC f1 (by walk_at "lkn") ?_
  walk_at "rd"
  refine k_recvM W (by walk_at "mem") hCp f2 (by walk_at "lkn") ?_
  walk_at "rd"
  refine k_bmtF W hf ?_
  walk_at "rd"
  refine ⟨mt, ms, s, j, rfl, rfl, W.tupl ht, hj, hj2, ?_⟩
  walk_at "rd"
  refine k_meth f2 hr2 ⟨ip, pdx, pme, ist, pl, ms.length, ps, [.int (j : Nat), lt], (m, memO C dx me st ip mt (poV po) pd) :: L, D, rfl, rfl, hpl, hl, ok, W.ord (by walk_at "spm"), ?_⟩
  clear W H
  intro v pl' H W
  have sok := hdP_ok ok
  walk_at "rd"
  refine k_meth f1 hr1 ⟨m, dx, me, st, ip, mt, po, pd, v, pdx, pme, fHear (hdP ps).1 ist, pl', ms, (hdP ps).2, L, _, rfl, List.mem_cons_self, List.mem_cons_of_mem _ (List.mem_cons_of_mem _ ht), sok, W.ord (by walk_at "spm"), ?_⟩
  clear W H
  intro q xs H hx W
  have l3 := sok.1
  exact k q xs pl' H (by omega) (W.arr spR (by walk_at "sub"))
def spMAsk (g : G) (C Cp : Addr) : Sp := fun vs H Q _ => ∃ x : MV, vs = [.ref x.m] ∧ x.In g C Cp H ∧ ({ x with st := "asking" } : MV).Out g C Cp fAsk Q
theorem w_mask {g : G} {C Cp : Addr} {A : Around} {vs : List V} {H : Hp} {Q : VK} {E : XK} {k1 k2 : Nat} (hr1 : Room k1 A) (hr2 : Room k2 A) (hC : ClsF g.K C memF) (hCp : ClsF g.K Cp pupF) (f1 : MF g k1 C "onward" (spOnward g C Cp)) (f2 : MF g k2 Cp "ask" (spPDeed g Cp 0 fAsk)) (h : spMAsk g C Cp vs H Q E) :
    t_Member_ask g A { nx := fun _ H' => Q .non H', rt := Q } (start ["self"] vs) H := by
  obtain ⟨⟨m, dx, me, st, ip, mt, po, pd, pdx, pme, ist, pl, ms, ps, L, D⟩, rfl, ⟨hpl, hf, ht, hl, ok, W⟩, k⟩ := h
  dsimp only at hpl hf ht hl ok W k
  rw [e_Member_ask]
  show r_Member_ask g A _ [some (.ref m)] H
  unfold r_Member_ask
  walk_at "rd"
  refine k_recvM W (by walk_at "mem") hC f1 (by walk_at "lkn") ?_
  walk_at "rd"
  refine k_recvM W (by walk_at "mem") hCp f2 (by walk_at "lkn") ?_
  walk_at "rd"
  refine k_meth f2 hr2 ⟨ip, pdx, pme, ist, pl, ms.length, ps, [], (m, memO C dx me "asking" ip mt (poV po) pd) :: L, D, rfl, rfl, hpl, hl, ok, W.ord (by walk_at "spm"), ?_⟩
  clear W H
  intro v pl' H W
  have sok := hdP_ok ok
  walk_at "rd"
  refine k_meth f1 hr1 ⟨m, dx, me, "asking", ip, mt, po, pd, v, pdx, pme, fAsk (hdP ps).1 ist, pl', ms, (hdP ps).2, L, _, rfl, List.mem_cons_self, List.mem_cons_of_mem _ (List.mem_cons_of_mem _ ht), sok, W.ord (by walk_at "spm"), ?_⟩
  clear W H
  intro q xs H hx W
  have l3 := sok.1
  exact k q xs pl' H (by omega) (W.arr spR (by walk_at "sub"))
def spMLeave (g : G) (C Cp : Addr) : Sp := fun vs H Q _ => ∃ x : MV, vs = [.ref x.m] ∧ x.In g C Cp H ∧
  ∀ q xs pl' H', xs.length ≤ 1001 → Wd ((q, .lst xs) :: (x.m, memO C x.dx x.me "out" x.ip x.mt (poV x.po) false) :: (x.ip, pupO Cp x.pdx x.pme "out" pl') :: x.L) (isDs g.K xs (doneD x.po ++ (hdP x.ps).2.map (outD x.ms)) :: isD g.K pl' (.list (x.ps.tail.map plyD)) :: x.D) H' → Q (.ref q) H'
theorem w_mleave {g : G} {C Cp : Addr} {A : Around} {vs : List V} {H : Hp} {Q : VK} {E : XK} {k1 : Nat} (hr1 : Room k1 A) (hC : ClsF g.K C memF) (f1 : MF g k1 C "let_go" (spLetGo g C Cp)) (h : spMLeave g C Cp vs H Q E) :
    t_Member_leave g A { nx := fun _ H' => Q .non H', rt := Q } (start ["self"] vs) H := by
  obtain ⟨⟨m, dx, me, st, ip, mt, po, pd, pdx, pme, ist, pl, ms, ps, L, D⟩, rfl, ⟨hpl, hf, ht, hl, ok, W⟩, k⟩ := h
  dsimp only at hpl hf ht hl ok W k
  rw [e_Member_leave]
  show r_Member_leave g A _ [some (.ref m)] H
  unfold r_Member_leave
  walk_at "rd"
  refine k_recvM W (by walk_at "mem") hC f1 (by walk_at "lkn") ?_
  walk_at "rd"
  exact k_meth f1 hr1 ⟨m, dx, me, "out", ip, mt, po, pd, pdx, pme, ist, pl, ms, ps, L, D, rfl, hpl, ht, hl, ok, W, k⟩
def spMHear (g : G) (C Cp : Addr) : Sp := fun vs H Q _ => ∃ x : MV, ∃ s lt, vs = [.ref x.m, .int s, lt] ∧ x.In g C Cp H ∧
  ((s ∈ x.ms ∧ x.po ≠ some s ∧ x.Out g C Cp fHear Q) ∨ (x.po = some s ∧ ∀ q H', Wd ((q, .lst []) :: (x.m, memO C x.dx x.me "in" x.ip x.mt (poV x.po) x.pd) :: (x.ip, pupO Cp x.pdx x.pme x.ist x.pl) :: x.L) x.D H' → Q (.ref q) H'))
theorem w_mhear {g : G} {C Cp : Addr} {A : Around} {vs : List V} {H : Hp} {Q : VK} {E : XK} {k1 k2 : Nat} (hr1 : Room k1 A) (hr2 : Room k2 A) (hC : ClsF g.K C memF) (f1 : MF g k1 C "inward" (spInward g C Cp)) (f2 : MF g k2 C "granted" (spGranted C)) (h : spMHear g C Cp vs H Q E) :
    t_Member_hear g A { nx := fun _ H' => Q .non H', rt := Q } (start ["self", "sender", "letter"] vs) H := by
  obtain ⟨⟨m, dx, me, st, ip, mt, po, pd, pdx, pme, ist, pl, ms, ps, L, D⟩, s, lt, rfl, hI, k⟩ := h
  have W := hI.W
  dsimp only at W k
  rw [e_Member_hear]
  show r_Member_hear g A _ [some (.ref m), some (.int s), some lt] H
  unfold r_Member_hear
  walk_at "rd"
  rcases k with ⟨hs, hp, k⟩ | ⟨rfl, k⟩
  · have hne : ¬ V.int s = poV po := by
      cases po with
      | none => simp [poV]
      | some i => simpa [poV, eq_comm] using hp
    refine k_eq_sc (by cases po <;> rfl) ?_
    walk_at "rd"
    refine k_ifn hne ?_
    walk_at "rd"
    refine k_recvM W (by walk_at "mem") hC f1 (by walk_at "lkn") ?_
    walk_at "rd"
    exact k_meth f1 hr1 ⟨⟨m, dx, me, st, ip, mt, po, pd, pdx, pme, ist, pl, ms, ps, L, D⟩, s, lt, rfl, hs, hI, k⟩
  · refine k_eq_sc rfl ?_
    walk_at "rd"
    refine k_ifp rfl ?_
    walk_at "rd"
    refine k_recvM W (by walk_at "mem") hC f2 (by walk_at "lkn") ?_
    walk_at "rd"
    exact k_meth f2 hr2 ⟨m, dx, me, st, ip, mt, _, pd, _, D, rfl, W, k⟩
theorem cut_to (xs : List V) (k : Nat) : cutV xs none (some (k : Int)) = xs.take k := by
  unfold cutV
  rw [HT.sIx_none, HT.sIx_nat, List.drop_zero, Nat.sub_zero]
  rw [List.take_eq_take_iff]
  omega
theorem cut_from (xs : List V) (k : Nat) : cutV xs (some (k : Int)) none = xs.drop k := by
  unfold cutV
  rw [HT.sIx_none, HT.sIx_nat]
  by_cases h : k ≤ xs.length
  · rw [Nat.min_eq_left h, List.take_of_length_le (by simp)]
  · rw [Nat.min_eq_right (by omega), List.drop_of_length_le (Nat.le_refl _), List.drop_of_length_le (by omega)]
    simp
def spLPlay (g : G) : Sp := fun vs H Q _ => ∃ v a, ∃ n : Nat, ∃ ps : List Ply, ∃ L D, vs = [v, .ref a] ∧ isD g.K v (.list (ps.map plyD)) ∈ D ∧ Wd ((a, HO.lst [.int n]) :: L) D H ∧
  ∀ w H', Wd ((a, HO.lst [.int (n + 1 : Nat)]) :: L) (isD g.K w (plyD (hdP (ps.drop n))) :: D) H' → Q w H'
theorem w_lplay {g : G} {A : Around} {vs : List V} {H : Hp} {Q : VK} {E : XK} (h : spLPlay g vs H Q E) : t_law_play g A { nx := fun _ H' => Q .non H', rt := Q } (start ["plays", "at"] vs) H := by
  obtain ⟨v, a, n, ps, L, D, rfl, hv, W, k⟩ := h
  obtain ⟨q, ys, rfl, hys, W1⟩ := W.opL hv
  rw [List.length_map] at hys
  clear W
  have W := W1
  clear W1
  rw [e_law_play]
  show r_law_play g A _ [some (.ref q), some (.ref a)] H
  unfold r_law_play
  walk_at "rd"
  refine k_ifd (fun hc => ?_) (fun hc => ?_)
  · walk_at "rd"
    have hn : n < ps.length := by omega
    have hd : (ps.map plyD)[n]? = some (plyD ps[n]) := by simp [hn]
    obtain ⟨w, hw, W1⟩ := W.item (hasAll_mem (List.mem_cons_of_mem _ List.mem_cons_self)) hd
    have e : atI ys ((n : Int) + 1 - 1) = some w := by
      rw [Int.add_sub_cancel]
      obtain ⟨v, h1, h2, _⟩ := atI_get (xs := ys) (r := (n : Int)) (by omega) (by omega)
      rw [h1, ← h2]
      simpa using hw
    refine k_ix_Lm W (by walk_at "mem") e ?_
    have hx : hdP (ps.drop n) = ps[n] := by
      unfold hdP
      rw [List.drop_eq_getElem_cons hn, List.headD_cons]
    rw [hx] at k
    exact k _ _ (W1.arr spR (by walk_at "sub"))
  · walk_at "rd"
    have hn : ps.length ≤ n := by omega
    have W1 := W.mv1.frzL (K := g.K) hasAll_nil
    have W2 := W1.frzT (K := g.K) (hasAll_cons (has_fl (.bl true)) (hasAll_cons (has_mem List.mem_cons_self) hasAll_nil))
    have hx : hdP (ps.drop n) = (true, []) := by
      unfold hdP
      rw [List.drop_of_length_le hn]
      rfl
    rw [hx, show plyD (true, []) = .tuple [.bool true, .list []] from rfl] at k
    exact k _ _ (W2.arr spR (by walk_at "sub"))
def intsO (xs : List Int) : HO := .lst (xs.map V.int)
def spUnlike : Sp := fun vs H Q _ => ∃ bx cl cells b1 b2 b3, ∃ n : Nat, ∃ N L D, vs = [.ref bx, .int n] ∧ n ≤ 50 ∧ BxOk cells b1 b2 b3 N ∧ N < 2 ^ 50 ∧ Wd ((bx, bxO cl b1 b2 b3) :: (cl, clO cells) :: L) D H ∧
  ∀ r (xs : List Int) cells b1 b2 b3 H', xs.length = n → xs.Nodup → BxOk cells b1 b2 b3 (N + 100) → Wd ((r, .lst (xs.map V.int)) :: (bx, bxO cl b1 b2 b3) :: (cl, clO cells) :: L) D H' → Q (.ref r) H'
theorem rg_map (n : Nat) : rgV 0 (n : Int) = ((List.range n).map Int.ofNat).map V.int := by
  unfold rgV
  rw [List.map_map, Int.sub_zero, Int.toNat_natCast]
  apply List.map_congr_left
  intro i _
  simp
theorem erase_map {α β : Type} {f : α → β} : ∀ {ls : List α} {j : Nat}, (ls.map f).eraseIdx j = (ls.eraseIdx j).map f
  | [], _ => rfl
  | _ :: _, 0 => rfl
  | a :: r, j + 1 => by
    show f a :: (r.map f).eraseIdx j = f a :: (r.eraseIdx j).map f
    rw [erase_map]
theorem erase_perm {α : Type} : ∀ {ls : List α} {j : Nat} (h : j < ls.length), (ls[j] :: ls.eraseIdx j).Perm ls
  | [], _, h => (Nat.not_lt_zero _ h).elim
  | _ :: _, 0, _ => List.Perm.refl _
  | a :: r, j + 1, h => (List.Perm.swap _ _ _).trans (List.Perm.cons a (erase_perm (ls := r) (by simpa using h)))
theorem w_unlike {g : G} {A : Around} {vs : List V} {H : Hp} {Q : VK} {E : XK} {k1 : Nat} (hr1 : Room k1 A) (f1 : GF g k1 "_law_pick" spPick) (h : spUnlike vs H Q E) : t_law_unlike g A { nx := fun _ H' => Q .non H', rt := Q } (start ["box", "many", "left", "row", "k"] vs) H := by
  obtain ⟨bx, cl, cells, b1, b2, b3, n, N, L, D, rfl, hn, ob, hN, W, k⟩ := h
  rw [e_law_unlike]
  show r_law_unlike g A _ [some (.ref bx), some (.int n), none, none, none] H
  unfold r_law_unlike
  walk_at "rd"
  refine k_rng W ⟨by decide, by decide, by decide, by decide, by decide⟩ ?_
  clear W H
  intro lf H W
  rw [show rgV 0 60 = ((List.range 60).map Int.ofNat).map V.int from rg_map 60] at W
  walk_at "rd"
  rename_i rw
  refine k_rng1 (by omega) (by omega) ?_
  refine k_for walk_range (fun i σ H => ∃ ls rs cells b1 b2 b3 x, σ = [some (.ref bx), some (.int n), some (.ref lf), some (.ref rw), x] ∧ ls.length + i = 60 ∧ rs.length = i ∧ (rs ++ ls).Nodup ∧ BxOk cells b1 b2 b3 (N + i) ∧ Wd ((bx, bxO cl b1 b2 b3) :: (cl, clO cells) :: (rw, .lst (rs.map V.int)) :: (lf, .lst (ls.map V.int)) :: L) D H)
    ⟨(List.range 60).map Int.ofNat, [], cells, b1, b2, b3, _, rfl, by simp, rfl, ?_, ob.up (by omega), W.ord (L' := (bx, _) :: (cl, _) :: (rw, .lst []) :: (lf, _) :: L) (by walk_at "spm")⟩ (fun _ _ _ _ _ => trivial) ?_ ?_
  · rw [List.nil_append]
    exact List.pairwise_map.mpr (List.nodup_range.imp fun h e => h (Int.ofNat.inj e))
  · clear ob W H
    rintro i x σ H H' hi ⟨ls, rs, cells, b1, b2, b3, x4, rfl, l1, l2, nd, ob, W⟩ ⟨rfl, rfl⟩
    walk_at "rd"
    rw [List.length_map]
    refine k_call f1 hr1 ⟨bx, cl, cells, b1, b2, b3, _, _, _, D, rfl, by omega, by omega, ob, by omega, W, ?_⟩
    clear ob W
    intro r cells b1 b2 b3 H hr0 hr1 ob W
    obtain ⟨j, rfl⟩ : ∃ j : Nat, r = j := ⟨r.toNat, by omega⟩
    have hj : j < ls.length := by omega
    walk_at "rd"
    refine k_popAt (n := j) (v := .int ls[j]) (xs := ls.map V.int) (by walk_at "fr") (by omega) (by omega) ?_ (by simp [hj]) ?_
    · unfold seqIndex?
      simp [hj]
      refine ⟨⟨by split <;> omega, by split <;> omega⟩, by split <;> omega⟩
    clear W
    intro H W
    rw [erase_map] at W
    walk_at "app"
    refine ⟨ls.eraseIdx j, rs ++ [ls[j]], cells, b1, b2, b3, _, rfl, ?_, by simp [l2], ?_, ob.up (by omega), ?_⟩
    · rw [List.length_eraseIdx, if_pos hj]
      omega
    · have p : (rs ++ [ls[j]] ++ ls.eraseIdx j).Perm (rs ++ ls) := by
        rw [List.append_assoc]
        refine List.Perm.append_left _ ?_
        exact erase_perm hj
      exact p.nodup_iff.mpr nd
    · rw [List.map_append, List.map_cons, List.map_nil]
      exact W.ord (by walk_at "spm")
  · clear ob W H
    rintro σ H ⟨ls, rs, cells, b1, b2, b3, x4, rfl, l1, l2, nd, ob, W⟩
    walk_at "rd"
    exact k _ rs _ _ _ _ _ (by omega) (List.nodup_append.mp nd).1 (ob.up (by omega)) (W.ord (by walk_at "spm"))
theorem rep_all {K : PySem.W.Frag} {D : List Fct} {v : V} {d : PyData} (h : Has K D v d) (n : Nat) : HasAll K D (List.replicate n [v]).flatten (List.replicate n d) := by
  induction n with
  | zero => exact hasAll_nil
  | succ n ih => exact hasAll_cons h ih
theorem rep_len {v : V} (n : Nat) : (List.replicate n [v]).flatten.length = n := by
  induction n with
  | zero => rfl
  | succ n ih => rw [List.replicate_succ, List.flatten_cons, List.length_append, ih, List.length_singleton, Nat.add_comm]
theorem sends_of {n : Nat} : ∀ {ss : List PyData}, (∀ s ∈ ss, SendOk (n : Int) s) → ∃ l : List Snd, ss = l.map sndD ∧ ∀ s ∈ l, SndOk n s
  | [], _ => ⟨[], rfl, fun _ h => (List.not_mem_nil h).elim⟩
  | d :: r, h => by
    obtain ⟨l, e, h2⟩ := sends_of (ss := r) fun s hs => h s (List.mem_cons_of_mem _ hs)
    obtain ⟨to, w, ns, rfl, h0, h1, ok⟩ := h d List.mem_cons_self
    refine ⟨⟨to.toNat, w, ns⟩ :: l, ?_, mem_cons' ⟨by show to.toNat < n; omega, ok⟩ h2⟩
    rw [List.map_cons, e, show sndD ⟨to.toNat, w, ns⟩ = sendD to w ns from by unfold sndD; rw [Int.toNat_of_nonneg h0]]
theorem plays_of {n : Nat} : ∀ {ds : List PyData}, (∀ d ∈ ds, PlayOk (n : Int) d) → ∃ l : List Ply, ds = l.map plyD ∧ ∀ p ∈ l, PlyOk n p
  | [], _ => ⟨[], rfl, fun _ h => (List.not_mem_nil h).elim⟩
  | d :: r, h => by
    obtain ⟨l, e, h2⟩ := plays_of (ds := r) fun s hs => h s (List.mem_cons_of_mem _ hs)
    obtain ⟨b, ss, rfl, hl, ok⟩ := h d List.mem_cons_self
    obtain ⟨sl, rfl, h3⟩ := sends_of ok
    exact ⟨(b, sl) :: l, by rw [List.map_cons, e]; rfl, mem_cons' ⟨by rw [List.length_map] at hl; exact hl, h3⟩ h2⟩
theorem Wd.frzIL {K : PySem.W.Frag} {L : Ow} {D : List Fct} {H : Hp} {p : Addr} {xs : List V} (W : Wd ((p, .lst xs) :: L) D H) : Wd L (isL K p xs :: D) H := W.frz isL_stab fun B _ e => SqL.of e
theorem cpow_10_60 : CPowW 10 60 := ⟨by decide, by decide +kernel⟩
theorem k_if2 {b : Bool} {ta tb : TE} {σ : L2.St} {H : Hp} {Q : VK} (R : V → Hp → Prop) (rest : ∀ v H', R v H' → Q v H') (h1 : ∀ Q' : VK, (∀ v H', R v H' → Q' v H') → b = true → ta σ H Q') (h2 : ∀ Q' : VK, (∀ v H', R v H' → Q' v H') → b = false → tb σ H Q') : kIf b (ta σ H Q) (tb σ H Q) := by
  cases b with
  | true => exact h1 Q rest rfl
  | false => exact iteF (h2 Q rest rfl)
theorem map_take {α β : Type} {f : α → β} {l : List α} {n : Nat} : (l.map f).take n = (l.take n).map f := List.map_take.symm
def PairOk (d : PyData) : Prop := ∃ i es, d = .tuple [.int i, .tuple es]
def spPairs (g : G) : Sp := fun vs H Q _ => ∃ v w ds L D, vs = [v, w] ∧ isD g.K v (.list ds) ∈ D ∧ isD g.K w (.list ds) ∈ D ∧ Shp 9 (.list ds) ∧ (∀ d ∈ ds, PairOk d) ∧ Wd L D H ∧ ∀ H', Wd L D H' → Q (.bl true) H'
theorem w_pairs {g : G} {A : Around} {vs : List V} {H : Hp} {Q : VK} {E : XK} (h : spPairs g vs H Q E) : t_law_pairs g A { nx := fun _ H' => Q .non H', rt := Q } (start ["found", "due", "pair"] vs) H := by
  obtain ⟨v, w, ds, L, D, rfl, hv, hw, hs, ok, W, k⟩ := h
  obtain ⟨q, ys, rfl, hys, W1⟩ := W.opL hv
  clear W
  have W := W1
  clear W1
  rw [e_law_pairs]
  show r_law_pairs g A _ [some (.ref q), some w, none] H
  unfold r_law_pairs
  walk_at "rd"
  refine k_ne_D W (has_mem (List.mem_cons_of_mem _ (List.mem_cons_of_mem _ hv))) (has_mem (List.mem_cons_of_mem _ (List.mem_cons_of_mem _ hw))) hs.ok hs.ok ?_
  rw [hs.eqv]
  walk_at "rd"
  refine k_for walk_list (fun i σ H => (∃ x, σ = [some (.ref q), some w, x]) ∧ Wd L (isL g.K q ys :: isDs g.K ys ds :: D) H) ⟨⟨_, rfl⟩, W⟩ (fun i σ H _ h => h.2.list List.mem_cons_self) ?_ ?_
  · clear W
    rintro i x σ H _ hi ⟨⟨x0, rfl⟩, W⟩ ⟨rfl, hx⟩
    obtain ⟨d, hd, W1⟩ := W.itemV (hasAll_mem (List.mem_cons_of_mem _ List.mem_cons_self)) hx
    obtain ⟨n, es, rfl⟩ := ok d (List.mem_of_getElem? hd)
    obtain ⟨a, u1, u2, rfl, W2⟩ := W1.op2 List.mem_cons_self
    have e1 := W2.vint (List.mem_cons_of_mem _ List.mem_cons_self)
    subst e1
    obtain ⟨b, zs, rfl, hzs, W3⟩ := W2.opT (List.mem_cons_of_mem _ (List.mem_cons_of_mem _ List.mem_cons_self))
    clear W W1 W2
    have W := W3
    clear W3
    walk_at "rd"
    exact ⟨⟨_, rfl⟩, W.arr spR (by walk_at "sub")⟩
  · clear W
    rintro σ H ⟨⟨x0, rfl⟩, W⟩
    walk_at "rd"
    exact k _ W.dF.dF
def spLaw (g : G) : Sp := fun vs H Q _ => ∃ s, ∃ cs : List Int, ∃ L D, vs = [.ref s] ∧ isL g.K s (cs.map V.int) ∈ D ∧ (∀ c ∈ cs, c.natAbs < 2 ^ 1048576) ∧ cs.length ≤ 1000 ∧ Wd L D H ∧ ∀ H', Q (.bl true) H'
theorem cut_mid (xs : List V) (i j : Nat) (h : i + j ≤ xs.length) : cutV xs (some (i : Int)) (some ((i + j : Nat) : Int)) = (xs.drop i).take j := by
  unfold cutV
  rw [HT.sIx_nat, HT.sIx_nat, Nat.min_eq_left h, Nat.min_eq_left (show i ≤ xs.length by omega), Nat.add_sub_cancel_left]
abbrev porF : List Str := ["me", "state", "sits", "inner", "mates", "porter", "passed_on", "serves", "pleas"]
abbrev porO (C : Addr) (sv : Option Int) (pq dx : Addr) (me : V) (st : Str) (ip mt : Addr) (po : V) (pd : Bool) : HO := .ins C dx [("me", me), ("state", .str st), ("sits", .bl false), ("inner", .ref ip), ("mates", .ref mt), ("porter", po), ("passed_on", .bl pd), ("serves", poV sv), ("pleas", .ref pq)]
def pspOut (g : G) (C : Addr) : Sp := fun vs H Q _ => ∃ m sv pq dx me st ip mt po pd v, ∃ ms : List Int, ∃ ss : List Snd, ∃ L D, vs = [.ref m, v] ∧ isD g.K v (.list (ss.map sndD)) ∈ D ∧ isT g.K mt (ms.map V.int) ∈ D ∧ SsOk ms.length ss ∧ Wd ((m, porO C sv pq dx me st ip mt po pd) :: L) D H ∧
  ∀ q xs H', xs.length = ss.length → Wd ((q, .lst xs) :: (m, porO C sv pq dx me st ip mt po pd) :: L) (isDs g.K xs (ss.map (outD ms)) :: D) H' → Q (.ref q) H'
theorem w_outP {g : G} {C : Addr} {A : Around} {vs : List V} {H : Hp} {Q : VK} {E : XK} (hC : ClsF g.K C porF) (h : pspOut g C vs H Q E) : t_Link_outward g A { nx := fun _ H' => Q .non H', rt := Q } (start ["self", "letters", "to", "letter"] vs) H := by
  obtain ⟨m, sv, pq, dx, me, st, ip, mt, po, pd, v, ms, ss, L, D, rfl, hv, ht, ⟨hl, ok⟩, W, k⟩ := h
  obtain ⟨q, ys, rfl, hys, W1⟩ := W.opL hv
  rw [List.length_map] at hys
  clear W
  have W := W1
  clear W1
  rw [e_Link_outward]
  show r_Link_outward g A _ [some (.ref m), some (.ref q), none, none] H
  unfold r_Link_outward
  walk_at "rd"
  refine k_lcL (K := g.K) walk_list W (ss.map (outD ms)) (by rw [List.length_map, hys]) (sl_of (by omega)) (fun _ _ _ _ s W => W.list (s List.mem_cons_self)) ?_ ?_
  · rintro p' i x H _ acc D0 d N Z hd s W ⟨rfl, hx⟩ hN
    obtain ⟨d', hd', W1⟩ := W.itemV (hasAll_mem (s (List.mem_cons_of_mem _ List.mem_cons_self))) hx
    rw [List.getElem?_map] at hd hd'
    obtain ⟨sn, hsn, rfl⟩ := Option.map_eq_some_iff.mp hd
    rw [hsn] at hd'
    cases hd'
    have hok := ok _ (List.mem_of_getElem? hsn)
    obtain ⟨a, u1, u2, rfl, W2⟩ := W1.op2 List.mem_cons_self
    have e1 := W2.vint (List.mem_cons_of_mem _ List.mem_cons_self)
    subst e1
    have ht' := s (List.mem_cons_of_mem _ (List.mem_cons_of_mem _ ht))
    have hmm : ms[sn.to]? = some (ms.getD sn.to 0) := by
      have := hok.1
      simp [List.getD, this]
    clear W W1
    have W := W2
    clear W2
    walk_at "rd"
    refine ⟨rfl, ?_⟩
    walk_at "rd"
    refine k_ix_T (W.tupl (List.mem_cons_of_mem _ (List.mem_cons_of_mem _ (List.mem_cons_of_mem _ (List.mem_cons_of_mem _ ht'))))) (atI_map hmm) ?_
    walk_at "rd"
    have W1 := W.frzT (K := g.K) (hasAll_cons (has_fl (.int _)) (hasAll_cons (has_mem (List.mem_cons_of_mem _ (List.mem_cons_of_mem _ List.mem_cons_self))) hasAll_nil))
    exact hN _ _ _ (by walk_at "sub") (has_mem List.mem_cons_self) W1
  · clear W
    intro l acc H ha W
    exact k _ _ _ (by rw [ha, hys]) (W.arr spR (by walk_at "sub"))
def svD : Option Int → PyData
  | none => .none
  | some i => .int i
def yoursD (sv : Option Int) : PyData := .tuple [svD sv, .tuple [.str "yours"]]
def risePD (po sv : Option Int) : List PyData := match po with
  | none => [yoursD sv]
  | some i => [.tuple [.int i, .tuple [.str "please"]]]
theorem fl_sv (sv : Option Int) : Fl (poV sv) (svD sv) := by
  cases sv with
  | none => exact .non
  | some i => exact .int i
def pspGranted (g : G) (C : Addr) : Sp := fun vs H Q _ => ∃ m sv pq dx me st ip mt po pd L D, vs = [.ref m] ∧ Wd ((m, porO C sv pq dx me st ip mt po pd) :: L) D H ∧ ∀ q xs H', Wd ((q, .lst xs) :: (m, porO C sv pq dx me st ip mt po pd) :: L) (isDs g.K xs [yoursD sv] :: D) H' → Q (.ref q) H'
theorem w_grantedP {g : G} {C : Addr} {A : Around} {vs : List V} {H : Hp} {Q : VK} {E : XK} (hC : ClsF g.K C porF) (h : pspGranted g C vs H Q E) : t_Porter_granted g A { nx := fun _ H' => Q .non H', rt := Q } (start ["self"] vs) H := by
  obtain ⟨m, sv, pq, dx, me, st, ip, mt, po, pd, L, D, rfl, W, k⟩ := h
  rw [e_Porter_granted]
  show r_Porter_granted g A _ [some (.ref m)] H
  unfold r_Porter_granted
  walk_at "rd"
  have W1 := W.mv2.frzT (K := g.K) (hasAll_cons (has_fl (.str _)) hasAll_nil)
  have W2 := W1.mv1.frzT (K := g.K) (hasAll_cons (has_fl (fl_sv sv)) (hasAll_cons (has_mem List.mem_cons_self) hasAll_nil))
  have W3 := W2.addDs (K := g.K) (hasAll_cons (has_mem List.mem_cons_self) hasAll_nil)
  exact k _ _ _ (W3.arr spR (fsC List.mem_cons_self (by walk_at "sub")))
def pspRisen (g : G) (C : Addr) : Sp := fun vs H Q _ => ∃ m sv pq dx me st ip mt po pd L D, vs = [.ref m] ∧ Wd ((m, porO C sv pq dx me st ip mt (poV po) pd) :: L) D H ∧
  ∀ q xs H', Wd ((q, .lst xs) :: (m, porO C sv pq dx me st ip mt (poV po) pd) :: L) (isDs g.K xs (risePD po sv) :: D) H' → Q (.ref q) H'
theorem w_risenP {g : G} {C : Addr} {A : Around} {vs : List V} {H : Hp} {Q : VK} {E : XK} {k1 : Nat} (hr1 : Room k1 A) (hC : ClsF g.K C porF) (f1 : MF g k1 C "granted" (pspGranted g C)) (h : pspRisen g C vs H Q E) : t_Link_risen g A { nx := fun _ H' => Q .non H', rt := Q } (start ["self"] vs) H := by
  obtain ⟨m, sv, pq, dx, me, st, ip, mt, po, pd, L, D, rfl, W, k⟩ := h
  rw [e_Link_risen]
  show r_Link_risen g A _ [some (.ref m)] H
  unfold r_Link_risen
  walk_at "rd"
  cases po with
  | none =>
    walk_at "rd"
    refine k_recvM W (by walk_at "mem") hC f1 (by walk_at "lkn") ?_
    walk_at "rd"
    exact k_meth f1 hr1 ⟨m, sv, pq, dx, me, st, ip, mt, _, pd, _, _, rfl, W, k⟩
  | some i =>
    refine k_ifn (by simp [poV]) ?_
    walk_at "rd"
    have W1 := W.mv2.frzT (K := g.K) (hasAll_cons (has_fl (.str _)) hasAll_nil)
    have W2 := W1.mv1.frzT (K := g.K) (hasAll_cons (has_fl (.int i)) (hasAll_cons (has_mem List.mem_cons_self) hasAll_nil))
    have W3 := W2.addDs (K := g.K) (hasAll_cons (has_mem List.mem_cons_self) hasAll_nil)
    exact k _ _ _ (W3.arr spR (fsC List.mem_cons_self (by walk_at "sub")))
theorem risePD_len (po sv : Option Int) : (risePD po sv).length ≤ 1 := by cases po <;> simp [risePD]
def pspOnward (g : G) (C Cp : Addr) : Sp := fun vs H Q _ => ∃ m sv pq dx me st ip mt po pd v pdx pme ist pl, ∃ ms : List Int, ∃ ss : List Snd, ∃ L D, vs = [.ref m, v] ∧ isD g.K v (.list (ss.map sndD)) ∈ D ∧ isT g.K mt (ms.map V.int) ∈ D ∧ SsOk ms.length ss ∧
  Wd ((m, porO C sv pq dx me st ip mt (poV po) pd) :: (ip, pupO Cp pdx pme ist pl) :: L) D H ∧
  ∀ q xs H', xs.length ≤ ss.length + 1 → Wd ((q, .lst xs) :: (m, porO C sv pq dx me (st) ip mt (poV po) (pd || onwC ist pd)) :: (ip, pupO Cp pdx pme ist pl) :: L) (isDs g.K xs (ss.map (outD ms) ++ (if onwC ist pd then risePD po sv else [])) :: D) H' → Q (.ref q) H'
theorem w_onwardP {g : G} {C Cp : Addr} {A : Around} {vs : List V} {H : Hp} {Q : VK} {E : XK} {k1 k2 : Nat} (hr1 : Room k1 A) (hr2 : Room k2 A) (hC : ClsF g.K C porF) (hCp : ClsF g.K Cp pupF) (f1 : MF g k1 C "outward" (pspOut g C)) (f2 : MF g k2 C "risen" (pspRisen g C)) (h : pspOnward g C Cp vs H Q E) :
    t_Link_onward g A { nx := fun _ H' => Q .non H', rt := Q } (start ["self", "letters", "sent"] vs) H := by
  obtain ⟨m, sv, pq, dx, me, st, ip, mt, po, pd, v, pdx, pme, ist, pl, ms, ss, L, D, rfl, hv, ht, ok, W, k⟩ := h
  rw [e_Link_onward]
  show r_Link_onward g A _ [some (.ref m), some v, none] H
  unfold r_Link_onward
  walk_at "rd"
  refine k_recvM W (by walk_at "mem") hC f1 (by walk_at "lkn") ?_
  walk_at "rd"
  refine k_meth f1 hr1 ⟨m, sv, pq, dx, me, st, ip, mt, _, pd, v, ms, ss, _, D, rfl, hv, ht, ok, W, ?_⟩
  clear W H
  intro q xs H hx W
  walk_at "rd"
  refine k_cut0 ?_
  walk_at "rd"
  refine k_ifd (fun hi => ?_) (fun hi => ?_)
  · cases pd with
    | false =>
      walk_at "rd"
      refine k_recvM W (by walk_at "mem") hC f2 (by walk_at "lkn") ?_
      walk_at "rd"
      refine k_meth f2 hr2 ⟨m, sv, pq, dx, me, st, ip, mt, po, true, _, _, rfl, W, ?_⟩
      clear W H
      intro q2 xs2 H W
      have l1 := W.lenL List.mem_cons_self
      have l2 := risePD_len po sv
      have l3 := ok.1
      walk_at "rd"
      refine k_ext (by walk_at "fr") (by walk_at "mem") (sl_of (by omega)) ?_
      clear W H
      intro H W
      walk_at "rd"
      have W1 := W.addDs (hasAll_app (hasAll_mem (List.mem_cons_of_mem _ List.mem_cons_self)) (hasAll_mem List.mem_cons_self))
      refine k q (xs ++ xs2) H (by simp; omega) ?_
      rw [show onwC ist false = true from by simp [onwC, hi]]
      simp only [↓reduceIte, Bool.or_true, Bool.or_false, List.append_nil, Bool.false_eq_true]
      exact W1.arr (by walk_at "spm") (by walk_at "sub")
    | true =>
      walk_at "rd"
      refine k q xs H (by omega) ?_
      rw [show onwC ist true = false from by simp [onwC]]
      simp only [↓reduceIte, Bool.or_true, Bool.or_false, List.append_nil, Bool.false_eq_true]
      exact W
  · walk_at "rd"
    refine k q xs H (by omega) ?_
    rw [show onwC ist pd = false from by simp [onwC, hi]]
    simp only [↓reduceIte, Bool.or_true, Bool.or_false, List.append_nil, Bool.false_eq_true]
    exact W
def pspLetGo (g : G) (C Cp : Addr) : Sp := fun vs H Q _ => ∃ m sv pq dx me st ip mt po pd pdx pme ist pl, ∃ ms : List Int, ∃ ps : List Ply, ∃ L D, vs = [.ref m] ∧ isD g.K pl (.list (ps.map plyD)) ∈ D ∧ isT g.K mt (ms.map V.int) ∈ D ∧ ps.length ≤ 1000 ∧ (∀ p ∈ ps, PlyOk ms.length p) ∧
  Wd ((m, porO C sv pq dx me st ip mt (poV po) pd) :: (ip, pupO Cp pdx pme ist pl) :: L) D H ∧
  ∀ q xs pl' H', xs.length ≤ 1001 → Wd ((q, .lst xs) :: (m, porO C sv pq dx me st ip mt (poV po) false) :: (ip, pupO Cp pdx pme "out" pl') :: L) (isDs g.K xs (doneD po ++ (hdP ps).2.map (outD ms)) :: isD g.K pl' (.list (ps.tail.map plyD)) :: D) H' → Q (.ref q) H'
theorem w_letgoP {g : G} {C Cp : Addr} {A : Around} {vs : List V} {H : Hp} {Q : VK} {E : XK} {k1 k2 : Nat} (hr1 : Room k1 A) (hr2 : Room k2 A) (hC : ClsF g.K C porF) (hCp : ClsF g.K Cp pupF) (f1 : MF g k1 C "outward" (pspOut g C)) (f2 : MF g k2 Cp "leave" (spPDeed g Cp 0 fLeave)) (h : pspLetGo g C Cp vs H Q E) :
    t_Link_let_go g A { nx := fun _ H' => Q .non H', rt := Q } (start ["self", "sent"] vs) H := by
  obtain ⟨m, sv, pq, dx, me, st, ip, mt, po, pd, pdx, pme, ist, pl, ms, ps, L, D, rfl, hpl, ht, hl, ok, W, k⟩ := h
  rw [e_Link_let_go]
  show r_Link_let_go g A _ [some (.ref m), none] H
  unfold r_Link_let_go
  walk_at "rd"
  rename_i q
  refine k_cut (fun σ H => ∃ xs, σ = [some (.ref m), some (.ref q)] ∧ Wd ((q, .lst xs) :: (m, porO C sv pq dx me st ip mt (poV po) false) :: (ip, pupO Cp pdx pme ist pl) :: L) (isDs g.K xs (doneD po) :: D) H) ?_ ?_
  · walk_at "rd"
    cases po with
    | none =>
      refine k_ifnp rfl ?_
      exact ⟨[], rfl, W.addDs hasAll_nil⟩
    | some i =>
      refine k_ifnn (by simp [poV]) ?_
      walk_at "rd"
      have W1 := W.mv1.frzT (K := g.K) (hasAll_cons (has_fl (.str _)) hasAll_nil)
      have W2 := W1.frzT (K := g.K) (hasAll_cons (has_fl (.int i)) (hasAll_cons (has_mem List.mem_cons_self) hasAll_nil))
      clear W
      have W := W2.addDs (K := g.K) (hasAll_cons (has_mem List.mem_cons_self) hasAll_nil)
      clear W1 W2
      walk_at "app"
      exact ⟨_, rfl, W.arr spR (fsC List.mem_cons_self (by walk_at "sub"))⟩
  · clear W
    rintro σ H ⟨xs, rfl, W⟩
    walk_at "rd"
    refine k_recvM W (by walk_at "mem") hC f1 (by walk_at "lkn") ?_
    walk_at "rd"
    refine k_recvM W (by walk_at "mem") hCp f2 (by walk_at "lkn") ?_
    walk_at "rd"
    refine k_meth f2 hr2 ⟨ip, pdx, pme, ist, pl, ms.length, ps, [], (q, .lst xs) :: (m, porO C sv pq dx me st ip mt (poV po) false) :: L, _, rfl, rfl, List.mem_cons_of_mem _ hpl, hl, ok, W.ord (by walk_at "spm"), ?_⟩
    clear W H
    intro v pl' H W
    have sok := hdP_ok ok
    walk_at "rd"
    refine k_meth f1 hr1 ⟨m, sv, pq, dx, me, st, ip, mt, _, _, v, ms, (hdP ps).2, (q, .lst xs) :: (ip, pupO Cp pdx pme "out" pl') :: L, _, rfl, List.mem_cons_self, List.mem_cons_of_mem _ (List.mem_cons_of_mem _ (List.mem_cons_of_mem _ ht)), sok, W.ord (by walk_at "spm"), ?_⟩
    clear W H
    intro q2 xs2 H hx W
    have l1 := W.lenL (List.mem_cons_of_mem _ (List.mem_cons_of_mem _ (List.mem_cons_of_mem _ List.mem_cons_self)))
    have l2 := doneD_len po
    have l3 := sok.1
    walk_at "rd"
    refine k_ext (by walk_at "fr") (by walk_at "mem") (sl_of (by omega)) ?_
    clear W H
    intro H W
    walk_at "rd"
    have W1 := W.addDs (hasAll_app (hasAll_mem (List.mem_cons_of_mem _ (List.mem_cons_of_mem _ (List.mem_cons_of_mem _ List.mem_cons_self)))) (hasAll_mem List.mem_cons_self))
    exact k q (xs ++ xs2) pl' H (by simp; omega) (W1.arr (by walk_at "spm") (by walk_at "sub"))
structure PV where
  m : Addr
  sv : Option Int
  pq : Addr
  dx : Addr
  me : V
  st : Str
  ip : Addr
  mt : Addr
  po : Option Int
  pd : Bool
  pdx : Addr
  pme : V
  ist : Str
  pl : V
  ms : List Int
  ps : List Ply
  L : Ow
  D : List Fct
structure PV.In (g : G) (C Cp : Addr) (x : PV) (H : Hp) : Prop where
  pls : isD g.K x.pl (.list (x.ps.map plyD)) ∈ x.D
  ft : isFT x.mt (x.ms.map V.int) ∈ x.D
  tt : isT g.K x.mt (x.ms.map V.int) ∈ x.D
  len : x.ps.length ≤ 1000
  ok : ∀ p ∈ x.ps, PlyOk x.ms.length p
  W : Wd ((x.m, porO C x.sv x.pq x.dx x.me x.st x.ip x.mt (poV x.po) x.pd) :: (x.ip, pupO Cp x.pdx x.pme x.ist x.pl) :: x.L) x.D H
def PV.Out (g : G) (C Cp : Addr) (x : PV) (f : Bool → Str → Str) (Q : VK) : Prop := ∀ q xs pl' H', xs.length ≤ 1001 →
  Wd ((q, .lst xs) :: (x.m, porO C x.sv x.pq x.dx x.me x.st x.ip x.mt (poV x.po) (x.pd || onwC (f (hdP x.ps).1 x.ist) x.pd)) :: (x.ip, pupO Cp x.pdx x.pme (f (hdP x.ps).1 x.ist) pl') :: x.L)
    (isDs g.K xs ((hdP x.ps).2.map (outD x.ms) ++ (if onwC (f (hdP x.ps).1 x.ist) x.pd then risePD x.po x.sv else [])) :: isD g.K pl' (.list (x.ps.tail.map plyD)) :: x.D) H' → Q (.ref q) H'
def pspInward (g : G) (C Cp : Addr) : Sp := fun vs H Q _ => ∃ x : PV, ∃ s lt, vs = [.ref x.m, .int s, lt] ∧ s ∈ x.ms ∧ x.In g C Cp H ∧ x.Out g C Cp fHear Q
theorem w_inwardP {g : G} {C Cp : Addr} {A : Around} {vs : List V} {H : Hp} {Q : VK} {E : XK} {k1 k2 : Nat} (hr1 : Room k1 A) (hr2 : Room k2 A) (hC : ClsF g.K C porF) (hCp : ClsF g.K Cp pupF) (f1 : MF g k1 C "onward" (pspOnward g C Cp)) (f2 : MF g k2 Cp "hear" (spPDeed g Cp 2 fHear)) (h : pspInward g C Cp vs H Q E) :
    t_Link_inward g A { nx := fun _ H' => Q .non H', rt := Q } (start ["self", "sender", "letter"] vs) H := by
  obtain ⟨⟨m, sv, pq, dx, me, st, ip, mt, po, pd, pdx, pme, ist, pl, ms, ps, L, D⟩, s, lt, rfl, hs, ⟨hpl, hf, ht, hl, ok, W⟩, k⟩ := h
  dsimp only at hs hpl hf ht hl ok W k
  obtain ⟨j, hj, hj2⟩ := idx_of hs
  rw [e_Link_inward]
  show r_Link_inward g A _ [some (.ref m), some (.int s), some lt] H
  unfold r_Link_inward
  walk_at "rd"
  refine k_recvM W (by walk_at "mem") hC f1 (by walk_at "lkn") ?_
  walk_at "rd"
  refine k_recvM W (by walk_at "mem") hCp f2 (by walk_at "lkn") ?_
  walk_at "rd"
  refine k_bmtF W hf ?_
  walk_at "rd"
  refine ⟨mt, ms, s, j, rfl, rfl, W.tupl ht, hj, hj2, ?_⟩
  walk_at "rd"
  refine k_meth f2 hr2 ⟨ip, pdx, pme, ist, pl, ms.length, ps, [.int (j : Nat), lt], (m, porO C sv pq dx me st ip mt (poV po) pd) :: L, D, rfl, rfl, hpl, hl, ok, W.ord (by walk_at "spm"), ?_⟩
  clear W H
  intro v pl' H W
  have sok := hdP_ok ok
  walk_at "rd"
  refine k_meth f1 hr1 ⟨m, sv, pq, dx, me, st, ip, mt, po, pd, v, pdx, pme, fHear (hdP ps).1 ist, pl', ms, (hdP ps).2, L, _, rfl, List.mem_cons_self, List.mem_cons_of_mem _ (List.mem_cons_of_mem _ ht), sok, W.ord (by walk_at "spm"), ?_⟩
  clear W H
  intro q xs H hx W
  have l3 := sok.1
  exact k q xs pl' H (by omega) (W.arr spR (by walk_at "sub"))
theorem ClsF.sub {K : PySem.W.Frag} {C : Addr} {a b : List Str} (h : ClsF K C a) (s : ∀ f ∈ b, f ∈ a) : ClsF K C b := ⟨h.cl, fun f hf => h.na f (s f hf)⟩
def spPorInit (g : G) (C : Addr) : Sp := fun vs H Q _ => ∃ p dx me ip hd, ∃ ms : List Int, ∃ po L D, vs = [.ref p, me, .ref ip, .ref hd, po] ∧ (hd, HO.lst (ms.map V.int)) ∈ L ∧ Wd ((p, HO.ins C dx []) :: L) D H ∧
  ∀ mt pq H', Wd ((pq, .lst []) :: (p, porO C none pq dx me "out" ip mt po false) :: L) (isFT mt (ms.map V.int) :: isT g.K mt (ms.map V.int) :: D) H' → Q .non H'
theorem w_por_init {g : G} {C : Addr} {A : Around} {vs : List V} {H : Hp} {Q : VK} {E : XK} {k1 : Nat} (hr1 : Room k1 A) (hC : ClsF g.K C porF) (f1 : BF g k1 "Link" "__init__" (spLinkInit g C)) (h : spPorInit g C vs H Q E) :
    t_Porter_init g A { nx := fun _ H' => Q .non H', rt := Q } (start ["self", "me", "inner", "mates", "porter"] vs) H := by
  obtain ⟨p, dx, me, ip, hd, ms, po, L, D, rfl, hh, W, k⟩ := h
  rw [e_Porter_init]
  show r_Porter_init g A _ [some (.ref p), some me, some (.ref ip), some (.ref hd), some po] H
  unfold r_Porter_init
  walk_at "rd"
  refine k_base f1 hr1 ⟨p, dx, me, ip, hd, ms, po, L, _, rfl, hh, W, ?_⟩
  clear W H
  intro mt H W
  walk_at "rd"
  exact k _ _ _ W.mv1
def spPleased (g : G) (C Cp : Addr) : Sp := fun vs H Q _ => ∃ x : PV, ∃ s, vs = [.ref x.m, .int s] ∧ x.In g C Cp H ∧
  ((x.sv = none ∧ ({ x with sv := some s } : PV).Out g C Cp fAsk Q) ∨
   (∃ t qs L', x.sv = some t ∧ x.L = (x.pq, .lst qs) :: L' ∧ qs.length ≤ 1000 ∧ ∀ q H', Wd ((q, .lst []) :: (x.m, porO C x.sv x.pq x.dx x.me x.st x.ip x.mt (poV x.po) x.pd) :: (x.ip, pupO Cp x.pdx x.pme x.ist x.pl) :: (x.pq, .lst (qs ++ [.int s])) :: L') x.D H' → Q (.ref q) H'))
theorem w_pleased {g : G} {C Cp : Addr} {A : Around} {vs : List V} {H : Hp} {Q : VK} {E : XK} {k1 k2 : Nat} (hr1 : Room k1 A) (hr2 : Room k2 A) (hC : ClsF g.K C porF) (hCp : ClsF g.K Cp pupF) (f1 : MF g k1 C "onward" (pspOnward g C Cp)) (f2 : MF g k2 Cp "ask" (spPDeed g Cp 0 fAsk)) (h : spPleased g C Cp vs H Q E) :
    t_Porter_pleased g A { nx := fun _ H' => Q .non H', rt := Q } (start ["self", "sender"] vs) H := by
  obtain ⟨⟨m, sv, pq, dx, me, st, ip, mt, po, pd, pdx, pme, ist, pl, ms, ps, L, D⟩, s, rfl, ⟨hpl, hf, ht, hl, ok, W⟩, k⟩ := h
  dsimp only at hpl hf ht hl ok W k
  rw [e_Porter_pleased]
  show r_Porter_pleased g A _ [some (.ref m), some (.int s)] H
  unfold r_Porter_pleased
  walk_at "rd"
  rcases k with ⟨rfl, k⟩ | ⟨t, qs, L', rfl, rfl, hq, k⟩
  · walk_at "rd"
    replace W : Wd ((m, porO C (some s) pq dx me st ip mt (poV po) pd) :: (ip, pupO Cp pdx pme ist pl) :: L) D H := W
    refine k_recvM W (by walk_at "mem") hC f1 (by walk_at "lkn") ?_
    walk_at "rd"
    refine k_recvM W (by walk_at "mem") hCp f2 (by walk_at "lkn") ?_
    walk_at "rd"
    refine k_meth f2 hr2 ⟨ip, pdx, pme, ist, pl, ms.length, ps, [], (m, porO C (some s) pq dx me st ip mt (poV po) pd) :: L, D, rfl, rfl, hpl, hl, ok, W.ord (by walk_at "spm"), ?_⟩
    clear W H
    intro v pl' H W
    have sok := hdP_ok ok
    walk_at "rd"
    refine k_meth f1 hr1 ⟨m, (some s), pq, dx, me, st, ip, mt, po, pd, v, pdx, pme, fAsk (hdP ps).1 ist, pl', ms, (hdP ps).2, L, _, rfl, List.mem_cons_self, List.mem_cons_of_mem _ (List.mem_cons_of_mem _ ht), sok, W.ord (by walk_at "spm"), ?_⟩
    clear W H
    intro q xs H hx W
    have l3 := sok.1
    exact k q xs pl' H (by omega) (W.arr spR (by walk_at "sub"))
  · refine k_ifnn (by simp [poV]) ?_
    walk_at "rd"
    walk_at "app"
    walk_at "rd"
    exact k _ _ (W.ord (by walk_at "spm"))
def freedL (po : Option Int) (o1 o2 : List PyData) (b2 : Bool) (qs : List Int) : List PyData := match qs with
  | [] => doneD po ++ o1
  | q :: _ => (doneD po ++ o1) ++ (o2 ++ (if b2 then risePD po (some q) else []))
def spFreed (g : G) (C Cp : Addr) : Sp := fun vs H Q _ => ∃ x : PV, ∃ qs : List Int, ∃ L', vs = [.ref x.m] ∧ x.In g C Cp H ∧ x.L = (x.pq, .lst (qs.map V.int)) :: L' ∧
  ∀ q xs pl' H', Wd ((q, .lst xs) :: (x.m, porO C qs.head? x.pq x.dx x.me x.st x.ip x.mt (poV x.po) (match qs with
      | [] => false
      | _ :: _ => (hdP x.ps.tail).1)) :: (x.ip, pupO Cp x.pdx x.pme (match qs with
      | [] => "out"
      | _ :: _ => fAsk (hdP x.ps.tail).1 "out") pl') :: (x.pq, .lst (qs.tail.map V.int)) :: L')
    (isDs g.K xs (freedL x.po ((hdP x.ps).2.map (outD x.ms)) ((hdP x.ps.tail).2.map (outD x.ms)) (hdP x.ps.tail).1 qs) :: isD g.K pl' (.list ((match qs with
      | [] => x.ps.tail
      | _ :: _ => x.ps.tail.tail).map plyD)) :: x.D) H' → Q (.ref q) H'
theorem onwC_ask {b : Bool} {st : Str} : onwC (fAsk b st) false = b := by cases b <;> rfl
theorem w_freed {g : G} {C Cp : Addr} {A : Around} {vs : List V} {H : Hp} {Q : VK} {E : XK} {k1 k2 k3 : Nat} (hr1 : Room k1 A) (hr2 : Room k2 A) (hr3 : Room k3 A) (hC : ClsF g.K C porF) (hCp : ClsF g.K Cp pupF) (f1 : MF g k1 C "onward" (pspOnward g C Cp)) (f2 : MF g k2 Cp "ask" (spPDeed g Cp 0 fAsk)) (f3 : MF g k3 C "let_go" (pspLetGo g C Cp)) (h : spFreed g C Cp vs H Q E) :
    t_Porter_freed g A { nx := fun _ H' => Q .non H', rt := Q } (start ["self", "sent"] vs) H := by
  obtain ⟨⟨m, sv, pq, dx, me, st, ip, mt, po, pd, pdx, pme, ist, pl, ms, ps, L, D⟩, qs, L', rfl, ⟨hpl, hf, ht, hl, ok, W⟩, hL, k⟩ := h
  dsimp only at hpl hf ht hl ok W k hL
  subst hL
  rw [e_Porter_freed]
  show r_Porter_freed g A _ [some (.ref m), none] H
  unfold r_Porter_freed
  walk_at "rd"
  refine k_recvM W (by walk_at "mem") hC f3 (by walk_at "lkn") ?_
  walk_at "rd"
  refine k_meth f3 hr3 ⟨m, sv, pq, dx, me, st, ip, mt, po, pd, pdx, pme, ist, pl, ms, ps, _, D, rfl, hpl, ht, hl, ok, W, ?_⟩
  clear W H
  intro q xs pl' H hx W
  walk_at "rd"
  refine k_cut0 ?_
  walk_at "rd"
  have ok2 : ∀ p ∈ ps.tail, PlyOk ms.length p := fun p hp => ok p (List.mem_of_mem_tail hp)
  cases qs with
  | nil =>
    refine k_iff ?_
    walk_at "rd"
    exact k q xs pl' H W.mv1
  | cons t r =>
    refine k_ift ?_
    rw [List.map_cons] at W
    walk_at "rd"
    replace W : Wd ((m, porO C (some t) pq dx me st ip mt (poV po) false) :: (pq, .lst (r.map V.int)) :: (q, .lst xs) :: (ip, pupO Cp pdx pme "out" pl') :: L') (isDs g.K xs (doneD po ++ (hdP ps).2.map (outD ms)) :: isD g.K pl' (.list (ps.tail.map plyD)) :: D) H := W
    refine k_recvM W (by walk_at "mem") hC f1 (by walk_at "lkn") ?_
    walk_at "rd"
    refine k_recvM W (by walk_at "mem") hCp f2 (by walk_at "lkn") ?_
    walk_at "rd"
    refine k_meth f2 hr2 ⟨ip, pdx, pme, "out", pl', ms.length, ps.tail, [], (m, porO C (some t) pq dx me st ip mt (poV po) false) :: (pq, .lst (r.map V.int)) :: (q, .lst xs) :: L', _, rfl, rfl, List.mem_cons_of_mem _ List.mem_cons_self, by rw [List.length_tail]; omega, ok2, W.ord (by walk_at "spm"), ?_⟩
    clear W H
    intro v pl2 H W
    have sok := hdP_ok ok2
    walk_at "rd"
    refine k_meth f1 hr1 ⟨m, (some t), pq, dx, me, st, ip, mt, po, false, v, pdx, pme, fAsk (hdP ps.tail).1 "out", pl2, ms, (hdP ps.tail).2, (pq, .lst (r.map V.int)) :: (q, .lst xs) :: L', _, rfl, List.mem_cons_self, List.mem_cons_of_mem _ (List.mem_cons_of_mem _ (List.mem_cons_of_mem _ (List.mem_cons_of_mem _ ht))), sok, W.ord (by walk_at "spm"), ?_⟩
    clear W H
    intro q2 xs2 H hx2 W
    have l3 := sok.1
    walk_at "rd"
    refine k_ext (by walk_at "fr") (by walk_at "mem") (sl_of (by omega)) ?_
    clear W H
    intro H W
    walk_at "rd"
    rw [onwC_ask, Bool.false_or] at W
    have W1 := W.addDs (hasAll_app (hasAll_mem (List.mem_cons_of_mem _ (List.mem_cons_of_mem _ (List.mem_cons_of_mem _ List.mem_cons_self)))) (hasAll_mem List.mem_cons_self))
    have W9 := W1.ord (L' := (q, .lst (xs ++ xs2)) :: (m, porO C (some t) pq dx me st ip mt (poV po) (hdP ps.tail).1) :: (ip, pupO Cp pdx pme (fAsk (hdP ps.tail).1 "out") pl2) :: (pq, .lst (r.map V.int)) :: L') (by walk_at "spm")
    exact k q (xs ++ xs2) pl2 H (W9.arr spR (fsC List.mem_cons_self (fsC (by walk_at "mem") (by walk_at "sub"))))
theorem inV_ints {s : Int} {ms : List Int} : inV (.int s) (ms.map V.int) = decide (s ∈ ms) := by
  induction ms with
  | nil => rfl
  | cons a r ih =>
    unfold inV at ih ⊢
    rw [List.map_cons, List.any_cons, ih]
    by_cases e : a = s
    · subst e
      simp [eqV]
    · have : ¬ s = a := fun h => e h.symm
      simp [eqV, e, this]
theorem k_in_intsT {K : PySem.W.Frag} {L : Ow} {D : List Fct} {H : Hp} {Q : VK} {a : Addr} {s : Int} {ms : List Int} (W : Wd L D H) (h : isT K a (ms.map V.int) ∈ D) (k : Q (.bl (decide (s ∈ ms))) H) : kIn K (.int s) (.ref a) H Q :=
  .inl ⟨a, ms.map V.int, rfl, .inr (W.tupl h), rfl, by rw [List.all_map]; exact List.all_eq_true.mpr fun _ _ => rfl, by rw [if_neg (by decide), inV_ints]; exact k⟩
def spPHear (g : G) (C Cp : Addr) : Sp := fun vs H Q E => ∃ x : PV, ∃ s la lw xs, vs = [.ref x.m, .int s, .ref la] ∧ isT g.K la (.str lw :: xs) ∈ x.D ∧ x.In g C Cp H ∧
  ((x.po = some s ∧ pspGranted g C [.ref x.m] H Q E) ∨ (x.po ≠ some s ∧ s ∈ x.ms ∧ pspInward g C Cp [.ref x.m, .int s, .ref la] H Q E) ∨
   (x.po ≠ some s ∧ s ∉ x.ms ∧ lw = "please" ∧ spPleased g C Cp [.ref x.m, .int s] H Q E) ∨ (x.po ≠ some s ∧ s ∉ x.ms ∧ lw = "done" ∧ spFreed g C Cp [.ref x.m] H Q E))
theorem po_ne {s : Int} {po : Option Int} (h : po ≠ some s) : ¬ V.int s = poV po := by
  cases po with
  | none => simp [poV]
  | some i => simpa [poV, eq_comm] using h
theorem w_phearP {g : G} {C Cp : Addr} {A : Around} {vs : List V} {H : Hp} {Q : VK} {E : XK} {k1 k2 k3 k4 : Nat} (hr1 : Room k1 A) (hr2 : Room k2 A) (hr3 : Room k3 A) (hr4 : Room k4 A) (hC : ClsF g.K C porF) (f1 : MF g k1 C "granted" (pspGranted g C)) (f2 : MF g k2 C "inward" (pspInward g C Cp)) (f3 : MF g k3 C "pleased" (spPleased g C Cp)) (f4 : MF g k4 C "freed" (spFreed g C Cp)) (h : spPHear g C Cp vs H Q E) :
    t_Porter_hear g A { nx := fun _ H' => Q .non H', rt := Q } (start ["self", "sender", "letter"] vs) H := by
  obtain ⟨⟨m, sv, pq, dx, me, st, ip, mt, po, pd, pdx, pme, ist, pl, ms, ps, L, D⟩, s, la, lw, xs, rfl, hla, hI, k⟩ := h
  have W := hI.W
  have htt := hI.tt
  dsimp only at W k hla htt
  rw [e_Porter_hear]
  show r_Porter_hear g A _ [some (.ref m), some (.int s), some (.ref la)] H
  unfold r_Porter_hear
  walk_at "rd"
  rcases k with ⟨rfl, k⟩ | ⟨hp, hs, k⟩ | ⟨hp, hs, rfl, k⟩ | ⟨hp, hs, rfl, k⟩
  · refine k_eq_sc rfl ?_
    walk_at "rd"
    refine k_ifp rfl ?_
    walk_at "rd"
    refine k_recvM W (by walk_at "mem") hC f1 (by walk_at "lkn") ?_
    walk_at "rd"
    exact k_meth f1 hr1 k
  · refine k_eq_sc (by cases po <;> rfl) ?_
    walk_at "rd"
    refine k_ifn (po_ne hp) ?_
    walk_at "rd"
    refine k_in_intsT W htt ?_
    walk_at "rd"
    refine k_ifp hs ?_
    walk_at "rd"
    refine k_recvM W (by walk_at "mem") hC f2 (by walk_at "lkn") ?_
    walk_at "rd"
    exact k_meth f2 hr2 k
  · refine k_eq_sc (by cases po <;> rfl) ?_
    walk_at "rd"
    refine k_ifn (po_ne hp) ?_
    walk_at "rd"
    refine k_in_intsT W htt ?_
    walk_at "rd"
    refine k_ifn hs ?_
    walk_at "rd"
    refine k_recvM W (by walk_at "mem") hC f3 (by walk_at "lkn") ?_
    walk_at "rd"
    exact k_meth f3 hr3 k
  · refine k_eq_sc (by cases po <;> rfl) ?_
    walk_at "rd"
    refine k_ifn (po_ne hp) ?_
    walk_at "rd"
    refine k_in_intsT W htt ?_
    walk_at "rd"
    refine k_ifn hs ?_
    walk_at "rd"
    refine k_recvM W (by walk_at "mem") hC f4 (by walk_at "lkn") ?_
    walk_at "rd"
    exact k_meth f4 hr4 k
def spLRisen (g : G) : Sp := fun vs H Q _ => ∃ sh sv b c pe td po L D, vs = [.ref sh, poV po] ∧ Wd ((sh, HO.lst [poV sv, b, c, .bl pe, .bl td]) :: L) D H ∧
  ∀ q xs H', Wd ((q, .lst xs) :: (sh, .lst [poV sv, b, c, .bl (pe || po.isSome), .bl (td || po.isNone)]) :: L) (isDs g.K xs (risePD po sv) :: D) H' → Q (.ref q) H'
theorem w_lrisen {g : G} {A : Around} {vs : List V} {H : Hp} {Q : VK} {E : XK} (h : spLRisen g vs H Q E) : t_law_risen g A { nx := fun _ H' => Q .non H', rt := Q } (start ["state", "porter"] vs) H := by
  obtain ⟨sh, sv, b, c, pe, td, po, L, D, rfl, W, k⟩ := h
  rw [e_law_risen]
  show r_law_risen g A _ [some (.ref sh), some (poV po)] H
  unfold r_law_risen
  walk_at "rd"
  cases po with
  | none =>
    walk_at "rd"
    have W1 := W.mv2.frzT (K := g.K) (hasAll_cons (has_fl (.str _)) hasAll_nil)
    have W2 := W1.mv1.frzT (K := g.K) (hasAll_cons (has_fl (fl_sv sv)) (hasAll_cons (has_mem List.mem_cons_self) hasAll_nil))
    have W3 := W2.addDs (K := g.K) (hasAll_cons (has_mem List.mem_cons_self) hasAll_nil)
    rw [show (pe || (none : Option Int).isSome) = pe from Bool.or_false _, show (td || (none : Option Int).isNone) = true from Bool.or_true _] at k
    exact k _ _ _ (W3.arr spR (fsC List.mem_cons_self (by walk_at "sub")))
  | some i =>
    refine k_ifnn (by simp [poV]) ?_
    walk_at "rd"
    have W1 := W.mv2.frzT (K := g.K) (hasAll_cons (has_fl (.str _)) hasAll_nil)
    have W2 := W1.mv1.frzT (K := g.K) (hasAll_cons (has_fl (.int i)) (hasAll_cons (has_mem List.mem_cons_self) hasAll_nil))
    have W3 := W2.addDs (K := g.K) (hasAll_cons (has_mem List.mem_cons_self) hasAll_nil)
    rw [show (pe || (some i : Option Int).isSome) = true from Bool.or_true _, show (td || (some i : Option Int).isNone) = td from Bool.or_false _] at k
    exact k _ _ _ (W3.arr spR (fsC List.mem_cons_self (by walk_at "sub")))
def spLAsked (g : G) : Sp := fun vs H Q _ => ∃ sh sv bb c pe td po pa tq ts ds, ∃ b : Bool, ∃ x L D, vs = [.ref sh, .ref pa, .ref tq, poV po] ∧ isT g.K pa [.bl b, x] ∈ D ∧ isDs g.K ts ds ∈ D ∧ ts.length ≤ 1100 ∧ Wd ((sh, HO.lst [poV sv, bb, c, .bl pe, .bl td]) :: (tq, .lst ts) :: L) D H ∧
  ∀ q xs H', Wd ((q, .lst xs) :: (sh, .lst [poV sv, bb, .str (if b then "in" else "asking"), .bl (pe || (b && po.isSome)), .bl (td || (b && po.isNone))]) :: L) (isDs g.K xs (ds ++ if b then risePD po sv else []) :: D) H' → Q (.ref q) H'
theorem w_lasked {g : G} {A : Around} {vs : List V} {H : Hp} {Q : VK} {E : XK} {k1 : Nat} (hr1 : Room k1 A) (f1 : GF g k1 "_law_risen" (spLRisen g)) (h : spLAsked g vs H Q E) : t_law_asked g A { nx := fun _ H' => Q .non H', rt := Q } (start ["state", "play", "turned", "porter"] vs) H := by
  obtain ⟨sh, sv, bb, c, pe, td, po, pa, tq, ts, ds, b, x, L, D, rfl, hp, hd, hl, W, k⟩ := h
  rw [e_law_asked]
  show r_law_asked g A _ [some (.ref sh), some (.ref pa), some (.ref tq), some (poV po)] H
  unfold r_law_asked
  walk_at "rd"
  cases b with
  | false =>
    walk_at "rd"
    rw [show (pe || (false && po.isSome)) = pe from Bool.or_false _, show (td || (false && po.isNone)) = td from Bool.or_false _] at k
    simp only [↓reduceIte, Bool.false_eq_true, List.append_nil] at k
    exact k tq ts _ ((W.mv1).arr spR (fsC hd fsR))
  | true =>
    walk_at "rd"
    refine k_call f1 hr1 ⟨sh, sv, _, _, pe, td, po, (tq, .lst ts) :: L, _, rfl, W, ?_⟩
    clear W H
    intro q xs H W
    have l1 := W.lenL List.mem_cons_self
    have l2 := risePD_len po sv
    walk_at "rd"
    refine k_add_ll W (by walk_at "mem") (by walk_at "mem") (sl_of (by omega)) ?_
    clear W H
    intro r H W
    have W1 := W.addDs (hasAll_app (hasAll_mem (List.mem_cons_of_mem _ hd)) (hasAll_mem List.mem_cons_self))
    have W9 := W1.ord (L' := (r, .lst (ts ++ xs)) :: (sh, .lst _) :: L) (by walk_at "spm")
    exact k r (ts ++ xs) _ (W9.arr spR (fsC List.mem_cons_self (by walk_at "sub")))
inductive Pm
  | idle
  | ask (s : Int)
  | pend (s : Int)
  | told (s : Int) (w : Option Int)
def Pm.sv : Pm → Option Int
  | .idle => none
  | .ask s => some s
  | .pend s => some s
  | .told s _ => some s
def Pm.wt : Pm → Option Int
  | .told _ w => w
  | _ => none
def Pm.ist : Pm → Str
  | .idle => "out"
  | .ask _ => "asking"
  | .pend _ => "in"
  | .told _ _ => "in"
def Pm.pe : Pm → Bool
  | .pend _ => true
  | _ => false
def Pm.td : Pm → Bool
  | .told _ _ => true
  | _ => false
def Pm.pd : Pm → Bool
  | .pend _ => true
  | .told _ _ => true
  | _ => false
abbrev psO (m : Pm) : HO := .lst [poV m.sv, poV m.wt, .str m.ist, .bl m.pe, .bl m.td]
inductive Pk
  | letter (s : Int)
  | please (s : Int)
  | yours (s : Int)
  | done (s : Int)
def Pk.nm : Pk → Str
  | .letter _ => "letter"
  | .please _ => "please"
  | .yours _ => "yours"
  | .done _ => "done"
def Pk.x : Pk → Int
  | .letter s => s
  | .please s => s
  | .yours s => s
  | .done s => s
def Pk.D (k : Pk) : PyData := .tuple [.int k.x, .str k.nm]
def PkOk (m : Pm) (po : Option Int) (ms bs : List Int) : Pk → Prop
  | .letter s => s ∈ ms
  | .please s => s ∈ bs ∧ (m = .idle ∨ ∃ t, m = .told t none)
  | .yours s => po = some s ∧ ∃ t, m = .pend t
  | .done s => ∃ w, m = .told s w
def riseP (po : Option Int) (s : Int) : Pm := match po with
  | none => .told s none
  | some _ => .pend s
def pnxt (po : Option Int) (b b2 : Bool) : Pm → Pk → Pm
  | .ask s, .letter _ => if b then riseP po s else .ask s
  | .idle, .please s => if b then riseP po s else .ask s
  | .told s none, .please t => .told s (some t)
  | .pend s, .yours _ => .told s none
  | .told _ none, .done _ => .idle
  | .told _ (some t), .done _ => if b2 then riseP po t else .ask t
  | m, _ => m
def presL (po : Option Int) (b b2 : Bool) (o o2 : List PyData) : Pm → Pk → List PyData
  | .ask s, .letter _ => o ++ (if b then risePD po (some s) else [])
  | .idle, .please s => o ++ (if b then risePD po (some s) else [])
  | .told _ none, .please _ => []
  | .pend s, .yours _ => [yoursD (some s)]
  | .told _ none, .done _ => doneD po ++ o
  | .told _ (some t), .done _ => (doneD po ++ o) ++ (o2 ++ (if b2 then risePD po (some t) else []))
  | _, _ => o
def ptake : Pm → Pk → Nat
  | .told _ none, .please _ => 0
  | _, .yours _ => 0
  | .told _ (some _), .done _ => 2
  | _, _ => 1
theorem k_lcF {σ : L2.St} {H : Hp} {Q : VK} {K : PySem.W.Frag} {L : Ow} {D : List Fct} {gt : TG} {tt : TT} {te : TE} {a : Addr} {vs : List Nat} {bs : List Int} (W : Wd L D H) (ha : isL K a (bs.map V.int) ∈ D) (c : Int → Bool) (f : Int → PyData) (hn : bs.length ≤ 1000)
    (hs : ∀ p x H acc D0 (N : VK) (Z : Hp → Prop), x ∈ bs → D ⊆ D0 → Wd ((p, .lst acc) :: L) D0 H → (c x = true → ∀ y H4 D1, D0 ⊆ D1 → Has K D1 y (f x) → Wd ((p, .lst acc) :: L) D1 H4 → N y H4) → (c x = false → ∀ H', Wd ((p, .lst acc) :: L) D0 H' → Z H') →
      gt (.int x) (wipe σ vs) H fun σ2 H2 => wipe σ2 vs = wipe σ vs ∧ tt σ2 H2 fun b H3 => kIf b (te σ2 H3 N) (Z H3))
    (hd : ∀ p acc H, Wd ((p, .lst acc) :: L) (isDs K acc ((bs.filter c).map f) :: D) H → Q (.ref p) H) : kLc (Itl K a) gt tt te vs σ H Q := by
  refine k_lc (walk_list (xs := bs.map V.int)) W (fun p i H => ∃ acc D0, D ⊆ D0 ∧ HasAll K D0 acc (((bs.take i).filter c).map f) ∧ acc.length ≤ i ∧ Wd ((p, .lst acc) :: L) D0 H) (fun p H' W => ⟨[], D, fsR, hasAll_nil, Nat.le_refl _, W⟩) (fun p i H _ ⟨acc, D0, s, _, _, W⟩ => W.list (s ha)) ?_ ?_
  · rintro p i x H H' hi ⟨acc, D0, s, h, hl, W⟩ ⟨rfl, hx⟩
    rw [List.getElem?_map] at hx
    obtain ⟨n, hn', rfl⟩ := Option.map_eq_some_iff.mp hx
    rw [List.length_map] at hi
    have e : bs.take (i + 1) = bs.take i ++ [n] := by rw [List.take_succ, hn']; rfl
    refine hs p n _ acc D0 _ _ (List.mem_of_getElem? hn') s W ?_ ?_
    · intro hc y H4 D1 s1 hy W
      refine k_push W (sl_lt (by omega)) fun H5 W => ⟨acc ++ [y], D1, List.Subset.trans s s1, ?_, by simp; omega, W⟩
      rw [e, List.filter_append, List.filter_cons_of_pos hc, List.filter_nil, List.map_append]
      exact hasAll_app (h.mono s1) (hasAll_cons hy hasAll_nil)
    · intro hc H5 W
      refine ⟨acc, D0, s, ?_, by omega, W⟩
      rw [e, List.filter_append, List.filter_cons_of_neg (by simp [hc]), List.filter_nil, List.append_nil]
      exact h
  · rintro p H ⟨acc, D0, s, h, hl, W⟩
    rw [List.length_map, List.take_length] at h
    exact hd p acc H ((W.addDs h).arr spR (fsC List.mem_cons_self (fsT s)))
def pleasL (m : Pm) (bs : List Int) : List Int := match m with
  | .idle => bs
  | .told s none => bs.filter fun x => !decide (x = s)
  | _ => []
def pdeeds (m : Pm) (ms bs : List Int) (po : Option Int) : List Pk :=
  ms.map Pk.letter ++ ((pleasL m bs).map Pk.please ++ ((match m, po with
    | .pend _, some s => List.replicate ms.length (.yours s)
    | _, _ => []) ++ (match m with
    | .told s _ => List.replicate ms.length (.done s)
    | _ => [])))
def PmOk (m : Pm) (po : Option Int) (bs : List Int) : Prop := (∀ s, m = .pend s → po ≠ none) ∧ (∀ s, m.sv = some s → s ∈ bs) ∧ ∀ s, m.wt = some s → s ∈ bs
def spPDeeds (g : G) : Sp := fun vs H Q _ => ∃ sh mt bt, ∃ ms bs : List Int, ∃ po, ∃ md : Pm, ∃ L D, vs = [.ref sh, .ref mt, .ref bt, poV po] ∧ isL g.K mt (ms.map V.int) ∈ D ∧ isL g.K bt (bs.map V.int) ∈ D ∧ ms.length ≤ 1000 ∧ bs.length ≤ 1000 ∧ PmOk md po bs ∧ Wd ((sh, psO md) :: L) D H ∧
  ∀ q xs H', Wd ((q, .lst xs) :: (sh, psO md) :: L) (isDs g.K xs ((pdeeds md ms bs po).map Pk.D) :: D) H' → Q (.ref q) H'
theorem ext_rep {g : G} {H : Hp} {L : Ow} {D : List Fct} {dl sh tq lq rq : Addr} : True := trivial
theorem w_pdeeds {g : G} {A : Around} {vs : List V} {H : Hp} {Q : VK} {E : XK} (h : spPDeeds g vs H Q E) : t_law_deeds_k87 g A { nx := fun _ H' => Q .non H', rt := Q } (start ["state", "mates", "below", "porter", "deeds", "seat"] vs) H := by
  obtain ⟨sh, mt, bt, ms, bs, po, md, L, D, rfl, ht, hb, hl, hbl, ⟨hm, _, _⟩, W, k⟩ := h
  rw [e_law_deeds_k87]
  show r_law_deeds_k87 g A _ [some (.ref sh), some (.ref mt), some (.ref bt), some (poV po), none, none] H
  unfold r_law_deeds_k87
  walk_at "rd"
  refine k_lcL (K := g.K) walk_list W ((ms.map Pk.letter).map Pk.D) (by simp) (sl_of (by rw [List.length_map]; omega)) (fun _ _ _ _ s W => W.list (s ht)) ?_ ?_
  · rintro p' i x H _ acc D0 d N Z hd s W ⟨rfl, hx⟩ hN
    simp only [List.getElem?_map, Option.map_eq_some_iff] at hd hx
    obtain ⟨_, ⟨n, hn, rfl⟩, rfl⟩ := hd
    obtain ⟨n', hn', rfl⟩ := hx
    rw [hn] at hn'
    cases hn'
    walk_at "rd"
    refine ⟨rfl, ?_⟩
    walk_at "rd"
    have W1 := W.frzT (K := g.K) (hasAll_cons (has_fl (.int _)) (hasAll_cons (has_fl (.str _)) hasAll_nil))
    exact hN _ _ _ (by walk_at "sub") (has_mem List.mem_cons_self) W1
  clear W
  intro dl acc H ha W
  rw [List.length_map] at ha
  walk_at "rd"
  -- what may ask
  refine k_cut (fun σ H => ∃ xs, σ = [some (.ref sh), some (.ref mt), some (.ref bt), some (poV po), some (.ref dl), none] ∧ xs.length ≤ 2000 ∧ Wd ((dl, .lst xs) :: (sh, psO md) :: L) (isDs g.K xs ((ms.map Pk.letter).map Pk.D ++ ((pleasL md bs).map Pk.please).map Pk.D) :: D) H) ?_ ?_
  · have ext : ∀ (c : Int → Bool) (N : L2.St → Hp → Prop), (∀ σ H, (∃ xs, σ = [some (.ref sh), some (.ref mt), some (.ref bt), some (poV po), some (.ref dl), none] ∧ xs.length ≤ 2000 ∧ Wd ((dl, .lst xs) :: (sh, psO md) :: L) (isDs g.K xs ((ms.map Pk.letter).map Pk.D ++ ((bs.filter c).map Pk.please).map Pk.D) :: D) H) → N σ H) → ∀ (q : Addr) (ys : List V) H, Wd ((q, .lst ys) :: (dl, .lst acc) :: (sh, psO md) :: L) (isDs g.K ys ((bs.filter c).map fun x => (Pk.please x).D) :: isDs g.K acc ((ms.map Pk.letter).map Pk.D) :: D) H →
        rExtend (.ref dl) [.ref q] H fun _ H1 => N [some (.ref sh), some (.ref mt), some (.ref bt), some (poV po), some (.ref dl), none] H1 := by
      intro c N hN q ys H W
      have l1 := W.lenL List.mem_cons_self
      have l2 : (bs.filter c).length ≤ bs.length := List.length_filter_le _ _
      rw [List.length_map] at l1
      refine k_ext W.mv1 (by walk_at "mem") (sl_of (by omega)) ?_
      intro H W
      have W1 := W.addDs (hasAll_app (hasAll_mem (List.mem_cons_of_mem _ List.mem_cons_self)) (hasAll_mem List.mem_cons_self))
      refine hN _ _ ⟨acc ++ ys, rfl, by simp; omega, ?_⟩
      rw [List.map_map, List.map_map] at *
      exact W1.arr (by walk_at "spm") (fsC List.mem_cons_self (by walk_at "sub"))
    cases md with
    | idle =>
      walk_at "rd"
      refine k_lcF (K := g.K) W (List.mem_cons_of_mem _ hb) (fun x => !decide (V.int x = poV Pm.idle.sv)) (fun x => (Pk.please x).D) hbl ?_ ?_
      · clear W
        intro p x H acc' D0 N Z hx s W hN hZ
        walk_at "rd"
        refine ⟨rfl, ?_⟩
        walk_at "rd"
        refine k_ne_sc rfl ?_
        walk_at "rd"
        refine k_if (fun hc => ?_) (fun hc => ?_)
        · walk_at "rd"
          have W1 := W.frzT (K := g.K) (hasAll_cons (has_fl (.int _)) (hasAll_cons (has_fl (.str _)) hasAll_nil))
          exact hN hc _ _ _ (by walk_at "sub") (has_mem List.mem_cons_self) W1
        · exact hZ hc _ W
      · clear W
        intro q ys H W
        walk_at "rd"
        refine ext _ _ ?_ q ys H W
        rintro σ H ⟨xs, e, hx, W⟩
        walk_at "rd"
        refine ⟨xs, e, hx, ?_⟩
        rw [show (bs.filter fun x => !decide (V.int x = poV Pm.idle.sv)) = pleasL .idle bs from by rw [List.filter_eq_self.mpr (fun x _ => by simp [Pm.sv, poV])]; rfl] at W
        exact W
    | ask s =>
      walk_at "rd"
      refine k_ifn (by simp [Pm.sv, poV]) ?_
      walk_at "rd"
      refine k_ifF rfl ?_
      walk_at "rd"
      refine ⟨acc, rfl, by omega, ?_⟩
      rw [show ((pleasL (.ask s) bs).map Pk.please).map Pk.D = [] from rfl, List.append_nil]
      exact W
    | pend s =>
      walk_at "rd"
      refine k_ifn (by simp [Pm.sv, poV]) ?_
      walk_at "rd"
      refine k_ifF rfl ?_
      walk_at "rd"
      refine ⟨acc, rfl, by omega, ?_⟩
      rw [show ((pleasL (.pend s) bs).map Pk.please).map Pk.D = [] from rfl, List.append_nil]
      exact W
    | told s w =>
      walk_at "rd"
      refine k_ifn (by simp [Pm.sv, poV]) ?_
      walk_at "rd"
      refine k_ifT rfl ?_
      walk_at "rd"
      cases w with
      | none =>
        refine k_ifp rfl ?_
        walk_at "rd"
        refine k_lcF (K := g.K) W (List.mem_cons_of_mem _ hb) (fun x => !decide (V.int x = poV (Pm.told s none).sv)) (fun x => (Pk.please x).D) hbl ?_ ?_
        · clear W
          intro p x H acc' D0 N Z hx s W hN hZ
          walk_at "rd"
          refine ⟨rfl, ?_⟩
          walk_at "rd"
          refine k_ne_sc rfl ?_
          walk_at "rd"
          refine k_if (fun hc => ?_) (fun hc => ?_)
          · walk_at "rd"
            have W1 := W.frzT (K := g.K) (hasAll_cons (has_fl (.int _)) (hasAll_cons (has_fl (.str _)) hasAll_nil))
            exact hN hc _ _ _ (by walk_at "sub") (has_mem List.mem_cons_self) W1
          · exact hZ hc _ W
        · clear W
          intro q ys H W
          walk_at "rd"
          refine ext _ _ ?_ q ys H W
          rintro σ H ⟨xs, e, hx, W⟩
          walk_at "rd"
          refine ⟨xs, e, hx, ?_⟩
          rw [show (bs.filter fun x => !decide (V.int x = poV (Pm.told s none).sv)) = pleasL (.told s none) bs from by simp [pleasL, Pm.sv, poV]] at W
          exact W
      | some t =>
        refine k_ifn (by simp [Pm.wt, poV]) ?_
        walk_at "rd"
        refine ⟨acc, rfl, by omega, ?_⟩
        rw [show ((pleasL (.told s (some t)) bs).map Pk.please).map Pk.D = [] from rfl, List.append_nil]
        exact W
  · clear W H
    rintro σ H ⟨xs, rfl, hx, W⟩
    walk_at "rd"
    cases md with
    | idle =>
      refine k_cut0 ?_
      walk_at "rd"
      refine k_cut0 ?_
      walk_at "rd"
      refine k dl xs H ?_
      rw [show (pdeeds .idle ms bs po).map Pk.D = (ms.map Pk.letter).map Pk.D ++ ((pleasL .idle bs).map Pk.please).map Pk.D from by simp [pdeeds]]
      exact W
    | ask s =>
      refine k_cut0 ?_
      walk_at "rd"
      refine k_ifF rfl ?_
      walk_at "rd"
      refine k_cut0 ?_
      walk_at "rd"
      refine k_ifF rfl ?_
      walk_at "rd"
      refine k dl xs H ?_
      rw [show (pdeeds (.ask s) ms bs po).map Pk.D = (ms.map Pk.letter).map Pk.D ++ ((pleasL (.ask s) bs).map Pk.please).map Pk.D from by simp [pdeeds]]
      exact W
    | pend s =>
      cases po with
      | none => exact (hm s rfl rfl).elim
      | some p =>
        refine k_cut0 ?_
        walk_at "rd"
        refine k_ifT rfl ?_
        walk_at "rd"
        rename_i tq lq
        rw [List.length_map]
        have W1 := W.mv1.frzT (K := g.K) (hasAll_cons (has_fl (.int p)) (hasAll_cons (has_fl (.str _)) hasAll_nil))
        clear W
        refine k_rep W1 List.mem_cons_self (by omega) (by omega) (sl_of (by rw [Int.toNat_natCast, List.length_singleton]; omega)) ?_
        clear W1 H
        intro rq H W
        rw [Int.toNat_natCast] at W
        walk_at "rd"
        refine k_ext (by walk_at "fr") (by walk_at "mem") (sl_of (by rw [rep_len]; omega)) ?_
        clear W H
        intro H W
        walk_at "rd"
        have W1 := W.addDs (K := g.K) (hasAll_app (hasAll_mem (List.mem_cons_of_mem _ List.mem_cons_self)) (rep_all (has_mem List.mem_cons_self) ms.length))
        refine k_cut0 ?_
        walk_at "rd"
        refine k_ifF rfl ?_
        walk_at "rd"
        refine k dl (xs ++ (List.replicate ms.length [V.ref tq]).flatten) H ?_
        rw [show (pdeeds (.pend s) ms bs (some p)).map Pk.D = ((ms.map Pk.letter).map Pk.D ++ ((pleasL (.pend s) bs).map Pk.please).map Pk.D) ++ List.replicate ms.length (.tuple [.int p, .str "yours"]) from by simp [pdeeds, Pk.D, Pk.nm, Pk.x]]
        exact W1.arr (by walk_at "spm") (by walk_at "sub")
    | told s w =>
      refine k_cut0 ?_
      walk_at "rd"
      refine k_ifF rfl ?_
      walk_at "rd"
      refine k_cut0 ?_
      walk_at "rd"
      refine k_ifT rfl ?_
      walk_at "rd"
      rename_i tq lq
      rw [List.length_map]
      have W1 := W.mv1.frzT (K := g.K) (hasAll_cons (has_fl (.int s)) (hasAll_cons (has_fl (.str _)) hasAll_nil))
      clear W
      refine k_rep W1 List.mem_cons_self (by omega) (by omega) (sl_of (by rw [Int.toNat_natCast, List.length_singleton]; omega)) ?_
      clear W1 H
      intro rq H W
      rw [Int.toNat_natCast] at W
      walk_at "rd"
      refine k_ext (by walk_at "fr") (by walk_at "mem") (sl_of (by rw [rep_len]; omega)) ?_
      clear W H
      intro H W
      walk_at "rd"
      have W1 := W.addDs (K := g.K) (hasAll_app (hasAll_mem (List.mem_cons_of_mem _ List.mem_cons_self)) (rep_all (has_mem List.mem_cons_self) ms.length))
      refine k dl (xs ++ (List.replicate ms.length [V.ref tq]).flatten) H ?_
      rw [show (pdeeds (.told s w) ms bs po).map Pk.D = ((ms.map Pk.letter).map Pk.D ++ ((pleasL (.told s w) bs).map Pk.please).map Pk.D) ++ List.replicate ms.length (.tuple [.int s, .str "done"]) from by simp [pdeeds, Pk.D, Pk.nm, Pk.x]]
      exact W1.arr (by walk_at "spm") (by walk_at "sub")
theorem k_turn {g : G} {H : Hp} {Q : VK} {L : Ow} {D : List Fct} {a0 a1 a2 a4 a5 a6 a7 a8 : Option V} {mt q : Addr} {ys : List V} {ms : List Int} {ss : List Snd} (W : Wd L D H) (hq : isL g.K q ys ∈ D) (hy : isDs g.K ys (ss.map sndD) ∈ D) (ht : isL g.K mt (ms.map V.int) ∈ D) (ok : SsOk ms.length ss)
    (k : ∀ l acc H, acc.length = ss.length → Wd ((l, .lst acc) :: L) (isDs g.K acc (ss.map (outD ms)) :: D) H → Q (.ref l) H) :
    kLc (Itl g.K q) (rGTup g.K 2 (rGCons (rName 7) (rGCons (rName 8) rGNil))) rYes (rTup (rCons (rOp (kIx g.K) (rVar 3) (rVar 7)) (rCons (rVar 8) rNil))) [7, 8] [a0, a1, a2, some (.ref mt), a4, a5, a6, a7, a8] H Q := by
  have hys := W.lenL hy
  rw [List.length_map] at hys
  have h1 := ok.1
  refine k_lcL (K := g.K) walk_list W (ss.map (outD ms)) (by rw [List.length_map, hys]) (sl_of (by omega)) (fun _ _ _ _ s W => W.list (s hq)) ?_ ?_
  · rintro p' i x H _ acc D0 d N Z hd s W ⟨rfl, hx⟩ hN
    obtain ⟨d', hd', W1⟩ := W.itemV (hasAll_mem (s hy)) hx
    rw [List.getElem?_map] at hd hd'
    obtain ⟨sn, hsn, rfl⟩ := Option.map_eq_some_iff.mp hd
    rw [hsn] at hd'
    cases hd'
    have hok := ok.2 _ (List.mem_of_getElem? hsn)
    obtain ⟨a, u1, u2, rfl, W2⟩ := W1.op2 List.mem_cons_self
    have e1 := W2.vint (List.mem_cons_of_mem _ List.mem_cons_self)
    subst e1
    have ht' := s ht
    have hmm : ms[sn.to]? = some (ms.getD sn.to 0) := by
      have := hok.1
      simp [List.getD, this]
    clear W W1
    have W := W2
    clear W2
    walk_at "rd"
    refine ⟨rfl, ?_⟩
    walk_at "rd"
    refine k_ix_L (W.list (List.mem_cons_of_mem _ (List.mem_cons_of_mem _ (List.mem_cons_of_mem _ (List.mem_cons_of_mem _ ht'))))) (atI_map hmm) ?_
    walk_at "rd"
    have W1 := W.frzT (K := g.K) (hasAll_cons (has_fl (.int _)) (hasAll_cons (has_mem (List.mem_cons_of_mem _ (List.mem_cons_of_mem _ List.mem_cons_self))) hasAll_nil))
    exact hN _ _ _ (by walk_at "sub") (has_mem List.mem_cons_self) W1
  · clear W
    intro l acc H ha W
    exact k _ _ _ (by rw [ha, hys]) W
theorem Wd.ply {K : PySem.W.Frag} {L : Ow} {D : List Fct} {H : Hp} {w : V} {p : Ply} (W : Wd L (isD K w (plyD p) :: D) H) : ∃ pa q ys, w = .ref pa ∧ Wd L (isT K pa [.bl p.1, .ref q] :: isL K q ys :: isDs K ys (p.2.map sndD) :: D) H := by
  obtain ⟨pa, v1, v2, rfl, W2⟩ := W.op2 List.mem_cons_self
  have e1 := W2.vbl (List.mem_cons_of_mem _ List.mem_cons_self)
  subst e1
  obtain ⟨q, ys, rfl, _, W3⟩ := W2.opL (List.mem_cons_of_mem _ (List.mem_cons_of_mem _ List.mem_cons_self))
  exact ⟨pa, q, ys, rfl, W3.arr spR (fsC (List.mem_cons_of_mem _ (List.mem_cons_of_mem _ List.mem_cons_self)) (fsC List.mem_cons_self (fsC (List.mem_cons_of_mem _ List.mem_cons_self) (fsT (fsT (fsT (fsT (fsT (fsT fsR)))))))))⟩
def spPDue (g : G) : Sp := fun vs H Q _ => ∃ sh dv dr v7 at_ mt, ∃ n : Nat, ∃ ms bs : List Int, ∃ ps : List Ply, ∃ po md kd L D, vs = [.ref sh, dv, .ref dr, .ref mt, poV po] ∧ isD g.K dv (Pk.D kd) ∈ D ∧ isD g.K v7 (.list (ps.map plyD)) ∈ D ∧ isL g.K mt (ms.map V.int) ∈ D ∧ (∀ p ∈ ps, PlyOk ms.length p) ∧ PkOk md po ms bs kd ∧
  Wd ((sh, psO md) :: (dr, .lst [v7, .ref at_]) :: (at_, .lst [.int n]) :: L) D H ∧
  ∀ q xs H', xs.length ≤ 5000 → Wd ((q, .lst xs) :: (sh, psO (pnxt po (hdP (ps.drop n)).1 (hdP (ps.drop (n + 1))).1 md kd)) :: (dr, .lst [v7, .ref at_]) :: (at_, .lst [.int (n + ptake md kd : Nat)]) :: L)
    (isDs g.K xs (presL po (hdP (ps.drop n)).1 (hdP (ps.drop (n + 1))).1 ((hdP (ps.drop n)).2.map (outD ms)) ((hdP (ps.drop (n + 1))).2.map (outD ms)) md kd) :: D) H' → Q (.ref q) H'
theorem w_pdue {g : G} {A : Around} {vs : List V} {H : Hp} {Q : VK} {E : XK} {k1 k2 k3 : Nat} (hr1 : Room k1 A) (hr2 : Room k2 A) (hr3 : Room k3 A) (f1 : GF g k1 "_law_play" (spLPlay g)) (f2 : GF g k2 "_law_risen" (spLRisen g)) (f3 : GF g k3 "_law_asked" (spLAsked g)) (h : spPDue g vs H Q E) :
    t_law_due_k87 g A { nx := fun _ H' => Q .non H', rt := Q } (start ["state", "deed", "draw", "mates", "porter", "play", "sent", "to", "letter"] vs) H := by
  obtain ⟨sh, dv, dr, v7, at_, mt, n, ms, bs, ps, po, md, kd, L, D, rfl, hd, hPl, ht, ok, hk, W, k⟩ := h
  obtain ⟨a, u1, u2, rfl, W1⟩ := W.op2 hd
  have e1 := W1.vint (List.mem_cons_of_mem _ List.mem_cons_self)
  have e2 := W1.vstr (List.mem_cons_of_mem _ (List.mem_cons_of_mem _ List.mem_cons_self))
  subst e1 e2
  have hr : isT g.K a [.int kd.x, .str kd.nm] ∈ isT g.K a [.int kd.x, .str kd.nm] :: isD g.K (.int kd.x) (.int kd.x) :: isD g.K (.str kd.nm) (.str kd.nm) :: D := List.mem_cons_self
  have sb : D ⊆ isT g.K a [.int kd.x, .str kd.nm] :: isD g.K (.int kd.x) (.int kd.x) :: isD g.K (.str kd.nm) (.str kd.nm) :: D := by walk_at "sub"
  replace hPl := sb hPl
  replace ht := sb ht
  generalize isT g.K a [.int kd.x, .str kd.nm] :: isD g.K (.int kd.x) (.int kd.x) :: isD g.K (.str kd.nm) (.str kd.nm) :: D = D1 at *
  replace k := fun q xs H' hx W => k q xs H' hx (Wd.arr W spR (fsC List.mem_cons_self (fsT sb)))
  clear W sb hd
  have W := W1
  clear W1
  have sok := hdP_ok (ps := ps.drop n) (n := ms.length) fun p hp => ok p (List.mem_of_mem_drop hp)
  have sok2 := hdP_ok (ps := ps.drop (n + 1)) (n := ms.length) fun p hp => ok p (List.mem_of_mem_drop hp)
  rw [e_law_due_k87]
  show r_law_due_k87 g A _ [some (.ref sh), some (.ref a), some (.ref dr), some (.ref mt), some (poV po), none, none, none, none] H
  unfold r_law_due_k87
  cases kd with
  | yours s =>
    obtain ⟨rfl, t, rfl⟩ := hk
    have hr : isT g.K a [.int s, .str "yours"] ∈ D1 := hr
    walk_at "rd"
    have W1 := W.mv2.frzT (K := g.K) (hasAll_cons (has_fl (.str _)) hasAll_nil)
    have W2 := W1.mv1.frzT (K := g.K) (hasAll_cons (has_fl (fl_sv (some t))) (hasAll_cons (has_mem List.mem_cons_self) hasAll_nil))
    have W3 := W2.addDs (K := g.K) (hasAll_cons (has_mem List.mem_cons_self) hasAll_nil)
    exact k _ _ _ (by simp) (W3.arr spR (fsC List.mem_cons_self (fsT (fsT (fsT fsR)))))
  | letter s =>
    have hr : isT g.K a [.int s, .str "letter"] ∈ D1 := hr
    walk_at "rd"
    refine k_call f1 hr1 ⟨v7, at_, n, ps, (sh, psO md) :: (dr, .lst [v7, .ref at_]) :: L, D1, rfl, hPl, W.ord (by walk_at "spm"), ?_⟩
    clear W H
    intro w H W
    generalize hdP (ps.drop n) = x1 at W k sok
    obtain ⟨b, ss⟩ := x1
    dsimp only at W k sok
    obtain ⟨pa, q, ys, rfl, W1⟩ := W.ply
    clear W
    have W := W1
    clear W1
    walk_at "rd"
    refine k_turn W (by walk_at "mem") (by walk_at "mem") (List.mem_cons_of_mem _ (List.mem_cons_of_mem _ (List.mem_cons_of_mem _ ht))) sok ?_
    clear W H
    intro l acc H ha W
    have s1 := sok.1
    walk_at "rd"
    cases md with
    | ask s' =>
      refine k_ifF (by kernel_rfl) ?_
      walk_at "rd"
      cases b with
      | false =>
        walk_at "rd"
        have W9 := W.ord (L' := (l, .lst acc) :: (sh, .lst _) :: (dr, .lst _) :: (at_, .lst [.int (n + 1 : Nat)]) :: L) (by walk_at "spm")
        refine k l acc _ (by omega) ?_
        rw [show presL po false (hdP (ps.drop (n + 1))).1 (ss.map (outD ms)) ((hdP (ps.drop (n + 1))).2.map (outD ms)) (.ask s') (.letter s) = ss.map (outD ms) from List.append_nil _]
        exact W9.arr spR (by walk_at "sub")
      | true =>
        walk_at "rd"
        have W8 := W.ord (L' := (sh, .lst _) :: (l, .lst acc) :: (dr, .lst [v7, .ref at_]) :: (at_, .lst [.int (n + 1 : Nat)]) :: L) (by walk_at "spm")
        refine k_call f2 hr2 ⟨sh, (Pm.ask s').sv, _, _, (Pm.ask s').pe, (Pm.ask s').td, po, _, _, rfl, W8, ?_⟩
        clear W W8 H
        intro q2 xs2 H W
        have l1 := W.lenL List.mem_cons_self
        have l2 := risePD_len po (Pm.ask s').sv
        walk_at "rd"
        refine k_add_ll W (by walk_at "mem") (by walk_at "mem") (sl_of (by omega)) ?_
        clear W H
        intro r H W
        have W1 := W.addDs (hasAll_app (hasAll_mem (List.mem_cons_of_mem _ List.mem_cons_self)) (hasAll_mem List.mem_cons_self))
        have W9 := W1.ord (L' := (r, .lst (acc ++ xs2)) :: (sh, .lst _) :: (dr, .lst [v7, .ref at_]) :: (at_, .lst [.int (n + 1 : Nat)]) :: L) (by walk_at "spm")
        refine k r (acc ++ xs2) _ (by simp; omega) ?_
        cases po with
        | none => exact W9.arr spR (fsC List.mem_cons_self (by walk_at "sub"))
        | some i => exact W9.arr spR (fsC List.mem_cons_self (by walk_at "sub"))
    | idle =>
      refine k_ifT (by kernel_rfl) ?_
      walk_at "rd"
      have W9 := W.ord (L' := (l, .lst acc) :: (sh, .lst _) :: (dr, .lst _) :: (at_, .lst [.int (n + 1 : Nat)]) :: L) (by walk_at "spm")
      exact k l acc _ (by omega) (W9.arr spR (fsC List.mem_cons_self (by walk_at "sub")))
    | pend s' =>
      refine k_ifT (by kernel_rfl) ?_
      walk_at "rd"
      have W9 := W.ord (L' := (l, .lst acc) :: (sh, .lst _) :: (dr, .lst _) :: (at_, .lst [.int (n + 1 : Nat)]) :: L) (by walk_at "spm")
      exact k l acc _ (by omega) (W9.arr spR (fsC List.mem_cons_self (by walk_at "sub")))
    | told s' w' =>
      refine k_ifT (by kernel_rfl) ?_
      walk_at "rd"
      have W9 := W.ord (L' := (l, .lst acc) :: (sh, .lst _) :: (dr, .lst _) :: (at_, .lst [.int (n + 1 : Nat)]) :: L) (by walk_at "spm")
      cases w' with
      | none => exact k l acc _ (by omega) (W9.arr spR (fsC List.mem_cons_self (by walk_at "sub")))
      | some t' => exact k l acc _ (by omega) (W9.arr spR (fsC List.mem_cons_self (by walk_at "sub")))
  | please s =>
    have hr : isT g.K a [.int s, .str "please"] ∈ D1 := hr
    walk_at "rd"
    obtain ⟨hsb, rfl | ⟨t, rfl⟩⟩ := hk
    · walk_at "rd"
      refine k_call f1 hr1 ⟨v7, at_, n, ps, (sh, psO .idle) :: (dr, .lst [v7, .ref at_]) :: L, D1, rfl, hPl, W.ord (by walk_at "spm"), ?_⟩
      clear W H
      intro w H W
      generalize hdP (ps.drop n) = x1 at W k sok
      obtain ⟨b, ss⟩ := x1
      dsimp only at W k sok
      obtain ⟨pa, q, ys, rfl, W1⟩ := W.ply
      clear W
      have W := W1
      clear W1
      walk_at "rd"
      refine k_turn W (by walk_at "mem") (by walk_at "mem") (List.mem_cons_of_mem _ (List.mem_cons_of_mem _ (List.mem_cons_of_mem _ ht))) sok ?_
      clear W H
      intro l acc H ha W
      have s1 := sok.1
      walk_at "rd"
      have W8 := W.ord (L' := (sh, .lst _) :: (l, .lst acc) :: (dr, .lst [v7, .ref at_]) :: (at_, .lst [.int (n + 1 : Nat)]) :: L) (by walk_at "spm")
      refine k_call f3 hr3 ⟨sh, some s, _, _, Pm.idle.pe, Pm.idle.td, po, pa, l, acc, _, b, .ref q, _, _, rfl, List.mem_cons_of_mem _ List.mem_cons_self, List.mem_cons_self, by omega, W8, ?_⟩
      clear W W8 H
      intro r xs2 H W
      have l2 := W.lenL List.mem_cons_self
      have l3 := risePD_len po (some s)
      have l4 : xs2.length ≤ 5000 := by
        cases b <;> simp at l2 <;> omega
      refine k r xs2 _ l4 ?_
      cases b with
      | false => exact W.arr spR (fsC List.mem_cons_self (by walk_at "sub"))
      | true =>
        cases po with
        | none => exact W.arr spR (fsC List.mem_cons_self (by walk_at "sub"))
        | some i => exact W.arr spR (fsC List.mem_cons_self (by walk_at "sub"))
    · refine k_ifT (by kernel_rfl) ?_
      walk_at "rd"
      exact k _ [] _ (by simp) (W.addDs hasAll_nil)
  | done s =>
    have hr : isT g.K a [.int s, .str "done"] ∈ D1 := hr
    walk_at "rd"
    obtain ⟨w0, rfl⟩ := hk
    refine k_call f1 hr1 ⟨v7, at_, n, ps, (sh, psO (.told s w0)) :: (dr, .lst [v7, .ref at_]) :: L, D1, rfl, hPl, W.ord (by walk_at "spm"), ?_⟩
    clear W H
    intro w H W
    generalize hdP (ps.drop n) = x1 at W k sok
    obtain ⟨b, ss⟩ := x1
    dsimp only at W k sok
    obtain ⟨pa, q, ys, rfl, W1⟩ := W.ply
    clear W
    have W := W1
    clear W1
    walk_at "rd"
    refine k_turn W (by walk_at "mem") (by walk_at "mem") (List.mem_cons_of_mem _ (List.mem_cons_of_mem _ (List.mem_cons_of_mem _ ht))) sok ?_
    clear W H
    intro l acc H ha W
    have s1 := sok.1
    walk_at "rd"
    refine k_cut (fun σ H => ∃ l2 acc2, σ = [some (.ref sh), some (.ref a), some (.ref dr), some (.ref mt), some (poV po), some (.ref pa), some (.ref l2), none, none] ∧ acc2.length ≤ 1001 ∧ Wd ((l2, .lst acc2) :: (sh, .lst [poV (some s), poV w0, .str "out", .bl false, .bl false]) :: (dr, .lst [v7, .ref at_]) :: (at_, .lst [.int (n + 1 : Nat)]) :: L) (isDs g.K acc2 (doneD po ++ ss.map (outD ms)) :: D1) H) ?_ ?_
    · walk_at "rd"
      cases po with
      | none =>
        walk_at "rd"
        have W9 := W.ord (L' := (l, .lst acc) :: (sh, .lst _) :: (dr, .lst _) :: (at_, .lst [.int (n + 1 : Nat)]) :: L) (by walk_at "spm")
        exact ⟨l, acc, rfl, by omega, W9.arr spR (fsC List.mem_cons_self (by walk_at "sub"))⟩
      | some i =>
        refine k_ifnn (by simp [poV]) ?_
        walk_at "rd"
        have W1 := W.mv2.frzT (K := g.K) (hasAll_cons (has_fl (.str _)) hasAll_nil)
        have W2 := W1.mv1.frzT (K := g.K) (hasAll_cons (has_fl (.int i)) (hasAll_cons (has_mem List.mem_cons_self) hasAll_nil))
        refine k_add_ll W2 (by walk_at "mem") (by walk_at "mem") (sl_of (by simp; omega)) ?_
        clear W W1 W2 H
        intro r H W
        have W1 := W.addDs (K := g.K) (hasAll_app (hasAll_cons (has_mem List.mem_cons_self) hasAll_nil) (hasAll_mem (List.mem_cons_of_mem _ (List.mem_cons_of_mem _ List.mem_cons_self))))
        have W9 := W1.ord (L' := (r, .lst _) :: (sh, .lst _) :: (dr, .lst _) :: (at_, .lst [.int (n + 1 : Nat)]) :: L) (by walk_at "spm")
        walk_at "rd"
        exact ⟨r, _, rfl, by simp; omega, W9.arr spR (fsC List.mem_cons_self (by walk_at "sub"))⟩
    clear W H
    rintro σ H ⟨l2, acc2, rfl, ha2, W⟩
    walk_at "rd"
    cases w0 with
    | none =>
      walk_at "rd"
      exact k l2 acc2 _ (by omega) W.mv1
    | some t =>
      refine k_ifn (by simp [poV]) ?_
      walk_at "rd"
      refine k_call f1 hr1 ⟨v7, at_, n + 1, ps, (l2, .lst acc2) :: (sh, .lst [poV (some t), .non, .str "out", .bl false, .bl false]) :: (dr, .lst [v7, .ref at_]) :: L, _, rfl, List.mem_cons_of_mem _ hPl, W.ord (by walk_at "spm9"), ?_⟩
      clear W H
      intro w H W
      generalize hdP (ps.drop (n + 1)) = x2 at W k sok2
      obtain ⟨b2, ss2⟩ := x2
      dsimp only at W k sok2
      obtain ⟨pa2, q2, ys2, rfl, W1⟩ := W.ply
      clear W
      have W := W1
      clear W1
      walk_at "rd"
      refine k_turn W (by walk_at "mem") (by walk_at "mem") (List.mem_cons_of_mem _ (List.mem_cons_of_mem _ (List.mem_cons_of_mem _ (List.mem_cons_of_mem _ ht)))) sok2 ?_
      clear W H
      intro l3 acc3 H ha3 W
      have s2 := sok2.1
      walk_at "rd"
      have W8 := W.ord (L' := (sh, .lst _) :: (l3, .lst acc3) :: (l2, .lst acc2) :: (dr, .lst [v7, .ref at_]) :: (at_, .lst [.int (n + 2 : Nat)]) :: L) (by walk_at "spm9")
      refine k_call f3 hr3 ⟨sh, some t, _, _, false, false, po, pa2, l3, acc3, _, b2, .ref q2, _, _, rfl, List.mem_cons_of_mem _ List.mem_cons_self, List.mem_cons_self, by omega, W8, ?_⟩
      clear W W8 H
      intro r xs2 H W
      have l2' := W.lenL List.mem_cons_self
      have l3' := risePD_len po (some t)
      have l4 : xs2.length ≤ 1001 := by
        cases b2 <;> simp at l2' <;> omega
      walk_at "rd"
      refine k_add_ll W (by walk_at "mem") (by walk_at "mem") (sl_of (by omega)) ?_
      clear W H
      intro r2 H W
      have W1 := W.addDs (hasAll_app (hasAll_mem (List.mem_cons_of_mem _ (List.mem_cons_of_mem _ (List.mem_cons_of_mem _ (List.mem_cons_of_mem _ (List.mem_cons_of_mem _ List.mem_cons_self)))))) (hasAll_mem List.mem_cons_self))
      have W9 := W1.ord (L' := (r2, .lst (acc2 ++ xs2)) :: (sh, .lst _) :: (dr, .lst [v7, .ref at_]) :: (at_, .lst [.int (n + 2 : Nat)]) :: L) (by walk_at "spm9")
      refine k r2 (acc2 ++ xs2) _ (by simp; omega) ?_
      cases b2 with
      | false => exact W9.arr spR (fsC List.mem_cons_self (by walk_at "sub"))
      | true =>
        cases po with
        | none => exact W9.arr spR (fsC List.mem_cons_self (by walk_at "sub"))
        | some i => exact W9.arr spR (fsC List.mem_cons_self (by walk_at "sub"))
section
variable {po : Option Int} {b b2 : Bool} {md : Pm} {s : Int} {o o2 : List PyData}
theorem lt_pd : (md.pd || onwC (fHear b md.ist) md.pd) = (pnxt po b b2 md (.letter s)).pd := by
  cases md with
  | told t w => cases w <;> cases b <;> cases po <;> rfl
  | _ => cases b <;> cases po <;> rfl
theorem lt_ist : fHear b md.ist = (pnxt po b b2 md (.letter s)).ist := by
  cases md with
  | told t w => cases w <;> cases b <;> cases po <;> rfl
  | _ => cases b <;> cases po <;> rfl
theorem lt_sv : md.sv = (pnxt po b b2 md (.letter s)).sv := by
  cases md with
  | told t w => cases w <;> cases b <;> cases po <;> rfl
  | _ => cases b <;> cases po <;> rfl
theorem lt_wt : md.wt = (pnxt po b b2 md (.letter s)).wt := by
  cases md with
  | told t w => cases w <;> cases b <;> cases po <;> rfl
  | _ => cases b <;> cases po <;> rfl
theorem lt_l : o ++ (if onwC (fHear b md.ist) md.pd then risePD po md.sv else []) = presL po b b2 o o2 md (.letter s) := by
  cases md with
  | told t w => cases w <;> cases b <;> first | rfl | exact List.append_nil _
  | _ => cases b <;> first | rfl | exact List.append_nil _
theorem lt_take : ptake md (.letter s) = 1 := by
  cases md with
  | told t w => cases w <;> rfl
  | _ => rfl
theorem ip_pd : (Pm.idle.pd || onwC (fAsk b Pm.idle.ist) Pm.idle.pd) = (pnxt po b b2 .idle (.please s)).pd := by
  cases b <;> cases po <;> rfl
theorem ip_ist : fAsk b Pm.idle.ist = (pnxt po b b2 .idle (.please s)).ist := by
  cases b <;> cases po <;> rfl
theorem ip_sv : some s = (pnxt po b b2 .idle (.please s)).sv := by
  cases b <;> cases po <;> rfl
theorem ip_wt : Pm.idle.wt = (pnxt po b b2 .idle (.please s)).wt := by
  cases b <;> cases po <;> rfl
theorem ip_l : o ++ (if onwC (fAsk b Pm.idle.ist) Pm.idle.pd then risePD po (some s) else []) = presL po b b2 o o2 .idle (.please s) := by
  cases b <;> rfl
end
theorem hear_ok {g : G} {C Cp : Addr} {H : Hp} {Q : VK} {E : XK} {m pq dm ip mtp dp la : Addr} {me pi : V} {ms bs : List Int} {po : Option Int} {md : Pm} {kd : Pk} {ps : List Ply} {n : Nat} {pl : V} {L : Ow} {D : List Fct} {lw : Str} {xs : List V}
    (hla : isT g.K la (.str lw :: xs) ∈ D) (h1 : ∀ s, kd = .please s → lw = "please") (h2 : ∀ s, kd = .done s → lw = "done")
    (hI : (PV.mk m md.sv pq dm me "out" ip mtp po md.pd dp pi md.ist pl ms (ps.drop n) ((pq, .lst (md.wt.toList.map V.int)) :: L) D).In g C Cp H)
    (hk : PkOk md po ms bs kd) (hpo : ∀ s, po = some s → s ∉ ms ∧ s ∉ bs) (hbs : ∀ s ∈ bs, s ∉ ms) (hm : PmOk md po bs)
    (k : ∀ q xs pl' H', Wd ((q, .lst xs) :: (m, porO C (pnxt po (hdP (ps.drop n)).1 (hdP (ps.drop (n + 1))).1 md kd).sv pq dm me "out" ip mtp (poV po) (pnxt po (hdP (ps.drop n)).1 (hdP (ps.drop (n + 1))).1 md kd).pd) :: (ip, pupO Cp dp pi (pnxt po (hdP (ps.drop n)).1 (hdP (ps.drop (n + 1))).1 md kd).ist pl') :: (pq, .lst ((pnxt po (hdP (ps.drop n)).1 (hdP (ps.drop (n + 1))).1 md kd).wt.toList.map V.int)) :: L)
      (isDs g.K xs (presL po (hdP (ps.drop n)).1 (hdP (ps.drop (n + 1))).1 ((hdP (ps.drop n)).2.map (outD ms)) ((hdP (ps.drop (n + 1))).2.map (outD ms)) md kd) :: isD g.K pl' (.list ((ps.drop (n + ptake md kd)).map plyD)) :: D) H' → Q (.ref q) H') :
    spPHear g C Cp [.ref m, .int kd.x, .ref la] H Q E := by
  cases kd with
  | letter s =>
    refine ⟨_, s, la, lw, xs, rfl, hla, hI, .inr (.inl ⟨fun e => (hpo s e).1 hk, hk, _, s, .ref la, rfl, hk, hI, fun q xs pl' H' _ W => k q xs pl' H' ?_⟩)⟩
    dsimp only at W
    rw [lt_take, ← List.tail_drop, ← lt_pd, ← lt_ist, ← lt_sv, ← lt_wt, ← lt_l]
    exact W
  | yours s =>
    obtain ⟨rfl, t, rfl⟩ := hk
    refine ⟨_, s, la, lw, xs, rfl, hla, hI, .inl ⟨rfl, m, (Pm.pend t).sv, pq, dm, me, "out", ip, mtp, _, (Pm.pend t).pd, _, _, rfl, hI.W, fun q xs H' W => k q xs pl H' ?_⟩⟩
    exact W.arr spR (fsC List.mem_cons_self (fsC (List.mem_cons_of_mem _ hI.pls) (fsT fsR)))
  | please s =>
    obtain ⟨hsb, hk⟩ := hk
    refine ⟨_, s, la, lw, xs, rfl, hla, hI, .inr (.inr (.inl ⟨fun e => (hpo s e).2 hsb, hbs s hsb, h1 s rfl, _, s, rfl, hI, ?_⟩))⟩
    rcases hk with rfl | ⟨t, rfl⟩
    · refine .inl ⟨rfl, fun q xs pl' H' _ W => k q xs pl' H' ?_⟩
      dsimp only at W
      rw [show ptake .idle (.please s) = 1 from rfl, ← List.tail_drop, ← ip_pd, ← ip_ist, ← ip_sv, ← ip_wt, ← ip_l]
      exact W
    · refine .inr ⟨t, [], L, rfl, rfl, by simp, fun q H' W => k q [] pl H' ?_⟩
      exact (W.addDs hasAll_nil).arr spR (fsC List.mem_cons_self (fsC (List.mem_cons_of_mem _ hI.pls) (fsT fsR)))
  | done s =>
    obtain ⟨w, rfl⟩ := hk
    have hs : s ∈ bs := hm.2.1 s rfl
    refine ⟨_, s, la, lw, xs, rfl, hla, hI, .inr (.inr (.inr ⟨fun e => (hpo s e).2 hs, hbs s hs, h2 s rfl, _, w.toList, L, rfl, hI, rfl, fun q xs pl' H' W => k q xs pl' H' ?_⟩))⟩
    dsimp only at W
    rw [List.tail_drop] at W
    cases w with
    | none => exact W
    | some t =>
      dsimp only [Option.toList] at W
      rw [List.tail_drop] at W
      generalize hdP (ps.drop n) = x1 at W k
      generalize hdP (ps.drop (n + 1)) = x2 at W k
      obtain ⟨c2, s2⟩ := x2
      cases c2 <;> cases po <;> exact W
theorem pk_ok {md : Pm} {ms bs : List Int} {po : Option Int} {kd : Pk} (h : kd ∈ pdeeds md ms bs po) : PkOk md po ms bs kd := by
  unfold pdeeds at h
  rcases List.mem_append.mp h with h | h
  · obtain ⟨s, hs, rfl⟩ := List.mem_map.mp h
    exact hs
  rcases List.mem_append.mp h with h | h
  · obtain ⟨s, hs, rfl⟩ := List.mem_map.mp h
    cases md with
    | idle => exact ⟨hs, .inl rfl⟩
    | told t w =>
      cases w with
      | none => exact ⟨(List.mem_filter.mp hs).1, .inr ⟨t, rfl⟩⟩
      | some _ => exact (List.not_mem_nil hs).elim
    | _ => exact (List.not_mem_nil hs).elim
  rcases List.mem_append.mp h with h | h
  · cases md with
    | pend t =>
      cases po with
      | none => simp at h
      | some s => rw [(List.mem_replicate.mp h).2]; exact ⟨rfl, t, rfl⟩
    | _ => simp at h
  · cases md with
    | told t w => rw [(List.mem_replicate.mp h).2]; exact ⟨w, rfl⟩
    | _ => simp at h
theorem pdeeds_len {md : Pm} {ms bs : List Int} {po : Option Int} : ms.length ≤ (pdeeds md ms bs po).length := by
  unfold pdeeds
  rw [List.length_append, List.length_map]
  omega
theorem riseP_ok {po : Option Int} {s : Int} {bs : List Int} (h : s ∈ bs) : PmOk (riseP po s) po bs := by
  cases po with
  | none => exact ⟨fun _ e => (by cases e), fun t e => (by cases e; exact h), fun t e => (by cases e)⟩
  | some p => exact ⟨fun _ _ => (by simp), fun t e => (by cases e; exact h), fun t e => (by cases e)⟩
theorem pnxt_ok {po : Option Int} {b b2 : Bool} {md : Pm} {kd : Pk} {ms bs : List Int} (h : PmOk md po bs) (hk : PkOk md po ms bs kd) : PmOk (pnxt po b b2 md kd) po bs := by
  have ask : ∀ s, s ∈ bs → PmOk (.ask s) po bs := fun s hs => ⟨fun _ e => (by cases e), fun t e => (by cases e; exact hs), fun t e => (by cases e)⟩
  cases kd with
  | letter s =>
    cases md with
    | ask t =>
      cases b with
      | false => exact h
      | true => exact riseP_ok (h.2.1 t rfl)
    | told t w => cases w <;> exact h
    | _ => exact h
  | please s =>
    obtain ⟨hs, rfl | ⟨t, rfl⟩⟩ := hk
    · cases b with
      | false => exact ask s hs
      | true => exact riseP_ok hs
    · exact ⟨fun _ e => (by cases e), fun u e => (by cases e; exact h.2.1 t rfl), fun u e => (by cases e; exact hs)⟩
  | yours s =>
    obtain ⟨rfl, t, rfl⟩ := hk
    exact ⟨fun _ e => (by cases e), fun u e => (by cases e; exact h.2.1 t rfl), fun u e => (by cases e)⟩
  | done s =>
    obtain ⟨w, rfl⟩ := hk
    cases w with
    | none => exact ⟨fun _ e => (by cases e), fun u e => (by cases e), fun u e => (by cases e)⟩
    | some t =>
      cases b2 with
      | false => exact ask t (h.2.2 t rfl)
      | true => exact riseP_ok (h.2.2 t rfl)
theorem presL_ok {po : Option Int} {b b2 : Bool} {md : Pm} {kd : Pk} {ms bs : List Int} {o o2 : List PyData} {P : PyData → Prop} (hk : PkOk md po ms bs kd) (h : ∀ d ∈ o, P d) (h' : ∀ d ∈ o2, P d) (h1 : ∀ s, ∀ d ∈ risePD po (some s), P d) (h2 : ∀ d ∈ doneD po, P d) (h3 : ∀ s, P (yoursD (some s))) : ∀ d ∈ presL po b b2 o o2 md kd, P d := by
  have app : ∀ {a c : List PyData}, (∀ d ∈ a, P d) → (∀ d ∈ c, P d) → ∀ d ∈ a ++ c, P d := fun ha hc d hd => by
    rcases List.mem_append.mp hd with e | e
    · exact ha d e
    · exact hc d e
  have nil : ∀ d ∈ ([] : List PyData), P d := fun _ h => (List.not_mem_nil h).elim
  cases kd with
  | letter s =>
    cases md with
    | ask t =>
      refine app h ?_
      cases b with
      | false => exact nil
      | true => exact h1 t
    | told t w => cases w <;> exact h
    | _ => exact h
  | please s =>
    obtain ⟨hs, rfl | ⟨t, rfl⟩⟩ := hk
    · refine app h ?_
      cases b with
      | false => exact nil
      | true => exact h1 s
    · exact nil
  | yours s =>
    obtain ⟨rfl, t, rfl⟩ := hk
    exact mem1 (h3 t)
  | done s =>
    obtain ⟨w, rfl⟩ := hk
    cases w with
    | none => exact app h2 h
    | some t =>
      refine app (app h2 h) (app h' ?_)
      cases b2 with
      | false => exact nil
      | true => exact h1 t
structure Law87 (g : G) (A : Around) (C Cp : Addr) (k : Nat) : Prop where
  hr : Room k A
  hC : ClsF g.K C porF
  hCp : ClsF g.K Cp pupF
  deeds : GF g k "_law_deeds" (spPDeeds g)
  due : GF g k "_law_due" (spPDue g)
  pairs : GF g k "_law_pairs" (spPairs g)
  hear : MF g k C "hear" (spPHear g C Cp)
theorem w_pbody {g : G} {A : Around} {C Cp : Addr} {k0 : Nat} (F : Law87 g A C Cp k0) {H : Hp} {L : Ow} {D : List Fct} {De : Ends} {v0 v1 v2 v3 v4 v7 v10 : V} {mt bt sh dr at_ m ip dm dp mtp pq : Addr} {me pi : Int} {ms bs : List Int} {po : Option Int} {ps : List Ply} {md : Pm} {n : Nat} {pl : V} {c : Int} {x14 x15 x16 x17 : Option V}
    (hPl : isD g.K v7 (.list (ps.map plyD)) ∈ D) (hMt : isL g.K mt (ms.map V.int) ∈ D) (hBt : isL g.K bt (bs.map V.int) ∈ D) (hFt : isFT mtp (ms.map V.int) ∈ D) (hTt : isT g.K mtp (ms.map V.int) ∈ D) (hl : ps.length ≤ 1000) (hn : 0 < ms.length) (hml : ms.length ≤ 1000) (hbl : bs.length ≤ 1000) (ok : ∀ p ∈ ps, PlyOk ms.length p)
    (hpo : ∀ s, po = some s → s ∉ ms ∧ s ∉ bs) (hbs : ∀ s ∈ bs, s ∉ ms) (hm : PmOk md po bs)
    (W : Wd ((sh, psO md) :: (dr, .lst [v7, .ref at_]) :: (at_, .lst [.int n]) :: (m, porO C md.sv pq dm (.int me) "out" ip mtp (poV po) md.pd) :: (ip, pupO Cp dp (.int pi) md.ist pl) :: (pq, .lst (md.wt.toList.map V.int)) :: L) (isD g.K pl (.list ((ps.drop n).map plyD)) :: D) H)
    (kk : ∀ md n pl x14 x15 x16 x17 H, PmOk md po bs → Wd ((sh, psO md) :: (dr, .lst [v7, .ref at_]) :: (at_, .lst [.int (n : Nat)]) :: (m, porO C md.sv pq dm (.int me) "out" ip mtp (poV po) md.pd) :: (ip, pupO Cp dp (.int pi) md.ist pl) :: (pq, .lst (md.wt.toList.map V.int)) :: L) (isD g.K pl (.list ((ps.drop n).map plyD)) :: D) H →
      De.nx [some v0, some v1, some v2, some v3, some v4, some (.ref mt), some (.ref bt), some (.int me), some (poV po), some (.ref dr), some v10, some (.ref m), some (.ref sh), some (.int c), x14, x15, x16, x17] H) :
    rb_law_k87_0 g A De [some v0, some v1, some v2, some v3, some v4, some (.ref mt), some (.ref bt), some (.int me), some (poV po), some (.ref dr), some v10, some (.ref m), some (.ref sh), some (.int c), x14, x15, x16, x17] H := by
  have hC := F.hC
  have hCp := F.hCp
  walk_at "rd"
  refine k_call F.deeds F.hr ⟨sh, mt, bt, ms, bs, po, md, _, _, rfl, List.mem_cons_of_mem _ hMt, List.mem_cons_of_mem _ hBt, hml, hbl, hm, W, ?_⟩
  clear W H
  intro dl xs H W
  walk_at "rd"
  have lx := W.lenL List.mem_cons_self
  have lx2 : 0 < xs.length := by
    have := pdeeds_len (md := md) (ms := ms) (bs := bs) (po := po)
    rw [lx, List.length_map]
    omega
  refine k_mod (by omega) ?_
  obtain ⟨dv, hv, hv2, _⟩ := atI_get (xs := xs) (r := c % (xs.length : Int)) (Int.emod_nonneg _ (by omega)) (Int.emod_lt_of_pos _ (by omega))
  walk_at "norm"
  refine k_ix_l W (by walk_at "mem") hv ?_
  obtain ⟨d, hd, W1⟩ := W.itemV (hasAll_mem List.mem_cons_self) hv2
  obtain ⟨kd, hkd, rfl⟩ := Option.map_eq_some_iff.mp (by rw [List.getElem?_map] at hd; exact hd)
  have hk := pk_ok (List.mem_of_getElem? hkd)
  obtain ⟨a, u1, u2, rfl, W2⟩ := W1.op2 List.mem_cons_self
  have e1 := W2.vint (List.mem_cons_of_mem _ List.mem_cons_self)
  have e2 := W2.vstr (List.mem_cons_of_mem _ (List.mem_cons_of_mem _ List.mem_cons_self))
  subst e1 e2
  clear W W1
  have W : Wd ((sh, psO md) :: (dr, .lst [v7, .ref at_]) :: (at_, .lst [.int n]) :: (m, porO C md.sv pq dm (.int me) "out" ip mtp (poV po) md.pd) :: (ip, pupO Cp dp (.int pi) md.ist pl) :: (pq, .lst (md.wt.toList.map V.int)) :: L) (isT g.K a [.int kd.x, .str kd.nm] :: isD g.K (.ref a) kd.D :: isD g.K pl (.list ((ps.drop n).map plyD)) :: D) H := W2.arr (by walk_at "spm") (fsC List.mem_cons_self (fsC (by walk_at "mem") (fsC (by walk_at "mem") (by walk_at "sub"))))
  clear W2 hv hv2 hd hkd lx lx2
  walk_at "rd"
  refine k_if2 (fun v H => ∃ (la : Addr) (lw : Str) (zs : List V), v = .ref la ∧ (∀ s, kd = .please s → lw = "please") ∧ (∀ s, kd = .done s → lw = "done") ∧ Wd ((sh, psO md) :: (dr, .lst [v7, .ref at_]) :: (at_, .lst [.int n]) :: (m, porO C md.sv pq dm (.int me) "out" ip mtp (poV po) md.pd) :: (ip, pupO Cp dp (.int pi) md.ist pl) :: (pq, .lst (md.wt.toList.map V.int)) :: L) (isT g.K la (.str lw :: zs) :: isT g.K a [.int kd.x, .str kd.nm] :: isD g.K (.ref a) kd.D :: isD g.K pl (.list ((ps.drop n).map plyD)) :: D) H) ?_ ?_ ?_
  · clear W H
    rintro v H ⟨la, lw, zs, rfl, h1, h2, W⟩
    walk_at "rd"
    refine k_call F.due F.hr ⟨sh, .ref a, dr, v7, at_, mt, n, ms, bs, ps, po, md, kd, (m, porO C md.sv pq dm (.int me) "out" ip mtp (poV po) md.pd) :: (ip, pupO Cp dp (.int pi) md.ist pl) :: (pq, .lst (md.wt.toList.map V.int)) :: L, _, rfl, List.mem_cons_of_mem _ (List.mem_cons_of_mem _ List.mem_cons_self), List.mem_cons_of_mem _ (List.mem_cons_of_mem _ (List.mem_cons_of_mem _ (List.mem_cons_of_mem _ hPl))), List.mem_cons_of_mem _ (List.mem_cons_of_mem _ (List.mem_cons_of_mem _ (List.mem_cons_of_mem _ hMt))), ok, hk, W, ?_⟩
    clear W H
    intro dq dxs H hdx W
    walk_at "rd"
    refine k_recvM W (by walk_at "mem") hC F.hear (by walk_at "lkn") ?_
    walk_at "rd"
    have W9 := W.ord (L' := (m, porO C md.sv pq dm (.int me) "out" ip mtp (poV po) md.pd) :: (ip, pupO Cp dp (.int pi) md.ist pl) :: (pq, .lst (md.wt.toList.map V.int)) :: (dq, .lst dxs) :: (sh, psO (pnxt po (hdP (ps.drop n)).1 (hdP (ps.drop (n + 1))).1 md kd)) :: (dr, .lst [v7, .ref at_]) :: (at_, .lst [.int (n + ptake md kd : Nat)]) :: L) (by walk_at "spm")
    refine k_meth F.hear F.hr (hear_ok (n := n) (ps := ps) (bs := bs) (List.mem_cons_of_mem _ List.mem_cons_self) h1 h2 ⟨List.mem_cons_of_mem _ (List.mem_cons_of_mem _ (List.mem_cons_of_mem _ (List.mem_cons_of_mem _ List.mem_cons_self))), List.mem_cons_of_mem _ (List.mem_cons_of_mem _ (List.mem_cons_of_mem _ (List.mem_cons_of_mem _ (List.mem_cons_of_mem _ hFt)))), List.mem_cons_of_mem _ (List.mem_cons_of_mem _ (List.mem_cons_of_mem _ (List.mem_cons_of_mem _ (List.mem_cons_of_mem _ hTt)))),
      by show (ps.drop n).length ≤ 1000; rw [List.length_drop]; omega, fun p hp => ok p (List.mem_of_mem_drop hp), W9⟩ hk hpo hbs hm ?_)
    clear W W9 H
    intro fq fx pl' H W
    have hR : ∀ d ∈ presL po (hdP (ps.drop n)).1 (hdP (ps.drop (n + 1))).1 ((hdP (ps.drop n)).2.map (outD ms)) ((hdP (ps.drop (n + 1))).2.map (outD ms)) md kd, PairOk d ∧ Shp 2 d := by
      have sok := hdP_ok (ps := ps.drop n) (n := ms.length) fun p hp => ok p (List.mem_of_mem_drop hp)
      have sok2 := hdP_ok (ps := ps.drop (n + 1)) (n := ms.length) fun p hp => ok p (List.mem_of_mem_drop hp)
      have one : ∀ (i : Int) (z : Str), PyData.strOk z = true → PairOk (.tuple [.int i, .tuple [.str z]]) ∧ Shp 2 (.tuple [.int i, .tuple [.str z]]) := fun i z hz => ⟨⟨_, _, rfl⟩, shp_tuple (mem2 shp_int (shp_tuple (mem1 (shp_str hz))))⟩
      refine presL_ok hk (mem_map fun s hs => ⟨⟨_, _, rfl⟩, shp_tuple (mem2 shp_int (sok.2 s hs).2.shp)⟩) (mem_map fun s hs => ⟨⟨_, _, rfl⟩, shp_tuple (mem2 shp_int (sok2.2 s hs).2.shp)⟩) ?_ ?_ (fun s => one s "yours" (by decide +kernel))
      · intro s
        cases po with
        | none => exact mem1 (one s "yours" (by decide +kernel))
        | some i => exact mem1 (one i "please" (by decide +kernel))
      · cases po with
        | none => exact fun _ h => (List.not_mem_nil h).elim
        | some i => exact mem1 (one i "done" (by decide +kernel))
    have hmd2 := pnxt_ok (b := (hdP (ps.drop n)).1) (b2 := (hdP (ps.drop (n + 1))).1) hm hk
    generalize presL po (hdP (ps.drop n)).1 (hdP (ps.drop (n + 1))).1 ((hdP (ps.drop n)).2.map (outD ms)) ((hdP (ps.drop (n + 1))).2.map (outD ms)) md kd = R at W hR
    generalize pnxt po (hdP (ps.drop n)).1 (hdP (ps.drop (n + 1))).1 md kd = md2 at W hmd2
    generalize n + ptake md kd = n2 at W
    walk_at "rd"
    have W1 := W.frzLs List.mem_cons_self
    have W2 := (W1.ord (L' := (dq, .lst dxs) :: (sh, psO md2) :: (dr, .lst [v7, .ref at_]) :: (at_, .lst [.int (n2 : Nat)]) :: (m, porO C md2.sv pq dm (.int me) "out" ip mtp (poV po) md2.pd) :: (ip, pupO Cp dp (.int pi) md2.ist pl') :: (pq, .lst (md2.wt.toList.map V.int)) :: L) (by walk_at "spm")).frzLs (List.mem_cons_of_mem _ (List.mem_cons_of_mem _ (List.mem_cons_of_mem _ List.mem_cons_self)))
    have W3 := W2.arr (D' := isD g.K (.ref fq) (.list R) :: isD g.K (.ref dq) (.list R) :: isD g.K pl' (.list ((ps.drop n2).map plyD)) :: D) spR (fsC (List.mem_cons_of_mem _ List.mem_cons_self) (fsC List.mem_cons_self (fsC (List.mem_cons_of_mem _ (List.mem_cons_of_mem _ (List.mem_cons_of_mem _ List.mem_cons_self))) (by walk_at "sub"))))
    clear W W1 W2
    have W := W3
    clear W3
    refine k_call F.pairs F.hr ⟨.ref fq, .ref dq, R, _, _, rfl, List.mem_cons_self, List.mem_cons_of_mem _ List.mem_cons_self, (shp_list fun d hd => (hR d hd).2).up (by decide), fun d hd => (hR d hd).1, W, ?_⟩
    clear W H
    intro H W
    walk_at "rd"
    refine k_ne_sc (by cases md2.sv <;> rfl) ?_
    walk_at "rd"
    refine k_ifnp rfl ?_
    walk_at "rd"
    refine k_ifnp rfl ?_
    walk_at "rd"
    refine k_ifnp rfl ?_
    walk_at "rd"
    refine k_ne_sc (by cases po <;> rfl) ?_
    walk_at "rd"
    refine k_ifnp rfl ?_
    walk_at "rd"
    exact kk md2 n2 pl' _ _ _ _ H hmd2 (W.arr spR (fsC (List.mem_cons_of_mem _ (List.mem_cons_of_mem _ List.mem_cons_self)) (by walk_at "sub")))
  · intro Q' rest hb
    have hb := of_decide_eq_true hb
    walk_at "rd"
    refine k_pow cpow_10_60 ?_
    walk_at "norm"
    refine k_mod (by decide +kernel) ?_
    walk_at "rd"
    refine rest _ _ ⟨_, "key", _, rfl, fun s e => ?_, fun s e => ?_, W.frz isT_stab fun B _ e => SqT.of e⟩
    · subst e
      exact absurd hb (by simp only [Pk.nm]; decide +kernel)
    · subst e
      exact absurd hb (by simp only [Pk.nm]; decide +kernel)
  · intro Q' rest hb
    walk_at "rd"
    refine rest _ _ ⟨_, kd.nm, _, rfl, fun s e => ?_, fun s e => ?_, W.frz isT_stab fun B _ e => SqT.of e⟩
    · subst e
      rfl
    · subst e
      rfl
structure Top87 (g : G) (A : Around) (C Cp : Addr) (k : Nat) : Prop where
  F : Law87 g A C Cp k
  hr : Room (k + 1) A
  box : GF g k "_law_box" spBox
  pick : GF g k "_law_pick" spPick
  unlike : GF g k "_law_unlike" spUnlike
  plays : GF g k "_law_plays" (spPlays g)
  nC : g.mg "Porter" = some (.ref C)
  nCp : g.mg "Puppet" = some (.ref Cp)
  iC : IF g k C (spPorInit g C)
  iCp : IF g k Cp (spPupInit g Cp)
theorem w_law87 {g : G} {A : Around} {C Cp : Addr} {k0 : Nat} (T : Top87 g A C Cp k0) {vs : List V} {H : Hp} {Q : VK} {E : XK} (h : spLaw g vs H Q E) :
    t_law_k87 g A { nx := fun _ H' => Q .non H', rt := Q } (start ["script", "box", "parts", "under", "seats", "mates", "below", "me", "porter", "draw", "handed", "machine", "state", "cell", "deeds", "deed", "letter", "due"] vs) H := by
  obtain ⟨s, cs, L, D, rfl, hs, hc, hl, W, k⟩ := h
  have F := T.F
  rw [e_law_k87]
  show r_law_k87 g A _ [some (.ref s), none, none, none, none, none, none, none, none, none, none, none, none, none, none, none, none, none] H
  unfold r_law_k87
  walk_at "rd"
  refine k_sl_L W (W.list hs) ?_
  clear W H
  intro s3 H W
  rw [show cutV (cs.map V.int) none (some 3) = (cs.take 3).map V.int from by rw [List.map_take]; exact cut_to _ 3] at W
  walk_at "rd"
  refine k_call T.box F.hr ⟨s3, cs.take 3, _, D, rfl, List.mem_cons_self, W, ?_⟩
  clear W H
  intro bx cl H W
  walk_at "rd"
  refine k_call T.pick F.hr ⟨bx, cl, cs.take 3, 0, 0, 5, 6, 0, _, D, rfl, by decide, by decide, ⟨fun c h => hc c (List.mem_of_mem_take h), by decide, by decide, by decide, by decide, by decide⟩, by decide, W, ?_⟩
  clear W H
  intro r cells b1 b2 b3 H hr0 hr1 ob W
  obtain ⟨n, rfl⟩ : ∃ n : Nat, r = n := ⟨r.toNat, by omega⟩
  walk_at "rd"
  refine k_call T.pick F.hr ⟨bx, cl, cells, b1, b2, b3, 5, _, _, D, rfl, by decide, by decide, ob, by omega, W, ?_⟩
  clear W H ob
  intro r cells b1 b2 b3 H hu0 hu1 ob W
  obtain ⟨u, rfl⟩ : ∃ u : Nat, r = u := ⟨r.toNat, by omega⟩
  walk_at "rd"
  refine k_call T.unlike F.hr ⟨bx, cl, cells, b1, b2, b3, n + u + 3, _, _, D, by rw [show ((n + u + 3 : Nat) : Int) = 1 + (n : Int) + (1 + (u : Int)) + 1 from by omega], by omega, ob, by omega, W, ?_⟩
  clear W H ob
  intro st xs cells b1 b2 b3 H hx nd ob W
  walk_at "rd"
  refine k_sl_L W (W.sq List.mem_cons_self) ?_
  clear W H
  intro mt H W
  rw [show cutV (xs.map V.int) none (some (1 + (n : Int))) = (xs.take (n + 1)).map V.int from by rw [List.map_take, show 1 + (n : Int) = ((n + 1 : Nat) : Int) from by omega]; exact cut_to _ _] at W
  obtain ⟨ms, hms⟩ : ∃ ms, xs.take (n + 1) = ms := ⟨_, rfl⟩
  obtain ⟨bs, hbs⟩ : ∃ bs, (xs.drop (n + 1)).take (u + 1) = bs := ⟨_, rfl⟩
  have hml : ms.length = n + 1 := by
    rw [← hms, List.length_take]
    omega
  have hbl : bs.length = u + 1 := by
    rw [← hbs, List.length_take, List.length_drop]
    omega
  obtain ⟨po0, hpo0⟩ : ∃ p, xs[n + u + 2]? = some p := ⟨xs[n + u + 2]'(by omega), by simp [hx]⟩
  have inM : ∀ s ∈ ms, ∃ i, i < n + 1 ∧ xs[i]? = some s := fun s h => by
    rw [← hms] at h
    obtain ⟨i, hi⟩ := List.mem_iff_getElem?.mp h
    have hi2 := (List.getElem?_eq_some_iff.mp hi).1
    rw [List.length_take] at hi2
    rw [List.getElem?_take, if_pos (by omega)] at hi
    exact ⟨i, by omega, hi⟩
  have inB : ∀ s ∈ bs, ∃ i, n + 1 ≤ i ∧ i < n + u + 2 ∧ xs[i]? = some s := fun s h => by
    rw [← hbs] at h
    obtain ⟨i, hi⟩ := List.mem_iff_getElem?.mp h
    have hi2 := (List.getElem?_eq_some_iff.mp hi).1
    rw [List.length_take, List.length_drop] at hi2
    rw [List.getElem?_take, if_pos (by omega), List.getElem?_drop] at hi
    exact ⟨n + 1 + i, by omega, by omega, hi⟩
  have hpn : po0 ∉ ms ∧ po0 ∉ bs := by
    constructor
    · intro h
      obtain ⟨i, h1, h2⟩ := inM _ h
      have := (List.getElem?_inj (i := i) (j := n + u + 2) (by omega) nd).mp (by rw [h2, hpo0])
      omega
    · intro h
      obtain ⟨i, h0, h1, h2⟩ := inB _ h
      have := (List.getElem?_inj (i := i) (j := n + u + 2) (by omega) nd).mp (by rw [h2, hpo0])
      omega
  have hbm : ∀ s ∈ bs, s ∉ ms := fun s h h' => by
    obtain ⟨i, h0, h1, h2⟩ := inB _ h
    obtain ⟨j, h3, h4⟩ := inM _ h'
    have := (List.getElem?_inj (i := i) (j := j) (by omega) nd).mp (by rw [h2, h4])
    omega
  rw [hms] at W
  have W1 := W.frzIL (K := g.K)
  clear W
  have W := W1
  clear W1
  walk_at "rd"
  refine k_sl_L W (W.sq List.mem_cons_self) ?_
  clear W H
  intro bt H W
  rw [show cutV (xs.map V.int) (some (1 + (n : Int))) (some (1 + (n : Int) + (1 + (u : Int)))) = bs.map V.int from by
    rw [← hbs, List.map_take, List.map_drop, show 1 + (n : Int) + (1 + (u : Int)) = ((n + 1 + (u + 1) : Nat) : Int) from by omega, show 1 + (n : Int) = ((n + 1 : Nat) : Int) from by omega]
    exact cut_mid _ _ _ (by rw [List.length_map]; omega)] at W
  have W1 := W.frzIL (K := g.K)
  clear W
  walk_at "rd"
  refine k_call T.pick F.hr ⟨bx, cl, cells, b1, b2, b3, _, _, (st, .lst (xs.map V.int)) :: L, _, rfl, by omega, by omega, ob, by omega, W1.ord (by walk_at "spm"), ?_⟩
  clear W1 H ob
  intro r cells b1 b2 b3 H hr0 hr1 ob W
  obtain ⟨rn, rfl⟩ : ∃ rn : Nat, r = rn := ⟨r.toNat, by omega⟩
  obtain ⟨me, hme⟩ : ∃ m, ms[rn]? = some m := ⟨ms[rn]'(by omega), by simp⟩
  refine k_ix_Lm W (List.mem_cons_of_mem _ List.mem_cons_self) (atI_map hme) ?_
  walk_at "rd"
  refine k_call T.pick F.hr ⟨bx, cl, cells, b1, b2, b3, _, _, (st, .lst (xs.map V.int)) :: L, _, rfl, by omega, by omega, ob, by omega, W, ?_⟩
  clear W H ob
  intro r4 cells b1 b2 b3 H hr40 hr41 ob W
  walk_at "rd"
  refine k_if2 (fun v H => ∃ po : Option Int, v = poV po ∧ (∀ s, po = some s → s ∉ ms ∧ s ∉ bs) ∧ Wd ((bx, bxO cl b1 b2 b3) :: (cl, clO cells) :: L) (isL g.K bt (bs.map V.int) :: isL g.K mt (ms.map V.int) :: D) H) ?_ ?_ ?_
  · clear W H
    rintro v H ⟨po, rfl, hpo, W⟩
    walk_at "rd"
    refine k_call T.plays F.hr ⟨bx, cl, cells, b1, b2, b3, _, _, _, _, rfl, by omega, by omega, ob, by omega, W, ?_⟩
    clear W H ob
    intro v7 ds cells b1 b2 b3 H hds hok ob W
    rw [show (1 + (n : Int)) = ((n + 1 : Nat) : Int) from by omega] at hok
    obtain ⟨ps, rfl, hps⟩ := plays_of hok
    rw [List.length_map] at hds
    walk_at "rd"
    rename_i at_ dr
    refine k_list_L W (W.list (by walk_at "mem")) ?_
    clear W H
    intro hd H W
    walk_at "rd"
    refine ⟨.inl ⟨rfl, _, W.list (show isL g.K mt (ms.map V.int) ∈ _ by walk_at "mem")⟩, ?_⟩
    walk_at "rd"
    obtain ⟨j, hj, hj2⟩ := idx_of (List.mem_of_getElem? hme)
    refine ⟨mt, ms.map V.int, .int me, j, .int me, rfl, rfl, W.list (by walk_at "mem"), rfl, ?_, ?_, ?_, ?_, ?_⟩
    · rw [List.all_map]
      exact List.all_eq_true.mpr fun _ _ => rfl
    · rw [List.getElem?_map, hj]
      rfl
    · exact decide_eq_true rfl
    · intro m z' hm hz
      rw [List.getElem?_map] at hz
      obtain ⟨y, hy, rfl⟩ := Option.map_eq_some_iff.mp hz
      exact decide_eq_false fun e => hj2 m hm (by rw [hy, e])
    walk_at "rd"
    have r1 : Room (k0 + 1) A := T.hr
    refine k_make T.nCp T.iCp r1 W ?_
    clear W H
    intro ip dp H W
    refine ⟨ip, dp, j, n + 1, v7, ps, _, _, by rw [show ((n + 1 : Nat) : Int) = 1 + (n : Int) from by omega], List.mem_cons_self, by omega, hps, W, ?_⟩
    clear W H
    intro pl H W
    refine ⟨rfl, ?_⟩
    walk_at "rd"
    refine k_make T.nC T.iC r1 W ?_
    clear W H
    intro m dm H W
    refine ⟨m, dm, .int me, ip, hd, ms, poV po, _, _, rfl, by walk_at "mem", W, ?_⟩
    clear W H
    intro mtp pq H W
    refine ⟨rfl, ?_⟩
    walk_at "rd"
    refine k_clear (by walk_at "fr") ?_
    clear W H
    intro H W
    walk_at "rd"
    rename_i sh
    have hs' := List.mem_cons_of_mem (isFT mtp (ms.map V.int)) (List.mem_cons_of_mem (isT g.K mtp (ms.map V.int)) (List.mem_cons_of_mem (isD g.K pl (.list (ps.map plyD))) (List.mem_cons_of_mem (isD g.K v7 (.list (ps.map plyD))) (List.mem_cons_of_mem (isL g.K bt (bs.map V.int)) (List.mem_cons_of_mem (isL g.K mt (ms.map V.int)) hs)))))
    refine k_sl_L W (W.list hs') ?_
    clear W H
    intro sc H W
    rw [show cutV (cs.map V.int) (some 3) none = (cs.drop 3).map V.int from by rw [List.map_drop]; exact cut_from _ 3] at W
    have W9 := W.frzIL (K := g.K)
    have W10 := W9.ord (L' := (sh, psO .idle) :: (dr, .lst [v7, .ref at_]) :: (at_, .lst [.int (0 : Nat)]) :: (m, porO C Pm.idle.sv pq dm (.int me) "out" ip mtp (poV po) Pm.idle.pd) :: (ip, pupO Cp dp (.int (j : Nat)) Pm.idle.ist pl) :: (pq, .lst (Pm.idle.wt.toList.map V.int)) :: []) (by walk_at "spm9")
    clear W W9
    have W11 := W10.arr (D' := isD g.K pl (.list (ps.map plyD)) :: isL g.K sc ((cs.drop 3).map V.int) :: isFT mtp (ms.map V.int) :: isT g.K mtp (ms.map V.int) :: isD g.K v7 (.list (ps.map plyD)) :: isL g.K bt (bs.map V.int) :: isL g.K mt (ms.map V.int) :: D) spR (by walk_at "sub")
    clear W10
    have d1 : isL g.K sc ((cs.drop 3).map V.int) ∈ isL g.K sc ((cs.drop 3).map V.int) :: isFT mtp (ms.map V.int) :: isT g.K mtp (ms.map V.int) :: isD g.K v7 (.list (ps.map plyD)) :: isL g.K bt (bs.map V.int) :: isL g.K mt (ms.map V.int) :: D := List.mem_cons_self
    have d2 : isFT mtp (ms.map V.int) ∈ isL g.K sc ((cs.drop 3).map V.int) :: isFT mtp (ms.map V.int) :: isT g.K mtp (ms.map V.int) :: isD g.K v7 (.list (ps.map plyD)) :: isL g.K bt (bs.map V.int) :: isL g.K mt (ms.map V.int) :: D := by walk_at "mem"
    have d3 : isT g.K mtp (ms.map V.int) ∈ isL g.K sc ((cs.drop 3).map V.int) :: isFT mtp (ms.map V.int) :: isT g.K mtp (ms.map V.int) :: isD g.K v7 (.list (ps.map plyD)) :: isL g.K bt (bs.map V.int) :: isL g.K mt (ms.map V.int) :: D := by walk_at "mem"
    have d4 : isD g.K v7 (.list (ps.map plyD)) ∈ isL g.K sc ((cs.drop 3).map V.int) :: isFT mtp (ms.map V.int) :: isT g.K mtp (ms.map V.int) :: isD g.K v7 (.list (ps.map plyD)) :: isL g.K bt (bs.map V.int) :: isL g.K mt (ms.map V.int) :: D := by walk_at "mem"
    have d5 : isL g.K bt (bs.map V.int) ∈ isL g.K sc ((cs.drop 3).map V.int) :: isFT mtp (ms.map V.int) :: isT g.K mtp (ms.map V.int) :: isD g.K v7 (.list (ps.map plyD)) :: isL g.K bt (bs.map V.int) :: isL g.K mt (ms.map V.int) :: D := by walk_at "mem"
    have d6 : isL g.K mt (ms.map V.int) ∈ isL g.K sc ((cs.drop 3).map V.int) :: isFT mtp (ms.map V.int) :: isT g.K mtp (ms.map V.int) :: isD g.K v7 (.list (ps.map plyD)) :: isL g.K bt (bs.map V.int) :: isL g.K mt (ms.map V.int) :: D := by walk_at "mem"
    generalize isL g.K sc ((cs.drop 3).map V.int) :: isFT mtp (ms.map V.int) :: isT g.K mtp (ms.map V.int) :: isD g.K v7 (.list (ps.map plyD)) :: isL g.K bt (bs.map V.int) :: isL g.K mt (ms.map V.int) :: D = D9 at *
    walk_at "norm"
    have W := W11
    clear W11
    refine k_iter_L (W.list (List.mem_cons_of_mem _ d1)) ?_
    refine k_for walk_list (fun i σ H => ∃ md n' pl x13 x14 x15 x16 x17, σ = [some (.ref s), some (.ref bx), some (.int (1 + n)), some (.int (1 + u)), some (.ref st), some (.ref mt), some (.ref bt), some (.int me), some (poV po), some (.ref dr), some (.ref hd), some (.ref m), some (.ref sh), x13, x14, x15, x16, x17] ∧ PmOk md po bs ∧
      Wd ((sh, psO md) :: (dr, .lst [v7, .ref at_]) :: (at_, .lst [.int (n' : Nat)]) :: (m, porO C md.sv pq dm (.int me) "out" ip mtp (poV po) md.pd) :: (ip, pupO Cp dp (.int (j : Nat)) md.ist pl) :: (pq, .lst (md.wt.toList.map V.int)) :: []) (isD g.K pl (.list ((ps.drop n').map plyD)) :: D9) H)
      ⟨.idle, 0, pl, _, _, _, _, _, rfl, ⟨fun _ e => (by cases e), fun _ e => (by cases e), fun _ e => (by cases e)⟩, W⟩ (fun i σ H _ ⟨md, n', pl, x13, x14, x15, x16, x17, e, _, W⟩ => W.list (List.mem_cons_of_mem _ d1)) ?_ ?_
    · clear W H
      rintro i x σ H _ hi ⟨md, n', pl, x13, x14, x15, x16, x17, rfl, hmd, W⟩ ⟨rfl, hx⟩
      rw [List.getElem?_map] at hx
      obtain ⟨c, hcx, rfl⟩ := Option.map_eq_some_iff.mp hx
      refine k_store (by walk_at "set") ?_
      exact w_pbody F d4 d6 d5 d2 d3 (by omega) (by omega) (by omega) (by omega) (by rw [hml]; exact hps) hpo hbm hmd W fun md n' pl x14 x15 x16 x17 H hmd W => ⟨md, n', pl, _, x14, x15, x16, x17, rfl, hmd, W⟩
    · clear W H
      rintro σ H ⟨md, n', pl, x13, x14, x15, x16, x17, rfl, hmd, W⟩
      walk_at "rd"
      exact k H
  · intro Q' rest hb
    walk_at "rd"
    refine k_ix_l W (by walk_at "mem") (by rw [show 1 + (n : Int) + (1 + (u : Int)) = ((n + u + 2 : Nat) : Int) from by omega]; exact atI_map hpo0) ?_
    refine rest _ _ ⟨some po0, rfl, fun s e => ?_, W.ord (by walk_at "spm")⟩
    cases e
    exact hpn
  · intro Q' rest hb
    walk_at "rd"
    exact rest _ _ ⟨none, rfl, fun s e => by (cases e), W.ord (by walk_at "spm")⟩
def top (i : Nat) : Stmt := PySem.Challenge.pw_soleseat_k87_porters.main.body.getD i (.Pass ⟨0, 0, 0, 0⟩)
structure Top (g : G) : Prop where
  b_abs : g.mg "abs" = none
  b_all : g.mg "all" = none
  b_bool : g.mg "bool" = none
  b_enumerate : g.mg "enumerate" = none
  b_int : g.mg "int" = none
  b_isinstance : g.mg "isinstance" = none
  b_len : g.mg "len" = none
  b_list : g.mg "list" = none
  b_range : g.mg "range" = none
  b_str : g.mg "str" = none
  b_tuple : g.mg "tuple" = none
  k_Link : Kn g "Link"
  k_Porter : Kn g "Porter"
  k_Puppet : Kn g "Puppet"
  k_Seat : Kn g "Seat"
  k_law_asked : Kn g "_law_asked"
  k_law_box : Kn g "_law_box"
  k_law_deeds : Kn g "_law_deeds"
  k_law_due : Kn g "_law_due"
  k_law_pairs : Kn g "_law_pairs"
  k_law_pick : Kn g "_law_pick"
  k_law_play : Kn g "_law_play"
  k_law_plays : Kn g "_law_plays"
  k_law_risen : Kn g "_law_risen"
  k_law_unlike : Kn g "_law_unlike"
  k_is_below : Kn g "is_below"
  k_is_letter : Kn g "is_letter"
  k_is_number : Kn g "is_number"
  k_is_part : Kn g "is_part"
  k_is_play : Kn g "is_play"
  k_is_sending : Kn g "is_sending"
  k_is_word : Kn g "is_word"
  k_letter_fault : Kn g "letter_fault"
  kb_Link_init : KnB g "Link" "__init__"
  kb_Seat_init : KnB g "Seat" "__init__"
abbrev s_is_number : Stmt := top 10
abbrev n_is_number : List Str := ["thing"]
theorem sc_is_number : FnScope n_is_number ["thing"] (defScope s_is_number) := ⟨rfl, rfl, rfl, by decide +kernel, rfl, by decide +kernel, by decide +kernel⟩
theorem d_is_number {g : G} {f : Addr} {k : Nat} (T : Top g) : BodyOk g n_is_number "is_number" s_is_number f k t_is_number := by
  intro cdv A outer s H E hr
  have h1 := hu_of hr
  have h64 := hr.units
  have nd := sc_is_number.nd
  exact (pss_one (ps_ret (pe_andT (pe_callB callIsi (by rfl) T.b_isinstance (by decide +kernel) (pa_cons (pv 0) (pa_cons (pe_bltn (v := .ty "int") rfl T.b_int (by decide +kernel) rfl) pa_nil))) (pe_one (pe_notT (pe_callB callIsi (by rfl) T.b_isinstance (by decide +kernel) (pa_cons (pv 0) (pa_cons (pe_bltn (v := .ty "bool") rfl T.b_bool (by decide +kernel) rfl) pa_nil))))))))
abbrev s_is_word : Stmt := top 11
abbrev n_is_word : List Str := ["thing", "sign"]
theorem sc_is_word : FnScope n_is_word ["thing"] (defScope s_is_word) := ⟨rfl, rfl, rfl, by decide +kernel, rfl, by decide +kernel, by decide +kernel⟩
theorem d_is_word {g : G} {f : Addr} {k : Nat} (T : Top g) : BodyOk g n_is_word "is_word" s_is_word f k t_is_word := by
  intro cdv A outer s H E hr
  have h1 := hu_of hr
  have h64 := hr.units
  have nd := sc_is_word.nd
  exact (pss_cons (ps_if (PW.pt (pw_or (pt_not (pt_tru (pe_callB callIsi (by rfl) T.b_isinstance (by decide +kernel) (pa_cons (pv 0) (pa_cons (pe_bltn (v := .ty "str") rfl T.b_str (by decide +kernel) rfl) pa_nil))))) (pw_or1 (pt_cmpR (op_eqG h64) (pv 0) pe_gl (nomark _)))))
  (pss_one (ps_ret pe_bl))
  pss_nil)
  (pss_one (ps_ret (pe_andT (pe_chain op_leG op_leG pe_int (pe_callB callLen (by rfl) T.b_len (by decide +kernel) (pa_cons (pv 0) pa_nil)) pe_gl) (pe_one (pe_callB (callAll rfl) (by rfl) T.b_all (by decide +kernel) (pa_cons (pe_lc (own := [("sign", 1)]) (g := (gName 1)) (tt := tYes) rfl nd (pi_seq (pv 0)) (blkOk_by (own := [("sign", 1)]) (N := n_is_word) (sc := defScope s_is_word) (by decide +kernel)) (fun _ _ _ _ _ => (pg_name (i := 1) nd rfl (Or.inl rfl))) (fun _ _ _ _ _ => pts_nil) (fun _ _ _ _ _ => (pe_cmpR (op_inG h1) (pv 1) pe_gl (by rfl)))) pa_nil)))))))
abbrev s_is_part : Stmt := top 12
abbrev n_is_part : List Str := ["thing", "deep", "part"]
theorem sc_is_part : FnScope n_is_part ["thing", "deep"] (defScope s_is_part) := ⟨rfl, rfl, rfl, by decide +kernel, rfl, by decide +kernel, by decide +kernel⟩
theorem d_is_part {g : G} {f : Addr} {k : Nat} (T : Top g) : BodyOk g n_is_part "is_part" s_is_part f k t_is_part := by
  intro cdv A outer s H E hr
  have h1 := hu_of hr
  have h64 := hr.units
  have nd := sc_is_part.nd
  exact (pss_cons (ps_if (pt_tru (pe_callB callIsi (by rfl) T.b_isinstance (by decide +kernel) (pa_cons (pv 0) (pa_cons (pe_bltn (v := .ty "tuple") rfl T.b_tuple (by decide +kernel) rfl) pa_nil))))
  (pss_one (ps_ret (pe_andT (pe_cmpR op_ltG (pv 1) pe_gl (nomark _)) (pe_one (pe_callB (callAll rfl) (by rfl) T.b_all (by decide +kernel) (pa_cons (pe_lc (own := [("part", 2)]) (g := (gName 2)) (tt := tYes) rfl nd (pi_seq (pv 0)) (blkOk_by (own := [("part", 2)]) (N := n_is_part) (sc := defScope s_is_part) (by decide +kernel)) (fun _ _ _ _ _ => (pg_name (i := 2) nd rfl (Or.inl rfl))) (fun _ _ _ _ _ => pts_nil) (fun _ _ _ _ _ => (pe_callG T.k_is_part passL (pa_cons (pv 2) (pa_cons (pe_op op_addG (pv 1) pe_int) pa_nil))))) pa_nil))))))
  pss_nil)
  (pss_one (ps_ret (pe_andT (pe_callG T.k_is_number passL (pa_cons (pv 0) pa_nil)) (pe_one (pe_chain op_leG op_ltG pe_int (pv 0) pe_gl))))))
abbrev s_letter_fault : Stmt := top 13
abbrev n_letter_fault : List Str := ["thing", "place", "part"]
theorem sc_letter_fault : FnScope n_letter_fault ["thing"] (defScope s_letter_fault) := ⟨rfl, rfl, rfl, by decide +kernel, rfl, by decide +kernel, by decide +kernel⟩
theorem d_letter_fault {g : G} {f : Addr} {k : Nat} (T : Top g) : BodyOk g n_letter_fault "letter_fault" s_letter_fault f k t_letter_fault := by
  intro cdv A outer s H E hr
  have h1 := hu_of hr
  have h64 := hr.units
  have nd := sc_letter_fault.nd
  exact (pss_cons (ps_if (PW.pt (pw_or (pt_not (pt_tru (pe_callB callIsi (by rfl) T.b_isinstance (by decide +kernel) (pa_cons (pv 0) (pa_cons (pe_bltn (v := .ty "tuple") rfl T.b_tuple (by decide +kernel) rfl) pa_nil))))) (pw_or (pt_cmpR (op_eqG h64) (pv 0) (pe_tup pa_nil) (nomark _)) (pw_or1 (pt_not (pt_tru (pe_callG T.k_is_word passL (pa_cons (pe_ix (ixG h1) (pv 0) pe_int (fun _ _ => rfl)) pa_nil))))))))
  (pss_one (ps_ret pe_int))
  pss_nil)
  (pss_cons (ps_for PassesOwn.never rfl (pi_enumG T.b_enumerate (pa_cons (pv 0) pa_nil)) (pg_tup (n := 2) rfl (pgs_cons (pg_name (i := 1) nd rfl (Or.inl rfl)) (pgs_cons (pg_name (i := 2) nd rfl (Or.inl rfl)) pgs_nil)))
  (pss_one (ps_if (PW.pt (pw_and (pt_cmpR op_gtG (pv 1) pe_int (nomark _)) (pw_and1 (pt_not (pt_tru (pe_callG T.k_is_part passL (pa_cons (pv 2) (pa_cons pe_int pa_nil))))))))
  (pss_one (ps_ret (pv 1)))
  pss_nil)))
  (pss_one (ps_ret pe_non))))
abbrev s_is_letter : Stmt := top 14
abbrev n_is_letter : List Str := ["thing"]
theorem sc_is_letter : FnScope n_is_letter ["thing"] (defScope s_is_letter) := ⟨rfl, rfl, rfl, by decide +kernel, rfl, by decide +kernel, by decide +kernel⟩
theorem d_is_letter {g : G} {f : Addr} {k : Nat} (T : Top g) : BodyOk g n_is_letter "is_letter" s_is_letter f k t_is_letter := by
  intro cdv A outer s H E hr
  have h1 := hu_of hr
  have h64 := hr.units
  have nd := sc_is_letter.nd
  exact (pss_one (ps_ret (pe_cmpR op_isG (pe_callG T.k_letter_fault passL (pa_cons (pv 0) pa_nil)) pe_non (nomark _))))
abbrev s_is_below : Stmt := top 16
abbrev n_is_below : List Str := ["thing", "many"]
theorem sc_is_below : FnScope n_is_below ["thing", "many"] (defScope s_is_below) := ⟨rfl, rfl, rfl, by decide +kernel, rfl, by decide +kernel, by decide +kernel⟩
theorem d_is_below {g : G} {f : Addr} {k : Nat} (T : Top g) : BodyOk g n_is_below "is_below" s_is_below f k t_is_below := by
  intro cdv A outer s H E hr
  have h1 := hu_of hr
  have h64 := hr.units
  have nd := sc_is_below.nd
  exact (pss_one (ps_ret (pe_andT (pe_callG T.k_is_number passL (pa_cons (pv 0) pa_nil)) (pe_one (pe_chain op_leG op_ltG pe_int (pv 0) (pv 1))))))
abbrev s_is_sending : Stmt := top 19
abbrev n_is_sending : List Str := ["thing", "seats"]
theorem sc_is_sending : FnScope n_is_sending ["thing", "seats"] (defScope s_is_sending) := ⟨rfl, rfl, rfl, by decide +kernel, rfl, by decide +kernel, by decide +kernel⟩
theorem d_is_sending {g : G} {f : Addr} {k : Nat} (T : Top g) : BodyOk g n_is_sending "is_sending" s_is_sending f k t_is_sending := by
  intro cdv A outer s H E hr
  have h1 := hu_of hr
  have h64 := hr.units
  have nd := sc_is_sending.nd
  exact (pss_one (ps_ret (pe_andT (pe_callB callIsi (by rfl) T.b_isinstance (by decide +kernel) (pa_cons (pv 0) (pa_cons (pe_bltn (v := .ty "tuple") rfl T.b_tuple (by decide +kernel) rfl) pa_nil))) (pe_andT (pe_cmpR (op_eqG h64) (pe_callB callLen (by rfl) T.b_len (by decide +kernel) (pa_cons (pv 0) pa_nil)) pe_int (nomark _)) (pe_andT (pe_callG T.k_is_below passL (pa_cons (pe_ix (ixG h1) (pv 0) pe_int (fun _ _ => rfl)) (pa_cons (pv 1) pa_nil))) (pe_one (pe_callG T.k_is_letter passL (pa_cons (pe_ix (ixG h1) (pv 0) pe_int (fun _ _ => rfl)) pa_nil))))))))
abbrev s_is_play : Stmt := top 20
abbrev n_is_play : List Str := ["thing", "seats", "part"]
theorem sc_is_play : FnScope n_is_play ["thing", "seats"] (defScope s_is_play) := ⟨rfl, rfl, rfl, by decide +kernel, rfl, by decide +kernel, by decide +kernel⟩
theorem d_is_play {g : G} {f : Addr} {k : Nat} (T : Top g) : BodyOk g n_is_play "is_play" s_is_play f k t_is_play := by
  intro cdv A outer s H E hr
  have h1 := hu_of hr
  have h64 := hr.units
  have nd := sc_is_play.nd
  exact (pss_cons (ps_if (PW.pt (pw_or (pt_not (pt_tru (pe_callB callIsi (by rfl) T.b_isinstance (by decide +kernel) (pa_cons (pv 0) (pa_cons (pe_bltn (v := .ty "tuple") rfl T.b_tuple (by decide +kernel) rfl) pa_nil))))) (pw_or (pt_cmpR (op_neG h64) (pe_callB callLen (by rfl) T.b_len (by decide +kernel) (pa_cons (pv 0) pa_nil)) pe_int (nomark _)) (pw_or1 (pt_not (pt_tru (pe_callB callIsi (by rfl) T.b_isinstance (by decide +kernel) (pa_cons (pe_ix (ixG h1) (pv 0) pe_int (fun _ _ => rfl)) (pa_cons (pe_bltn (v := .ty "bool") rfl T.b_bool (by decide +kernel) rfl) pa_nil)))))))))
  (pss_one (ps_ret pe_bl))
  pss_nil)
  (pss_one (ps_ret (pe_andT (pe_callB callIsi (by rfl) T.b_isinstance (by decide +kernel) (pa_cons (pe_ix (ixG h1) (pv 0) pe_int (fun _ _ => rfl)) (pa_cons (pe_bltn (v := .ty "list") rfl T.b_list (by decide +kernel) rfl) pa_nil))) (pe_one (pe_callB (callAll rfl) (by rfl) T.b_all (by decide +kernel) (pa_cons (pe_lc (own := [("part", 2)]) (g := (gName 2)) (tt := tYes) rfl nd (pi_seq (pe_ix (ixG h1) (pv 0) pe_int (fun _ _ => rfl))) (blkOk_by (own := [("part", 2)]) (N := n_is_play) (sc := defScope s_is_play) (by decide +kernel)) (fun _ _ _ _ _ => (pg_name (i := 2) nd rfl (Or.inl rfl))) (fun _ _ _ _ _ => pts_nil) (fun _ _ _ _ _ => (pe_callG T.k_is_sending passL (pa_cons (pv 2) (pa_cons (pv 1) pa_nil))))) pa_nil)))))))
abbrev s_law_box : Stmt := top 26
abbrev n_law_box : List Str := ["cells"]
theorem sc_law_box : FnScope n_law_box ["cells"] (defScope s_law_box) := ⟨rfl, rfl, rfl, by decide +kernel, rfl, by decide +kernel, by decide +kernel⟩
theorem d_law_box {g : G} {f : Addr} {k : Nat} (T : Top g) : BodyOk g n_law_box "_law_box" s_law_box f k t_law_box := by
  intro cdv A outer s H E hr
  have h1 := hu_of hr
  have h64 := hr.units
  have nd := sc_law_box.nd
  exact (pss_one (ps_ret (pe_lst (pa_cons (pe_callTy (callList rfl) (by rfl) T.b_list (by decide +kernel) (pa_cons (pv 0) pa_nil)) (pa_cons pe_int (pa_cons pe_int (pa_cons pe_int pa_nil)))))))
abbrev s_law_pick : Stmt := top 27
abbrev n_law_pick : List Str := ["box", "many", "cell", "told", "mixed"]
theorem sc_law_pick : FnScope n_law_pick ["box", "many"] (defScope s_law_pick) := ⟨rfl, rfl, rfl, by decide +kernel, rfl, by decide +kernel, by decide +kernel⟩
theorem d_law_pick {g : G} {f : Addr} {k : Nat} (T : Top g) : BodyOk g n_law_pick "_law_pick" s_law_pick f k t_law_pick := by
  intro cdv A outer s H E hr
  have h1 := hu_of hr
  have h64 := hr.units
  have nd := sc_law_pick.nd
  exact (pss_cons (ps_augS (pv 0) pe_int (pgetG h1) pe_int ip_addG (psetG h1))
  (C8.pss_cut (ps_if (PW.pt (pw_and (pt_cmpR (op_eqG h64) (pe_ix (ixG h1) (pv 0) pe_int (fun _ _ => rfl)) pe_int (nomark _)) (pw_and1 (pt_tru (pe_ix (ixG h1) (pv 0) pe_int (fun _ _ => rfl))))))
  (pss_cons (ps_set (i := 2) nd rfl (Or.inl rfl) (pe_callB callAbs (by rfl) T.b_abs (by decide +kernel) (pa_cons (pe_bm PySem.F.plainAttrs_list PySem.F.slot_list_pop PySem.F.type_list_pop mt_popAt (pe_ix (ixG h1) (pv 0) pe_int (fun _ _ => rfl)) (pa_cons pe_int pa_nil)) pa_nil)))
  (pss_one (ps_if (pt_cmpR op_geG (pv 2) (pe_op op_powG pe_int pe_int) (nomark _))
  (pss_one (ps_asg (pv 2) (pg_sub (pv 0) pe_int (psetG h1))))
  (pss_one (ps_asg (pe_op op_modG (pe_op op_addG (pe_op op_mulG (pe_ix (ixG h1) (pv 0) pe_int (fun _ _ => rfl)) pe_int) (pv 2)) (pe_op op_powG pe_int pe_int)) (pg_sub (pv 0) pe_int (psetG h1)))))))
  pss_nil)
  (pss_cons (ps_if (pt_cmpR op_gtG (pe_ix (ixG h1) (pv 0) pe_int (fun _ _ => rfl)) pe_int (nomark _))
  (pss_cons (ps_set (i := 3) nd rfl (Or.inl rfl) (pe_op op_modG (pe_ix (ixG h1) (pv 0) pe_int (fun _ _ => rfl)) (pv 1)))
  (pss_cons (ps_asg (pe_op op_divG (pe_ix (ixG h1) (pv 0) pe_int (fun _ _ => rfl)) (pv 1)) (pg_sub (pv 0) pe_int (psetG h1)))
  (pss_one (ps_ret (pv 3)))))
  pss_nil)
  (pss_cons (ps_set (i := 4) nd rfl (Or.inl rfl) (pe_op op_modG (pe_op op_powG (pe_op op_addG (pe_op op_addG (pe_op op_mulG (pe_ix (ixG h1) (pv 0) pe_int (fun _ _ => rfl)) (pe_op op_addG (pe_op op_mulG pe_int (pe_ix (ixG h1) (pv 0) pe_int (fun _ _ => rfl))) pe_int)) (pe_op op_mulG pe_int (pe_ix (ixG h1) (pv 0) pe_int (fun _ _ => rfl)))) pe_int) pe_int) pe_int))
  (pss_one (ps_ret (pe_op op_modG (pe_op op_divG (pv 4) pe_int) (pv 1))))))))
abbrev s_law_plays : Stmt := top 28
abbrev n_law_plays : List Str := ["box", "parts", "plays", "k", "sends", "j", "to"]
theorem sc_law_plays : FnScope n_law_plays ["box", "parts"] (defScope s_law_plays) := ⟨rfl, rfl, rfl, by decide +kernel, rfl, by decide +kernel, by decide +kernel⟩
theorem d_law_plays {g : G} {f : Addr} {k : Nat} (T : Top g) : BodyOk g n_law_plays "_law_plays" s_law_plays f k t_law_plays := by
  intro cdv A outer s H E hr
  have h1 := hu_of hr
  have h64 := hr.units
  have nd := sc_law_plays.nd
  exact (pss_cons (ps_set (i := 2) nd rfl (Or.inl rfl) (pe_lst pa_nil))
  (pss_cons (ps_for PassesOwn.never rfl (pi_range1 (by rfl) T.b_range (pa_cons (pe_callG T.k_law_pick passL (pa_cons (pv 0) (pa_cons pe_int pa_nil))) pa_nil)) (pg_name (i := 3) nd rfl (Or.inl rfl))
  (pss_cons (ps_set (i := 4) nd rfl (Or.inl rfl) (pe_lst pa_nil))
  (pss_cons (ps_for PassesOwn.never rfl (pi_range1 (by rfl) T.b_range (pa_cons (pe_ix (ixG h1) (pe_lst (pa_cons pe_int (pa_cons pe_int (pa_cons pe_int (pa_cons pe_int (pa_cons pe_int (pa_cons pe_int pa_nil))))))) (pe_callG T.k_law_pick passL (pa_cons (pv 0) (pa_cons pe_int pa_nil))) (fun _ _ => rfl)) pa_nil)) (pg_name (i := 5) nd rfl (Or.inl rfl))
  (pss_cons (ps_set (i := 6) nd rfl (Or.inl rfl) (pe_callG T.k_law_pick passL (pa_cons (pv 0) (pa_cons (pv 1) pa_nil))))
  (pss_one (ps_expr (pe_bm PySem.F.plainAttrs_list PySem.F.slot_list_append PySem.F.type_list_append mt_append (pv 4) (pa_cons (pe_tup (pa_cons (pv 6) (pa_cons (pe_tup (pa_cons (pe_ix (ixG h1) (pe_lst (pa_cons pe_str (pa_cons pe_str (pa_cons pe_str (pa_cons pe_str pa_nil))))) (pe_callG T.k_law_pick passL (pa_cons (pv 0) (pa_cons pe_int pa_nil))) (fun _ _ => rfl)) (pa_cons (pe_callG T.k_law_pick passL (pa_cons (pv 0) (pa_cons (pe_op op_powG pe_int pe_int) pa_nil))) pa_nil))) pa_nil))) pa_nil))))))
  (pss_one (ps_expr (pe_bm PySem.F.plainAttrs_list PySem.F.slot_list_append PySem.F.type_list_append mt_append (pv 2) (pa_cons (pe_tup (pa_cons (pe_cmpR (op_eqG h64) (pe_callG T.k_law_pick passL (pa_cons (pv 0) (pa_cons pe_int pa_nil))) pe_int (nomark _)) (pa_cons (pv 4) pa_nil))) pa_nil)))))))
  (pss_one (ps_ret (pv 2)))))
abbrev s_law_play : Stmt := top 29
abbrev n_law_play : List Str := ["plays", "at"]
theorem sc_law_play : FnScope n_law_play ["plays", "at"] (defScope s_law_play) := ⟨rfl, rfl, rfl, by decide +kernel, rfl, by decide +kernel, by decide +kernel⟩
theorem d_law_play {g : G} {f : Addr} {k : Nat} (T : Top g) : BodyOk g n_law_play "_law_play" s_law_play f k t_law_play := by
  intro cdv A outer s H E hr
  have h1 := hu_of hr
  have h64 := hr.units
  have nd := sc_law_play.nd
  exact (pss_cons (ps_augS (pv 1) pe_int (pgetG h1) pe_int ip_addG (psetG h1))
  (pss_cons (ps_if (pt_cmpR op_leG (pe_ix (ixG h1) (pv 1) pe_int (fun _ _ => rfl)) (pe_callB callLen (by rfl) T.b_len (by decide +kernel) (pa_cons (pv 0) pa_nil)) (nomark _))
  (pss_one (ps_ret (pe_ix (ixG h1) (pv 0) (pe_op op_subG (pe_ix (ixG h1) (pv 1) pe_int (fun _ _ => rfl)) pe_int) (fun _ _ => rfl))))
  pss_nil)
  (pss_one (ps_ret (pe_tup (pa_cons pe_bl (pa_cons (pe_lst pa_nil) pa_nil)))))))
abbrev s_law_unlike : Stmt := top 30
abbrev n_law_unlike : List Str := ["box", "many", "left", "row", "k"]
theorem sc_law_unlike : FnScope n_law_unlike ["box", "many"] (defScope s_law_unlike) := ⟨rfl, rfl, rfl, by decide +kernel, rfl, by decide +kernel, by decide +kernel⟩
theorem d_law_unlike {g : G} {f : Addr} {k : Nat} (T : Top g) : BodyOk g n_law_unlike "_law_unlike" s_law_unlike f k t_law_unlike := by
  intro cdv A outer s H E hr
  have h1 := hu_of hr
  have h64 := hr.units
  have nd := sc_law_unlike.nd
  exact (pss_cons (ps_set (i := 2) nd rfl (Or.inl rfl) (pe_listRg rfl rfl T.b_list (prg_1 rfl T.b_range pe_int)))
  (pss_cons (ps_set (i := 3) nd rfl (Or.inl rfl) (pe_lst pa_nil))
  (pss_cons (ps_for PassesOwn.never rfl (pi_range1 (by rfl) T.b_range (pa_cons (pv 1) pa_nil)) (pg_name (i := 4) nd rfl (Or.inl rfl))
  (pss_one (ps_expr (pe_bm PySem.F.plainAttrs_list PySem.F.slot_list_append PySem.F.type_list_append mt_append (pv 3) (pa_cons (pe_bm PySem.F.plainAttrs_list PySem.F.slot_list_pop PySem.F.type_list_pop mt_popAt (pv 2) (pa_cons (pe_callG T.k_law_pick passL (pa_cons (pv 0) (pa_cons (pe_callB callLen (by rfl) T.b_len (by decide +kernel) (pa_cons (pv 2) pa_nil)) pa_nil))) pa_nil)) pa_nil)))))
  (pss_one (ps_ret (pv 3))))))
abbrev s_law_pairs : Stmt := top 31
abbrev n_law_pairs : List Str := ["found", "due", "pair"]
theorem sc_law_pairs : FnScope n_law_pairs ["found", "due"] (defScope s_law_pairs) := ⟨rfl, rfl, rfl, by decide +kernel, rfl, by decide +kernel, by decide +kernel⟩
theorem d_law_pairs {g : G} {f : Addr} {k : Nat} (T : Top g) : BodyOk g n_law_pairs "_law_pairs" s_law_pairs f k t_law_pairs := by
  intro cdv A outer s H E hr
  have h1 := hu_of hr
  have h64 := hr.units
  have nd := sc_law_pairs.nd
  exact (pss_cons (ps_if (PW.pt (pw_or (pt_not (pt_tru (pe_callB callIsi (by rfl) T.b_isinstance (by decide +kernel) (pa_cons (pv 0) (pa_cons (pe_bltn (v := .ty "list") rfl T.b_list (by decide +kernel) rfl) pa_nil))))) (pw_or1 (pt_cmpR (op_neG h64) (pv 0) (pv 1) (nomark _)))))
  (pss_one (ps_ret pe_bl))
  pss_nil)
  (pss_cons (ps_for PassesOwn.never rfl (pi_seq (pv 0)) (pg_name (i := 2) nd rfl (Or.inl rfl))
  (pss_one (ps_if (PW.pt (pw_or (pt_not (pt_tru (pe_callB callIsi (by rfl) T.b_isinstance (by decide +kernel) (pa_cons (pv 2) (pa_cons (pe_bltn (v := .ty "tuple") rfl T.b_tuple (by decide +kernel) rfl) pa_nil))))) (pw_or (pt_not (pt_tru (pe_callB callIsi (by rfl) T.b_isinstance (by decide +kernel) (pa_cons (pe_ix (ixG h1) (pv 2) pe_int (fun _ _ => rfl)) (pa_cons (pe_bltn (v := .ty "int") rfl T.b_int (by decide +kernel) rfl) pa_nil))))) (pw_or1 (pt_not (pt_tru (pe_callB callIsi (by rfl) T.b_isinstance (by decide +kernel) (pa_cons (pe_ix (ixG h1) (pv 2) pe_int (fun _ _ => rfl)) (pa_cons (pe_bltn (v := .ty "tuple") rfl T.b_tuple (by decide +kernel) rfl) pa_nil)))))))))
  (pss_one (ps_ret pe_bl))
  pss_nil)))
  (pss_one (ps_ret pe_bl))))
abbrev s_law_deeds_k87 : Stmt := top 32
abbrev n_law_deeds_k87 : List Str := ["state", "mates", "below", "porter", "deeds", "seat"]
theorem sc_law_deeds_k87 : FnScope n_law_deeds_k87 ["state", "mates", "below", "porter"] (defScope s_law_deeds_k87) := ⟨rfl, rfl, rfl, by decide +kernel, rfl, by decide +kernel, by decide +kernel⟩
theorem d_law_deeds_k87 {g : G} {f : Addr} {k : Nat} (T : Top g) : BodyOk g n_law_deeds_k87 "_law_deeds" s_law_deeds_k87 f k t_law_deeds_k87 := by
  intro cdv A outer s H E hr
  have h1 := hu_of hr
  have h64 := hr.units
  have nd := sc_law_deeds_k87.nd
  exact (pss_cons (ps_setLc (i := 4) (own := [("seat", 5)]) (g := (gName 5)) (tt := tYes) rfl nd rfl rfl (sw_true rfl rfl rfl (by decide +kernel)) (pi_seq (pv 1)) (blkOk_by (own := [("seat", 5)]) (N := n_law_deeds_k87) (sc := defScope s_law_deeds_k87) (by decide +kernel)) (fun _ _ _ _ _ => (pg_name (i := 5) nd rfl (Or.inl rfl))) (fun _ _ _ _ _ => pts_nil) (fun _ _ _ _ _ => (pe_tup (pa_cons (pv 5) (pa_cons pe_str pa_nil)))))
  (C8.pss_cut (ps_if (PW.pt (pw_or (pt_cmpR op_isG (pe_ix (ixG h1) (pv 0) pe_int (fun _ _ => rfl)) pe_non (nomark _)) (pw_or1 (PW.pt (pw_and (pt_tru (pe_ix (ixG h1) (pv 0) pe_int (fun _ _ => rfl))) (pw_and1 (pt_cmpR op_isG (pe_ix (ixG h1) (pv 0) pe_int (fun _ _ => rfl)) pe_non (nomark _))))))))
  (pss_one (ps_expr (pe_bm PySem.F.plainAttrs_list PySem.F.slot_list_extend PySem.F.type_list_extend mt_extend (pv 4) (pa_cons (pe_lc (own := [("seat", 5)]) (g := (gName 5)) (tt := (tTest (tOp (kNe g.K) (tVar 5) (tOp (kIx g.K) (tVar 0) (tC (.int 0)))))) rfl nd (pi_seq (pv 2)) (blkOk_by (own := [("seat", 5)]) (N := n_law_deeds_k87) (sc := defScope s_law_deeds_k87) (by decide +kernel)) (fun _ _ _ _ _ => (pg_name (i := 5) nd rfl (Or.inl rfl))) (fun _ _ _ _ _ => (pts_one (pt_cmpR (op_neG h64) (pv 5) (pe_ix (ixG h1) (pv 0) pe_int (fun _ _ => rfl)) (nomark _)))) (fun _ _ _ _ _ => (pe_tup (pa_cons (pv 5) (pa_cons pe_str pa_nil))))) pa_nil))))
  pss_nil)
  (C8.pss_cut (ps_if (pt_tru (pe_ix (ixG h1) (pv 0) pe_int (fun _ _ => rfl)))
  (pss_one (ps_expr (pe_bm PySem.F.plainAttrs_list PySem.F.slot_list_extend PySem.F.type_list_extend mt_extend (pv 4) (pa_cons (pe_op op_mulG (pe_lst (pa_cons (pe_tup (pa_cons (pv 3) (pa_cons pe_str pa_nil))) pa_nil)) (pe_callB callLen (by rfl) T.b_len (by decide +kernel) (pa_cons (pv 1) pa_nil))) pa_nil))))
  pss_nil)
  (C8.pss_cut (ps_if (pt_tru (pe_ix (ixG h1) (pv 0) pe_int (fun _ _ => rfl)))
  (pss_one (ps_expr (pe_bm PySem.F.plainAttrs_list PySem.F.slot_list_extend PySem.F.type_list_extend mt_extend (pv 4) (pa_cons (pe_op op_mulG (pe_lst (pa_cons (pe_tup (pa_cons (pe_ix (ixG h1) (pv 0) pe_int (fun _ _ => rfl)) (pa_cons pe_str pa_nil))) pa_nil)) (pe_callB callLen (by rfl) T.b_len (by decide +kernel) (pa_cons (pv 1) pa_nil))) pa_nil))))
  pss_nil)
  (pss_one (ps_ret (pv 4)))))))
abbrev s_law_risen : Stmt := top 33
abbrev n_law_risen : List Str := ["state", "porter"]
theorem sc_law_risen : FnScope n_law_risen ["state", "porter"] (defScope s_law_risen) := ⟨rfl, rfl, rfl, by decide +kernel, rfl, by decide +kernel, by decide +kernel⟩
theorem d_law_risen {g : G} {f : Addr} {k : Nat} (T : Top g) : BodyOk g n_law_risen "_law_risen" s_law_risen f k t_law_risen := by
  intro cdv A outer s H E hr
  have h1 := hu_of hr
  have h64 := hr.units
  have nd := sc_law_risen.nd
  exact (pss_cons (ps_if (pt_cmpR op_isnotG (pv 1) pe_non (nomark _))
  (pss_cons (ps_asg pe_bl (pg_sub (pv 0) pe_int (psetG h1)))
  (pss_one (ps_ret (pe_lst (pa_cons (pe_tup (pa_cons (pv 1) (pa_cons (pe_tup (pa_cons pe_str pa_nil)) pa_nil))) pa_nil)))))
  pss_nil)
  (pss_cons (ps_asg pe_bl (pg_sub (pv 0) pe_int (psetG h1)))
  (pss_one (ps_ret (pe_lst (pa_cons (pe_tup (pa_cons (pe_ix (ixG h1) (pv 0) pe_int (fun _ _ => rfl)) (pa_cons (pe_tup (pa_cons pe_str pa_nil)) pa_nil))) pa_nil))))))
abbrev s_law_asked : Stmt := top 34
abbrev n_law_asked : List Str := ["state", "play", "turned", "porter"]
theorem sc_law_asked : FnScope n_law_asked ["state", "play", "turned", "porter"] (defScope s_law_asked) := ⟨rfl, rfl, rfl, by decide +kernel, rfl, by decide +kernel, by decide +kernel⟩
theorem d_law_asked {g : G} {f : Addr} {k : Nat} (T : Top g) : BodyOk g n_law_asked "_law_asked" s_law_asked f k t_law_asked := by
  intro cdv A outer s H E hr
  have h1 := hu_of hr
  have h64 := hr.units
  have nd := sc_law_asked.nd
  exact (pss_cons (ps_asg pe_str (pg_sub (pv 0) pe_int (psetG h1)))
  (pss_cons (ps_if (pt_not (pt_tru (pe_ix (ixG h1) (pv 1) pe_int (fun _ _ => rfl))))
  (pss_one (ps_ret (pv 2)))
  pss_nil)
  (pss_cons (ps_asg pe_str (pg_sub (pv 0) pe_int (psetG h1)))
  (pss_one (ps_ret (pe_op op_addG (pv 2) (pe_callG T.k_law_risen passL (pa_cons (pv 0) (pa_cons (pv 3) pa_nil)))))))))
abbrev s_law_due_k87 : Stmt := top 35
abbrev n_law_due_k87 : List Str := ["state", "deed", "draw", "mates", "porter", "play", "sent", "to", "letter"]
theorem sc_law_due_k87 : FnScope n_law_due_k87 ["state", "deed", "draw", "mates", "porter"] (defScope s_law_due_k87) := ⟨rfl, rfl, rfl, by decide +kernel, rfl, by decide +kernel, by decide +kernel⟩
theorem d_law_due_k87 {g : G} {f : Addr} {k : Nat} (T : Top g) : BodyOk g n_law_due_k87 "_law_due" s_law_due_k87 f k t_law_due_k87 := by
  intro cdv A outer s H E hr
  have h1 := hu_of hr
  have h64 := hr.units
  have nd := sc_law_due_k87.nd
  exact (pss_cons (ps_if (pt_cmpR (op_eqG h64) (pe_ix (ixG h1) (pv 1) pe_int (fun _ _ => rfl)) pe_str (nomark _))
  (pss_cons (ps_asg pe_bl (pg_sub (pv 0) pe_int (psetG h1)))
  (pss_cons (ps_asg pe_bl (pg_sub (pv 0) pe_int (psetG h1)))
  (pss_one (ps_ret (pe_lst (pa_cons (pe_tup (pa_cons (pe_ix (ixG h1) (pv 0) pe_int (fun _ _ => rfl)) (pa_cons (pe_tup (pa_cons pe_str pa_nil)) pa_nil))) pa_nil))))))
  pss_nil)
  (pss_cons (ps_if (PW.pt (pw_and (pt_cmpR (op_eqG h64) (pe_ix (ixG h1) (pv 1) pe_int (fun _ _ => rfl)) pe_str (nomark _)) (pw_and1 (pt_cmpR op_isnotG (pe_ix (ixG h1) (pv 0) pe_int (fun _ _ => rfl)) pe_non (nomark _)))))
  (pss_cons (ps_asg (pe_ix (ixG h1) (pv 1) pe_int (fun _ _ => rfl)) (pg_sub (pv 0) pe_int (psetG h1)))
  (pss_one (ps_ret (pe_lst pa_nil))))
  pss_nil)
  (pss_cons (ps_set (i := 5) nd rfl (Or.inl rfl) (pe_callG T.k_law_play passL (pa_cons (pe_ix (ixG h1) (pv 2) pe_int (fun _ _ => rfl)) (pa_cons (pe_ix (ixG h1) (pv 2) pe_int (fun _ _ => rfl)) pa_nil))))
  (pss_cons (ps_setLc (i := 6) (own := [("to", 7), ("letter", 8)]) (g := (gTup g.K 2 (gCons (gName 7) (gCons (gName 8) gNil)))) (tt := tYes) rfl nd rfl rfl (sw_true rfl rfl rfl (by decide +kernel)) (pi_seq (pe_ix (ixG h1) (pv 5) pe_int (fun _ _ => rfl))) (blkOk_by (own := [("to", 7), ("letter", 8)]) (N := n_law_due_k87) (sc := defScope s_law_due_k87) (by decide +kernel)) (fun _ _ _ _ _ => (pg_tup (n := 2) rfl (pgs_cons (pg_name (i := 7) nd rfl (Or.inl rfl)) (pgs_cons (pg_name (i := 8) nd rfl (Or.inl rfl)) pgs_nil)))) (fun _ _ _ _ _ => pts_nil) (fun _ _ _ _ _ => (pe_tup (pa_cons (pe_ix (ixG h1) (pv 3) (pv 7) (fun _ _ => rfl)) (pa_cons (pv 8) pa_nil)))))
  (pss_cons (ps_if (pt_cmpR (op_eqG h64) (pe_ix (ixG h1) (pv 1) pe_int (fun _ _ => rfl)) pe_str (nomark _))
  (pss_cons (ps_asg (pe_ix (ixG h1) (pv 1) pe_int (fun _ _ => rfl)) (pg_sub (pv 0) pe_int (psetG h1)))
  (pss_one (ps_ret (pe_callG T.k_law_asked passL (pa_cons (pv 0) (pa_cons (pv 5) (pa_cons (pv 6) (pa_cons (pv 4) pa_nil))))))))
  pss_nil)
  (pss_cons (ps_if (pt_cmpR (op_eqG h64) (pe_ix (ixG h1) (pv 1) pe_int (fun _ _ => rfl)) pe_str (nomark _))
  (pss_cons (ps_if (PW.pt (pw_or (pt_cmpR (op_neG h64) (pe_ix (ixG h1) (pv 0) pe_int (fun _ _ => rfl)) pe_str (nomark _)) (pw_or1 (pt_not (pt_tru (pe_ix (ixG h1) (pv 5) pe_int (fun _ _ => rfl)))))))
  (pss_one (ps_ret (pv 6)))
  pss_nil)
  (pss_cons (ps_asg pe_str (pg_sub (pv 0) pe_int (psetG h1)))
  (pss_one (ps_ret (pe_op op_addG (pv 6) (pe_callG T.k_law_risen passL (pa_cons (pv 0) (pa_cons (pv 4) pa_nil))))))))
  pss_nil)
  (pss_cons (ps_asg pe_str (pg_sub (pv 0) pe_int (psetG h1)))
  (pss_cons (ps_asg pe_bl (pg_sub (pv 0) pe_int (psetG h1)))
  (C8.pss_cut (ps_if (pt_cmpR op_isnotG (pv 4) pe_non (nomark _))
  (pss_one (ps_set (i := 6) nd rfl (Or.inl rfl) (pe_op op_addG (pe_lst (pa_cons (pe_tup (pa_cons (pv 4) (pa_cons (pe_tup (pa_cons pe_str pa_nil)) pa_nil))) pa_nil)) (pv 6))))
  pss_nil)
  (pss_cons (ps_asg (pe_ix (ixG h1) (pv 0) pe_int (fun _ _ => rfl)) (pg_sub (pv 0) pe_int (psetG h1)))
  (pss_cons (ps_asg pe_non (pg_sub (pv 0) pe_int (psetG h1)))
  (pss_cons (ps_if (pt_cmpR op_isG (pe_ix (ixG h1) (pv 0) pe_int (fun _ _ => rfl)) pe_non (nomark _))
  (pss_one (ps_ret (pv 6)))
  pss_nil)
  (pss_cons (ps_set (i := 5) nd rfl (Or.inl rfl) (pe_callG T.k_law_play passL (pa_cons (pe_ix (ixG h1) (pv 2) pe_int (fun _ _ => rfl)) (pa_cons (pe_ix (ixG h1) (pv 2) pe_int (fun _ _ => rfl)) pa_nil))))
  (pss_one (ps_ret (pe_op op_addG (pv 6) (pe_callG T.k_law_asked passL (pa_cons (pv 0) (pa_cons (pv 5) (pa_cons (pe_lc (own := [("to", 7), ("letter", 8)]) (g := (gTup g.K 2 (gCons (gName 7) (gCons (gName 8) gNil)))) (tt := tYes) rfl nd (pi_seq (pe_ix (ixG h1) (pv 5) pe_int (fun _ _ => rfl))) (blkOk_by (own := [("to", 7), ("letter", 8)]) (N := n_law_due_k87) (sc := defScope s_law_due_k87) (by decide +kernel)) (fun _ _ _ _ _ => (pg_tup (n := 2) rfl (pgs_cons (pg_name (i := 7) nd rfl (Or.inl rfl)) (pgs_cons (pg_name (i := 8) nd rfl (Or.inl rfl)) pgs_nil)))) (fun _ _ _ _ _ => pts_nil) (fun _ _ _ _ _ => (pe_tup (pa_cons (pe_ix (ixG h1) (pv 3) (pv 7) (fun _ _ => rfl)) (pa_cons (pv 8) pa_nil))))) (pa_cons (pv 4) pa_nil)))))))))))))))))))))
abbrev s_law_k87 : Stmt := top 36
abbrev n_law_k87 : List Str := ["script", "box", "parts", "under", "seats", "mates", "below", "me", "porter", "draw", "handed", "machine", "state", "cell", "deeds", "deed", "letter", "due"]
theorem sc_law_k87 : FnScope n_law_k87 ["script"] (defScope s_law_k87) := ⟨rfl, rfl, rfl, by decide +kernel, rfl, by decide +kernel, by decide +kernel⟩
theorem d_law_k87 {g : G} {f : Addr} {k : Nat} (T : Top g) : BodyOk g n_law_k87 "law" s_law_k87 f k t_law_k87 := by
  intro cdv A outer s H E hr
  have h1 := hu_of hr
  have h64 := hr.units
  have nd := sc_law_k87.nd
  exact (pss_cons (ps_set (i := 1) nd rfl (Or.inl rfl) (pe_callG T.k_law_box passL (pa_cons (pe_slice slG (pv 0) po_none (po_some pe_int)) pa_nil)))
  (pss_cons (ps_set (i := 2) nd rfl (Or.inl rfl) (pe_op op_addG pe_int (pe_callG T.k_law_pick passL (pa_cons (pv 1) (pa_cons pe_int pa_nil)))))
  (pss_cons (ps_set (i := 3) nd rfl (Or.inl rfl) (pe_op op_addG pe_int (pe_callG T.k_law_pick passL (pa_cons (pv 1) (pa_cons pe_int pa_nil)))))
  (pss_cons (ps_set (i := 4) nd rfl (Or.inl rfl) (pe_callG T.k_law_unlike passL (pa_cons (pv 1) (pa_cons (pe_op op_addG (pe_op op_addG (pv 2) (pv 3)) pe_int) pa_nil))))
  (pss_cons (ps_set (i := 5) nd rfl (Or.inl rfl) (pe_slice slG (pv 4) po_none (po_some (pv 2))))
  (pss_cons (ps_set (i := 6) nd rfl (Or.inl rfl) (pe_slice slG (pv 4) (po_some (pv 2)) (po_some (pe_op op_addG (pv 2) (pv 3)))))
  (pss_cons (ps_set (i := 7) nd rfl (Or.inl rfl) (pe_ix (ixG h1) (pv 5) (pe_callG T.k_law_pick passL (pa_cons (pv 1) (pa_cons (pv 2) pa_nil))) (fun _ _ => rfl)))
  (pss_cons (ps_set (i := 8) nd rfl (Or.inl rfl) (pe_ifExp (pt_cmpR op_gtG (pe_callG T.k_law_pick passL (pa_cons (pv 1) (pa_cons pe_int pa_nil))) pe_int (nomark _)) (pe_ix (ixG h1) (pv 4) (pe_op op_addG (pv 2) (pv 3)) (fun _ _ => rfl)) pe_non))
  (pss_cons (ps_set (i := 9) nd rfl (Or.inl rfl) (pe_lst (pa_cons (pe_callG T.k_law_plays passL (pa_cons (pv 1) (pa_cons (pv 2) pa_nil))) (pa_cons (pe_lst (pa_cons pe_int pa_nil)) pa_nil))))
  (pss_cons (ps_set (i := 10) nd rfl (Or.inl rfl) (pe_callTy (callList rfl) (by rfl) T.b_list (by decide +kernel) (pa_cons (pv 5) pa_nil)))
  (pss_cons (ps_set (i := 11) nd rfl (Or.inl rfl) (pe_makeG T.k_Porter passL (pa_cons (pv 7) (pa_cons (pe_makeG T.k_Puppet passL (pa_cons (pe_bm PySem.F.plainAttrs_list PySem.F.slot_list_index PySem.F.type_list_index mt_index (pv 5) (pa_cons (pv 7) pa_nil)) (pa_cons (pv 2) (pa_cons (pe_ix (ixG h1) (pv 9) pe_int (fun _ _ => rfl)) pa_nil)))) (pa_cons (pv 10) (pa_cons (pv 8) pa_nil))))))
  (pss_cons (ps_expr (pe_bm0 PySem.F.plainAttrs_list PySem.F.slot_list_clear PySem.F.type_list_clear mt_clear (pv 10)))
  (pss_cons (ps_set (i := 12) nd rfl (Or.inl rfl) (pe_lst (pa_cons pe_non (pa_cons pe_non (pa_cons pe_str (pa_cons pe_bl (pa_cons pe_bl pa_nil)))))))
  (pss_cons (ps_for PassesOwn.never rfl (pi_seq (pe_slice slG (pv 0) (po_some pe_int) po_none)) (pg_name (i := 13) nd rfl (Or.inl rfl))
  (pss_cons (ps_set (i := 14) nd rfl (Or.inl rfl) (pe_callG T.k_law_deeds passL (pa_cons (pv 12) (pa_cons (pv 5) (pa_cons (pv 6) (pa_cons (pv 8) pa_nil))))))
  (pss_cons (ps_set (i := 15) nd rfl (Or.inl rfl) (pe_ix (ixG h1) (pv 14) (pe_op op_modG (pv 13) (pe_callB callLen (by rfl) T.b_len (by decide +kernel) (pa_cons (pv 14) pa_nil))) (fun _ _ => rfl)))
  (pss_cons (ps_set (i := 16) nd rfl (Or.inl rfl) (pe_ifExp (pt_cmpR (op_eqG h64) (pe_ix (ixG h1) (pv 15) pe_int (fun _ _ => rfl)) pe_str (nomark _)) (pe_tup (pa_cons pe_str (pa_cons (pe_op op_modG (pv 13) (pe_op op_powG pe_int pe_int)) pa_nil))) (pe_tup (pa_cons (pe_ix (ixG h1) (pv 15) pe_int (fun _ _ => rfl)) pa_nil))))
  (pss_cons (ps_set (i := 17) nd rfl (Or.inl rfl) (pe_callG T.k_law_due passL (pa_cons (pv 12) (pa_cons (pv 15) (pa_cons (pv 9) (pa_cons (pv 5) (pa_cons (pv 8) pa_nil)))))))
  (pss_cons (ps_if (pt_not (pt_tru (pe_callG T.k_law_pairs passL (pa_cons (pe_methG passL (pv 11) (pa_cons (pe_ix (ixG h1) (pv 15) pe_int (fun _ _ => rfl)) (pa_cons (pv 16) pa_nil))) (pa_cons (pv 17) pa_nil)))))
  (pss_one (ps_ret pe_bl))
  pss_nil)
  (pss_cons (ps_if (PW.pt (pw_or (pt_cmpR (op_neG h64) (pe_fld (pv 11) rfl) (pe_ix (ixG h1) (pv 12) pe_int (fun _ _ => rfl)) (nomark _)) (pw_or (pt_cmpR (op_neG h64) (pe_fld (pe_fld (pv 11) rfl) rfl) (pe_ix (ixG h1) (pv 12) pe_int (fun _ _ => rfl)) (nomark _)) (pw_or1 (pt_cmpR (op_neG h64) (pe_fld (pv 11) rfl) pe_str (nomark _))))))
  (pss_one (ps_ret pe_bl))
  pss_nil)
  (pss_one (ps_if (PW.pt (pw_or (pt_cmpR (op_neG h64) (pe_fld (pv 11) rfl) (pv 7) (nomark _)) (pw_or1 (pt_cmpR (op_neG h64) (pe_fld (pv 11) rfl) (pv 8) (nomark _)))))
  (pss_one (ps_ret pe_bl))
  pss_nil)))))))))
  (pss_one (ps_ret pe_bl))))))))))))))))
abbrev s_Seat_init : Stmt := inClass (top 18) 0
abbrev n_Seat_init : List Str := ["self", "me"]
theorem sc_Seat_init : FnScope n_Seat_init ["self", "me"] (defScope s_Seat_init) := ⟨rfl, rfl, rfl, by decide +kernel, rfl, by decide +kernel, by decide +kernel⟩
theorem d_Seat_init {g : G} {f : Addr} {k : Nat} (T : Top g) : BodyOk g n_Seat_init "Seat.__init__" s_Seat_init f k t_Seat_init := by
  intro cdv A outer s H E hr
  have h1 := hu_of hr
  have h64 := hr.units
  have nd := sc_Seat_init.nd
  exact (pss_cons (ps_fld (pv 0) (pv 1) rfl)
  (pss_cons (ps_fld (pv 0) pe_str rfl)
  (pss_one (ps_fld (pv 0) pe_bl rfl))))
abbrev s_Seat_ask : Stmt := inClass (top 18) 1
abbrev n_Seat_ask : List Str := ["self"]
theorem sc_Seat_ask : FnScope n_Seat_ask ["self"] (defScope s_Seat_ask) := ⟨rfl, rfl, rfl, by decide +kernel, rfl, by decide +kernel, by decide +kernel⟩
theorem d_Seat_ask {g : G} {f : Addr} {k : Nat} (T : Top g) : BodyOk g n_Seat_ask "Seat.ask" s_Seat_ask f k t_Seat_ask := by
  intro cdv A outer s H E hr
  have h1 := hu_of hr
  have h64 := hr.units
  have nd := sc_Seat_ask.nd
  exact (pss_cons (ps_fld (pv 0) pe_str rfl)
  (pss_one (ps_ret (pe_lst pa_nil))))
abbrev s_Seat_leave : Stmt := inClass (top 18) 2
abbrev n_Seat_leave : List Str := ["self"]
theorem sc_Seat_leave : FnScope n_Seat_leave ["self"] (defScope s_Seat_leave) := ⟨rfl, rfl, rfl, by decide +kernel, rfl, by decide +kernel, by decide +kernel⟩
theorem d_Seat_leave {g : G} {f : Addr} {k : Nat} (T : Top g) : BodyOk g n_Seat_leave "Seat.leave" s_Seat_leave f k t_Seat_leave := by
  intro cdv A outer s H E hr
  have h1 := hu_of hr
  have h64 := hr.units
  have nd := sc_Seat_leave.nd
  exact (pss_cons (ps_fld (pv 0) pe_str rfl)
  (pss_one (ps_ret (pe_lst pa_nil))))
abbrev s_Seat_hear : Stmt := inClass (top 18) 3
abbrev n_Seat_hear : List Str := ["self", "sender", "letter"]
theorem sc_Seat_hear : FnScope n_Seat_hear ["self", "sender", "letter"] (defScope s_Seat_hear) := ⟨rfl, rfl, rfl, by decide +kernel, rfl, by decide +kernel, by decide +kernel⟩
theorem d_Seat_hear {g : G} {f : Addr} {k : Nat} (T : Top g) : BodyOk g n_Seat_hear "Seat.hear" s_Seat_hear f k t_Seat_hear := by
  intro cdv A outer s H E hr
  have h1 := hu_of hr
  have h64 := hr.units
  have nd := sc_Seat_hear.nd
  exact (pss_one (ps_ret (pe_lst pa_nil)))
abbrev s_Seat_gone : Stmt := inClass (top 18) 4
abbrev n_Seat_gone : List Str := ["self", "seat"]
theorem sc_Seat_gone : FnScope n_Seat_gone ["self", "seat"] (defScope s_Seat_gone) := ⟨rfl, rfl, rfl, by decide +kernel, rfl, by decide +kernel, by decide +kernel⟩
theorem d_Seat_gone {g : G} {f : Addr} {k : Nat} (T : Top g) : BodyOk g n_Seat_gone "Seat.gone" s_Seat_gone f k t_Seat_gone := by
  intro cdv A outer s H E hr
  have h1 := hu_of hr
  have h64 := hr.units
  have nd := sc_Seat_gone.nd
  exact (pss_one (ps_ret (pe_lst pa_nil)))
abbrev s_Puppet_init : Stmt := inClass (top 21) 0
abbrev n_Puppet_init : List Str := ["self", "me", "seats", "plays", "place", "play", "goes", "sends"]
theorem sc_Puppet_init : FnScope n_Puppet_init ["self", "me", "seats", "plays"] (defScope s_Puppet_init) := ⟨rfl, rfl, rfl, by decide +kernel, rfl, by decide +kernel, by decide +kernel⟩
theorem d_Puppet_init {g : G} {f : Addr} {k : Nat} (T : Top g) : BodyOk g n_Puppet_init "Puppet.__init__" s_Puppet_init f k t_Puppet_init := by
  intro cdv A outer s H E hr
  have h1 := hu_of hr
  have h64 := hr.units
  have nd := sc_Puppet_init.nd
  exact (pss_cons (ps_expr (pe_baseG T.kb_Seat_init passL (pa_cons (pv 0) (pa_cons (pv 1) pa_nil))))
  (pss_cons (ps_for PassesOwn.never rfl (pi_enumG T.b_enumerate (pa_cons (pv 3) pa_nil)) (pg_tup (n := 2) rfl (pgs_cons (pg_name (i := 4) nd rfl (Or.inl rfl)) (pgs_cons (pg_name (i := 5) nd rfl (Or.inl rfl)) pgs_nil)))
  (pss_one (ps_if (pt_not (pt_tru (pe_callG T.k_is_play passL (pa_cons (pv 5) (pa_cons (pv 2) pa_nil)))))
  (pss_one ps_never)
  pss_nil)))
  (pss_one (ps_fld (pv 0) (pe_lc (own := [("goes", 6), ("sends", 7)]) (g := (gTup g.K 2 (gCons (gName 6) (gCons (gName 7) gNil)))) (tt := tYes) rfl nd (pi_seq (pv 3)) (blkOk_by (own := [("goes", 6), ("sends", 7)]) (N := n_Puppet_init) (sc := defScope s_Puppet_init) (by decide +kernel)) (fun _ _ _ _ _ => (pg_tup (n := 2) rfl (pgs_cons (pg_name (i := 6) nd rfl (Or.inl rfl)) (pgs_cons (pg_name (i := 7) nd rfl (Or.inl rfl)) pgs_nil)))) (fun _ _ _ _ _ => pts_nil) (fun _ _ _ _ _ => (pe_tup (pa_cons (pv 6) (pa_cons (pe_callTy (callList rfl) (by rfl) T.b_list (by decide +kernel) (pa_cons (pv 7) pa_nil)) pa_nil))))) rfl))))
abbrev s_Puppet_play : Stmt := inClass (top 21) 2
abbrev n_Puppet_play : List Str := ["self", "first", "rest"]
theorem sc_Puppet_play : FnScope n_Puppet_play ["self"] (defScope s_Puppet_play) := ⟨rfl, rfl, rfl, by decide +kernel, rfl, by decide +kernel, by decide +kernel⟩
theorem d_Puppet_play {g : G} {f : Addr} {k : Nat} (T : Top g) : BodyOk g n_Puppet_play "Puppet.play" s_Puppet_play f k t_Puppet_play := by
  intro cdv A outer s H E hr
  have h1 := hu_of hr
  have h64 := hr.units
  have nd := sc_Puppet_play.nd
  exact (pss_cons (ps_if (pt_cmpR (op_eqG h64) (pe_fld (pv 0) rfl) (pe_lst pa_nil) (nomark _))
  (pss_one (ps_ret (pe_tup (pa_cons pe_bl (pa_cons (pe_lst pa_nil) pa_nil)))))
  pss_nil)
  (pss_cons (ps_asg (pe_fld (pv 0) rfl) (pg_star (n := 2) (i := 1) rfl (pgs_cons (pg_name (i := 1) nd rfl (Or.inl rfl)) (pgs_star (pg_name (i := 2) nd rfl (Or.inl rfl)) pgs_nil))))
  (pss_cons (ps_fld (pv 0) (pv 2) rfl)
  (pss_one (ps_ret (pv 1))))))
abbrev s_Puppet_ask : Stmt := inClass (top 21) 3
abbrev n_Puppet_ask : List Str := ["self", "goes", "sends"]
theorem sc_Puppet_ask : FnScope n_Puppet_ask ["self"] (defScope s_Puppet_ask) := ⟨rfl, rfl, rfl, by decide +kernel, rfl, by decide +kernel, by decide +kernel⟩
theorem d_Puppet_ask {g : G} {f : Addr} {k : Nat} (T : Top g) : BodyOk g n_Puppet_ask "Puppet.ask" s_Puppet_ask f k t_Puppet_ask := by
  intro cdv A outer s H E hr
  have h1 := hu_of hr
  have h64 := hr.units
  have nd := sc_Puppet_ask.nd
  exact (pss_cons (ps_asg (pe_methG0 passL (pv 0)) (pg_tup (n := 2) rfl (pgs_cons (pg_name (i := 1) nd rfl (Or.inl rfl)) (pgs_cons (pg_name (i := 2) nd rfl (Or.inl rfl)) pgs_nil))))
  (pss_cons (ps_fld (pv 0) (pe_ifExp (pt_tru (pv 1)) pe_str pe_str) rfl)
  (pss_one (ps_ret (pv 2)))))
abbrev s_Puppet_leave : Stmt := inClass (top 21) 4
abbrev n_Puppet_leave : List Str := ["self", "goes", "sends"]
theorem sc_Puppet_leave : FnScope n_Puppet_leave ["self"] (defScope s_Puppet_leave) := ⟨rfl, rfl, rfl, by decide +kernel, rfl, by decide +kernel, by decide +kernel⟩
theorem d_Puppet_leave {g : G} {f : Addr} {k : Nat} (T : Top g) : BodyOk g n_Puppet_leave "Puppet.leave" s_Puppet_leave f k t_Puppet_leave := by
  intro cdv A outer s H E hr
  have h1 := hu_of hr
  have h64 := hr.units
  have nd := sc_Puppet_leave.nd
  exact (pss_cons (ps_asg (pe_methG0 passL (pv 0)) (pg_tup (n := 2) rfl (pgs_cons (pg_name (i := 1) nd rfl (Or.inl rfl)) (pgs_cons (pg_name (i := 2) nd rfl (Or.inl rfl)) pgs_nil))))
  (pss_cons (ps_fld (pv 0) pe_str rfl)
  (pss_one (ps_ret (pv 2)))))
abbrev s_Puppet_hear : Stmt := inClass (top 21) 5
abbrev n_Puppet_hear : List Str := ["self", "sender", "letter", "goes", "sends"]
theorem sc_Puppet_hear : FnScope n_Puppet_hear ["self", "sender", "letter"] (defScope s_Puppet_hear) := ⟨rfl, rfl, rfl, by decide +kernel, rfl, by decide +kernel, by decide +kernel⟩
theorem d_Puppet_hear {g : G} {f : Addr} {k : Nat} (T : Top g) : BodyOk g n_Puppet_hear "Puppet.hear" s_Puppet_hear f k t_Puppet_hear := by
  intro cdv A outer s H E hr
  have h1 := hu_of hr
  have h64 := hr.units
  have nd := sc_Puppet_hear.nd
  exact (pss_cons (ps_asg (pe_methG0 passL (pv 0)) (pg_tup (n := 2) rfl (pgs_cons (pg_name (i := 3) nd rfl (Or.inl rfl)) (pgs_cons (pg_name (i := 4) nd rfl (Or.inl rfl)) pgs_nil))))
  (C8.pss_cut (ps_if (PW.pt (pw_and (pt_tru (pv 3)) (pw_and1 (pt_cmpR (op_eqG h64) (pe_fld (pv 0) rfl) pe_str (nomark _)))))
  (pss_one (ps_fld (pv 0) pe_str rfl))
  pss_nil)
  (pss_one (ps_ret (pv 4)))))
abbrev s_Puppet_gone : Stmt := inClass (top 21) 6
abbrev n_Puppet_gone : List Str := ["self", "seat"]
theorem sc_Puppet_gone : FnScope n_Puppet_gone ["self", "seat"] (defScope s_Puppet_gone) := ⟨rfl, rfl, rfl, by decide +kernel, rfl, by decide +kernel, by decide +kernel⟩
theorem d_Puppet_gone {g : G} {f : Addr} {k : Nat} (T : Top g) : BodyOk g n_Puppet_gone "Puppet.gone" s_Puppet_gone f k t_Puppet_gone := by
  intro cdv A outer s H E hr
  have h1 := hu_of hr
  have h64 := hr.units
  have nd := sc_Puppet_gone.nd
  exact (pss_one (ps_ret (pe_methG passL (pv 0) (pa_cons (pv 1) (pa_cons pe_non pa_nil)))))
abbrev s_Link_init : Stmt := inClass (top 23) 0
abbrev n_Link_init : List Str := ["self", "me", "inner", "mates", "porter"]
theorem sc_Link_init : FnScope n_Link_init ["self", "me", "inner", "mates", "porter"] (defScope s_Link_init) := ⟨rfl, rfl, rfl, by decide +kernel, rfl, by decide +kernel, by decide +kernel⟩
theorem d_Link_init {g : G} {f : Addr} {k : Nat} (T : Top g) : BodyOk g n_Link_init "Link.__init__" s_Link_init f k t_Link_init := by
  intro cdv A outer s H E hr
  have h1 := hu_of hr
  have h64 := hr.units
  have nd := sc_Link_init.nd
  exact (pss_cons (ps_expr (pe_baseG T.kb_Seat_init passL (pa_cons (pv 0) (pa_cons (pv 1) pa_nil))))
  (pss_cons (ps_fld (pv 0) (pv 2) rfl)
  (pss_cons (ps_fld (pv 0) (pe_callTy callTupleG (by rfl) T.b_tuple (by decide +kernel) (pa_cons (pv 3) pa_nil)) rfl)
  (pss_cons (ps_fld (pv 0) (pv 4) rfl)
  (pss_one (ps_fld (pv 0) pe_bl rfl))))))
abbrev s_Link_outward : Stmt := inClass (top 23) 1
abbrev n_Link_outward : List Str := ["self", "letters", "to", "letter"]
theorem sc_Link_outward : FnScope n_Link_outward ["self", "letters"] (defScope s_Link_outward) := ⟨rfl, rfl, rfl, by decide +kernel, rfl, by decide +kernel, by decide +kernel⟩
theorem d_Link_outward {g : G} {f : Addr} {k : Nat} (T : Top g) : BodyOk g n_Link_outward "Link.outward" s_Link_outward f k t_Link_outward := by
  intro cdv A outer s H E hr
  have h1 := hu_of hr
  have h64 := hr.units
  have nd := sc_Link_outward.nd
  exact (pss_one (ps_ret (pe_lc (own := [("to", 2), ("letter", 3)]) (g := (gTup g.K 2 (gCons (gName 2) (gCons (gName 3) gNil)))) (tt := tYes) rfl nd (pi_seq (pv 1)) (blkOk_by (own := [("to", 2), ("letter", 3)]) (N := n_Link_outward) (sc := defScope s_Link_outward) (by decide +kernel)) (fun _ _ _ _ _ => (pg_tup (n := 2) rfl (pgs_cons (pg_name (i := 2) nd rfl (Or.inl rfl)) (pgs_cons (pg_name (i := 3) nd rfl (Or.inl rfl)) pgs_nil)))) (fun _ _ _ _ _ => pts_nil) (fun _ _ _ _ _ => (pe_tup (pa_cons (pe_ix (ixG h1) (pe_fld (pv 0) rfl) (pv 2) (fun _ _ => rfl)) (pa_cons (pv 3) pa_nil)))))))
abbrev s_Link_inward : Stmt := inClass (top 23) 2
abbrev n_Link_inward : List Str := ["self", "sender", "letter"]
theorem sc_Link_inward : FnScope n_Link_inward ["self", "sender", "letter"] (defScope s_Link_inward) := ⟨rfl, rfl, rfl, by decide +kernel, rfl, by decide +kernel, by decide +kernel⟩
theorem d_Link_inward {g : G} {f : Addr} {k : Nat} (T : Top g) : BodyOk g n_Link_inward "Link.inward" s_Link_inward f k t_Link_inward := by
  intro cdv A outer s H E hr
  have h1 := hu_of hr
  have h64 := hr.units
  have nd := sc_Link_inward.nd
  exact (pss_one (ps_ret (pe_methG passL (pv 0) (pa_cons (pe_methG passL (pe_fld (pv 0) rfl) (pa_cons (pe_bmT PySem.F.plainAttrs_tuple PySem.F.slot_tuple_index PySem.F.type_tuple_index mt_tindex (pe_fld (pv 0) rfl) (pa_cons (pv 1) pa_nil)) (pa_cons (pv 2) pa_nil))) pa_nil))))
abbrev s_Link_onward : Stmt := inClass (top 23) 3
abbrev n_Link_onward : List Str := ["self", "letters", "sent"]
theorem sc_Link_onward : FnScope n_Link_onward ["self", "letters"] (defScope s_Link_onward) := ⟨rfl, rfl, rfl, by decide +kernel, rfl, by decide +kernel, by decide +kernel⟩
theorem d_Link_onward {g : G} {f : Addr} {k : Nat} (T : Top g) : BodyOk g n_Link_onward "Link.onward" s_Link_onward f k t_Link_onward := by
  intro cdv A outer s H E hr
  have h1 := hu_of hr
  have h64 := hr.units
  have nd := sc_Link_onward.nd
  exact (pss_cons (ps_set (i := 2) nd rfl (Or.inl rfl) (pe_methG passL (pv 0) (pa_cons (pv 1) pa_nil)))
  (C8.pss_cut (ps_if (PW.pt (pw_and (pt_cmpR (op_eqG h64) (pe_fld (pe_fld (pv 0) rfl) rfl) pe_str (nomark _)) (pw_and1 (pt_not (pt_tru (pe_fld (pv 0) rfl))))))
  (pss_cons (ps_fld (pv 0) pe_bl rfl)
  (pss_one (ps_expr (pe_bm PySem.F.plainAttrs_list PySem.F.slot_list_extend PySem.F.type_list_extend mt_extend (pv 2) (pa_cons (pe_methG0 passL (pv 0)) pa_nil)))))
  pss_nil)
  (pss_one (ps_ret (pv 2)))))
abbrev s_Link_risen : Stmt := inClass (top 23) 4
abbrev n_Link_risen : List Str := ["self"]
theorem sc_Link_risen : FnScope n_Link_risen ["self"] (defScope s_Link_risen) := ⟨rfl, rfl, rfl, by decide +kernel, rfl, by decide +kernel, by decide +kernel⟩
theorem d_Link_risen {g : G} {f : Addr} {k : Nat} (T : Top g) : BodyOk g n_Link_risen "Link.risen" s_Link_risen f k t_Link_risen := by
  intro cdv A outer s H E hr
  have h1 := hu_of hr
  have h64 := hr.units
  have nd := sc_Link_risen.nd
  exact (pss_cons (ps_if (pt_cmpR op_isG (pe_fld (pv 0) rfl) pe_non (nomark _))
  (pss_one (ps_ret (pe_methG0 passL (pv 0))))
  pss_nil)
  (pss_one (ps_ret (pe_lst (pa_cons (pe_tup (pa_cons (pe_fld (pv 0) rfl) (pa_cons (pe_tup (pa_cons pe_str pa_nil)) pa_nil))) pa_nil)))))
abbrev s_Link_granted : Stmt := inClass (top 23) 5
abbrev n_Link_granted : List Str := ["self"]
theorem sc_Link_granted : FnScope n_Link_granted ["self"] (defScope s_Link_granted) := ⟨rfl, rfl, rfl, by decide +kernel, rfl, by decide +kernel, by decide +kernel⟩
theorem d_Link_granted {g : G} {f : Addr} {k : Nat} (T : Top g) : BodyOk g n_Link_granted "Link.granted" s_Link_granted f k t_Link_granted := by
  intro cdv A outer s H E hr
  have h1 := hu_of hr
  have h64 := hr.units
  have nd := sc_Link_granted.nd
  exact (pss_one (ps_ret (pe_lst pa_nil)))
abbrev s_Link_let_go : Stmt := inClass (top 23) 6
abbrev n_Link_let_go : List Str := ["self", "sent"]
theorem sc_Link_let_go : FnScope n_Link_let_go ["self"] (defScope s_Link_let_go) := ⟨rfl, rfl, rfl, by decide +kernel, rfl, by decide +kernel, by decide +kernel⟩
theorem d_Link_let_go {g : G} {f : Addr} {k : Nat} (T : Top g) : BodyOk g n_Link_let_go "Link.let_go" s_Link_let_go f k t_Link_let_go := by
  intro cdv A outer s H E hr
  have h1 := hu_of hr
  have h64 := hr.units
  have nd := sc_Link_let_go.nd
  exact (pss_cons (ps_fld (pv 0) pe_bl rfl)
  (pss_cons (ps_set (i := 1) nd rfl (Or.inl rfl) (pe_lst pa_nil))
  (C8.pss_cut (ps_if (pt_cmpR op_isnotG (pe_fld (pv 0) rfl) pe_non (nomark _))
  (pss_one (ps_expr (pe_bm PySem.F.plainAttrs_list PySem.F.slot_list_append PySem.F.type_list_append mt_append (pv 1) (pa_cons (pe_tup (pa_cons (pe_fld (pv 0) rfl) (pa_cons (pe_tup (pa_cons pe_str pa_nil)) pa_nil))) pa_nil))))
  pss_nil)
  (pss_cons (ps_expr (pe_bm PySem.F.plainAttrs_list PySem.F.slot_list_extend PySem.F.type_list_extend mt_extend (pv 1) (pa_cons (pe_methG passL (pv 0) (pa_cons (pe_methG0 passL (pe_fld (pv 0) rfl)) pa_nil)) pa_nil)))
  (pss_one (ps_ret (pv 1)))))))
abbrev s_Porter_init : Stmt := inClass (top 24) 0
abbrev n_Porter_init : List Str := ["self", "me", "inner", "mates", "porter"]
theorem sc_Porter_init : FnScope n_Porter_init ["self", "me", "inner", "mates", "porter"] (defScope s_Porter_init) := ⟨rfl, rfl, rfl, by decide +kernel, rfl, by decide +kernel, by decide +kernel⟩
theorem d_Porter_init {g : G} {f : Addr} {k : Nat} (T : Top g) : BodyOk g n_Porter_init "Porter.__init__" s_Porter_init f k t_Porter_init := by
  intro cdv A outer s H E hr
  have h1 := hu_of hr
  have h64 := hr.units
  have nd := sc_Porter_init.nd
  exact (pss_cons (ps_expr (pe_baseG T.kb_Link_init passL (pa_cons (pv 0) (pa_cons (pv 1) (pa_cons (pv 2) (pa_cons (pv 3) (pa_cons (pv 4) pa_nil)))))))
  (pss_cons (ps_fld (pv 0) pe_non rfl)
  (pss_one (ps_fld (pv 0) (pe_lst pa_nil) rfl))))
abbrev s_Porter_granted : Stmt := inClass (top 24) 1
abbrev n_Porter_granted : List Str := ["self"]
theorem sc_Porter_granted : FnScope n_Porter_granted ["self"] (defScope s_Porter_granted) := ⟨rfl, rfl, rfl, by decide +kernel, rfl, by decide +kernel, by decide +kernel⟩
theorem d_Porter_granted {g : G} {f : Addr} {k : Nat} (T : Top g) : BodyOk g n_Porter_granted "Porter.granted" s_Porter_granted f k t_Porter_granted := by
  intro cdv A outer s H E hr
  have h1 := hu_of hr
  have h64 := hr.units
  have nd := sc_Porter_granted.nd
  exact (pss_one (ps_ret (pe_lst (pa_cons (pe_tup (pa_cons (pe_fld (pv 0) rfl) (pa_cons (pe_tup (pa_cons pe_str pa_nil)) pa_nil))) pa_nil))))
abbrev s_Porter_hear : Stmt := inClass (top 24) 2
abbrev n_Porter_hear : List Str := ["self", "sender", "letter"]
theorem sc_Porter_hear : FnScope n_Porter_hear ["self", "sender", "letter"] (defScope s_Porter_hear) := ⟨rfl, rfl, rfl, by decide +kernel, rfl, by decide +kernel, by decide +kernel⟩
theorem d_Porter_hear {g : G} {f : Addr} {k : Nat} (T : Top g) : BodyOk g n_Porter_hear "Porter.hear" s_Porter_hear f k t_Porter_hear := by
  intro cdv A outer s H E hr
  have h1 := hu_of hr
  have h64 := hr.units
  have nd := sc_Porter_hear.nd
  exact (pss_cons (ps_if (pt_cmpR (op_eqG h64) (pv 1) (pe_fld (pv 0) rfl) (nomark _))
  (pss_one (ps_ret (pe_methG0 passL (pv 0))))
  pss_nil)
  (pss_cons (ps_if (pt_cmpR (op_inG h1) (pv 1) (pe_fld (pv 0) rfl) (by rfl))
  (pss_one (ps_ret (pe_methG passL (pv 0) (pa_cons (pv 1) (pa_cons (pv 2) pa_nil)))))
  pss_nil)
  (pss_cons (ps_if (pt_cmpR (op_eqG h64) (pe_ix (ixG h1) (pv 2) pe_int (fun _ _ => rfl)) pe_str (nomark _))
  (pss_one (ps_ret (pe_methG passL (pv 0) (pa_cons (pv 1) pa_nil))))
  pss_nil)
  (pss_one (ps_ret (pe_methG0 passL (pv 0)))))))
abbrev s_Porter_pleased : Stmt := inClass (top 24) 3
abbrev n_Porter_pleased : List Str := ["self", "sender"]
theorem sc_Porter_pleased : FnScope n_Porter_pleased ["self", "sender"] (defScope s_Porter_pleased) := ⟨rfl, rfl, rfl, by decide +kernel, rfl, by decide +kernel, by decide +kernel⟩
theorem d_Porter_pleased {g : G} {f : Addr} {k : Nat} (T : Top g) : BodyOk g n_Porter_pleased "Porter.pleased" s_Porter_pleased f k t_Porter_pleased := by
  intro cdv A outer s H E hr
  have h1 := hu_of hr
  have h64 := hr.units
  have nd := sc_Porter_pleased.nd
  exact (pss_cons (ps_if (pt_cmpR op_isnotG (pe_fld (pv 0) rfl) pe_non (nomark _))
  (pss_cons (ps_expr (pe_bm PySem.F.plainAttrs_list PySem.F.slot_list_append PySem.F.type_list_append mt_append (pe_fld (pv 0) rfl) (pa_cons (pv 1) pa_nil)))
  (pss_one (ps_ret (pe_lst pa_nil))))
  pss_nil)
  (pss_cons (ps_fld (pv 0) (pv 1) rfl)
  (pss_one (ps_ret (pe_methG passL (pv 0) (pa_cons (pe_methG0 passL (pe_fld (pv 0) rfl)) pa_nil))))))
abbrev s_Porter_freed : Stmt := inClass (top 24) 4
abbrev n_Porter_freed : List Str := ["self", "sent"]
theorem sc_Porter_freed : FnScope n_Porter_freed ["self"] (defScope s_Porter_freed) := ⟨rfl, rfl, rfl, by decide +kernel, rfl, by decide +kernel, by decide +kernel⟩
theorem d_Porter_freed {g : G} {f : Addr} {k : Nat} (T : Top g) : BodyOk g n_Porter_freed "Porter.freed" s_Porter_freed f k t_Porter_freed := by
  intro cdv A outer s H E hr
  have h1 := hu_of hr
  have h64 := hr.units
  have nd := sc_Porter_freed.nd
  exact (pss_cons (ps_set (i := 1) nd rfl (Or.inl rfl) (pe_methG0 passL (pv 0)))
  (pss_cons (ps_fld (pv 0) pe_non rfl)
  (C8.pss_cut (ps_if (pt_tru (pe_fld (pv 0) rfl))
  (pss_cons (ps_fld (pv 0) (pe_bm PySem.F.plainAttrs_list PySem.F.slot_list_pop PySem.F.type_list_pop mt_popAt (pe_fld (pv 0) rfl) (pa_cons pe_int pa_nil)) rfl)
  (pss_one (ps_expr (pe_bm PySem.F.plainAttrs_list PySem.F.slot_list_extend PySem.F.type_list_extend mt_extend (pv 1) (pa_cons (pe_methG passL (pv 0) (pa_cons (pe_methG0 passL (pe_fld (pv 0) rfl)) pa_nil)) pa_nil)))))
  pss_nil)
  (pss_one (ps_ret (pv 1))))))
def fa_0 : List (PySem.W.Frag → Bool) := [(fun K => He.Fa.ok K (.free "abs")),
  (fun K => He.Fa.ok K (.free "all")),
  (fun K => He.Fa.ok K (.free "bool")),
  (fun K => He.Fa.ok K (.free "enumerate")),
  (fun K => He.Fa.ok K (.free "int")),
  (fun K => He.Fa.ok K (.free "isinstance")),
  (fun K => He.Fa.ok K (.free "len")),
  (fun K => He.Fa.ok K (.free "list")),
  (fun K => He.Fa.ok K (.free "range")),
  (fun K => He.Fa.ok K (.free "str")),
  (fun K => He.Fa.ok K (.free "tuple")),
  (fun K => He.Fa.ok K (.glo "Link")),
  (fun K => He.Fa.ok K (.keep "Link")),
  (fun K => He.Fa.ok K (.glo "Porter")),
  (fun K => He.Fa.ok K (.keep "Porter")),
  (fun K => He.Fa.ok K (.glo "Puppet")),
  (fun K => He.Fa.ok K (.keep "Puppet")),
  (fun K => He.Fa.ok K (.glo "Seat")),
  (fun K => He.Fa.ok K (.keep "Seat")),
  (fun K => He.Fa.ok K (.glo "_law_asked")),
  (fun K => He.Fa.ok K (.keep "_law_asked")),
  (fun K => He.Fa.ok K (.glo "_law_box")),
  (fun K => He.Fa.ok K (.keep "_law_box")),
  (fun K => He.Fa.ok K (.glo "_law_deeds")),
  (fun K => He.Fa.ok K (.keep "_law_deeds")),
  (fun K => He.Fa.ok K (.glo "_law_due")),
  (fun K => He.Fa.ok K (.keep "_law_due")),
  (fun K => He.Fa.ok K (.glo "_law_pairs")),
  (fun K => He.Fa.ok K (.keep "_law_pairs")),
  (fun K => He.Fa.ok K (.glo "_law_pick"))]
def fa_1 : List (PySem.W.Frag → Bool) := [(fun K => He.Fa.ok K (.keep "_law_pick")),
  (fun K => He.Fa.ok K (.glo "_law_play")),
  (fun K => He.Fa.ok K (.keep "_law_play")),
  (fun K => He.Fa.ok K (.glo "_law_plays")),
  (fun K => He.Fa.ok K (.keep "_law_plays")),
  (fun K => He.Fa.ok K (.glo "_law_risen")),
  (fun K => He.Fa.ok K (.keep "_law_risen")),
  (fun K => He.Fa.ok K (.glo "_law_unlike")),
  (fun K => He.Fa.ok K (.keep "_law_unlike")),
  (fun K => He.Fa.ok K (.glo "is_below")),
  (fun K => He.Fa.ok K (.keep "is_below")),
  (fun K => He.Fa.ok K (.glo "is_letter")),
  (fun K => He.Fa.ok K (.keep "is_letter")),
  (fun K => He.Fa.ok K (.glo "is_number")),
  (fun K => He.Fa.ok K (.keep "is_number")),
  (fun K => He.Fa.ok K (.glo "is_part")),
  (fun K => He.Fa.ok K (.keep "is_part")),
  (fun K => He.Fa.ok K (.glo "is_play")),
  (fun K => He.Fa.ok K (.keep "is_play")),
  (fun K => He.Fa.ok K (.glo "is_sending")),
  (fun K => He.Fa.ok K (.keep "is_sending")),
  (fun K => He.Fa.ok K (.glo "is_word")),
  (fun K => He.Fa.ok K (.keep "is_word")),
  (fun K => He.Fa.ok K (.glo "letter_fault")),
  (fun K => He.Fa.ok K (.keep "letter_fault")),
  (baseB "Link" "__init__"),
  (baseB "Seat" "__init__"),
  (fun K => He.Fa.ok K (.glo "law")),
  (fun K => He.Fa.ok K (.mkr "Puppet")),
  (fun K => He.Fa.ok K (.meth "Puppet" "play"))]
def fa_2 : List (PySem.W.Frag → Bool) := [(fun K => He.Fa.ok K (.meth "Puppet" "ask")),
  (fun K => He.Fa.ok K (.meth "Puppet" "leave")),
  (fun K => He.Fa.ok K (.meth "Puppet" "hear")),
  (fun K => He.Fa.ok K (.mkr "Porter")),
  (fun K => He.Fa.ok K (.meth "Porter" "granted")),
  (fun K => He.Fa.ok K (.meth "Porter" "hear")),
  (fun K => He.Fa.ok K (.meth "Porter" "pleased")),
  (fun K => He.Fa.ok K (.meth "Porter" "freed")),
  (fun K => He.Fa.ok K (.meth "Porter" "outward")),
  (fun K => He.Fa.ok K (.meth "Porter" "inward")),
  (fun K => He.Fa.ok K (.meth "Porter" "onward")),
  (fun K => He.Fa.ok K (.meth "Porter" "risen")),
  (fun K => He.Fa.ok K (.meth "Porter" "let_go")),
  (fun K => He.Fa.ok K (.noat "Puppet" "me")),
  (fun K => He.Fa.ok K (.noat "Puppet" "state")),
  (fun K => He.Fa.ok K (.noat "Puppet" "sits")),
  (fun K => He.Fa.ok K (.noat "Puppet" "plays")),
  (fun K => He.Fa.ok K (.cls "Puppet")),
  (fun K => He.Fa.ok K (.noat "Porter" "me")),
  (fun K => He.Fa.ok K (.noat "Porter" "state")),
  (fun K => He.Fa.ok K (.noat "Porter" "sits")),
  (fun K => He.Fa.ok K (.noat "Porter" "inner")),
  (fun K => He.Fa.ok K (.noat "Porter" "mates")),
  (fun K => He.Fa.ok K (.noat "Porter" "porter")),
  (fun K => He.Fa.ok K (.noat "Porter" "passed_on")),
  (fun K => He.Fa.ok K (.noat "Porter" "serves")),
  (fun K => He.Fa.ok K (.noat "Porter" "pleas")),
  (fun K => He.Fa.ok K (.cls "Porter")),
  (fun K => He.Fa.ok K (.str "MARK" "gone")),
  (fun K => He.Fa.ok K (.str "LETTERS" "abcdefghijklmnopqrstuvwxyz"))]
def fa_3 : List (PySem.W.Frag → Bool) := [(fun K => He.Fa.ok K (.int "MOST_SIGNS" (8))),
  (fun K => He.Fa.ok K (.int "BOUND" (1000000000000000000000000000000000000000000000000000000000000)))]
def fa : List (PySem.W.Frag → Bool) := fa_0 ++ fa_1 ++ fa_2 ++ fa_3
def fn_0 : List (He5.DefA) := [{ at_ := fun K => (He.ga K "is_number"), name := "is_number", qual := "is_number", params := defArgs s_is_number, body := defBody s_is_number, scope := defScope s_is_number },
  { at_ := fun K => (He.ga K "is_word"), name := "is_word", qual := "is_word", params := defArgs s_is_word, body := defBody s_is_word, scope := defScope s_is_word },
  { at_ := fun K => (He.ga K "is_part"), name := "is_part", qual := "is_part", params := defArgs s_is_part, body := defBody s_is_part, scope := defScope s_is_part },
  { at_ := fun K => (He.ga K "letter_fault"), name := "letter_fault", qual := "letter_fault", params := defArgs s_letter_fault, body := defBody s_letter_fault, scope := defScope s_letter_fault },
  { at_ := fun K => (He.ga K "is_letter"), name := "is_letter", qual := "is_letter", params := defArgs s_is_letter, body := defBody s_is_letter, scope := defScope s_is_letter },
  { at_ := fun K => (He.ga K "is_below"), name := "is_below", qual := "is_below", params := defArgs s_is_below, body := defBody s_is_below, scope := defScope s_is_below },
  { at_ := fun K => (He.ga K "is_sending"), name := "is_sending", qual := "is_sending", params := defArgs s_is_sending, body := defBody s_is_sending, scope := defScope s_is_sending },
  { at_ := fun K => (He.ga K "is_play"), name := "is_play", qual := "is_play", params := defArgs s_is_play, body := defBody s_is_play, scope := defScope s_is_play },
  { at_ := fun K => (He.ga K "_law_box"), name := "_law_box", qual := "_law_box", params := defArgs s_law_box, body := defBody s_law_box, scope := defScope s_law_box },
  { at_ := fun K => (He.ga K "_law_pick"), name := "_law_pick", qual := "_law_pick", params := defArgs s_law_pick, body := defBody s_law_pick, scope := defScope s_law_pick },
  { at_ := fun K => (He.ga K "_law_plays"), name := "_law_plays", qual := "_law_plays", params := defArgs s_law_plays, body := defBody s_law_plays, scope := defScope s_law_plays },
  { at_ := fun K => (He.ga K "_law_play"), name := "_law_play", qual := "_law_play", params := defArgs s_law_play, body := defBody s_law_play, scope := defScope s_law_play },
  { at_ := fun K => (He.ga K "_law_unlike"), name := "_law_unlike", qual := "_law_unlike", params := defArgs s_law_unlike, body := defBody s_law_unlike, scope := defScope s_law_unlike },
  { at_ := fun K => (He.ga K "_law_pairs"), name := "_law_pairs", qual := "_law_pairs", params := defArgs s_law_pairs, body := defBody s_law_pairs, scope := defScope s_law_pairs },
  { at_ := fun K => (He.ga K "_law_deeds"), name := "_law_deeds", qual := "_law_deeds", params := defArgs s_law_deeds_k87, body := defBody s_law_deeds_k87, scope := defScope s_law_deeds_k87 },
  { at_ := fun K => (He.ga K "_law_risen"), name := "_law_risen", qual := "_law_risen", params := defArgs s_law_risen, body := defBody s_law_risen, scope := defScope s_law_risen },
  { at_ := fun K => (He.ga K "_law_asked"), name := "_law_asked", qual := "_law_asked", params := defArgs s_law_asked, body := defBody s_law_asked, scope := defScope s_law_asked },
  { at_ := fun K => (He.ga K "_law_due"), name := "_law_due", qual := "_law_due", params := defArgs s_law_due_k87, body := defBody s_law_due_k87, scope := defScope s_law_due_k87 },
  { at_ := fun K => (He.ga K "law"), name := "law", qual := "law", params := defArgs s_law_k87, body := defBody s_law_k87, scope := defScope s_law_k87 },
  { at_ := fun K => (He.ma K (He.ga K "Puppet") "__init__"), name := "__init__", qual := "Puppet.__init__", params := defArgs s_Puppet_init, body := defBody s_Puppet_init, scope := defScope s_Puppet_init },
  { at_ := fun K => (He.ma K (He.ga K "Puppet") "play"), name := "play", qual := "Puppet.play", params := defArgs s_Puppet_play, body := defBody s_Puppet_play, scope := defScope s_Puppet_play },
  { at_ := fun K => (He.ma K (He.ga K "Puppet") "ask"), name := "ask", qual := "Puppet.ask", params := defArgs s_Puppet_ask, body := defBody s_Puppet_ask, scope := defScope s_Puppet_ask },
  { at_ := fun K => (He.ma K (He.ga K "Puppet") "leave"), name := "leave", qual := "Puppet.leave", params := defArgs s_Puppet_leave, body := defBody s_Puppet_leave, scope := defScope s_Puppet_leave },
  { at_ := fun K => (He.ma K (He.ga K "Puppet") "hear"), name := "hear", qual := "Puppet.hear", params := defArgs s_Puppet_hear, body := defBody s_Puppet_hear, scope := defScope s_Puppet_hear },
  { at_ := fun K => (He.ma K (He.ga K "Porter") "__init__"), name := "__init__", qual := "Porter.__init__", params := defArgs s_Porter_init, body := defBody s_Porter_init, scope := defScope s_Porter_init },
  { at_ := fun K => (He.ma K (He.ga K "Porter") "granted"), name := "granted", qual := "Porter.granted", params := defArgs s_Porter_granted, body := defBody s_Porter_granted, scope := defScope s_Porter_granted },
  { at_ := fun K => (He.ma K (He.ga K "Porter") "hear"), name := "hear", qual := "Porter.hear", params := defArgs s_Porter_hear, body := defBody s_Porter_hear, scope := defScope s_Porter_hear },
  { at_ := fun K => (He.ma K (He.ga K "Porter") "pleased"), name := "pleased", qual := "Porter.pleased", params := defArgs s_Porter_pleased, body := defBody s_Porter_pleased, scope := defScope s_Porter_pleased },
  { at_ := fun K => (He.ma K (He.ga K "Porter") "freed"), name := "freed", qual := "Porter.freed", params := defArgs s_Porter_freed, body := defBody s_Porter_freed, scope := defScope s_Porter_freed },
  { at_ := fun K => (He.ma K (He.ga K "Porter") "outward"), name := "outward", qual := "Link.outward", params := defArgs s_Link_outward, body := defBody s_Link_outward, scope := defScope s_Link_outward }]
def fn_1 : List (He5.DefA) := [{ at_ := fun K => (He.ma K (He.ga K "Porter") "inward"), name := "inward", qual := "Link.inward", params := defArgs s_Link_inward, body := defBody s_Link_inward, scope := defScope s_Link_inward },
  { at_ := fun K => (He.ma K (He.ga K "Porter") "onward"), name := "onward", qual := "Link.onward", params := defArgs s_Link_onward, body := defBody s_Link_onward, scope := defScope s_Link_onward },
  { at_ := fun K => (He.ma K (He.ga K "Porter") "risen"), name := "risen", qual := "Link.risen", params := defArgs s_Link_risen, body := defBody s_Link_risen, scope := defScope s_Link_risen },
  { at_ := fun K => (He.ma K (He.ga K "Porter") "let_go"), name := "let_go", qual := "Link.let_go", params := defArgs s_Link_let_go, body := defBody s_Link_let_go, scope := defScope s_Link_let_go },
  { at_ := fun K => (He.ma K (He.ga K "Link") "__init__"), name := "__init__", qual := "Link.__init__", params := defArgs s_Link_init, body := defBody s_Link_init, scope := defScope s_Link_init },
  { at_ := fun K => (He.ma K (He.ga K "Seat") "__init__"), name := "__init__", qual := "Seat.__init__", params := defArgs s_Seat_init, body := defBody s_Seat_init, scope := defScope s_Seat_init }]
def fn : List (He5.DefA) := fn_0 ++ fn_1
structure Hd (g : G) : Prop where
  top : Top g
  g_is_number : g.mg "is_number" = some (.ref (He.ga g.K "is_number"))
  g_is_word : g.mg "is_word" = some (.ref (He.ga g.K "is_word"))
  g_is_part : g.mg "is_part" = some (.ref (He.ga g.K "is_part"))
  g_letter_fault : g.mg "letter_fault" = some (.ref (He.ga g.K "letter_fault"))
  g_is_letter : g.mg "is_letter" = some (.ref (He.ga g.K "is_letter"))
  g_is_below : g.mg "is_below" = some (.ref (He.ga g.K "is_below"))
  g_is_sending : g.mg "is_sending" = some (.ref (He.ga g.K "is_sending"))
  g_is_play : g.mg "is_play" = some (.ref (He.ga g.K "is_play"))
  g_law_box : g.mg "_law_box" = some (.ref (He.ga g.K "_law_box"))
  g_law_pick : g.mg "_law_pick" = some (.ref (He.ga g.K "_law_pick"))
  g_law_plays : g.mg "_law_plays" = some (.ref (He.ga g.K "_law_plays"))
  g_law_play : g.mg "_law_play" = some (.ref (He.ga g.K "_law_play"))
  g_law_unlike : g.mg "_law_unlike" = some (.ref (He.ga g.K "_law_unlike"))
  g_law_pairs : g.mg "_law_pairs" = some (.ref (He.ga g.K "_law_pairs"))
  g_law_deeds : g.mg "_law_deeds" = some (.ref (He.ga g.K "_law_deeds"))
  g_law_risen : g.mg "_law_risen" = some (.ref (He.ga g.K "_law_risen"))
  g_law_asked : g.mg "_law_asked" = some (.ref (He.ga g.K "_law_asked"))
  g_law_due : g.mg "_law_due" = some (.ref (He.ga g.K "_law_due"))
  g_law : g.mg "law" = some (.ref (He.ga g.K "law"))
  g_Puppet : g.mg "Puppet" = some (.ref (He.ga g.K "Puppet"))
  g_Porter : g.mg "Porter" = some (.ref (He.ga g.K "Porter"))
  g_Link : g.mg "Link" = some (.ref (He.ga g.K "Link"))
  g_Seat : g.mg "Seat" = some (.ref (He.ga g.K "Seat"))
  i_Puppet : Mk g.K (He.ga g.K "Puppet") (He.ma g.K (He.ga g.K "Puppet") "__init__")
  m_Puppet_play : Meth g.K (He.ga g.K "Puppet") "play" (He.ma g.K (He.ga g.K "Puppet") "play")
  m_Puppet_ask : Meth g.K (He.ga g.K "Puppet") "ask" (He.ma g.K (He.ga g.K "Puppet") "ask")
  m_Puppet_leave : Meth g.K (He.ga g.K "Puppet") "leave" (He.ma g.K (He.ga g.K "Puppet") "leave")
  m_Puppet_hear : Meth g.K (He.ga g.K "Puppet") "hear" (He.ma g.K (He.ga g.K "Puppet") "hear")
  i_Porter : Mk g.K (He.ga g.K "Porter") (He.ma g.K (He.ga g.K "Porter") "__init__")
  m_Porter_granted : Meth g.K (He.ga g.K "Porter") "granted" (He.ma g.K (He.ga g.K "Porter") "granted")
  m_Porter_hear : Meth g.K (He.ga g.K "Porter") "hear" (He.ma g.K (He.ga g.K "Porter") "hear")
  m_Porter_pleased : Meth g.K (He.ga g.K "Porter") "pleased" (He.ma g.K (He.ga g.K "Porter") "pleased")
  m_Porter_freed : Meth g.K (He.ga g.K "Porter") "freed" (He.ma g.K (He.ga g.K "Porter") "freed")
  m_Porter_outward : Meth g.K (He.ga g.K "Porter") "outward" (He.ma g.K (He.ga g.K "Porter") "outward")
  m_Porter_inward : Meth g.K (He.ga g.K "Porter") "inward" (He.ma g.K (He.ga g.K "Porter") "inward")
  m_Porter_onward : Meth g.K (He.ga g.K "Porter") "onward" (He.ma g.K (He.ga g.K "Porter") "onward")
  m_Porter_risen : Meth g.K (He.ga g.K "Porter") "risen" (He.ma g.K (He.ga g.K "Porter") "risen")
  m_Porter_let_go : Meth g.K (He.ga g.K "Porter") "let_go" (He.ma g.K (He.ga g.K "Porter") "let_go")
  c_Puppet : ClsF g.K (He.ga g.K "Puppet") ["me", "state", "sits", "plays"]
  c_Porter : ClsF g.K (He.ga g.K "Porter") ["me", "state", "sits", "inner", "mates", "porter", "passed_on", "serves", "pleas"]
  bf_Link_init : ClX.CVal g.K (He.ga g.K "Link") (.type "type") "__init__" (.ref (He.ma g.K (He.ga g.K "Link") "__init__")) (.ref (He.ma g.K (He.ga g.K "Link") "__init__"))
  bf_Seat_init : ClX.CVal g.K (He.ga g.K "Seat") (.type "type") "__init__" (.ref (He.ma g.K (He.ga g.K "Seat") "__init__")) (.ref (He.ma g.K (He.ga g.K "Seat") "__init__"))
  v_MARK : ∃ u, g.mg "MARK" = some u ∧ RelV (.str "gone") u
  v_LETTERS : ∃ u, g.mg "LETTERS" = some u ∧ RelV (.str "abcdefghijklmnopqrstuvwxyz") u
  v_MOST_SIGNS : ∃ u, g.mg "MOST_SIGNS" = some u ∧ RelV (.int 8) u
  v_BOUND : ∃ u, g.mg "BOUND" = some u ∧ RelV (.int 1000000000000000000000000000000000000000000000000000000000000) u
  p_is_number : Pt g "is_number" s_is_number (He.ga g.K "is_number") n_is_number ["thing"] t_is_number
  p_is_word : Pt g "is_word" s_is_word (He.ga g.K "is_word") n_is_word ["thing"] t_is_word
  p_is_part : Pt g "is_part" s_is_part (He.ga g.K "is_part") n_is_part ["thing", "deep"] t_is_part
  p_letter_fault : Pt g "letter_fault" s_letter_fault (He.ga g.K "letter_fault") n_letter_fault ["thing"] t_letter_fault
  p_is_letter : Pt g "is_letter" s_is_letter (He.ga g.K "is_letter") n_is_letter ["thing"] t_is_letter
  p_is_below : Pt g "is_below" s_is_below (He.ga g.K "is_below") n_is_below ["thing", "many"] t_is_below
  p_is_sending : Pt g "is_sending" s_is_sending (He.ga g.K "is_sending") n_is_sending ["thing", "seats"] t_is_sending
  p_is_play : Pt g "is_play" s_is_play (He.ga g.K "is_play") n_is_play ["thing", "seats"] t_is_play
  p_law_box : Pt g "_law_box" s_law_box (He.ga g.K "_law_box") n_law_box ["cells"] t_law_box
  p_law_pick : Pt g "_law_pick" s_law_pick (He.ga g.K "_law_pick") n_law_pick ["box", "many"] t_law_pick
  p_law_plays : Pt g "_law_plays" s_law_plays (He.ga g.K "_law_plays") n_law_plays ["box", "parts"] t_law_plays
  p_law_play : Pt g "_law_play" s_law_play (He.ga g.K "_law_play") n_law_play ["plays", "at"] t_law_play
  p_law_unlike : Pt g "_law_unlike" s_law_unlike (He.ga g.K "_law_unlike") n_law_unlike ["box", "many"] t_law_unlike
  p_law_pairs : Pt g "_law_pairs" s_law_pairs (He.ga g.K "_law_pairs") n_law_pairs ["found", "due"] t_law_pairs
  p_law_deeds : Pt g "_law_deeds" s_law_deeds_k87 (He.ga g.K "_law_deeds") n_law_deeds_k87 ["state", "mates", "below", "porter"] t_law_deeds_k87
  p_law_risen : Pt g "_law_risen" s_law_risen (He.ga g.K "_law_risen") n_law_risen ["state", "porter"] t_law_risen
  p_law_asked : Pt g "_law_asked" s_law_asked (He.ga g.K "_law_asked") n_law_asked ["state", "play", "turned", "porter"] t_law_asked
  p_law_due : Pt g "_law_due" s_law_due_k87 (He.ga g.K "_law_due") n_law_due_k87 ["state", "deed", "draw", "mates", "porter"] t_law_due_k87
  p_law : Pt g "law" s_law_k87 (He.ga g.K "law") n_law_k87 ["script"] t_law_k87
  p_Puppet_init : Pt g "Puppet.__init__" s_Puppet_init (He.ma g.K (He.ga g.K "Puppet") "__init__") n_Puppet_init ["self", "me", "seats", "plays"] t_Puppet_init
  p_Puppet_play : Pt g "Puppet.play" s_Puppet_play (He.ma g.K (He.ga g.K "Puppet") "play") n_Puppet_play ["self"] t_Puppet_play
  p_Puppet_ask : Pt g "Puppet.ask" s_Puppet_ask (He.ma g.K (He.ga g.K "Puppet") "ask") n_Puppet_ask ["self"] t_Puppet_ask
  p_Puppet_leave : Pt g "Puppet.leave" s_Puppet_leave (He.ma g.K (He.ga g.K "Puppet") "leave") n_Puppet_leave ["self"] t_Puppet_leave
  p_Puppet_hear : Pt g "Puppet.hear" s_Puppet_hear (He.ma g.K (He.ga g.K "Puppet") "hear") n_Puppet_hear ["self", "sender", "letter"] t_Puppet_hear
  p_Porter_init : Pt g "Porter.__init__" s_Porter_init (He.ma g.K (He.ga g.K "Porter") "__init__") n_Porter_init ["self", "me", "inner", "mates", "porter"] t_Porter_init
  p_Porter_granted : Pt g "Porter.granted" s_Porter_granted (He.ma g.K (He.ga g.K "Porter") "granted") n_Porter_granted ["self"] t_Porter_granted
  p_Porter_hear : Pt g "Porter.hear" s_Porter_hear (He.ma g.K (He.ga g.K "Porter") "hear") n_Porter_hear ["self", "sender", "letter"] t_Porter_hear
  p_Porter_pleased : Pt g "Porter.pleased" s_Porter_pleased (He.ma g.K (He.ga g.K "Porter") "pleased") n_Porter_pleased ["self", "sender"] t_Porter_pleased
  p_Porter_freed : Pt g "Porter.freed" s_Porter_freed (He.ma g.K (He.ga g.K "Porter") "freed") n_Porter_freed ["self"] t_Porter_freed
  p_Porter_outward : Pt g "Link.outward" s_Link_outward (He.ma g.K (He.ga g.K "Porter") "outward") n_Link_outward ["self", "letters"] t_Link_outward
  p_Porter_inward : Pt g "Link.inward" s_Link_inward (He.ma g.K (He.ga g.K "Porter") "inward") n_Link_inward ["self", "sender", "letter"] t_Link_inward
  p_Porter_onward : Pt g "Link.onward" s_Link_onward (He.ma g.K (He.ga g.K "Porter") "onward") n_Link_onward ["self", "letters"] t_Link_onward
  p_Porter_risen : Pt g "Link.risen" s_Link_risen (He.ma g.K (He.ga g.K "Porter") "risen") n_Link_risen ["self"] t_Link_risen
  p_Porter_let_go : Pt g "Link.let_go" s_Link_let_go (He.ma g.K (He.ga g.K "Porter") "let_go") n_Link_let_go ["self"] t_Link_let_go
  p_Link_init : Pt g "Link.__init__" s_Link_init (He.ma g.K (He.ga g.K "Link") "__init__") n_Link_init ["self", "me", "inner", "mates", "porter"] t_Link_init
  p_Seat_init : Pt g "Seat.__init__" s_Seat_init (He.ma g.K (He.ga g.K "Seat") "__init__") n_Seat_init ["self", "me"] t_Seat_init
theorem hd_of {P : Program} {w : World} {K : PySem.W.Frag} {h base : Heap} {mg : Str → Option Value} (X : K.In h) (N : h.Ns mainGlobals mg) (c : SaysL fa fn K) : Hd ⟨P, w, K, mg, base⟩ := by
  have T : Top ⟨P, w, K, mg, base⟩ := { b_abs := He.free_ok X N (c.fact 0 rfl), b_all := He.free_ok X N (c.fact 1 rfl), b_bool := He.free_ok X N (c.fact 2 rfl), b_enumerate := He.free_ok X N (c.fact 3 rfl), b_int := He.free_ok X N (c.fact 4 rfl), b_isinstance := He.free_ok X N (c.fact 5 rfl), b_len := He.free_ok X N (c.fact 6 rfl), b_list := He.free_ok X N (c.fact 7 rfl), b_range := He.free_ok X N (c.fact 8 rfl), b_str := He.free_ok X N (c.fact 9 rfl), b_tuple := He.free_ok X N (c.fact 10 rfl), k_Link := ⟨_, He.glo_ok X N (c.fact 11 rfl), He.keep_ok (c.fact 12 rfl)⟩, k_Porter := ⟨_, He.glo_ok X N (c.fact 13 rfl), He.keep_ok (c.fact 14 rfl)⟩, k_Puppet := ⟨_, He.glo_ok X N (c.fact 15 rfl), He.keep_ok (c.fact 16 rfl)⟩, k_Seat := ⟨_, He.glo_ok X N (c.fact 17 rfl), He.keep_ok (c.fact 18 rfl)⟩, k_law_asked := ⟨_, He.glo_ok X N (c.fact 19 rfl), He.keep_ok (c.fact 20 rfl)⟩, k_law_box := ⟨_, He.glo_ok X N (c.fact 21 rfl), He.keep_ok (c.fact 22 rfl)⟩, k_law_deeds := ⟨_, He.glo_ok X N (c.fact 23 rfl), He.keep_ok (c.fact 24 rfl)⟩, k_law_due := ⟨_, He.glo_ok X N (c.fact 25 rfl), He.keep_ok (c.fact 26 rfl)⟩, k_law_pairs := ⟨_, He.glo_ok X N (c.fact 27 rfl), He.keep_ok (c.fact 28 rfl)⟩, k_law_pick := ⟨_, He.glo_ok X N (c.fact 29 rfl), He.keep_ok (c.fact 30 rfl)⟩, k_law_play := ⟨_, He.glo_ok X N (c.fact 31 rfl), He.keep_ok (c.fact 32 rfl)⟩, k_law_plays := ⟨_, He.glo_ok X N (c.fact 33 rfl), He.keep_ok (c.fact 34 rfl)⟩, k_law_risen := ⟨_, He.glo_ok X N (c.fact 35 rfl), He.keep_ok (c.fact 36 rfl)⟩, k_law_unlike := ⟨_, He.glo_ok X N (c.fact 37 rfl), He.keep_ok (c.fact 38 rfl)⟩, k_is_below := ⟨_, He.glo_ok X N (c.fact 39 rfl), He.keep_ok (c.fact 40 rfl)⟩, k_is_letter := ⟨_, He.glo_ok X N (c.fact 41 rfl), He.keep_ok (c.fact 42 rfl)⟩, k_is_number := ⟨_, He.glo_ok X N (c.fact 43 rfl), He.keep_ok (c.fact 44 rfl)⟩, k_is_part := ⟨_, He.glo_ok X N (c.fact 45 rfl), He.keep_ok (c.fact 46 rfl)⟩, k_is_play := ⟨_, He.glo_ok X N (c.fact 47 rfl), He.keep_ok (c.fact 48 rfl)⟩, k_is_sending := ⟨_, He.glo_ok X N (c.fact 49 rfl), He.keep_ok (c.fact 50 rfl)⟩, k_is_word := ⟨_, He.glo_ok X N (c.fact 51 rfl), He.keep_ok (c.fact 52 rfl)⟩, k_letter_fault := ⟨_, He.glo_ok X N (c.fact 53 rfl), He.keep_ok (c.fact 54 rfl)⟩, kb_Link_init := (baseB_ok (g := ⟨P, w, K, mg, base⟩) (He.glo_ok X N (c.fact 11 rfl)) (c.fact 55 rfl)).2.2, kb_Seat_init := (baseB_ok (g := ⟨P, w, K, mg, base⟩) (He.glo_ok X N (c.fact 17 rfl)) (c.fact 56 rfl)).2.2 }
  exact {
    top := T,
    g_is_number := He.glo_ok X N (c.fact 43 rfl),
    g_is_word := He.glo_ok X N (c.fact 51 rfl),
    g_is_part := He.glo_ok X N (c.fact 45 rfl),
    g_letter_fault := He.glo_ok X N (c.fact 53 rfl),
    g_is_letter := He.glo_ok X N (c.fact 41 rfl),
    g_is_below := He.glo_ok X N (c.fact 39 rfl),
    g_is_sending := He.glo_ok X N (c.fact 49 rfl),
    g_is_play := He.glo_ok X N (c.fact 47 rfl),
    g_law_box := He.glo_ok X N (c.fact 21 rfl),
    g_law_pick := He.glo_ok X N (c.fact 29 rfl),
    g_law_plays := He.glo_ok X N (c.fact 33 rfl),
    g_law_play := He.glo_ok X N (c.fact 31 rfl),
    g_law_unlike := He.glo_ok X N (c.fact 37 rfl),
    g_law_pairs := He.glo_ok X N (c.fact 27 rfl),
    g_law_deeds := He.glo_ok X N (c.fact 23 rfl),
    g_law_risen := He.glo_ok X N (c.fact 35 rfl),
    g_law_asked := He.glo_ok X N (c.fact 19 rfl),
    g_law_due := He.glo_ok X N (c.fact 25 rfl),
    g_law := He.glo_ok X N (c.fact 57 rfl),
    g_Puppet := He.glo_ok X N (c.fact 15 rfl),
    g_Porter := He.glo_ok X N (c.fact 13 rfl),
    g_Link := He.glo_ok X N (c.fact 11 rfl),
    g_Seat := He.glo_ok X N (c.fact 17 rfl),
    i_Puppet := He.mkr_ok (c.fact 58 rfl),
    m_Puppet_play := He.meth_ok (c.fact 59 rfl),
    m_Puppet_ask := He.meth_ok (c.fact 60 rfl),
    m_Puppet_leave := He.meth_ok (c.fact 61 rfl),
    m_Puppet_hear := He.meth_ok (c.fact 62 rfl),
    i_Porter := He.mkr_ok (c.fact 63 rfl),
    m_Porter_granted := He.meth_ok (c.fact 64 rfl),
    m_Porter_hear := He.meth_ok (c.fact 65 rfl),
    m_Porter_pleased := He.meth_ok (c.fact 66 rfl),
    m_Porter_freed := He.meth_ok (c.fact 67 rfl),
    m_Porter_outward := He.meth_ok (c.fact 68 rfl),
    m_Porter_inward := He.meth_ok (c.fact 69 rfl),
    m_Porter_onward := He.meth_ok (c.fact 70 rfl),
    m_Porter_risen := He.meth_ok (c.fact 71 rfl),
    m_Porter_let_go := He.meth_ok (c.fact 72 rfl),
    c_Puppet := ⟨He.cls_ok (c.fact 77 rfl), mem_cons' (He.noat_ok (c.fact 73 rfl)) (mem_cons' (He.noat_ok (c.fact 74 rfl)) (mem_cons' (He.noat_ok (c.fact 75 rfl)) (mem_cons' (He.noat_ok (c.fact 76 rfl)) (fun _ h => (List.not_mem_nil h).elim))))⟩,
    c_Porter := ⟨He.cls_ok (c.fact 87 rfl), mem_cons' (He.noat_ok (c.fact 78 rfl)) (mem_cons' (He.noat_ok (c.fact 79 rfl)) (mem_cons' (He.noat_ok (c.fact 80 rfl)) (mem_cons' (He.noat_ok (c.fact 81 rfl)) (mem_cons' (He.noat_ok (c.fact 82 rfl)) (mem_cons' (He.noat_ok (c.fact 83 rfl)) (mem_cons' (He.noat_ok (c.fact 84 rfl)) (mem_cons' (He.noat_ok (c.fact 85 rfl)) (mem_cons' (He.noat_ok (c.fact 86 rfl)) (fun _ h => (List.not_mem_nil h).elim)))))))))⟩,
    bf_Link_init := (baseB_ok (g := ⟨P, w, K, mg, base⟩) (He.glo_ok X N (c.fact 11 rfl)) (c.fact 55 rfl)).2.1,
    bf_Seat_init := (baseB_ok (g := ⟨P, w, K, mg, base⟩) (He.glo_ok X N (c.fact 17 rfl)) (c.fact 56 rfl)).2.1,
    v_MARK := let ⟨t, h⟩ := He.str_ok X N (c.fact 88 rfl); ⟨_, h, t, rfl⟩,
    v_LETTERS := let ⟨t, h⟩ := He.str_ok X N (c.fact 89 rfl); ⟨_, h, t, rfl⟩,
    v_MOST_SIGNS := let ⟨t, h⟩ := He.int_ok X N (c.fact 90 rfl); ⟨_, h, t, rfl⟩,
    v_BOUND := let ⟨t, h⟩ := He.int_ok X N (c.fact 91 rfl); ⟨_, h, t, rfl⟩,
    p_is_number := ⟨let ⟨fd, F⟩ := c.def_ 0 rfl; ⟨_, fd, F, FunD.bindsN F fun _ _ _ _ _ _ us hl => match us, hl with | [_], _ => rfl⟩, sc_is_number, fun k => d_is_number T⟩,
    p_is_word := ⟨let ⟨fd, F⟩ := c.def_ 1 rfl; ⟨_, fd, F, FunD.bindsN F fun _ _ _ _ _ _ us hl => match us, hl with | [_], _ => rfl⟩, sc_is_word, fun k => d_is_word T⟩,
    p_is_part := ⟨let ⟨fd, F⟩ := c.def_ 2 rfl; ⟨_, fd, F, FunD.bindsN F fun _ _ _ _ _ _ us hl => match us, hl with | [_, _], _ => rfl⟩, sc_is_part, fun k => d_is_part T⟩,
    p_letter_fault := ⟨let ⟨fd, F⟩ := c.def_ 3 rfl; ⟨_, fd, F, FunD.bindsN F fun _ _ _ _ _ _ us hl => match us, hl with | [_], _ => rfl⟩, sc_letter_fault, fun k => d_letter_fault T⟩,
    p_is_letter := ⟨let ⟨fd, F⟩ := c.def_ 4 rfl; ⟨_, fd, F, FunD.bindsN F fun _ _ _ _ _ _ us hl => match us, hl with | [_], _ => rfl⟩, sc_is_letter, fun k => d_is_letter T⟩,
    p_is_below := ⟨let ⟨fd, F⟩ := c.def_ 5 rfl; ⟨_, fd, F, FunD.bindsN F fun _ _ _ _ _ _ us hl => match us, hl with | [_, _], _ => rfl⟩, sc_is_below, fun k => d_is_below T⟩,
    p_is_sending := ⟨let ⟨fd, F⟩ := c.def_ 6 rfl; ⟨_, fd, F, FunD.bindsN F fun _ _ _ _ _ _ us hl => match us, hl with | [_, _], _ => rfl⟩, sc_is_sending, fun k => d_is_sending T⟩,
    p_is_play := ⟨let ⟨fd, F⟩ := c.def_ 7 rfl; ⟨_, fd, F, FunD.bindsN F fun _ _ _ _ _ _ us hl => match us, hl with | [_, _], _ => rfl⟩, sc_is_play, fun k => d_is_play T⟩,
    p_law_box := ⟨let ⟨fd, F⟩ := c.def_ 8 rfl; ⟨_, fd, F, FunD.bindsN F fun _ _ _ _ _ _ us hl => match us, hl with | [_], _ => rfl⟩, sc_law_box, fun k => d_law_box T⟩,
    p_law_pick := ⟨let ⟨fd, F⟩ := c.def_ 9 rfl; ⟨_, fd, F, FunD.bindsN F fun _ _ _ _ _ _ us hl => match us, hl with | [_, _], _ => rfl⟩, sc_law_pick, fun k => d_law_pick T⟩,
    p_law_plays := ⟨let ⟨fd, F⟩ := c.def_ 10 rfl; ⟨_, fd, F, FunD.bindsN F fun _ _ _ _ _ _ us hl => match us, hl with | [_, _], _ => rfl⟩, sc_law_plays, fun k => d_law_plays T⟩,
    p_law_play := ⟨let ⟨fd, F⟩ := c.def_ 11 rfl; ⟨_, fd, F, FunD.bindsN F fun _ _ _ _ _ _ us hl => match us, hl with | [_, _], _ => rfl⟩, sc_law_play, fun k => d_law_play T⟩,
    p_law_unlike := ⟨let ⟨fd, F⟩ := c.def_ 12 rfl; ⟨_, fd, F, FunD.bindsN F fun _ _ _ _ _ _ us hl => match us, hl with | [_, _], _ => rfl⟩, sc_law_unlike, fun k => d_law_unlike T⟩,
    p_law_pairs := ⟨let ⟨fd, F⟩ := c.def_ 13 rfl; ⟨_, fd, F, FunD.bindsN F fun _ _ _ _ _ _ us hl => match us, hl with | [_, _], _ => rfl⟩, sc_law_pairs, fun k => d_law_pairs T⟩,
    p_law_deeds := ⟨let ⟨fd, F⟩ := c.def_ 14 rfl; ⟨_, fd, F, FunD.bindsN F fun _ _ _ _ _ _ us hl => match us, hl with | [_, _, _, _], _ => rfl⟩, sc_law_deeds_k87, fun k => d_law_deeds_k87 T⟩,
    p_law_risen := ⟨let ⟨fd, F⟩ := c.def_ 15 rfl; ⟨_, fd, F, FunD.bindsN F fun _ _ _ _ _ _ us hl => match us, hl with | [_, _], _ => rfl⟩, sc_law_risen, fun k => d_law_risen T⟩,
    p_law_asked := ⟨let ⟨fd, F⟩ := c.def_ 16 rfl; ⟨_, fd, F, FunD.bindsN F fun _ _ _ _ _ _ us hl => match us, hl with | [_, _, _, _], _ => rfl⟩, sc_law_asked, fun k => d_law_asked T⟩,
    p_law_due := ⟨let ⟨fd, F⟩ := c.def_ 17 rfl; ⟨_, fd, F, FunD.bindsN F fun _ _ _ _ _ _ us hl => match us, hl with | [_, _, _, _, _], _ => rfl⟩, sc_law_due_k87, fun k => d_law_due_k87 T⟩,
    p_law := ⟨let ⟨fd, F⟩ := c.def_ 18 rfl; ⟨_, fd, F, FunD.bindsN F fun _ _ _ _ _ _ us hl => match us, hl with | [_], _ => rfl⟩, sc_law_k87, fun k => d_law_k87 T⟩,
    p_Puppet_init := ⟨let ⟨fd, F⟩ := c.def_ 19 rfl; ⟨_, fd, F, FunD.bindsN F fun _ _ _ _ _ _ us hl => match us, hl with | [_, _, _, _], _ => rfl⟩, sc_Puppet_init, fun k => d_Puppet_init T⟩,
    p_Puppet_play := ⟨let ⟨fd, F⟩ := c.def_ 20 rfl; ⟨_, fd, F, FunD.bindsN F fun _ _ _ _ _ _ us hl => match us, hl with | [_], _ => rfl⟩, sc_Puppet_play, fun k => d_Puppet_play T⟩,
    p_Puppet_ask := ⟨let ⟨fd, F⟩ := c.def_ 21 rfl; ⟨_, fd, F, FunD.bindsN F fun _ _ _ _ _ _ us hl => match us, hl with | [_], _ => rfl⟩, sc_Puppet_ask, fun k => d_Puppet_ask T⟩,
    p_Puppet_leave := ⟨let ⟨fd, F⟩ := c.def_ 22 rfl; ⟨_, fd, F, FunD.bindsN F fun _ _ _ _ _ _ us hl => match us, hl with | [_], _ => rfl⟩, sc_Puppet_leave, fun k => d_Puppet_leave T⟩,
    p_Puppet_hear := ⟨let ⟨fd, F⟩ := c.def_ 23 rfl; ⟨_, fd, F, FunD.bindsN F fun _ _ _ _ _ _ us hl => match us, hl with | [_, _, _], _ => rfl⟩, sc_Puppet_hear, fun k => d_Puppet_hear T⟩,
    p_Porter_init := ⟨let ⟨fd, F⟩ := c.def_ 24 rfl; ⟨_, fd, F, FunD.bindsN F fun _ _ _ _ _ _ us hl => match us, hl with | [_, _, _, _, _], _ => rfl⟩, sc_Porter_init, fun k => d_Porter_init T⟩,
    p_Porter_granted := ⟨let ⟨fd, F⟩ := c.def_ 25 rfl; ⟨_, fd, F, FunD.bindsN F fun _ _ _ _ _ _ us hl => match us, hl with | [_], _ => rfl⟩, sc_Porter_granted, fun k => d_Porter_granted T⟩,
    p_Porter_hear := ⟨let ⟨fd, F⟩ := c.def_ 26 rfl; ⟨_, fd, F, FunD.bindsN F fun _ _ _ _ _ _ us hl => match us, hl with | [_, _, _], _ => rfl⟩, sc_Porter_hear, fun k => d_Porter_hear T⟩,
    p_Porter_pleased := ⟨let ⟨fd, F⟩ := c.def_ 27 rfl; ⟨_, fd, F, FunD.bindsN F fun _ _ _ _ _ _ us hl => match us, hl with | [_, _], _ => rfl⟩, sc_Porter_pleased, fun k => d_Porter_pleased T⟩,
    p_Porter_freed := ⟨let ⟨fd, F⟩ := c.def_ 28 rfl; ⟨_, fd, F, FunD.bindsN F fun _ _ _ _ _ _ us hl => match us, hl with | [_], _ => rfl⟩, sc_Porter_freed, fun k => d_Porter_freed T⟩,
    p_Porter_outward := ⟨let ⟨fd, F⟩ := c.def_ 29 rfl; ⟨_, fd, F, FunD.bindsN F fun _ _ _ _ _ _ us hl => match us, hl with | [_, _], _ => rfl⟩, sc_Link_outward, fun k => d_Link_outward T⟩,
    p_Porter_inward := ⟨let ⟨fd, F⟩ := c.def_ 30 rfl; ⟨_, fd, F, FunD.bindsN F fun _ _ _ _ _ _ us hl => match us, hl with | [_, _, _], _ => rfl⟩, sc_Link_inward, fun k => d_Link_inward T⟩,
    p_Porter_onward := ⟨let ⟨fd, F⟩ := c.def_ 31 rfl; ⟨_, fd, F, FunD.bindsN F fun _ _ _ _ _ _ us hl => match us, hl with | [_, _], _ => rfl⟩, sc_Link_onward, fun k => d_Link_onward T⟩,
    p_Porter_risen := ⟨let ⟨fd, F⟩ := c.def_ 32 rfl; ⟨_, fd, F, FunD.bindsN F fun _ _ _ _ _ _ us hl => match us, hl with | [_], _ => rfl⟩, sc_Link_risen, fun k => d_Link_risen T⟩,
    p_Porter_let_go := ⟨let ⟨fd, F⟩ := c.def_ 33 rfl; ⟨_, fd, F, FunD.bindsN F fun _ _ _ _ _ _ us hl => match us, hl with | [_], _ => rfl⟩, sc_Link_let_go, fun k => d_Link_let_go T⟩,
    p_Link_init := ⟨let ⟨fd, F⟩ := c.def_ 34 rfl; ⟨_, fd, F, FunD.bindsN F fun _ _ _ _ _ _ us hl => match us, hl with | [_, _, _, _, _], _ => rfl⟩, sc_Link_init, fun k => d_Link_init T⟩,
    p_Seat_init := ⟨let ⟨fd, F⟩ := c.def_ 35 rfl; ⟨_, fd, F, FunD.bindsN F fun _ _ _ _ _ _ us hl => match us, hl with | [_, _], _ => rfl⟩, sc_Seat_init, fun k => d_Seat_init T⟩ }
set_option hygiene false
local macro_rules | `(tactic| walk_at "len") => `(tactic| first
  | (obtain ⟨rfl, _⟩ := h; rfl)
  | (obtain ⟨_, rfl, _⟩ := h; rfl)
  | (obtain ⟨_, _, rfl, _⟩ := h; rfl)
  | (obtain ⟨_, _, _, rfl, _⟩ := h; rfl)
  | (obtain ⟨_, _, _, _, rfl, _⟩ := h; rfl)
  | (obtain ⟨_, _, _, _, _, rfl, _⟩ := h; rfl)
  | (obtain ⟨_, _, _, _, _, _, rfl, _⟩ := h; rfl)
  | (obtain ⟨_, _, _, _, _, _, _, rfl, _⟩ := h; rfl)
  | (obtain ⟨_, _, _, _, _, _, _, _, rfl, _⟩ := h; rfl)
  | (obtain ⟨_, _, _, _, _, _, _, _, _, rfl, _⟩ := h; rfl)
  | (obtain ⟨_, _, _, _, _, _, _, _, _, _, rfl, _⟩ := h; rfl)
  | (obtain ⟨_, _, _, _, _, _, _, _, _, _, _, rfl, _⟩ := h; rfl)
  | (obtain ⟨_, _, _, _, _, _, _, _, _, _, _, _, rfl, _⟩ := h; rfl)
  | (obtain ⟨_, _, _, _, _, _, _, _, _, _, _, _, _, rfl, _⟩ := h; rfl)
  | (obtain ⟨_, _, _, _, _, _, _, _, _, _, _, _, _, _, rfl, _⟩ := h; rfl)
  | (obtain ⟨_, _, _, _, _, _, _, _, _, _, _, _, _, _, _, rfl, _⟩ := h; rfl)
  | (obtain ⟨_, _, _, _, _, _, _, _, _, _, _, _, _, _, _, _, rfl, _⟩ := h; rfl)
  | (obtain ⟨_, _, _, _, _, _, _, _, _, _, _, _, _, _, _, _, _, rfl, _⟩ := h; rfl)
  | (obtain ⟨_, _, _, _, _, _, _, _, _, _, _, _, _, _, _, _, _, _, rfl, _⟩ := h; rfl)
  | (obtain ⟨_, _, _, _, _, _, _, _, _, _, _, _, _, _, _, _, _, _, _, rfl, _⟩ := h; rfl)
  | (obtain ⟨_, _, _, _, _, _, _, _, _, _, _, _, _, _, _, _, _, _, _, _, rfl, _⟩ := h; rfl)
  | (obtain ⟨_, _, _, _, _, _, _, _, _, _, _, _, _, _, _, _, _, _, _, _, _, rfl, _⟩ := h; rfl)
  | (obtain ⟨_, _, _, _, _, _, _, _, _, _, _, _, _, _, _, _, _, _, _, _, _, _, rfl, _⟩ := h; rfl)
  | (obtain ⟨_, _, _, _, _, _, _, _, _, _, _, _, _, _, _, _, _, _, _, _, _, _, _, rfl, _⟩ := h; rfl)
  | (obtain ⟨_, _, _, _, _, _, _, _, _, _, _, _, _, _, _, _, _, _, _, _, _, _, _, _, rfl, _⟩ := h; rfl)
  | (obtain ⟨_, _, _, _, _, _, _, _, _, _, _, _, _, _, _, _, _, _, _, _, _, _, _, _, _, rfl, _⟩ := h; rfl))
set_option hygiene true
theorem ok_is_number {g : G} (D : Hd g) : GF g 1 "is_number" spNum := ⟨_, D.g_is_number, D.p_is_number.fk 0 (fun vs H Q E h => by walk_at "len") fun A vs H Q E hr h => w_number h⟩
theorem ok_is_word {g : G} (D : Hd g) : GF g 1 "is_word" spWord := ⟨_, D.g_is_word, D.p_is_word.fk 0 (fun vs H Q E h => by walk_at "len") fun A vs H Q E hr h => w_word ⟨D.v_MARK, D.v_LETTERS, D.v_MOST_SIGNS, D.v_BOUND⟩ h⟩
theorem ok_is_part {g : G} (D : Hd g) : GF g 2 "is_part" spPart := ⟨_, D.g_is_part, D.p_is_part.fk 1 (fun vs H Q E h => by walk_at "len") fun A vs H Q E hr h => w_part ⟨D.v_MARK, D.v_LETTERS, D.v_MOST_SIGNS, D.v_BOUND⟩ (hr.mono (by decide)) (ok_is_number D) h⟩
theorem ok_letter_fault {g : G} (D : Hd g) : GF g 3 "letter_fault" (spFault g) := ⟨_, D.g_letter_fault, D.p_letter_fault.fk 2 (fun vs H Q E h => by walk_at "len") fun A vs H Q E hr h => w_fault (hr.mono (by decide)) (hr.mono (by decide)) (ok_is_word D) (ok_is_part D) h⟩
theorem ok_is_letter {g : G} (D : Hd g) : GF g 4 "is_letter" (spLetter g) := ⟨_, D.g_is_letter, D.p_is_letter.fk 3 (fun vs H Q E h => by walk_at "len") fun A vs H Q E hr h => w_letter (hr.mono (by decide)) (ok_letter_fault D) h⟩
theorem ok_is_below {g : G} (D : Hd g) : GF g 2 "is_below" spBelow := ⟨_, D.g_is_below, D.p_is_below.fk 1 (fun vs H Q E h => by walk_at "len") fun A vs H Q E hr h => w_below (hr.mono (by decide)) (ok_is_number D) h⟩
theorem ok_is_sending {g : G} (D : Hd g) : GF g 5 "is_sending" (spSending g) := ⟨_, D.g_is_sending, D.p_is_sending.fk 4 (fun vs H Q E h => by walk_at "len") fun A vs H Q E hr h => w_sending (hr.mono (by decide)) (hr.mono (by decide)) (ok_is_below D) (ok_is_letter D) h⟩
theorem ok_is_play {g : G} (D : Hd g) : GF g 6 "is_play" (spIsPlay g) := ⟨_, D.g_is_play, D.p_is_play.fk 5 (fun vs H Q E h => by walk_at "len") fun A vs H Q E hr h => w_is_play (hr.mono (by decide)) (ok_is_sending D) h⟩
theorem ok_Seat_init {g : G} (D : Hd g) : BF g 1 "Seat" "__init__" (spSeatInit g) := ⟨_, _, D.g_Seat, D.bf_Seat_init, D.p_Seat_init.fk 0 (fun vs H Q E h => by walk_at "len") fun A vs H Q E hr h => w_seat_init h⟩
theorem ok_Puppet_init {g : G} (D : Hd g) : IF g 7 (He.ga g.K "Puppet") (spPupInit g (He.ga g.K "Puppet")) := ⟨_, D.i_Puppet, D.p_Puppet_init.fk 6 (fun vs H Q E h => by walk_at "len") fun A vs H Q E hr h => w_pup_init (hr.mono (by decide)) (hr.mono (by decide)) D.c_Puppet (ok_Seat_init D) (ok_is_play D) h⟩
theorem ok_Puppet_play {g : G} (D : Hd g) : MF g 1 (He.ga g.K "Puppet") "play" (spPPlay g (He.ga g.K "Puppet")) := ⟨_, D.m_Puppet_play, D.p_Puppet_play.fk 0 (fun vs H Q E h => by walk_at "len") fun A vs H Q E hr h => w_pplay D.c_Puppet h⟩
theorem ok_Puppet_ask {g : G} (D : Hd g) : MF g 2 (He.ga g.K "Puppet") "ask" (spPDeed g (He.ga g.K "Puppet") 0 fAsk) := ⟨_, D.m_Puppet_ask, D.p_Puppet_ask.fk 1 (fun vs H Q E h => by obtain ⟨_, _, _, _, _, _, _, _, _, _, rfl, e, _⟩ := h; simp [e]) fun A vs H Q E hr h => w_pask (hr.mono (by decide)) D.c_Puppet (ok_Puppet_play D) h⟩
theorem ok_Puppet_leave {g : G} (D : Hd g) : MF g 2 (He.ga g.K "Puppet") "leave" (spPDeed g (He.ga g.K "Puppet") 0 fLeave) := ⟨_, D.m_Puppet_leave, D.p_Puppet_leave.fk 1 (fun vs H Q E h => by obtain ⟨_, _, _, _, _, _, _, _, _, _, rfl, e, _⟩ := h; simp [e]) fun A vs H Q E hr h => w_pleave (hr.mono (by decide)) D.c_Puppet (ok_Puppet_play D) h⟩
theorem ok_Puppet_hear {g : G} (D : Hd g) : MF g 2 (He.ga g.K "Puppet") "hear" (spPDeed g (He.ga g.K "Puppet") 2 fHear) := ⟨_, D.m_Puppet_hear, D.p_Puppet_hear.fk 1 (fun vs H Q E h => by obtain ⟨_, _, _, _, _, _, _, _, _, _, rfl, e, _⟩ := h; simp [e]) fun A vs H Q E hr h => w_phear (hr.mono (by decide)) D.c_Puppet (ok_Puppet_play D) h⟩
theorem ok_law_box {g : G} (D : Hd g) : GF g 1 "_law_box" spBox := ⟨_, D.g_law_box, D.p_law_box.fk 0 (fun vs H Q E h => by walk_at "len") fun A vs H Q E hr h => w_box h⟩
theorem ok_law_pick {g : G} (D : Hd g) : GF g 1 "_law_pick" spPick := ⟨_, D.g_law_pick, D.p_law_pick.fk 0 (fun vs H Q E h => by walk_at "len") fun A vs H Q E hr h => w_pick h⟩
theorem ok_law_plays {g : G} (D : Hd g) : GF g 2 "_law_plays" (spPlays g) := ⟨_, D.g_law_plays, D.p_law_plays.fk 1 (fun vs H Q E h => by walk_at "len") fun A vs H Q E hr h => w_plays (hr.mono (by decide)) (ok_law_pick D) h⟩
theorem ok_law_play {g : G} (D : Hd g) : GF g 1 "_law_play" (spLPlay g) := ⟨_, D.g_law_play, D.p_law_play.fk 0 (fun vs H Q E h => by walk_at "len") fun A vs H Q E hr h => w_lplay h⟩
theorem ok_law_unlike {g : G} (D : Hd g) : GF g 2 "_law_unlike" spUnlike := ⟨_, D.g_law_unlike, D.p_law_unlike.fk 1 (fun vs H Q E h => by walk_at "len") fun A vs H Q E hr h => w_unlike (hr.mono (by decide)) (ok_law_pick D) h⟩
theorem ok_law_pairs {g : G} (D : Hd g) : GF g 1 "_law_pairs" (spPairs g) := ⟨_, D.g_law_pairs, D.p_law_pairs.fk 0 (fun vs H Q E h => by walk_at "len") fun A vs H Q E hr h => w_pairs h⟩
theorem ok_Link_init {g : G} (D : Hd g) : BF g 2 "Link" "__init__" (spLinkInit g (He.ga g.K "Porter")) := ⟨_, _, D.g_Link, D.bf_Link_init, D.p_Link_init.fk 1 (fun vs H Q E h => by walk_at "len") fun A vs H Q E hr h => w_link_init (hr.mono (by decide)) (D.c_Porter.sub (by simp)) (ok_Seat_init D) h⟩
theorem ok_Porter_init {g : G} (D : Hd g) : IF g 3 (He.ga g.K "Porter") (spPorInit g (He.ga g.K "Porter")) := ⟨_, D.i_Porter, D.p_Porter_init.fk 2 (fun vs H Q E h => by walk_at "len") fun A vs H Q E hr h => w_por_init (hr.mono (by decide)) D.c_Porter (ok_Link_init D) h⟩
theorem ok_Porter_outward {g : G} (D : Hd g) : MF g 1 (He.ga g.K "Porter") "outward" (pspOut g (He.ga g.K "Porter")) := ⟨_, D.m_Porter_outward, D.p_Porter_outward.fk 0 (fun vs H Q E h => by walk_at "len") fun A vs H Q E hr h => w_outP D.c_Porter h⟩
theorem ok_Porter_granted {g : G} (D : Hd g) : MF g 1 (He.ga g.K "Porter") "granted" (pspGranted g (He.ga g.K "Porter")) := ⟨_, D.m_Porter_granted, D.p_Porter_granted.fk 0 (fun vs H Q E h => by walk_at "len") fun A vs H Q E hr h => w_grantedP D.c_Porter h⟩
theorem ok_Porter_risen {g : G} (D : Hd g) : MF g 2 (He.ga g.K "Porter") "risen" (pspRisen g (He.ga g.K "Porter")) := ⟨_, D.m_Porter_risen, D.p_Porter_risen.fk 1 (fun vs H Q E h => by walk_at "len") fun A vs H Q E hr h => w_risenP (hr.mono (by decide)) D.c_Porter (ok_Porter_granted D) h⟩
theorem ok_Porter_onward {g : G} (D : Hd g) : MF g 3 (He.ga g.K "Porter") "onward" (pspOnward g (He.ga g.K "Porter") (He.ga g.K "Puppet")) := ⟨_, D.m_Porter_onward, D.p_Porter_onward.fk 2 (fun vs H Q E h => by walk_at "len") fun A vs H Q E hr h => w_onwardP (hr.mono (by decide)) (hr.mono (by decide)) D.c_Porter D.c_Puppet (ok_Porter_outward D) (ok_Porter_risen D) h⟩
theorem ok_Porter_let_go {g : G} (D : Hd g) : MF g 3 (He.ga g.K "Porter") "let_go" (pspLetGo g (He.ga g.K "Porter") (He.ga g.K "Puppet")) := ⟨_, D.m_Porter_let_go, D.p_Porter_let_go.fk 2 (fun vs H Q E h => by walk_at "len") fun A vs H Q E hr h => w_letgoP (hr.mono (by decide)) (hr.mono (by decide)) D.c_Porter D.c_Puppet (ok_Porter_outward D) (ok_Puppet_leave D) h⟩
theorem ok_Porter_inward {g : G} (D : Hd g) : MF g 4 (He.ga g.K "Porter") "inward" (pspInward g (He.ga g.K "Porter") (He.ga g.K "Puppet")) := ⟨_, D.m_Porter_inward, D.p_Porter_inward.fk 3 (fun vs H Q E h => by walk_at "len") fun A vs H Q E hr h => w_inwardP (hr.mono (by decide)) (hr.mono (by decide)) D.c_Porter D.c_Puppet (ok_Porter_onward D) (ok_Puppet_hear D) h⟩
theorem ok_Porter_pleased {g : G} (D : Hd g) : MF g 4 (He.ga g.K "Porter") "pleased" (spPleased g (He.ga g.K "Porter") (He.ga g.K "Puppet")) := ⟨_, D.m_Porter_pleased, D.p_Porter_pleased.fk 3 (fun vs H Q E h => by walk_at "len") fun A vs H Q E hr h => w_pleased (hr.mono (by decide)) (hr.mono (by decide)) D.c_Porter D.c_Puppet (ok_Porter_onward D) (ok_Puppet_ask D) h⟩
theorem ok_Porter_freed {g : G} (D : Hd g) : MF g 4 (He.ga g.K "Porter") "freed" (spFreed g (He.ga g.K "Porter") (He.ga g.K "Puppet")) := ⟨_, D.m_Porter_freed, D.p_Porter_freed.fk 3 (fun vs H Q E h => by walk_at "len") fun A vs H Q E hr h => w_freed (hr.mono (by decide)) (hr.mono (by decide)) (hr.mono (by decide)) D.c_Porter D.c_Puppet (ok_Porter_onward D) (ok_Puppet_ask D) (ok_Porter_let_go D) h⟩
theorem ok_Porter_hear {g : G} (D : Hd g) : MF g 5 (He.ga g.K "Porter") "hear" (spPHear g (He.ga g.K "Porter") (He.ga g.K "Puppet")) := ⟨_, D.m_Porter_hear, D.p_Porter_hear.fk 4 (fun vs H Q E h => by walk_at "len") fun A vs H Q E hr h => w_phearP (hr.mono (by decide)) (hr.mono (by decide)) (hr.mono (by decide)) (hr.mono (by decide)) D.c_Porter (ok_Porter_granted D) (ok_Porter_inward D) (ok_Porter_pleased D) (ok_Porter_freed D) h⟩
theorem ok_law_deeds {g : G} (D : Hd g) : GF g 1 "_law_deeds" (spPDeeds g) := ⟨_, D.g_law_deeds, D.p_law_deeds.fk 0 (fun vs H Q E h => by walk_at "len") fun A vs H Q E hr h => w_pdeeds h⟩
theorem ok_law_risen {g : G} (D : Hd g) : GF g 1 "_law_risen" (spLRisen g) := ⟨_, D.g_law_risen, D.p_law_risen.fk 0 (fun vs H Q E h => by walk_at "len") fun A vs H Q E hr h => w_lrisen h⟩
theorem ok_law_asked {g : G} (D : Hd g) : GF g 2 "_law_asked" (spLAsked g) := ⟨_, D.g_law_asked, D.p_law_asked.fk 1 (fun vs H Q E h => by walk_at "len") fun A vs H Q E hr h => w_lasked (hr.mono (by decide)) (ok_law_risen D) h⟩
theorem ok_law_due {g : G} (D : Hd g) : GF g 3 "_law_due" (spPDue g) := ⟨_, D.g_law_due, D.p_law_due.fk 2 (fun vs H Q E h => by walk_at "len") fun A vs H Q E hr h => w_pdue (hr.mono (by decide)) (hr.mono (by decide)) (hr.mono (by decide)) (ok_law_play D) (ok_law_risen D) (ok_law_asked D) h⟩
abbrev R : PySem.W.OpenRow := PySem.W.OpenLaw.row PySem.Challenge.rw_soleseat_k87_porters
abbrev hk : PySem.W.Hook := hookL 4 fa fn
def ob (s : PySem.W.SharedT) : He.AlD := obsLG 4 fa fn (HandSHeadRun.getT s)
theorem ob_eq (s : PySem.W.SharedT) : ob s = hk.obs s.abs := obsLG_eq (HandSHeadRun.getT_eq s)
def looseN : List PySem.Str := (PySem.Challenge.pw_soleseat_k87_porters.main.scope.names.map Prod.fst).filter fun x => !(x == ("law" : PySem.Str))
theorem run (w : World) : HandSHeadRun.RunEq R (PySem.W.view R.prog [36]) hk ob 6000 looseN w := by
  intro os
  kernel_rfl
end Ly
open PySem PySem.W PySem.Calls PyProof.Rows
theorem PySem.Challenge.cw_soleseat_k87_porters_holds : PySem.Challenge.rw_soleseat_k87_porters.Holds := by
  w_on; o_law
  refine HandSHeadRun.head_any (r := OpenLaw.row PySem.Challenge.rw_soleseat_k87_porters) (q := view (OpenLaw.row PySem.Challenge.rw_soleseat_k87_porters).prog [36]) (H := Ly.hk) (ob := Ly.ob) (M := 6000) (loose := Ly.looseN) (d := HandSHeadRun.topDef (OpenLaw.row PySem.Challenge.rw_soleseat_k87_porters).prog 36) (kwd := []) Ly.ob_eq
    (by kernel_rfl) (fun s => by kernel_rfl) Ly.run (by kernel_rfl) (by kernel_rfl) (by kernel_rfl) (by rfl) (by first | assumption | decide +kernel) (by decide +kernel) ⟨rfl, rfl, rfl, rfl, rfl, by decide +kernel⟩ ?hw ?hc
  case hw => w_witness2
  case hc =>
    refine Ly.walk_end (l := PySem.Challenge.rw_soleseat_k87_porters) (n := 63) (k := 9) (x := "script") rfl (by decide) (by kernel_rfl) ⟨rfl, by decide, by decide⟩ ?F
    intro w mg fa h Y N hmg0
    obtain ⟨K, KX, c⟩ := Y
    have hmg : mg ("law" : PySem.Str) = some (.ref fa) := by
      have e : (HandSHeadRun.topDef (OpenLaw.row PySem.Challenge.rw_soleseat_k87_porters).prog 36).name = ("law" : PySem.Str) := by kernel_rfl
      rw [← e]
      exact hmg0
    have D0 : Ly.Hd ⟨(PySem.Challenge.rw_soleseat_k87_porters).prog, w, K, mg, h⟩ := Ly.hd_of KX N c
    have e := hmg.symm.trans D0.g_law
    cases e
    obtain ⟨fd, F⟩ := c.def_ 18 rfl
    refine ⟨K, fd, Ly.spLaw ⟨(PySem.Challenge.rw_soleseat_k87_porters).prog, w, K, mg, h⟩, KX, fun s v => L2.FunD.bindsA (ps := ["script"]) F (fun _ _ _ _ _ _ us hl => match us, hl with | [_], _ => rfl) s [v] rfl, fun H a ns hl hb hS => ⟨a, ns, [], _, rfl, List.mem_cons_self, hb, by omega, Ly.start_wd hS, fun _ => rfl⟩, fun base KB NB => ?_⟩
    have D : Ly.Hd ⟨(PySem.Challenge.rw_soleseat_k87_porters).prog, w, K, mg, base⟩ := Ly.hd_of KB NB c
    exact L2.FunD.ok F Ly.sc_law_k87 (fun vs H Q E h => by obtain ⟨_, _, _, _, rfl, _⟩ := h; rfl) fun cdv A outer s H vs Q E hr h => ⟨_, (Ly.d_law_k87 D.top cdv A outer s H E hr).nox, Ly.w_law87 (k0 := 7) (E := E) ⟨⟨hr.mono (by decide), D.c_Porter, D.c_Puppet, ((Ly.ok_law_deeds D).up (by decide)), ((Ly.ok_law_due D).up (by decide)), ((Ly.ok_law_pairs D).up (by decide)), ((Ly.ok_Porter_hear D).up (by decide))⟩, hr.mono (by decide), ((Ly.ok_law_box D).up (by decide)), ((Ly.ok_law_pick D).up (by decide)), ((Ly.ok_law_unlike D).up (by decide)), ((Ly.ok_law_plays D).up (by decide)), D.g_Porter, D.g_Puppet, ((Ly.ok_Porter_init D).up (by decide)), ((Ly.ok_Puppet_init D).up (by decide))⟩ h⟩
