import PyProof.Rows.All
import PySem.Challenge.RW_soleseat_k85_paths
import Wide.All
import OpenK.AllK
import Wide.FinOn
import HandS.ForMost
import HandS.Exc
import HandS.ExcOwn
import HandS.WordsExc
import HandS.Defaults
import HandS.Codes
import HandS.Flow
import HandS.Wide
import HandS.WideMore
import HandS.IsInst
import HandS.TupAny
import HandS.Conv
import HandS.More
import HandS.Strs
import HandS.ClsMeth
import KE.KUnpackStar
import HandS.Small
import HandS.Zip
import HandS.TupLen
import HandS.WordsDict
import HandS.RaiseMore
import KE.GoesEnumKw
import HandS.Walk
import HandS.HeadHook2
import HandS.HeadHook4
import HandS.HeadNt
import HandS.EndBits
import HandS.Head2
import HandS.HeadEnd
import KE.GoesMore
import KE.GoesZip
import KE.KCallOwn
import OpenK.KOps
import HandS.Style
import HandS.WideBits
import HandS.MakeKwOnly
import HandS.Deep
import HandS.Text
import HandS.ExcInit
import HandS.ExcField
import HandS.ExcIs
import HandS.FStr
import KE.KExcIs
import KE.KExcInit
import PyProof.NeKinds
import KE.KDictPairs
set_option Elab.async false
set_option linter.all false
set_option maxRecDepth 100000
set_option maxHeartbeats 4000000
namespace Ly
open PySem PySem.Spec PyProof.Rows L2
structure G where
  P : Program
  w : World
  K : PySem.W.Frag
  mg : Str → Option Value
  base : Heap
def Fk (g : G) (k : Nat) (sp : Sp) (f : Addr) : Prop := ∃ (fd : FuncData) (ps : List Str) (ds : List Value) (dvs : List V) (sp0 : Sp),
  PySem.W.keepIn g.K (.ref f) = true ∧ FnOk g.P g.w g.K g.mg g.base (L2.CX g.P g.w) k f fd ps sp0 ∧ Binds g.K fd ps ds ∧ Vals dvs ds ∧ ∀ vs H Q E, sp vs H Q E → sp0 (vs ++ dvs) H Q E
def GF (g : G) (k : Nat) (x : Str) (sp : Sp) : Prop := ∃ f, g.mg x = some (.ref f) ∧ Fk g k sp f
def MF (g : G) (k : Nat) (C : Addr) (m : Str) (sp : Sp) : Prop := ∃ f, Meth g.K C m f ∧ Fk g k sp f
def IF (g : G) (k : Nat) (C : Addr) (sp : Sp) : Prop := ∃ f, Mk g.K C f ∧ Fk g k sp f
theorem Fk.imp {g : G} {k : Nat} {sp sp' : Sp} {f : Addr} (F : Fk g k sp f) (h : ∀ vs H Q E, sp' vs H Q E → sp vs H Q E) : Fk g k sp' f := by
  obtain ⟨fd, ps, ds, dvs, sp0, a, b, c, d, e⟩ := F
  exact ⟨fd, ps, ds, dvs, sp0, a, b, c, d, fun vs H Q E z => e vs H Q E (h vs H Q E z)⟩
theorem GF.imp {g : G} {k : Nat} {sp sp' : Sp} {x : Str} (F : GF g k x sp) (h : ∀ vs H Q E, sp' vs H Q E → sp vs H Q E) : GF g k x sp' := let ⟨f, a, b⟩ := F; ⟨f, a, b.imp h⟩
theorem MF.imp {g : G} {k : Nat} {C : Addr} {m : Str} {sp sp' : Sp} (F : MF g k C m sp) (h : ∀ vs H Q E, sp' vs H Q E → sp vs H Q E) : MF g k C m sp' := let ⟨f, a, b⟩ := F; ⟨f, a, b.imp h⟩
def Kn (g : G) (x : Str) : Prop := ∃ f, g.mg x = some (.ref f) ∧ PySem.W.keepIn g.K (.ref f) = true
abbrev gOf (X : Cx) : G := ⟨X.prog, X.w, X.K, X.mg, X.base⟩
def kCall (g : G) (A : Around) (x : Str) (E : XK) : List V → Hp → VK → Prop := fun vs H Q => ∃ k sp, Room k A ∧ GF g k x sp ∧ sp vs H Q E
def tCallG (g : G) (A : Around) (x : Str) (E : XK) (t : TA) : TE := fun σ H Q => t σ H fun vs H1 => kCall g A x E vs H1 Q
def kMake (g : G) (A : Around) (x : Str) (E : XK) : List V → Hp → VK → Prop := fun vs H Q => ∃ k sp C, Room (k + 1) A ∧ g.mg x = some (.ref C) ∧ IF g k C sp ∧
  ∀ p dx, H p = none → H dx = none → dx ≠ p → sp (.ref p :: vs) (upd (upd H dx (.own p)) p (.ins C dx [])) (fun v H2 => v = .non ∧ Q (.ref p) H2) E
def tMakeG (g : G) (A : Around) (x : Str) (E : XK) (t : TA) : TE := fun σ H Q => t σ H fun vs H1 => kMake g A x E vs H1 Q
def tMethG (g : G) (A : Around) (m : Str) (E : XK) (ta : TE) (t : TA) : TE := fun σ H Q => ta σ H fun x H1 => ∃ a C dx fs, x = .ref a ∧ H1 a = some (.ins C dx fs) ∧ Cls g.K C ∧ fs.lookup m = none ∧ (∃ f, Meth g.K C m f) ∧
  t σ H1 fun vs H2 => ∃ k sp, Room k A ∧ MF g k C m sp ∧ sp (x :: vs) H2 Q E
section
variable {X : Cx} {E : XK} {x m : Str} {p pos apos : Pos} {e o : Expr} {es : List Expr} {ta : TE} {t : TA}
theorem run_Fk {pins : List (Addr × Obj)} {σ : L2.St} {H : Hp} {s : Shared} {Q : VK} {us : List Value} {vs : List V} {k : Nat} {sp : Sp} {f : Addr} (F : Fk (gOf X) k sp f) (hr : Room k X.A) (hx : Passes (L2.CX X.prog X.w) X E)
    (I : Inv X pins σ H s) (r : Vals vs us) (h : sp vs H Q E) : wpAny (model X.prog X.w) X.A (call (.ref f) us) (EP X pins σ Q) X.xe s := by
  obtain ⟨fd, ps, ds, dvs, sp0, kp, F, hb, hd, im⟩ := F
  exact run_fn F hr hb hd hx I r (im _ _ _ _ h)
theorem pe_callG (hm : Kn (gOf X) x) (hx : Passes (L2.CX X.prog X.w) X E) (ha : PA X (e :: es) t) (hg : Gl X x := by rfl) (hdb : (x == ("__debug__" : Str)) = false := by decide) (he : starEach (e :: es) X.env = (false, eval e X.env) :: starEach es X.env := by rfl)
    (hpl : (backTo pos (starEach es X.env)).any (·.1) = false := by rfl) : PE X (.Call (.Name x p) (e :: es) [] pos) (tCallG (gOf X) X.A x E t) := by
  obtain ⟨f, hm, hk⟩ := hm
  refine ⟨fun pins s σ H Q I h => ?_⟩
  refine wpAny_Call_Name_kw (ld_glob I hg hm ?_ hdb)
  refine PySem.W.callWith_K (h₀ := X.base) I.ok.mod.kin hk (thn (ha.run pos pins s σ H _ I h) fun us s1 ⟨vs, H1, I1, r, q⟩ => ⟨I1.kIn, ?_⟩) he hpl
  obtain ⟨k, sp, hr, ⟨f', hm', F⟩, q⟩ := q
  have hm2 : X.mg x = some (.ref f') := hm'
  have hm1 : X.mg x = some (.ref f) := hm
  rw [hm1] at hm2
  cases hm2
  exact run_Fk F hr hx I1 r q
theorem pe_callG0 (hm : Kn (gOf X) x) (hx : Passes (L2.CX X.prog X.w) X E) (hg : Gl X x := by rfl) (hdb : (x == ("__debug__" : Str)) = false := by decide) : PE X (.Call (.Name x p) [] [] pos) (tCallG (gOf X) X.A x E tNil) := by
  obtain ⟨f, hm, hk⟩ := hm
  refine ⟨fun pins s σ H Q I h => ?_⟩
  refine wpAny_Call_Name_kw (ld_glob I hg hm ?_ hdb)
  obtain ⟨k, sp, hr, ⟨f', hm', F⟩, q⟩ := h
  have hm2 : X.mg x = some (.ref f') := hm'
  have hm1 : X.mg x = some (.ref f) := hm
  rw [hm1] at hm2
  cases hm2
  exact PySem.W.callWith_K0 I.kIn hk (run_Fk (us := []) F hr hx I .nil q)
theorem run_make2 {pins : List (Addr × Obj)} {σ : L2.St} {H : Hp} {s : Shared} {Q : VK} {us : List Value} {vs : List V} {k : Nat} {sp : Sp} {C : Addr} (F : IF (gOf X) k C sp) (hr : Room (k + 1) X.A) (hx : Passes (L2.CX X.prog X.w) X E)
    (I : Inv X pins σ H s) (r : Vals vs us) (h : ∀ x dx, H x = none → H dx = none → dx ≠ x → sp (.ref x :: vs) (upd (upd H dx (.own x)) x (.ins C dx [])) (fun v H2 => v = .non ∧ Q (.ref x) H2) E) :
    wpAny (model X.prog X.w) X.A (call (.ref C) us) (EP X pins σ Q) X.xe s := by
  obtain ⟨f, M, fd, ps, ds, dvs, sp0, kp, F, hb, hd, im⟩ := F
  exact run_make M F hr hb hd hx I r fun x dx a b c => im _ _ _ _ (h x dx a b c)
theorem pe_makeG (hm : Kn (gOf X) x) (hx : Passes (L2.CX X.prog X.w) X E) (ha : PA X (e :: es) t) (hg : Gl X x := by rfl) (hdb : (x == ("__debug__" : Str)) = false := by decide) (he : starEach (e :: es) X.env = (false, eval e X.env) :: starEach es X.env := by rfl)
    (hpl : (backTo pos (starEach es X.env)).any (·.1) = false := by rfl) : PE X (.Call (.Name x p) (e :: es) [] pos) (tMakeG (gOf X) X.A x E t) := by
  obtain ⟨f, hm, hk⟩ := hm
  refine ⟨fun pins s σ H Q I h => ?_⟩
  refine wpAny_Call_Name_kw (ld_glob I hg hm ?_ hdb)
  refine PySem.W.callWith_K (h₀ := X.base) I.ok.mod.kin hk (thn (ha.run pos pins s σ H _ I h) fun us s1 ⟨vs, H1, I1, r, q⟩ => ⟨I1.kIn, ?_⟩) he hpl
  obtain ⟨k, sp, C, hr, hm', F, q⟩ := q
  have hm2 : X.mg x = some (.ref C) := hm'
  have hm1 : X.mg x = some (.ref f) := hm
  rw [hm1] at hm2
  cases hm2
  exact run_make2 F hr hx I1 r q
theorem pe_makeG0 (hm : Kn (gOf X) x) (hx : Passes (L2.CX X.prog X.w) X E) (hg : Gl X x := by rfl) (hdb : (x == ("__debug__" : Str)) = false := by decide) : PE X (.Call (.Name x p) [] [] pos) (tMakeG (gOf X) X.A x E tNil) := by
  obtain ⟨f, hm, hk⟩ := hm
  refine ⟨fun pins s σ H Q I h => ?_⟩
  refine wpAny_Call_Name_kw (ld_glob I hg hm ?_ hdb)
  obtain ⟨k, sp, C, hr, hm', F, q⟩ := h
  have hm2 : X.mg x = some (.ref C) := hm'
  have hm1 : X.mg x = some (.ref f) := hm
  rw [hm1] at hm2
  cases hm2
  exact PySem.W.callWith_K0 I.kIn hk (run_make2 (us := []) F hr hx I .nil q)
theorem pe_methG {pl : Sem Bool} (hx : Passes (L2.CX X.prog X.w) X E) (he : PE X o ta) (ha : PA X (e :: es) t)
    (hst : starEach (e :: es) X.env = (false, eval e X.env) :: starEach es X.env := by rfl) (hpl : (backTo pos (starEach es X.env)).any (·.1) = false := by rfl)
    (ht : eval (.Call (.Attribute o m apos) (e :: es) [] pos) X.env = (do
      let ov ← eval o X.env
      standAt apos.atName
      let (f, first) ← holding [ov] (getMethod ov m pl)
      callWith pos f first (backTo pos (starEach (e :: es) X.env)) (backToKw pos (keywordEach [] X.env))) := by rfl) :
    PE X (.Call (.Attribute o m apos) (e :: es) [] pos) (tMethG (gOf X) X.A m E ta t) := by
  refine ⟨fun pins s σ H Q I h => ?_⟩
  refine PySem.W.methodCall_KW (pl := pl) (thn (he.run pins s σ H _ I h) fun u s1 ⟨x, H1, I1, rx, a, C, dx, fs, ex, ea, c, l, ⟨f, hm⟩, q⟩ => ?_) ht
  subst ex
  obtain rfl : u = Value.ref a := rx
  refine getmeth_ok I1 ea c hm l ?_
  refine PySem.W.callWith_K (first := [.ref a]) (h₀ := X.base) I.ok.mod.kin hm.kp (thn (ha.run pos pins s1 σ H1 _ I1 q) fun us s2 ⟨vs, H2, I2, r, k, sp, hr, ⟨f', hm', F⟩, q2⟩ => ⟨I2.kIn, ?_⟩) hst hpl
  have e1 := hm.at_
  have e2 : PySem.W.findIn X.K (.ref C) m = some (some (.ref f')) := hm'.at_
  rw [e1] at e2
  cases e2
  exact run_Fk (us := .ref a :: us) (vs := .ref a :: vs) F hr hx I2 (.cons rfl r) q2
theorem pe_methG0 {pl : Sem Bool} (hx : Passes (L2.CX X.prog X.w) X E) (he : PE X o ta)
    (ht : eval (.Call (.Attribute o m apos) [] [] pos) X.env = (do
      let ov ← eval o X.env
      standAt apos.atName
      let (f, first) ← holding [ov] (getMethod ov m pl)
      callWith pos f first (backTo pos (starEach [] X.env)) (backToKw pos (keywordEach [] X.env))) := by rfl) :
    PE X (.Call (.Attribute o m apos) [] [] pos) (tMethG (gOf X) X.A m E ta tNil) := by
  refine ⟨fun pins s σ H Q I h => ?_⟩
  refine PySem.W.methodCall_KW (pl := pl) (thn (he.run pins s σ H _ I h) fun u s1 ⟨x, H1, I1, rx, a, C, dx, fs, ex, ea, c, l, ⟨f, hm⟩, k, sp, hr, ⟨f', hm', F⟩, q⟩ => ?_) ht
  subst ex
  obtain rfl : u = Value.ref a := rx
  refine getmeth_ok I1 ea c hm l ?_
  have e1 := hm.at_
  have e2 : PySem.W.findIn X.K (.ref C) m = some (some (.ref f')) := hm'.at_
  rw [e1] at e2
  cases e2
  exact PySem.W.callWith_K0 (first := [.ref a]) I1.kIn hm.kp (run_Fk (us := [.ref a]) (vs := [.ref a]) F hr hx I1 (.cons rfl .nil) q)
end
abbrev Fct := Hp → Prop
def Stab (F : Fct) : Prop := ∀ B B', Same B B' → F B → F B'
structure Wd (L : List (Addr × HO)) (D : List Fct) (H : Hp) : Prop where
  ex : ∃ B : Hp, Same B H ∧ (∀ F ∈ D, Stab F ∧ F B) ∧ ∀ x ∈ L, H x.1 = some x.2 ∧ B x.1 = none
  nd : (L.map Prod.fst).Nodup
section
variable {L L' : List (Addr × HO)} {D D' : List Fct} {H : Hp} {p : Addr} {o o' : HO} {F : Fct}
theorem Wd.fact (W : Wd L D H) (h : F ∈ D) : F H := by
  obtain ⟨B, s, d, _⟩ := W.ex
  exact (d F h).1 B H s (d F h).2
theorem Wd.stab (W : Wd L D H) (h : F ∈ D) : Stab F := by
  obtain ⟨B, s, d, _⟩ := W.ex
  exact (d F h).1
theorem Wd.at_ (W : Wd L D H) (h : (p, o) ∈ L) : H p = some o := by
  obtain ⟨B, s, d, l⟩ := W.ex
  exact (l _ h).1
theorem Wd.fresh (W : Wd L D H) (hp : H p = none) : p ∉ L.map Prod.fst := by
  intro h
  obtain ⟨x, hx, e⟩ := List.mem_map.mp h
  obtain ⟨B, s, d, l⟩ := W.ex
  have := (l x hx).1
  rw [e, hp] at this
  cases this
theorem Wd.new (W : Wd L D H) (hp : H p = none) (o : HO) : Wd ((p, o) :: L) D (upd H p o) := by
  have fr := W.fresh hp
  obtain ⟨B, s, d, l⟩ := W.ex
  refine ⟨⟨B, fun b u e => ?_, d, fun x hx => ?_⟩, ?_⟩
  · rw [upd_ne (ne_of_none (s b u e) hp)]
    exact s b u e
  · rcases List.mem_cons.mp hx with e | hx
    · subst e
      exact ⟨upd_same, s.free hp⟩
    · obtain ⟨h1, h2⟩ := l x hx
      exact ⟨by rw [upd_ne (ne_of_none h1 hp)]; exact h1, h2⟩
  · rw [List.map_cons]
    exact List.nodup_cons.mpr ⟨fr, W.nd⟩
theorem Wd.put (W : Wd ((p, o) :: L) D H) (o' : HO) : Wd ((p, o') :: L) D (upd H p o') := by
  have nd := W.nd
  obtain ⟨B, s, d, l⟩ := W.ex
  have hp := l (p, o) List.mem_cons_self
  refine ⟨⟨B, fun b u e => ?_, d, fun x hx => ?_⟩, nd⟩
  · have ne : b ≠ p := fun q => by
      rw [q, hp.2] at e
      cases e
    rw [upd_ne ne]
    exact s b u e
  · rcases List.mem_cons.mp hx with e | hx
    · subst e
      exact ⟨upd_same, hp.2⟩
    · obtain ⟨h1, h2⟩ := l x (List.mem_cons_of_mem _ hx)
      have ne : x.1 ≠ p := fun q => (List.nodup_cons.mp nd).1 (by rw [← q]; exact List.mem_map.mpr ⟨x, hx, rfl⟩)
      exact ⟨by rw [upd_ne ne]; exact h1, h2⟩
theorem Wd.perm (W : Wd L D H) (h : L.Perm L') : Wd L' D H := by
  obtain ⟨B, s, d, l⟩ := W.ex
  exact ⟨⟨B, s, d, fun x hx => l x (h.mem_iff.mpr hx)⟩, (h.map Prod.fst).nodup_iff.mp W.nd⟩
theorem Wd.sub (W : Wd L D H) (hl : L'.Sublist L) (hd : ∀ F ∈ D', F ∈ D) : Wd L' D' H := by
  obtain ⟨B, s, d, l⟩ := W.ex
  exact ⟨⟨B, s, fun F hF => d F (hd F hF), fun x hx => l x (hl.subset hx)⟩, W.nd.sublist (hl.map Prod.fst)⟩
theorem Wd.dO {x : Addr × HO} (W : Wd (x :: L) D H) : Wd L D H := W.sub (List.sublist_cons_self _ _) fun _ h => h
theorem Wd.dF (W : Wd L (F :: D) H) : Wd L D H := W.sub (List.Sublist.refl _) fun _ h => List.mem_cons_of_mem _ h
theorem Wd.wk (W : Wd L D H) (hd : ∀ F ∈ D', F ∈ D) : Wd L D' H := W.sub (List.Sublist.refl _) hd
section
variable {a b c d e f g : Addr × HO}
theorem Wd.mv1 (W : Wd (a :: b :: L) D H) : Wd (b :: a :: L) D H := W.perm (List.Perm.swap _ _ _)
theorem Wd.mv2 (W : Wd (a :: b :: c :: L) D H) : Wd (c :: a :: b :: L) D H := W.perm ((List.Perm.cons _ (List.Perm.swap _ _ _)).trans (List.Perm.swap _ _ _))
theorem Wd.mv3 (W : Wd (a :: b :: c :: d :: L) D H) : Wd (d :: a :: b :: c :: L) D H := W.perm ((List.Perm.cons _ ((List.Perm.cons _ (List.Perm.swap _ _ _)).trans (List.Perm.swap _ _ _))).trans (List.Perm.swap _ _ _))
theorem mvP {α : Type} {x : α} {l r : List α} (h : l.Perm (x :: r)) {y : α} : (y :: l).Perm (x :: y :: r) := (List.Perm.cons _ h).trans (List.Perm.swap _ _ _)
theorem Wd.mv4 (W : Wd (a :: b :: c :: d :: e :: L) D H) : Wd (e :: a :: b :: c :: d :: L) D H := W.perm (mvP (mvP (mvP (mvP (List.Perm.refl _)))))
theorem Wd.mv5 (W : Wd (a :: b :: c :: d :: e :: f :: L) D H) : Wd (f :: a :: b :: c :: d :: e :: L) D H := W.perm (mvP (mvP (mvP (mvP (mvP (List.Perm.refl _))))))
theorem Wd.mv6 (W : Wd (a :: b :: c :: d :: e :: f :: g :: L) D H) : Wd (g :: a :: b :: c :: d :: e :: f :: L) D H := W.perm (mvP (mvP (mvP (mvP (mvP (mvP (List.Perm.refl _)))))))
end
theorem Wd.ne {q : Addr} {u : HO} (W : Wd ((p, o) :: L) D H) (h : (q, u) ∈ L) : q ≠ p := fun e =>
  (List.nodup_cons.mp W.nd).1 (by rw [← e]; exact List.mem_map.mpr ⟨(q, u), h, rfl⟩)
theorem Wd.der (W : Wd L D H) (hs : Stab F) (h : ∀ B, (∀ G ∈ D, G B) → F B) : Wd L (F :: D) H := by
  obtain ⟨B, s, d, l⟩ := W.ex
  refine ⟨⟨B, s, fun G hG => ?_, l⟩, W.nd⟩
  rcases List.mem_cons.mp hG with e | hG
  · subst e
    exact ⟨hs, h B fun G hG => (d G hG).2⟩
  · exact d G hG
theorem Wd.frz (W : Wd ((p, o) :: L) D H) (hs : Stab F) (h : ∀ B, (∀ G ∈ D, G B) → B p = some o → F B) : Wd L (F :: D) H := by
  have nd := W.nd
  obtain ⟨B, s, d, l⟩ := W.ex
  have hp := l (p, o) List.mem_cons_self
  have sB : Same B (upd B p o) := fun b u e => by
    rw [upd_ne (ne_of_none e hp.2)]
    exact e
  refine ⟨⟨upd B p o, fun b u e => ?_, fun G hG => ?_, fun x hx => ?_⟩, (List.nodup_cons.mp nd).2⟩
  · by_cases q : b = p
    · subst q
      rw [upd_same] at e
      cases e
      exact hp.1
    · rw [upd_ne q] at e
      exact s b u e
  · rcases List.mem_cons.mp hG with e | hG
    · subst e
      exact ⟨hs, h _ (fun G hG => (d G hG).1 _ _ sB (d G hG).2) upd_same⟩
    · exact ⟨(d G hG).1, (d G hG).1 _ _ sB (d G hG).2⟩
  · obtain ⟨h1, h2⟩ := l x (List.mem_cons_of_mem _ hx)
    refine ⟨h1, ?_⟩
    have ne : x.1 ≠ p := fun q => (List.nodup_cons.mp nd).1 (by rw [← q]; exact List.mem_map.mpr ⟨x, hx, rfl⟩)
    rw [upd_ne ne]
    exact h2
end
theorem Same.tup {K : PySem.W.Frag} {H H' : Hp} {a : Addr} {xs : List V} (e : Same H H') (h : SqT K H a xs) : SqT K H' a xs := by
  rcases h with (h | ⟨o, h⟩) | h
  · exact .inl (.inl (e _ _ h))
  · exact .inl (.inr ⟨o, e _ _ h⟩)
  · exact .inr h
mutual
theorem dp_stab {K : PySem.W.Frag} {B B' : Hp} (s : Same B B') : ∀ {v : V} {d : PyData}, Dp K B v d → Dp K B' v d
  | _, _, .non => .non
  | _, _, .bl b => .bl b
  | _, _, .int i => .int i
  | _, _, .str x => .str x
  | _, _, .lst h r => .lst (s.seq h) (dpAll_stab s r)
  | _, _, .tup h r => .tup (Same.tup s h) (dpAll_stab s r)
theorem dpAll_stab {K : PySem.W.Frag} {B B' : Hp} (s : Same B B') : ∀ {vs : List V} {ds : List PyData}, DpAll K B vs ds → DpAll K B' vs ds
  | _, _, .nil => .nil
  | _, _, .cons h r => .cons (dp_stab s h) (dpAll_stab s r)
end
def isD (K : PySem.W.Frag) (v : V) (d : PyData) : Fct := fun B => Dp K B v d
def isDs (K : PySem.W.Frag) (vs : List V) (ds : List PyData) : Fct := fun B => DpAll K B vs ds
theorem isD_stab {K : PySem.W.Frag} {v : V} {d : PyData} : Stab (isD K v d) := fun _ _ s h => dp_stab s h
theorem isDs_stab {K : PySem.W.Frag} {vs : List V} {ds : List PyData} : Stab (isDs K vs ds) := fun _ _ s h => dpAll_stab s h
theorem dpAll_len {K : PySem.W.Frag} {B : Hp} : ∀ {vs : List V} {ds : List PyData}, DpAll K B vs ds → vs.length = ds.length
  | _, _, .nil => rfl
  | _, _, .cons _ r => congrArg Nat.succ (dpAll_len r)
theorem dpAll_app {K : PySem.W.Frag} {B : Hp} : ∀ {vs ws : List V} {ds es : List PyData}, DpAll K B vs ds → DpAll K B ws es → DpAll K B (vs ++ ws) (ds ++ es)
  | _, _, _, _, .nil, h => h
  | _, _, _, _, .cons a r, h => .cons a (dpAll_app r h)
theorem dpAll_get {K : PySem.W.Frag} {B : Hp} : ∀ {vs : List V} {ds : List PyData} {i : Nat} {v : V}, DpAll K B vs ds → vs[i]? = some v → ∃ d, ds[i]? = some d ∧ Dp K B v d
  | _, _, _, _, .nil, e => by simp at e
  | _, _, 0, _, .cons a _, e => by simp at e; subst e; exact ⟨_, rfl, a⟩
  | _, _, i + 1, _, .cons _ r, e => by
    obtain ⟨d, h1, h2⟩ := dpAll_get (i := i) r (by simpa using e)
    exact ⟨d, by simpa using h1, h2⟩
theorem dpAll_getD {K : PySem.W.Frag} {B : Hp} : ∀ {vs : List V} {ds : List PyData} {i : Nat} {d : PyData}, DpAll K B vs ds → ds[i]? = some d → ∃ v, vs[i]? = some v ∧ Dp K B v d
  | _, _, _, _, .nil, e => by simp at e
  | _, _, 0, _, .cons a _, e => by simp at e; subst e; exact ⟨_, rfl, a⟩
  | _, _, i + 1, _, .cons _ r, e => by
    obtain ⟨d, h1, h2⟩ := dpAll_getD (i := i) r (by simpa using e)
    exact ⟨d, by simpa using h1, h2⟩
theorem dpAll_drop {K : PySem.W.Frag} {B : Hp} : ∀ {vs : List V} {ds : List PyData} (n : Nat), DpAll K B vs ds → DpAll K B (vs.drop n) (ds.drop n)
  | _, _, 0, h => h
  | _, _, _ + 1, .nil => .nil
  | _, _, n + 1, .cons _ r => dpAll_drop n r
theorem dpAll_take {K : PySem.W.Frag} {B : Hp} : ∀ {vs : List V} {ds : List PyData} (n : Nat), DpAll K B vs ds → DpAll K B (vs.take n) (ds.take n)
  | _, _, 0, _ => .nil
  | _, _, _ + 1, .nil => .nil
  | _, _, n + 1, .cons a r => .cons a (dpAll_take n r)
theorem dpAll_ints {K : PySem.W.Frag} {B : Hp} : ∀ ns : List Int, DpAll K B (ns.map V.int) (ns.map PyData.int)
  | [] => .nil
  | n :: r => .cons (.int n) (dpAll_ints r)
theorem ints_of {K : PySem.W.Frag} {B : Hp} : ∀ {vs : List V} {ns : List Int}, DpAll K B vs (ns.map PyData.int) → vs = ns.map V.int
  | _, [], .nil => rfl
  | _, n :: r, .cons h t => by
    cases h
    rw [ints_of t]
    rfl
inductive Fl : V → PyData → Prop
  | non : Fl .non .none
  | bl (b : Bool) : Fl (.bl b) (.bool b)
  | int (i : Int) : Fl (.int i) (.int i)
  | str (x : Str) : Fl (.str x) (.str x)
theorem Fl.dp {K : PySem.W.Frag} {B : Hp} {v : V} {d : PyData} : Fl v d → Dp K B v d
  | .non => .non
  | .bl b => .bl b
  | .int i => .int i
  | .str x => .str x
section
variable {K : PySem.W.Frag} {L : List (Addr × HO)} {D : List Fct} {H : Hp} {p a : Addr} {o : HO} {v : V} {d : PyData} {vs xs : List V} {ds : List PyData}
def Has (K : PySem.W.Frag) (D : List Fct) (v : V) (d : PyData) : Prop := ∀ B, (∀ G ∈ D, G B) → Dp K B v d
def HasAll (K : PySem.W.Frag) (D : List Fct) (vs : List V) (ds : List PyData) : Prop := ∀ B, (∀ G ∈ D, G B) → DpAll K B vs ds
theorem has_fl (h : Fl v d) : Has K D v d := fun _ _ => h.dp
theorem has_mem (h : isD K v d ∈ D) : Has K D v d := fun _ b => b _ h
theorem hasAll_mem (h : isDs K vs ds ∈ D) : HasAll K D vs ds := fun _ b => b _ h
theorem hasAll_nil : HasAll K D [] [] := fun _ _ => .nil
theorem hasAll_cons (h : Has K D v d) (r : HasAll K D vs ds) : HasAll K D (v :: vs) (d :: ds) := fun B b => .cons (h B b) (r B b)
theorem hasAll_app {ws : List V} {es : List PyData} (h : HasAll K D vs ds) (r : HasAll K D ws es) : HasAll K D (vs ++ ws) (ds ++ es) := fun B b => dpAll_app (h B b) (r B b)
theorem hasAll_ints (ns : List Int) : HasAll K D (ns.map V.int) (ns.map PyData.int) := fun _ _ => dpAll_ints ns
theorem Wd.has (W : Wd L D H) (h : Has K D v d) : Dp K H v d := by
  obtain ⟨B, s, dd, _⟩ := W.ex
  exact dp_stab s (h B fun G hG => (dd G hG).2)
theorem Wd.hasAll (W : Wd L D H) (h : HasAll K D vs ds) : DpAll K H vs ds := by
  obtain ⟨B, s, dd, _⟩ := W.ex
  exact dpAll_stab s (h B fun G hG => (dd G hG).2)
theorem Wd.addD (W : Wd L D H) (h : Has K D v d) : Wd L (isD K v d :: D) H := W.der isD_stab h
theorem Wd.addDs (W : Wd L D H) (h : HasAll K D vs ds) : Wd L (isDs K vs ds :: D) H := W.der isDs_stab h
theorem Wd.frzL (W : Wd ((p, .lst vs) :: L) D H) (h : HasAll K D vs ds) : Wd L (isD K (.ref p) (.list ds) :: D) H := W.frz isD_stab fun B b e => .lst (SqL.of e) (h B b)
theorem Wd.frzT (W : Wd ((p, .tup vs) :: L) D H) (h : HasAll K D vs ds) : Wd L (isD K (.ref p) (.tuple ds) :: D) H := W.frz isD_stab fun B b e => .tup (SqT.of e) (h B b)
theorem Wd.openL (W : Wd L D H) (h : Has K D v (.list ds)) : ∃ (a : Addr) (xs : List V), v = .ref a ∧ xs.length = ds.length ∧ SqL K H a xs ∧ Wd L ((fun B => SqL K B a xs) :: isDs K xs ds :: D) H := by
  obtain ⟨B, s, dd, l⟩ := W.ex
  cases h B fun G hG => (dd G hG).2 with
  | @lst a xs _ q r =>
    refine ⟨a, xs, rfl, dpAll_len r, s.seq q, ⟨B, s, fun F hF => ?_, l⟩, W.nd⟩
    rcases List.mem_cons.mp hF with e | hF
    · subst e
      exact ⟨fun _ _ s => s.seq, q⟩
    · rcases List.mem_cons.mp hF with e | hF
      · subst e
        exact ⟨isDs_stab, r⟩
      · exact dd F hF
theorem Wd.openT (W : Wd L D H) (h : Has K D v (.tuple ds)) : ∃ (a : Addr) (xs : List V), v = .ref a ∧ xs.length = ds.length ∧ SqT K H a xs ∧ Wd L ((fun B => SqT K B a xs) :: isDs K xs ds :: D) H := by
  obtain ⟨B, s, dd, l⟩ := W.ex
  cases h B fun G hG => (dd G hG).2 with
  | @tup a xs _ q r =>
    refine ⟨a, xs, rfl, dpAll_len r, Same.tup s q, ⟨B, s, fun F hF => ?_, l⟩, W.nd⟩
    rcases List.mem_cons.mp hF with e | hF
    · subst e
      exact ⟨fun _ _ s => Same.tup s, q⟩
    · rcases List.mem_cons.mp hF with e | hF
      · subst e
        exact ⟨isDs_stab, r⟩
      · exact dd F hF
theorem Wd.item (W : Wd L D H) (h : HasAll K D xs ds) {i : Nat} (hd : ds[i]? = some d) : ∃ v, xs[i]? = some v ∧ Wd L (isD K v d :: D) H := by
  have q := W.hasAll h
  obtain ⟨v, hv, _⟩ := dpAll_getD q hd
  refine ⟨v, hv, W.addD fun B b => ?_⟩
  obtain ⟨d', e1, e2⟩ := dpAll_get (h B b) hv
  rw [hd] at e1
  cases e1
  exact e2
theorem Wd.itemV (W : Wd L D H) (h : HasAll K D xs ds) {i : Nat} (hv : xs[i]? = some v) : ∃ d, ds[i]? = some d ∧ Wd L (isD K v d :: D) H := by
  have q := W.hasAll h
  obtain ⟨d, hd, _⟩ := dpAll_get q hv
  refine ⟨d, hd, W.addD fun B b => ?_⟩
  obtain ⟨d', e1, e2⟩ := dpAll_get (h B b) hv
  rw [hd] at e1
  cases e1
  exact e2
end
section
variable {prog : Program} {w : World} {A : Around} {E : Value → Shared → Prop} {s : Shared} {env : Env}
theorem starL {l : Addr} {items : Array Value} {n i : Nat} {Q : List Value → Shared → Prop} (hl : s.heap.IsList l items) (hh : A.handled = none) (hi : i < n) (hn : n ≤ items.size + 1) (hz : items.size ≤ 16384)
    (h : ∀ (h' : Heap) (tk : Nat), (∀ b o, s.heap.get? b = some o → h'.get? b = some o) →
      Q (items.toList.take i ++ [.ref h'.objs.size] ++ (items.toList.drop i).drop (items.size + 1 - n)) { s with heap := h'.push { cls := .type "list", data := .seq ((items.toList.drop i).take (items.size + 1 - n)).toArray }, toks := tk }) : wpAny (model prog w) A (unpackItems (.ref l) n (some i)) Q E s := by
  have hlt : l ≠ s.heap.objs.size := by obtain ⟨o, ho, _⟩ := hl; exact Nat.ne_of_lt (Heap.lt_size ho)
  unfold unpackItems
  refine wpAny_bind ?_
  unfold notIterableAtAll
  refine wpAny_bind (wpAny_specialOf hl.typeIs slot_list_iter.lookup ?_)
  refine wpAny_pure ?_
  simp only [Bool.false_eq_true, if_false]
  refine wpAny_bind (wpAny_holding (wpAny_pyIter_list hl ?_))
  refine wpAny_bind (wpAny_holding (PySem.W.kun_draw hlt i 0 _ _ ⟨_, Heap.get?_push_size _ rfl, rfl, rfl⟩ (hl.push _) (by omega) fun h₁ hit₁ hs₁ => ?_))
  have hl₁ : h₁.IsList l items := (hl.push _).extBut hs₁.extBut hlt
  rw [Nat.zero_add] at hit₁
  have hit₁' := hit₁
  obtain ⟨oi, hoi, _⟩ := hit₁'
  have hl₁' := hl₁
  obtain ⟨ol, hol, _⟩ := hl₁'
  rw [List.drop_zero]
  have hfl : (items.toList.take i).length = i := by rw [List.length_take, Array.length_toList]; omega
  rw [if_neg (show ¬ ((items.toList.take i).length < i) by rw [hfl]; omega)]
  refine wpAny_bind (wpAny_holding (PySem.W.kun_collect (s := { s with heap := h₁ }) (T := "list_iterator") (.inr (.inr (.inl rfl))) (Walks.list (A := A.in1) hh s.heap.objs.size l hlt items) (fun j u st => st.1.typeIs) (k := i) (by omega) ⟨hit₁, hl₁⟩ (Heap.lt_size hoi) (Heap.lt_size hol) (fun h₂ tk hk => ?_) (by rw [sizeLine_eq]; omega)))
  have hrl : (items.toList.drop i).length = items.size - i := by rw [List.length_drop, Array.length_toList]
  have hmid : (items.toList.drop i).length - (n - 1 - i) = items.size + 1 - n := by rw [hrl]; omega
  show wpAny _ _ (if (items.toList.drop i).length < n - 1 - i then _ else _) _ _ _
  rw [if_neg (by rw [hrl]; omega)]
  show wpAny _ _ (newList ((items.toList.drop i).take ((items.toList.drop i).length - (n - 1 - i))) >>= fun d => pure (items.toList.take i ++ [d] ++ (items.toList.drop i).drop ((items.toList.drop i).length - (n - 1 - i)))) _ _ _
  rw [hmid]
  have keep : ∀ b o, s.heap.get? b = some o → h₂.get? b = some o := fun b o e => hk b o (Nat.ne_of_lt (Heap.lt_size e)) (hs₁.extBut b o (Nat.ne_of_lt (Heap.lt_size e)) (Heap.get?_push_of_some _ e))
  refine wpAny_bind (wpAny_newObj_type (wpAny_pure (h h₂ tk keep)) (by simp only [sizeOk]; rw [List.size_toArray, List.length_take, hrl, sizeLine_eq]; omega))
theorem starT {l : Addr} {items : Array Value} {n i : Nat} {Q : List Value → Shared → Prop} (hl : IsTup s.heap l items) (hh : A.handled = none) (hi : i < n) (hn : n ≤ items.size + 1) (hz : items.size ≤ 16384)
    (h : ∀ (h' : Heap) (tk : Nat), (∀ b o, s.heap.get? b = some o → h'.get? b = some o) →
      Q (items.toList.take i ++ [.ref h'.objs.size] ++ (items.toList.drop i).drop (items.size + 1 - n)) { s with heap := h'.push { cls := .type "list", data := .seq ((items.toList.drop i).take (items.size + 1 - n)).toArray }, toks := tk }) : wpAny (model prog w) A (unpackItems (.ref l) n (some i)) Q E s := by
  have hlt : l ≠ s.heap.objs.size := by obtain ⟨o, ho, _⟩ := hl; exact Nat.ne_of_lt (Heap.lt_size ho)
  unfold unpackItems
  refine wpAny_bind ?_
  unfold notIterableAtAll
  refine wpAny_bind (wpAny_specialOf hl.typeIs slot_tuple_iter.lookup ?_)
  refine wpAny_pure ?_
  simp only [Bool.false_eq_true, if_false]
  refine wpAny_bind (wpAny_holding (iter_tuple hl ?_))
  refine wpAny_bind (wpAny_holding (draw_tuple hlt i 0 _ _ ⟨_, Heap.get?_push_size _ rfl, rfl, rfl⟩ (hl.push _) (by omega) fun h₁ hit₁ hs₁ => ?_))
  have hl₁ : IsTup h₁ l items := (hl.push _).extBut hs₁.extBut hlt
  rw [Nat.zero_add] at hit₁
  have hit₁' := hit₁
  obtain ⟨oi, hoi, _⟩ := hit₁'
  have hl₁' := hl₁
  obtain ⟨ol, hol, _⟩ := hl₁'
  rw [List.drop_zero]
  have hfl : (items.toList.take i).length = i := by rw [List.length_take, Array.length_toList]; omega
  rw [if_neg (show ¬ ((items.toList.take i).length < i) by rw [hfl]; omega)]
  refine wpAny_bind (wpAny_holding (PySem.W.kun_collect (s := { s with heap := h₁ }) (T := "tuple_iterator") (.inr (.inr (.inr rfl))) (Walks.tuple (A := A.in1) hh s.heap.objs.size l hlt items) (fun j u st => st.1.typeIs) (k := i) (by omega) ⟨hit₁, hl₁⟩ (Heap.lt_size hoi) (Heap.lt_size hol) (fun h₂ tk hk => ?_) (by rw [sizeLine_eq]; omega)))
  have hrl : (items.toList.drop i).length = items.size - i := by rw [List.length_drop, Array.length_toList]
  have hmid : (items.toList.drop i).length - (n - 1 - i) = items.size + 1 - n := by rw [hrl]; omega
  show wpAny _ _ (if (items.toList.drop i).length < n - 1 - i then _ else _) _ _ _
  rw [if_neg (by rw [hrl]; omega)]
  show wpAny _ _ (newList ((items.toList.drop i).take ((items.toList.drop i).length - (n - 1 - i))) >>= fun d => pure (items.toList.take i ++ [d] ++ (items.toList.drop i).drop ((items.toList.drop i).length - (n - 1 - i)))) _ _ _
  rw [hmid]
  have keep : ∀ b o, s.heap.get? b = some o → h₂.get? b = some o := fun b o e => hk b o (Nat.ne_of_lt (Heap.lt_size e)) (hs₁.extBut b o (Nat.ne_of_lt (Heap.lt_size e)) (Heap.get?_push_of_some _ e))
  refine wpAny_bind (wpAny_newObj_type (wpAny_pure (h h₂ tk keep)) (by simp only [sizeOk]; rw [List.size_toArray, List.length_take, hrl, sizeLine_eq]; omega))
end
def gStar (K : PySem.W.Frag) (n i : Nat) (t : TGs) : TG := fun v σ H Q => ∃ a xs, v = .ref a ∧ (SqL K H a xs ∨ SqT K H a xs) ∧ n ≤ xs.length + 1 ∧ xs.length ≤ 16384 ∧
  ∀ D, H D = none → t (xs.take i ++ [.ref D] ++ (xs.drop i).drop (xs.length + 1 - n)) σ (upd H D (.lst ((xs.drop i).take (xs.length + 1 - n)))) Q
section
variable {X : Cx} {pos : Pos}
theorem pgs_star {e : Expr} {es : List Expr} {t : TG} {u : TGs} {p : Pos} (h1 : PG X e t) (h2 : PGs X es u)
    (hs : (assignEach (.Starred e p :: es) X.env).map (·.2) = assign e X.env :: (assignEach es X.env).map (·.2) := by rfl) : PGs X (.Starred e p :: es) (gCons t u) := by
  refine ⟨fun pins s σ H vs us Q I r h => ?_⟩
  obtain ⟨v, vr, e1, h⟩ := h
  subst e1
  cases r with
  | cons r rr =>
    rw [hs]
    refine assignInOrder_cons (thn (h1.run pins s σ H _ _ _ I r h) fun _ s1 ⟨σ1, H1, I1, q1⟩ => ?_)
    exact h2.run pins s1 σ1 H1 _ _ Q I1 rr q1
theorem pg_star {es : List Expr} {k : Nat} {t : TGs} {n i : Nat} (hc : X.calm = true) (h : PGs X es t) (hi : i < n := by decide)
    (hn : (assignEach es X.env).length = n := by rfl) (hst : (assignEach es X.env).findIdx? (·.1) = some i := by rfl) : PG X (.Tuple es k pos) (gStar X.K n i t) := by
  refine ⟨fun pins s σ H v u Q I r hw => ?_⟩
  obtain ⟨a, xs, e1, hq, hl, hz, hw⟩ := hw
  subst e1
  cases r
  rw [assign_Tuple]
  refine wpAny_bind (wpAny_standAt ?_)
  unfold unpack
  rw [hn, hst]
  have fin : ∀ (its : List Value) (rv : Vals xs its) (h' : Heap) (tk : Nat), (∀ b o, s.heap.get? b = some o → h'.get? b = some o) →
      wpAny (model X.prog X.w) X.A (assignInOrder ((assignEach es X.env).map (·.2)) (its.toArray.toList.take i ++ [.ref h'.objs.size] ++ (its.toArray.toList.drop i).drop (its.toArray.size + 1 - n))) (fun _ s' => ∃ σ' H', Inv X pins σ' H' s' ∧ Q σ' H') X.xe
        { s with heap := h'.push { cls := .type "list", data := .seq ((its.toArray.toList.drop i).take (its.toArray.size + 1 - n)).toArray }, toks := tk } := by
    intro its rv h' tk hk
    have hlen := rv.length
    have I1 : Inv X pins σ H { s with heap := h', toks := tk } := I.kept hk
    have es : its.toArray.size = xs.length := by rw [List.size_toArray, hlen]
    have I2 : Inv X pins σ (upd H h'.objs.size (.lst ((xs.drop i).take (xs.length + 1 - n)))) { s with heap := h'.push { cls := .type "list", data := .seq ((its.toArray.toList.drop i).take (its.toArray.size + 1 - n)).toArray }, toks := tk } :=
      I1.laid (t' := tk) (fun b ob q => Heap.get?_push_of_some _ q) (Nat.le_refl _) ⟨by rw [List.length_take, List.length_drop, sizeLine_eq]; omega, (its.drop i).take (xs.length + 1 - n), 0, (rv.drop i).take (xs.length + 1 - n), by
        rw [es]
        exact Heap.get?_push_size _ rfl⟩
    have q := hw h'.objs.size (I1.hok.fresh (Nat.le_refl _))
    refine h.run pins _ σ _ _ _ Q I2 ?_ q
    rw [es]
    exact ((rv.take i).append (.cons (show RelV (.ref _) (.ref _) from rfl) .nil)).append ((rv.drop i).drop _)
  refine wpAny_bind (wpAny_holding ?_)
  rcases hq with hq | hq
  · obtain ⟨its, rv, ht, _⟩ := I.list hq
    have es : its.toArray.size = xs.length := by rw [List.size_toArray, rv.length]
    exact starL ht.isList (I.ok.hd hc) hi (by rw [es]; exact hl) (by rw [es]; exact hz) (fin its rv)
  · obtain ⟨its, rv, ht, _⟩ := I.tuple hq
    have es : its.toArray.size = xs.length := by rw [List.size_toArray, rv.length]
    exact starT ht (I.ok.hd hc) hi (by rw [es]; exact hl) (by rw [es]; exact hz) (fin its rv)
end
def kBase (g : G) (A : Around) (C m : Str) (E : XK) : List V → Hp → VK → Prop := fun vs H Q => ∃ k sp f Ca, Room k A ∧ g.mg C = some (.ref Ca) ∧ ClX.CVal g.K Ca (.type "type") m (.ref f) (.ref f) ∧ Fk g k sp f ∧ sp vs H Q E
def tBaseG (g : G) (A : Around) (C m : Str) (E : XK) (t : TA) : TE := fun σ H Q => t σ H fun vs H1 => kBase g A C m E vs H1 Q
def KnB (g : G) (C m : Str) : Prop := ∃ Ca f, g.mg C = some (.ref Ca) ∧ ClX.CRead g.K Ca (.type "type") ∧ ClX.CVal g.K Ca (.type "type") m (.ref f) (.ref f) ∧ PySem.W.keepIn g.K (.ref f) = true
section
variable {X : Cx} {E : XK} {C m : Str} {p pos apos : Pos} {e : Expr} {es : List Expr} {t : TA}
theorem pe_baseG {pl : Sem Bool} (hk : KnB (gOf X) C m) (hx : Passes (L2.CX X.prog X.w) X E) (ha : PA X (e :: es) t) (hg : Gl X C := by rfl) (hdb : (C == ("__debug__" : Str)) = false := by decide)
    (hst : starEach (e :: es) X.env = (false, eval e X.env) :: starEach es X.env := by rfl) (hpl : (backTo pos (starEach es X.env)).any (·.1) = false := by rfl)
    (ht : eval (.Call (.Attribute (.Name C p) m apos) (e :: es) [] pos) X.env = (do
      let ov ← eval (.Name C p) X.env
      standAt apos.atName
      let (f, first) ← holding [ov] (getMethod ov m pl)
      callWith pos f first (backTo pos (starEach (e :: es) X.env)) (backToKw pos (keywordEach [] X.env))) := by rfl) :
    PE X (.Call (.Attribute (.Name C p) m apos) (e :: es) [] pos) (tBaseG (gOf X) X.A C m E t) := by
  obtain ⟨Ca, f, hm, rd, cv, kp⟩ := hk
  refine ⟨fun pins s σ H Q I h => ?_⟩
  refine PySem.W.methodCall_KW (pl := pl) (ld_glob I hg hm ?_ hdb) ht
  refine PySem.W.method_cls I.kIn rd.ga (ClX.getcval_ok I rd cv fun s' I' => ?_)
  refine PySem.W.callWith_K (first := []) (h₀ := X.base) I.ok.mod.kin kp (thn (ha.run pos pins s' σ H _ I' h) fun us s2 ⟨vs, H2, I2, r, k, sp, f', Ca', hr, hm', cv', F, q2⟩ => ⟨I2.kIn, ?_⟩) hst hpl
  have hm1 : X.mg C = some (.ref Ca) := hm
  have hm2 : X.mg C = some (.ref Ca') := hm'
  rw [hm1] at hm2
  cases hm2
  have e1 := cv.at_
  have e2 : PySem.W.findCls X.K (.ref Ca) (.type "type") m = some (.val (.ref f')) := cv'.at_
  rw [e1] at e2
  cases e2
  exact run_Fk F hr hx I2 r q2
end
theorem ix_dict {X : Cx} (hu : X.A.units + 1 < cLine) : IxR X (fun x y H Q => ∃ a v, x = .ref a ∧ DGet H a y (some v) ∧ Q v H) := by
  intro value slice pins s σ H x y v u Q I rx ry h hs
  obtain ⟨a, w, rfl, gd, q⟩ := h
  obtain rfl : v = Value.ref a := rx
  have hT := dict_typeIs I gd
  unfold subscriptTail
  refine wpAny_bind ?_
  rw [getitemInPython_of_ne hT.not_modules]
  refine wpAny_bind (wpAny_specialOf hT PySem.F.slot_dict_getitem.lookup ?_)
  have h₂ : wpAny (model X.prog X.w) X.A (getItem (.ref a) u) (EP X pins σ Q) X.xe s := d_getItem hu I gd ry fun w' s3 I3 rw' => ⟨w, H, I3, rw', q⟩
  have fin : wpAny (model X.prog X.w) X.A (subscripted slice false (.ref a) u) (fun r s₃ => wpAny (model X.prog X.w) X.A (letTemporaryGo value (.ref a) r >>= fun _ => pure r) (EP X pins σ Q) X.xe s₃) X.xe s := by
    rw [hs]
    exact wpAny_operating (wpAny_mono h₂ (fun r s₃ h₃ => wpAny_bind (wpAny_letTemporaryGo (wpAny_pure h₃))) fun _ _ x => x)
  first
    | exact wpAny_pure (wpAny_bind fin)
    | exact wpAny_bind (wpAny_pure (wpAny_bind fin))
    | exact wpAny_bind fin
def kIx (K : PySem.W.Frag) : R2 := fun x y H Q => rIx K x y H Q ∨ ∃ a v, x = .ref a ∧ DGet H a y (some v) ∧ Q v H
theorem ixG {X : Cx} (hu : X.A.units + 1 < cLine) : IxR X (kIx X.K) := ix_seq.or (ix_dict hu)
def kGet (K : PySem.W.Frag) : R2 := fun x y H Q => rIxL K x y H Q ∨ ∃ a v, x = .ref a ∧ DGet H a y (some v) ∧ Q v H
theorem pgetG {X : Cx} (hu : X.A.units + 1 < cLine) : PGet X (kGet X.K) := by
  intro pins s σ H x y v u Q I rx ry h
  rcases h with ⟨p, xs, i, z, rfl, rfl, hq, he, q⟩ | ⟨a, w, rfl, gd, q⟩
  · cases rx
    obtain ⟨t, rfl⟩ := ry
    obtain ⟨its, r, pl, hz⟩ := I.list hq
    obtain ⟨j, h1, h2, h3, h4, h5⟩ := atI_get he
    obtain ⟨w, ew, rw'⟩ := r.get h2
    have hl := r.length
    have hn := line63
    have fin : EP X pins σ Q w s := ⟨z, H, I, rw', q⟩
    by_cases h0 : 0 ≤ i
    · have hj : i.toNat = j := by
        rw [seqIndex_of h0 h5] at h1
        exact Option.some.inj h1
      exact wpAny_getItem_list pl.isList h0 (by omega) (by rw [hj]; simpa using ew) fin
    · have hj : (i + (its.toArray.size : Int)).toNat = j := by
        rw [seqIndex_neg (by omega) h4] at h1
        rw [List.size_toArray, ← hl]
        exact Option.some.inj h1
      exact wpAny_getItem_list_neg pl.isList (by omega) (by rw [List.size_toArray] <;> omega) (by omega) (by rw [hj]; simpa using ew) fin
  · obtain rfl : v = Value.ref a := rx
    exact d_getItem hu I gd ry fun w' s3 I3 rw' => ⟨w, H, I3, rw', q⟩
def kSet : TSet := fun o i v H Q => rSetL o i v H Q ∨ rSetD o i v H Q
theorem psetG {X : Cx} (hu : X.A.units + 1 < cLine) : PSet X kSet := by
  intro pins s σ H o i v ov iv u Q I ro ri rv h
  rcases h with h | h
  · exact set_list pins s σ H o i v ov iv u Q I ro ri rv h
  · exact set_dict hu pins s σ H o i v ov iv u Q I ro ri rv h
def kIpAdd : TIp := fun x y H Q => ipI (fun i j => i + j) x y H Q
def kSl (K : PySem.W.Frag) : V → Option Int → Option Int → Hp → VK → Prop := fun x lo hi H Q => rSlL K x lo hi H Q ∨ (rSlA K x lo hi H Q ∨ rSlS x lo hi H Q)
theorem slG {X : Cx} : SlR X (kSl X.K) := sl_list.or (sl_tupA.or sl_str)
def CPowW (i j : Int) : Prop := 0 ≤ j ∧ (Builtin.Int.intBits i : Int) * j ≤ 2 ^ 27
theorem op_powW {X : Cx} : OpR X (binaryOp .Pow) (rI CPowW fun i j => .int (i ^ j.toNat)) := opI fun _ _ _ _ _ _ _ hc q => pow_int hc.1 hc.2 q
def CDivG (i j : Int) : Prop := 0 < j ∧ (j.natAbs.log2 < 9000)
def kAdd (K : PySem.W.Frag) : R2 := fun x y H Q => rI0 (fun i j => .int (i + j)) x y H Q ∨ (∃ i j, x = .str i ∧ y = .str j ∧ i.length + j.length ≤ sizeLine ∧ Q (.str (i ++ j)) H) ∨ rCat x y H Q ∨ rCatA K x y H Q
theorem op_addG {X : Cx} : OpR X (binaryOp .Add) (kAdd X.K) := op_add.or (op_add_str.or (op_cat.or op_catA))
def kSub : R2 := rI0 fun i j => .int (i - j)
theorem op_subG {X : Cx} : OpR X (binaryOp .Sub) kSub := op_sub
def kMul : R2 := fun x y H Q => rI CMulW (fun i j => .int (i * j)) x y H Q ∨ rRep x y H Q
theorem op_mulG {X : Cx} : OpR X (binaryOp .Mult) kMul := op_mulW.or op_rep
def kDiv : R2 := rI CDivW fun i j => .int (i / j)
theorem op_divG {X : Cx} : OpR X (binaryOp .FloorDiv) kDiv := op_fdivW
def kMod : R2 := rI (fun _ j => 0 < j) fun i j => .int (i % j)
theorem op_modG {X : Cx} : OpR X (binaryOp .Mod) kMod := op_mod
def kPow : R2 := rI CPowW fun i j => .int (i ^ j.toNat)
theorem op_powG {X : Cx} : OpR X (binaryOp .Pow) kPow := op_powW
def kEq (K : PySem.W.Frag) : R2 := fun x y H Q => rEq x y H Q ∨ rEqD K x y H Q
theorem op_eqG {X : Cx} (hu : X.A.units + 64 < cLine) : OpR X (compareOp .Eq) (kEq X.K) := op_eq.or (op_eqD hu)
def kNe (K : PySem.W.Frag) : R2 := fun x y H Q => rNe x y H Q ∨ rNeD K x y H Q
theorem op_neG {X : Cx} (hu : X.A.units + 64 < cLine) : OpR X (compareOp .NotEq) (kNe X.K) := op_ne.or (op_neD hu)
def kLt : R2 := rI0 fun i j => .bl (decide (i < j))
def kLe : R2 := rI0 fun i j => .bl (decide (i ≤ j))
def kGt : R2 := rI0 fun i j => .bl (decide (j < i))
def kGe : R2 := rI0 fun i j => .bl (decide (j ≤ i))
theorem op_ltG {X : Cx} : OpR X (compareOp .Lt) kLt := op_lt
theorem op_leG {X : Cx} : OpR X (compareOp .LtE) kLe := op_le
theorem op_gtG {X : Cx} : OpR X (compareOp .Gt) kGt := op_gt
theorem op_geG {X : Cx} : OpR X (compareOp .GtE) kGe := op_ge
def kIsN : R2 := fun x y H Q => y = .non ∧ Q (.bl (decide (x = .non))) H
def kNotN : R2 := fun x y H Q => y = .non ∧ Q (.bl (!decide (x = .non))) H
theorem op_isG {X : Cx} : OpR X (compareOp .Is) kIsN := op_isN
theorem op_isnotG {X : Cx} : OpR X (compareOp .IsNot) kNotN := op_notN
theorem op_in_dict {X : Cx} (hu : X.A.units + 1 < cLine) : OpR X (compareOp .In) (fun y x H Q => ∃ a o, x = .ref a ∧ DGet H a y o ∧ Q (.bl o.isSome) H) := by
  intro pins s σ H y x iv u Q I ry rx h
  obtain ⟨a, ov, rfl, gd, q⟩ := h
  obtain rfl : u = Value.ref a := rx
  exact d_in hu I gd ry fun s' I' => ⟨.bl _, H, I', rfl, q⟩
theorem CallR.or {X : Cx} {f : Value} {r r' : List V → Hp → VK → Prop} (h : CallR X f r) (h' : CallR X f r') : CallR X f (fun xs H Q => r xs H Q ∨ r' xs H Q) := by
  intro pins s σ H xs us Q I rx q
  rcases q with q | q
  · exact h pins s σ H xs us Q I rx q
  · exact h' pins s σ H xs us Q I rx q
def kIn (K : PySem.W.Frag) : R2 := fun x y H Q => rIn K false x y H Q ∨ (∃ a o, y = .ref a ∧ DGet H a x o ∧ Q (.bl o.isSome) H) ∨ (∃ (c : Nat) (z : Str), x = .str ⟨#[c]⟩ ∧ y = .str z ∧ Q (.bl (decide (c ∈ z.cps.toList))) H)
theorem op_inG {X : Cx} (hu : X.A.units + 1 < cLine) : OpR X (compareOp .In) (kIn X.K) := op_in_seq.or ((op_in_dict hu).or op_in_sign)
theorem op_notIn_dict {X : Cx} (hu : X.A.units + 1 < cLine) : OpR X (compareOp .NotIn) (fun y x H Q => ∃ a o, x = .ref a ∧ DGet H a y o ∧ Q (.bl (!o.isSome)) H) := by
  intro pins s σ H y x iv u Q I ry rx h
  obtain ⟨a, ov, rfl, gd, q⟩ := h
  obtain rfl : u = Value.ref a := rx
  exact d_notIn hu I gd ry fun s' I' => ⟨.bl _, H, I', rfl, q⟩
def kNotIn (K : PySem.W.Frag) : R2 := fun x y H Q => rIn K true x y H Q ∨ (∃ a o, y = .ref a ∧ DGet H a x o ∧ Q (.bl (!o.isSome)) H) ∨ (∃ (c : Nat) (z : Str), x = .str ⟨#[c]⟩ ∧ y = .str z ∧ Q (.bl (!decide (c ∈ z.cps.toList))) H)
theorem op_notInG {X : Cx} (hu : X.A.units + 1 < cLine) : OpR X (compareOp .NotIn) (kNotIn X.K) := op_notIn_seq.or ((op_notIn_dict hu).or op_notIn_sign)
def kLen (K : PySem.W.Frag) : List V → Hp → VK → Prop := fun xs H Q => (∃ p ys, xs = [.ref p] ∧ (SqL K H p ys ∨ SqT K H p ys) ∧ Q (.int ys.length) H) ∨ (∃ z, xs = [.str z] ∧ z.length ≤ sizeLine ∧ Q (.int z.length) H) ∨
  (∃ a kvs, xs = [V.ref a] ∧ H a = some (.dK kvs) ∧ Q (.int kvs.length) H) ∨ rLenT xs H Q
theorem callLen {X : Cx} : CallR X (.builtin "len") (kLen X.K) := CallR.or call_len_seq (CallR.or call_len_str (CallR.or call_lenD call_len_dT))
def kAbs : List V → Hp → VK → Prop := fun xs H Q => ∃ i, xs = [.int i] ∧ Q (.int (if i < 0 then -i else i)) H
theorem callAbs {X : Cx} : CallR X (.builtin "abs") kAbs := call_abs
def kMax (K : PySem.W.Frag) : List V → Hp → VK → Prop := fun xs H Q => (∃ i j, xs = [.int i, .int j] ∧ Q (.int (if j > i then j else i)) H) ∨ rMax K xs H Q
theorem callMax {X : Cx} (hc : X.calm = true) : CallR X (.builtin "max") (kMax X.K) := CallR.or (call_max2 hc) (cr_max hc)
def kMin (K : PySem.W.Frag) : List V → Hp → VK → Prop := rMin K
theorem callMin {X : Cx} (hc : X.calm = true) : CallR X (.builtin "min") (kMin X.K) := cr_min hc
def kSum (K : PySem.W.Frag) : List V → Hp → VK → Prop := rSum K
theorem callSum {X : Cx} (hc : X.calm = true) : CallR X (.builtin "sum") (kSum X.K) := cr_sum hc
def kAll (K : PySem.W.Frag) : List V → Hp → VK → Prop := rAll K
theorem callAll {X : Cx} (hc : X.calm = true) : CallR X (.builtin "all") (kAll X.K) := cr_all hc
def kAny (K : PySem.W.Frag) : List V → Hp → VK → Prop := rAny K
theorem callAny {X : Cx} (hc : X.calm = true) : CallR X (.builtin "any") (kAny X.K) := cr_any hc
def kIsi (K : PySem.W.Frag) : List V → Hp → VK → Prop := fun xs H Q => rIsi K xs H Q ∨ rIsiT K xs H Q
theorem callIsi {X : Cx} : CallR X (.builtin "isinstance") (kIsi X.K) := CallR.or call_isi call_isiT
def kList (K : PySem.W.Frag) : List V → Hp → VK → Prop := fun xs H Q => (∃ p ys, xs = [.ref p] ∧ (SqL K H p ys ∨ SqT K H p ys) ∧ ∀ l, H l = none → Q (.ref l) (upd H l (.lst ys))) ∨
  (∃ (a : Addr) (kvs : List (Key × V)), xs = [.ref a] ∧ Rd H a (.dK kvs) ∧ ∀ p, H p = none → Q (.ref p) (upd H p (.lst (kvs.map fun kv => kV kv.1)))) ∨
  (∃ d kvs, xs = [V.ref d] ∧ Rd H d (.dT kvs) ∧ ∀ p bs, H p = none → IsKeys H kvs bs → Q (.ref p) (upd H p (.lst (bs.map V.ref))))
theorem callList {X : Cx} (hc : X.calm = true) : CallR X (.type "list") (kList X.K) := CallR.or call_list_of (CallR.or (call_listD hc) (call_list_dT hc))
def kTuple (K : PySem.W.Frag) : List V → Hp → VK → Prop := fun xs H Q => ∃ p ys, xs = [.ref p] ∧ ((SqL K H p ys ∧ ∀ l, H l = none → Q (.ref l) (upd H l (.tup ys))) ∨ (SqT K H p ys ∧ Q (.ref p) H))
theorem callTuple {X : Cx} : CallR X (.type "tuple") (kTuple X.K) := call_tuple_of
def kInt : List V → Hp → VK → Prop := fun xs H Q => ((∃ i, xs = [.int i] ∧ Q (.int i) H) ∨ ∃ k, xs = [.bl k] ∧ Q (.int (if k then 1 else 0)) H) ∨ ∃ a n, xs = [.str a] ∧ PySem.intText? a = some n ∧ a.length ≤ 640 ∧ Q (.int n) H
theorem callInt {X : Cx} : CallR X (.type "int") kInt := CallR.or call_int1 call_int_str
def kStr : List V → Hp → VK → Prop := fun xs H Q => ∃ i, xs = [.int i] ∧ i.natAbs.log2 < 1920 ∧ Q (.str (toString i)) H
theorem callStr {X : Cx} : CallR X (.type "str") kStr := call_str_int
def kTru (K : PySem.W.Frag) (x : V) (H : Hp) (Q : Bool → Hp → Prop) : Prop := ∃ k, TruV K x H k ∧ Q k H
def tTruG (K : PySem.W.Frag) (ta : TE) : TT := fun σ H Q => ta σ H fun x H' => kTru K x H' Q
theorem pt_tru {X : Cx} {a : Expr} {ta : TE} (ha : PE X a ta) (he : ∀ whole, isTrue a X.env whole = (do let v ← whole; standAt a.pos; holding [v] (truthy v)) := by intro _; rfl) : PT X a (tTruG X.K ta) := pt_truth ha he
def kIter (K : PySem.W.Frag) (x : V) (H : Hp) (R : It → Hp → Prop) : Prop := (∃ a xs, x = .ref a ∧ SqL K H a xs ∧ R (Itl K a) H) ∨ (∃ a xs, x = .ref a ∧ SqT K H a xs ∧ R (Itt K a) H) ∨ (∃ z, x = .str z ∧ R (Its z) H)
def iSeq (K : PySem.W.Frag) (tl : TE) : TI := fun σ H R => tl σ H fun x H1 => kIter K x H1 R
theorem pi_seq {X : Cx} {tg l : Expr} {tl : TE} (hl : PE X l tl) : PI X tg l (iSeq X.K tl) := by
  refine ⟨fun pins s σ H R I h => ?_⟩
  refine thn (hl.run pins s σ H _ I h) fun v s1 ⟨x, H1, I1, r1, q1⟩ => ?_
  rcases q1 with ⟨a, xs, e, hq, q⟩ | ⟨a, xs, e, hq, q⟩ | ⟨z, e, q⟩
  · subst e
    cases r1
    obtain ⟨its, rv, p, hz⟩ := I1.list hq
    refine wpAny_pyIter_list p.isList ?_
    refine ⟨s1.heap.objs.size, [s1.heap.objs.size], _, _, H1, rfl, I1.kept (t' := s1.toks) fun b o e => Heap.get?_push_of_some _ e, turn_list a _, ⟨_, Heap.get?_push_size _ rfl, rfl, rfl⟩, fun b hb => ?_, q⟩
    have e : b = s1.heap.objs.size := by simpa using hb
    subst e
    exact I1.fpOk (Nat.le_refl _) (I1.hok.fresh (Nat.le_refl _))
  · subst e
    cases r1
    obtain ⟨its, rv, p, hz⟩ := I1.tuple hq
    refine wpAny_pyIter_tuple (show s1.heap.IsTuple a its.toArray from p) ?_
    refine ⟨s1.heap.objs.size, [s1.heap.objs.size], _, _, H1, rfl, I1.kept (t' := s1.toks) fun b o e => Heap.get?_push_of_some _ e, turn_tuple a _, ⟨_, Heap.get?_push_size _ rfl, rfl, rfl⟩, fun b hb => ?_, q⟩
    have e : b = s1.heap.objs.size := by simpa using hb
    subst e
    exact I1.fpOk (Nat.le_refl _) (I1.hok.fresh (Nat.le_refl _))
  · subst e
    obtain ⟨t, rfl⟩ := r1
    cases ha : z.cps.all (· < 128)
    · exact wpAny_pyIter_wide ha (pi_one (tk := s1.toks) I1 _ (turn_str _ z t "str_iterator" (.inr rfl)) ⟨_, Heap.get?_push_size _ rfl, rfl, rfl⟩ q)
    · exact wpAny_pyIter_ascii ha (pi_one (tk := s1.toks) I1 _ (turn_str _ z t "str_ascii_iterator" (.inl rfl)) ⟨_, Heap.get?_push_size _ rfl, rfl, rfl⟩ q)
def Itet (K : PySem.W.Frag) (a : Addr) (c : Int) : It :=
  ⟨fun i H => ∃ (xs : List V) (x : V), SqT K H a xs ∧ xs[i]? = some x, fun i H v H' => ∃ T x, v = .ref T ∧ H T = none ∧ H' = upd H T (.tup [.int (c + (i : Nat)), x]) ∧ ∀ xs, SqT K H a xs → xs[i]? = some x, fun i H => ∃ xs : List V, SqT K H a xs ∧ xs.length ≤ i⟩
theorem turn_enumT {P : Program} {w : World} {K : PySem.W.Frag} {elts : List Expr} {kk : Nat} {tpos : Pos} (a e it : Addr) (c : Int) :
    Turn P w K (.Tuple elts kk tpos) (Itet K a c) [e, it] e (fun i h => (∃ old, IsEnum h e it (c + (i : Nat)) old) ∧ h.IsTupleIter it a i ∧ e ≠ it) where
  mem := by simp
  obj := fun i h st b hb => by
    obtain ⟨⟨old, he⟩, ⟨o, ho, hc, hd⟩, _⟩ := st
    have e' : b = e ∨ b = it := by simpa using hb
    rcases e' with z | z
    · rw [z]; exact ⟨_, he, fun v q => nomatch q⟩
    · rw [z]; exact ⟨o, ho, fun v q => by rw [hd] at q; cases q⟩
  keep := fun i h h' st k => let ⟨⟨old, he⟩, hi, hne⟩ := st; ⟨⟨old, k e (by simp) _ he⟩, hi.at fun o q => k it (by simp) o q, hne⟩
  item := by
    intro X hP hw hK hc i pins s σ H E I hf st hg
    subst hP hw hK
    obtain ⟨⟨old, he⟩, hit, hne⟩ := st
    obtain ⟨xs, x, hq, hx⟩ := hg
    obtain ⟨its, rv, p, hz⟩ := I.tuple hq
    obtain ⟨u, hu, ru⟩ := rv.get hx
    have hel : e < s.heap.objs.size := Heap.lt_size he
    have hil : it < s.heap.objs.size := by obtain ⟨_, q, _⟩ := hit; exact Heap.lt_size q
    have hai : a ≠ it := by
      rintro rfl
      obtain ⟨o1, h1, c1, _⟩ := hit
      obtain ⟨o2, h2, c2, _⟩ := p
      rw [h1] at h2
      cases h2
      rw [c1] at c2
      injection c2 with z
      exact absurd z (by decide)
    have hae : e ≠ a := by
      rintro rfl
      obtain ⟨o2, h2, c2, _⟩ := p
      rw [he] at h2
      cases h2
      injection c2 with z
      exact absurd z (by decide)
    have hlt : i < its.toArray.size := by
      have := (List.getElem?_eq_some_iff.mp hu).1
      simpa using this
    refine wpAny_pyNext_enum_itemC (Draws.tuple (prog := X.prog) (w := X.w) (A := X.A.in1) (I.ok.hd hc) it a hai its.toArray) he ⟨hit, p⟩ hlt hne (by simp [hne, hae]) fun x' h' tk hx' ho ⟨hit', _⟩ hT hsz hk => ?_
    obtain rfl : x' = u := by
      have e1 : its.toArray[i]? = some x' := hx'
      have e2 : its.toArray[i]? = some u := by simpa using hu
      rw [e1] at e2
      exact Option.some.inj e2
    refine ⟨_, rfl, wpAny_letOwnedTupleGo_enum (s := { s with heap := h', toks := tk + 1 }) ho fun h'' he' sb => ?_⟩
    have hT2 : h''.get? s.heap.objs.size = some { cls := .type "tuple", data := .seq #[.int (c + (i : Nat)) tk, x'] } := (sb.2 _ (Nat.ne_of_gt hel)).trans hT
    have new : ObjOk X.prog X.w (upd H s.heap.objs.size (.tup [.int (c + (i : Nat)), x])) h'' s.heap.objs.size (.tup [.int (c + (i : Nat)), x]) :=
      ⟨by show 2 ≤ sizeLine; decide, [.int (c + (i : Nat)) tk, x'], .cons ⟨_, rfl⟩ (.cons ru .nil), ⟨_, hT2, rfl, _, rfl⟩⟩
    have I1 : Inv X pins σ (upd H s.heap.objs.size (.tup [.int (c + (i : Nat)), x])) { s with heap := h'', toks := tk + 1 } :=
      I.turnedNew (ch := [e, it]) (fun b ob hb q => (sb.2 b (fun z => hb (by simp [z]))).trans (hk b ob (fun z => hb (by simp [z])) (fun z => hb (by simp [z])) q)) hf (Nat.le_refl _) new
    refine ⟨.ref s.heap.objs.size, _, I1, rfl, ⟨_, x, rfl, I.hok.fresh (Nat.le_refl _), rfl, fun ys hy => by rw [I.tuple_inj hy hq]; exact hx⟩, ⟨⟨x', ?_⟩, hit'.at fun o q => (sb.2 it (Ne.symm hne)).trans q, hne⟩, fun b hb => ?_⟩
    · have e1 : c + ((i + 1 : Nat) : Int) = c + (i : Nat) + 1 := by omega
      rw [e1]; exact he'
    · have hb' : b < s.heap.objs.size := by
        have e' : b = e ∨ b = it := by simpa using hb
        rcases e' with z | z
        · rw [z]; exact hel
        · rw [z]; exact hil
      rw [upd_ne (Nat.ne_of_lt hb')]
      exact (hf b hb).1
  done := by
    intro X hP hw hK hc i pins s σ H E I hf st hg
    subst hP hw hK
    obtain ⟨⟨old, he⟩, hit, hne⟩ := st
    obtain ⟨xs, hq, hx⟩ := hg
    obtain ⟨its, rv, p, hz⟩ := I.tuple hq
    obtain ⟨f0, f1, f2, f3, f4, f5⟩ := hf it (by simp)
    have hl := rv.length
    have hT : s.TypeIs (.ref e) "enumerate" := ⟨_, he, rfl⟩
    unfold pyNext
    refine wpAny_bind (wpAny_attempt (wpAny_callSpecial?_slot (name := Str.ofString "__next__") hT F.slot_enumerate_next
      (wpAny_call_entry F.slot_enumerate_next hT F.entry_enumerate_next ?_ (F.args_enumerate_next_1 _))))
    show wpAny _ _ (field (.ref e) 2 >>= _) _ _ _
    refine wpAny_bind (wpAny_field he rfl (x := .ref it) rfl ?_)
    refine wpAny_bind (wpAny_nextOf_tuple_end (I.ok.hd hc) hit (show s.heap.IsTuple a its.toArray from p) (by simp; omega) fun h' x he' hx' => ?_)
    obtain ⟨o, ho, hc'⟩ := hx'
    refine wpAny_bind (wpAny_isInstance (T := "StopIteration") (b := true) ⟨o, ho, hc'⟩ isSubtype_stop ?_)
    exact wpAny_pure ⟨rfl, I.turned (t' := s.toks) (fun b o hb q => he' b o hb q) f0 f1 f3 f4 f5⟩
  self := fun A i s Q E st h => let ⟨⟨_, he⟩, _⟩ := st; wpAny_pyIter_enum he h
theorem meets_enumerate_new1 {v : Value} {o : Obj} {H : Heap → Prop} (B : Begins v o H) :
    Meets (Builtin.«enumerate.__new__» ⟨[.type "enumerate", v], []⟩) (fun _ R s => H s.heap ∧
      R (.ok (.ret (.ref (s.heap.push o).objs.size))) { s with heap := (s.heap.push o).push { cls := .type "enumerate", data := .fields #[.none, .bool false, .ref s.heap.objs.size, rawInt 0, .none, .none] } }) :=
  .of_wp fun prog w A R s h => by
    obtain ⟨hp, g, d, tk, os⟩ := s; obtain ⟨h1, h⟩ := h
    have hsub := sub_enumerate
    have q1 : ∀ {A' : Around} {E : Value → Shared → Prop} {Q : Value → Shared → Prop}, Q (.ref hp.objs.size) ⟨hp.push o, g, d, tk, os⟩ → wpAny (model prog w) A' (pyIter v) Q E ⟨hp, g, d, tk, os⟩ :=
      fun q => B.iter prog w _ _ ⟨hp, g, d, tk, os⟩ _ h1 q
    wp_walk using q1
    refine wpAny_stack_any fun st => wpAny_pure ?_
    split
    · rename_i c _ _ _ _ _
      cases (c == Value.type "enumerate")
      · wp_walk using q1
        exact ⟨_, rfl, h⟩
      · wp_walk using q1
        exact ⟨_, rfl, h⟩
    · wp_walk using q1
      exact ⟨_, rfl, h⟩
theorem call_enumerate_new {prog : Program} {w : World} {A : Around} {E : Value → Shared → Prop} {s : Shared} {v : Value} {o : Obj} {H : Heap → Prop} {Q : Value → Shared → Prop} (B : Begins v o H) (h1 : H s.heap)
    (h : ∀ h', IsEnum h' (s.heap.objs.size + 1) s.heap.objs.size 0 .none → h'.get? s.heap.objs.size = some o → h'.objs.size = s.heap.objs.size + 2 →
      (∀ b o, s.heap.get? b = some o → h'.get? b = some o) → Q (.ref (s.heap.objs.size + 1)) { s with heap := h' }) :
    wpAny (model prog w) A (call (.type "enumerate") [v]) Q E s := by
  refine callType_new F.called_enumerate (by decide) (F.typeCall_enumerate_1 _) (F.newCall_enumerate_1 _) (fun obj => F.args_object_init_2 obj _) F.entry_enumerate_new
    (meets_enumerate_new1 B) ⟨h1, ?_⟩
  have hz : (s.heap.push o).objs.size = s.heap.objs.size + 1 := Heap.size_push ..
  show _ ∧ _
  rw [hz]
  have he : IsEnum ((s.heap.push o).push { cls := .type "enumerate", data := .fields #[.none, .bool false, .ref s.heap.objs.size, rawInt 0, .none, .none] }) (s.heap.objs.size + 1) s.heap.objs.size 0 .none := by
    have := Heap.get?_push_size (s.heap.push o) (o := { cls := .type "enumerate", data := .fields #[.none, .bool false, .ref s.heap.objs.size, rawInt 0, .none, .none] }) rfl
    rw [hz] at this; exact this
  refine ⟨⟨_, he, rfl⟩, h _ he (Heap.get?_push_of_some _ (Heap.get?_push_size _ B.free)) (by rw [Heap.size_push, hz]) fun b o x => Heap.get?_push_of_some _ (Heap.get?_push_of_some _ x)⟩
def kEnum (K : PySem.W.Frag) (vs : List V) (H : Hp) (R : It → Hp → Prop) : Prop := (∃ a xs, vs = [.ref a] ∧ SqL K H a xs ∧ R (Ite K a) H) ∨ ∃ a xs, vs = [.ref a] ∧ SqT K H a xs ∧ R (Itet K a 0) H
def iEnumG (K : PySem.W.Frag) (ta : TA) : TI := fun σ H R => ta σ H fun vs H1 => kEnum K vs H1 R
theorem pi_enumG {X : Cx} {e : Expr} {ta : TA} {p pos tpos : Pos} {elts : List Expr} {kk : Nat} (hm : X.mg "enumerate" = none) (ha : PA X [e] ta) (hg : Gl X "enumerate" := by rfl) (hs : starEach [e] X.env = [(false, eval e X.env)] := by rfl) :
    PI X (.Tuple elts kk tpos) (.Call (.Name "enumerate" p) [e] [] pos) (iEnumG X.K ta) := by
  refine ⟨fun pins s σ H R I h => ?_⟩
  refine Call_ (ld_blt I hg hm boot_enumerate (PyProof.Rows.callWith_type1 (thn (ha.run pos pins s σ H _ I h) fun us s1 ⟨vs, H1, I1, r1, q1⟩ => ?_) hs rfl))
  have fp : ∀ b, b = s1.heap.objs.size + 1 ∨ b = s1.heap.objs.size → s1.heap.objs.size ≤ b := fun b e' => by
    rcases e' with z | z
    · rw [z]; exact Nat.le_add_right _ _
    · rw [z]; exact Nat.le_refl _
  rcases q1 with ⟨a, xs, ex, hq, q⟩ | ⟨a, xs, ex, hq, q⟩
  · subst ex
    cases r1 with
    | cons r rr =>
      cases rr
      cases r
      obtain ⟨its, rv, p', hz⟩ := I1.list hq
      refine call_enumerate_list p'.isList fun h' he hit hsz hk => wpAny_pyIter_enum he ?_
      have I2 : Inv X pins σ H1 { s1 with heap := h' } := I1.kept (t' := s1.toks) hk
      refine ⟨s1.heap.objs.size + 1, [s1.heap.objs.size + 1, s1.heap.objs.size], _, _, H1, rfl, I2, turn_enum a (s1.heap.objs.size + 1) s1.heap.objs.size, ⟨⟨.none, he⟩, hit, Nat.succ_ne_self _⟩, fun b hb => ?_, q⟩
      have hle := fp b (by simpa using hb)
      exact I1.fpOk hle (I1.hok.fresh hle)
  · subst ex
    cases r1 with
    | cons r rr =>
      cases rr
      cases r
      obtain ⟨its, rv, p', hz⟩ := I1.tuple hq
      refine call_enumerate_new (begins_tuple a its.toArray) (show s1.heap.IsTuple a its.toArray from p') fun h' he hit hsz hk => wpAny_pyIter_enum he ?_
      have I2 : Inv X pins σ H1 { s1 with heap := h' } := I1.kept (t' := s1.toks) hk
      refine ⟨s1.heap.objs.size + 1, [s1.heap.objs.size + 1, s1.heap.objs.size], _, _, H1, rfl, I2, turn_enumT a (s1.heap.objs.size + 1) s1.heap.objs.size 0, ⟨⟨.none, by simpa using he⟩, ⟨_, hit, rfl, rfl⟩, Nat.succ_ne_self _⟩, fun b hb => ?_, q⟩
      have hle := fp b (by simpa using hb)
      exact I1.fpOk hle (I1.hok.fresh hle)
theorem walk_enumT {K : PySem.W.Frag} {a : Addr} {xs : List V} {c : Int} : Walk (Itet K a c) xs.length (fun H => SqT K H a xs) (YPair (fun i => some (.int (c + (i : Nat)))) (fun i => xs[i]?)) := by
  refine ⟨fun i _ hi q => ⟨xs, xs[i], q, by simp [hi]⟩, fun _ q => ⟨xs, q, Nat.le_refl _⟩, fun i H v H' _ q y => ?_⟩
  obtain ⟨T, x, h1, h2, h3, h4⟩ := y
  exact ⟨T, .int (c + (i : Nat)), x, h1, h2, h3, rfl, h4 xs q⟩
def FT (o : HO) (xs : List V) : Prop := ∃ ob : Obj, o = .frz ob (.tup xs) ∧ ob.cls = .type "tuple" ∧ ob.dict = none
def kTupleG (K : PySem.W.Frag) : List V → Hp → VK → Prop := fun xs H Q => kTuple K xs H Q ∨ ∃ p ys, xs = [.ref p] ∧ SqL K H p ys ∧ ∀ l o, H l = none → FT o ys → Q (.ref l) (upd H l o)
theorem callTupleG {X : Cx} : CallR X (.type "tuple") (kTupleG X.K) := by
  refine CallR.or callTuple ?_
  intro pins s σ H xs us Q I r h
  obtain ⟨p, ys, rfl, hq, q⟩ := h
  obtain ⟨u, rfl, rx⟩ := vals1 r
  cases rx
  obtain ⟨its, r', pl, hz⟩ := I.list hq
  have hlen := r'.length
  refine call_tuple_list pl.isList (fun h' kp => ?_) (by simp only [List.size_toArray] <;> omega)
  have I1 : Inv X pins σ H { s with heap := h' } := I.kept (t' := s.toks) kp
  have I2 : Inv X pins σ (upd H h'.objs.size (.frz { cls := .type "tuple", data := .seq its.toArray } (.tup ys))) { s with heap := h'.push { cls := .type "tuple", data := .seq its.toArray } } :=
    I1.laid (t' := s.toks) (fun b o e => Heap.get?_push_of_some _ e) (Nat.le_refl _) ⟨Heap.get?_push_size _ rfl, show ObjOk X.prog X.w _ _ _ (.tup ys) from ⟨hz, its, r', IsTup.new _ _⟩⟩
  exact ⟨.ref h'.objs.size, _, I2, rfl, q _ _ (I1.hok.fresh (Nat.le_refl _)) ⟨_, rfl, rfl, rfl⟩⟩
def tBMT (r : V → List V → Hp → VK → Prop) (to : TE) (t : TA) : TE := fun σ H Q => to σ H fun x H1 => (∃ p o xs, x = .ref p ∧ H1 p = some o ∧ FT o xs) ∧ t σ H1 fun xs H2 => r x xs H2 Q
theorem pe_bmT {X : Cx} {o e : Expr} {es : List Expr} {to : TE} {t : TA} {name : Str} {apos cpos : Pos} {id : String} {r : V → List V → Hp → VK → Prop} (pa : PlainAttrs "tuple") (slot : Slot "tuple" name id) (hty : typeOf (.builtin id) = pure (.type "method_descriptor")) (hm : MtR X id r) (ho : PE X o to) (ha : PA X (e :: es) t)
    (hbase : attributeBase o name X.env (eval o X.env) = eval o X.env := by rfl)
    (hfew : ((backTo cpos (starEach (e :: es) X.env)).all (fun x => !x.1) && (backToKw cpos (keywordEach [] X.env)).all (fun x => x.1.isSome)
      && decide ((e :: es).length + ([] : List Keyword).length + (if ([] : List Keyword).isEmpty then 0 else 1) < 30)) = true := by rfl)
    (hline : (apos.endLine == cpos.line) = true := by rfl) (hs : starEach (e :: es) X.env = (false, eval e X.env) :: starEach es X.env := by rfl) (hplain : (backTo cpos (starEach es X.env)).any (·.1) = false := by rfl) :
    PE X (.Call (.Attribute o name apos) (e :: es) [] cpos) (tBMT r to t) := by
  refine ⟨fun pins s σ H Q I h => ?_⟩
  refine wpAny_Call_method_late hbase hfew hline rfl (thn (ho.run pins s σ H _ I h) fun v s1 ⟨x, H1, I1, r1, ⟨p, ob, xs, ex, hp, o1, e1, c1, d1⟩, q1⟩ => ?_)
  subst ex
  cases r1
  have hob : s1.heap.get? p = some o1 := by
    have z := I1.hok p _ hp
    rw [e1] at z
    exact z.1
  refine ⟨"tuple", id, pa, slot, hty, ⟨o1, hob, c1⟩, fun a e => ?_, ?_⟩
  · cases e
    exact ⟨o1, hob, d1⟩
  have hA := ha.run cpos pins s1 σ H1 _ I1 q1
  rw [hs] at hA ⊢
  refine Calls.callWith_builtin (by show (false || (backTo cpos (starEach es X.env)).any (·.1)) = false; rw [hplain] <;> rfl) (Calls.evalArgs_plain ?_)
  exact thn hA fun us s2 ⟨vs, H2, I2, r2, q2⟩ => hm pins s2 σ H2 (.ref p) vs (.ref p) us Q I2 rfl r2 q2
def kTIndex (K : PySem.W.Frag) : V → List V → Hp → VK → Prop := fun x xs H Q => ∃ (p : Addr) (ys : List Int) (k : Int) (j : Nat), x = .ref p ∧ xs = [.int k] ∧ SqT K H p (ys.map V.int) ∧ ys[j]? = some k ∧ (∀ m, m < j → ys[m]? ≠ some k) ∧ Q (.int (j : Nat)) H
theorem mt_tindex {X : Cx} : MtR X "tuple.index" (kTIndex X.K) := by
  intro pins s σ H x xs v us Q I rx rs h
  obtain ⟨p, ys, k, j, rfl, rfl, hq, hy, hno, q⟩ := h
  cases rx
  obtain ⟨u, rfl, t, rfl⟩ := vals1 rs
  obtain ⟨its, r, pl, hz⟩ := I.tuple hq
  obtain ⟨⟨cls, dd, dt, sl⟩, ho, hc, n, hd⟩ := pl
  simp only at hc hd
  subst hc
  subst hd
  have hl : its.toArray.size = ys.length := by rw [List.size_toArray, ← r.length, List.length_map]
  have hj : j < its.toArray.size := by rw [hl]; exact (List.getElem?_eq_some_iff.mp hy).1
  have at' : ∀ (m : Nat) (hm : m < its.toArray.size), ∃ y t', ys[m]? = some y ∧ its.toArray[m] = Value.int y t' := fun m hm => by
    have hm' : m < ys.length := by rw [← hl]; exact hm
    obtain ⟨w, hw, t', hw'⟩ := r.get (i := m) (x := .int ys[m]) (by simp [hm'])
    refine ⟨ys[m], t', List.getElem?_eq_getElem hm', ?_⟩
    have e := (List.getElem?_eq_some_iff.mp hw).2
    rw [← hw', ← e]
    simp
  refine call_meets PySem.F.slot_tuple_index ⟨_, ho, rfl⟩ PySem.F.entry_tuple_index (PySem.F.args_tuple_index_2 _ _) (TI.tuple_indexAt p its.toArray n dd sl (.int k t) (eqU (.int k)) j hj ?_ ?_)
    ⟨ho, fun w hw => mem_eqAt (x := .int k) ⟨t, rfl⟩ rfl r (by rw [List.all_map]; exact List.all_eq_true.mpr fun _ _ => rfl) w (by simpa using hw), ⟨.int (j : Nat), H, I.tok _, ⟨_, rfl⟩, q⟩⟩
  · obtain ⟨y, t', h1, h2⟩ := at' j hj
    rw [h2]
    rw [hy] at h1
    cases h1
    simp [eqU, eqV]
  · intro m hm hmj
    obtain ⟨y, t', h1, h2⟩ := at' m hm
    rw [h2]
    have hne : ¬ y = k := fun e => hno m hmj (by rw [h1, e])
    simp [eqU, eqV, hne]
def tGl (g : G) (x : Str) : TE := fun _ H Q => ∃ v u, g.mg x = some u ∧ RelV v u ∧ Q v H
theorem pe_gl {X : Cx} {x : Str} {pos : Pos} (hg : Gl X x := by rfl) (hd : (x == ("__debug__" : Str)) = false := by decide) : PE X (.Name x pos) (tGl (gOf X) x) :=
  ⟨fun _ _ _ H _ I h => let ⟨v, u, hm, r, q⟩ := h; ld_glob I hg hm ⟨v, H, I, r, q⟩ hd⟩
def tDNew : TE := fun _ H Q => (∀ p, H p = none → Q (.ref p) (upd H p (.dK []))) ∨ (∀ p, H p = none → Q (.ref p) (upd H p (.dT [])))
theorem pe_dnew {X : Cx} {pos : Pos} : PE X (.Dict [] [] pos) tDNew := by
  refine ⟨fun pins s σ H Q I h => ?_⟩
  rcases h with h | h
  · exact pe_dnewK.run pins s σ H Q I h
  · exact pe_dnewT.run pins s σ H Q I h
theorem ip_addG {X : Cx} : PIp X .Add kIpAdd := ip_add
abbrev FunG (g : G) (x qual : Str) (st : Stmt) (f : Addr) (fd : FuncData) : Prop := FunD g.K x qual (defArgs st) (defBody st) (defScope st) [] [] f fd
abbrev BodyOk (g : G) (N : List Str) (qual : Str) (st : Stmt) (f : Addr) (k : Nat) (t : G → Around → TS) : Prop :=
  ∀ (cdv : Value) (A : Around) (outer : List Env) (s : Shared) (H : Hp) (E : XK), Room k (cxOf (L2.CX g.P g.w) g.P g.w g.K g.mg g.base N qual (defScope st) f cdv A outer s H E).A →
    PSs (cxOf (L2.CX g.P g.w) g.P g.w g.K g.mg g.base N qual (defScope st) f cdv A outer s H E).nox (defBody st) (t g (cxOf (L2.CX g.P g.w) g.P g.w g.K g.mg g.base N qual (defScope st) f cdv A outer s H E).A)
abbrev BodyOkX (g : G) (N : List Str) (qual : Str) (st : Stmt) (f : Addr) (k : Nat) (t : G → Around → XK → TS) : Prop :=
  ∀ (cdv : Value) (A : Around) (outer : List Env) (s : Shared) (H : Hp) (E : XK), Room k (cxOf (L2.CX g.P g.w) g.P g.w g.K g.mg g.base N qual (defScope st) f cdv A outer s H E).A →
    PSs (cxOf (L2.CX g.P g.w) g.P g.w g.K g.mg g.base N qual (defScope st) f cdv A outer s H E) (defBody st) (t g (cxOf (L2.CX g.P g.w) g.P g.w g.K g.mg g.base N qual (defScope st) f cdv A outer s H E).A E)
theorem Fk.of {g : G} {x qual : Str} {st : Stmt} {f : Addr} {fd : FuncData} {N ps : List Str} {k : Nat} {sp : Sp} {t : G → Around → TS} (F : FunG g x qual st f fd) (S : FnScope N ps (defScope st)) (b : Binds g.K fd ps [])
    (d : BodyOk g N qual st f k t) (len : ∀ vs H Q E, sp vs H Q E → vs.length = ps.length)
    (w : ∀ (A : Around) (vs : List V) (H : Hp) (Q : VK) (E : XK), Room k A → sp vs H Q E → t g A { nx := fun _ H' => Q .non H', rt := Q } (start N vs) H) : Fk g (k + 1) sp f :=
  ⟨fd, ps, [], [], sp, F.kp, F.ok S len fun cdv A outer s H vs Q E hr h => ⟨_, (d cdv A outer s H E hr).nox, w _ vs H Q E hr h⟩, b, .nil, fun vs H Q E h => by rw [List.append_nil]; exact h⟩
theorem Fk.ofX {g : G} {x qual : Str} {st : Stmt} {f : Addr} {fd : FuncData} {N ps : List Str} {k : Nat} {sp : Sp} {t : G → Around → XK → TS} (F : FunG g x qual st f fd) (S : FnScope N ps (defScope st)) (b : Binds g.K fd ps [])
    (d : BodyOkX g N qual st f k t) (len : ∀ vs H Q E, sp vs H Q E → vs.length = ps.length)
    (w : ∀ (A : Around) (vs : List V) (H : Hp) (Q : VK) (E : XK), Room k A → sp vs H Q E → t g A E { nx := fun _ H' => Q .non H', rt := Q } (start N vs) H) : Fk g (k + 1) sp f :=
  ⟨fd, ps, [], [], sp, F.kp, F.ok S len fun cdv A outer s H vs Q E hr h => ⟨_, d cdv A outer s H E hr, w _ vs H Q E hr h⟩, b, .nil, fun vs H Q E h => by rw [List.append_nil]; exact h⟩
open He in
def obsL (fa : List (PySem.W.Frag → Bool)) (fn : List He5.DefA) (K : PySem.W.Frag) : He.AlD := ((fa.all fun f => f K) && fn.all fun d => d.ok K, fn.map fun d => He5.fnA K (d.at_ K))
def valL (fn : List He5.DefA) : He.AlD := (true, fn.map He5.DefA.val)
def SaysL (fa : List (PySem.W.Frag → Bool)) (fn : List He5.DefA) (K : PySem.W.Frag) : Prop := obsL fa fn K = valL fn
def obsLG (n : Nat) (fa : List (PySem.W.Frag → Bool)) (fn : List He5.DefA) (g : Addr → Option Obj) : He.AlD := obsL fa fn (He.frG g (He5.asA g n))
def hookL (n : Nat) (fa : List (PySem.W.Frag → Bool)) (fn : List He5.DefA) : PySem.W.Hook where
  α := He.AlD
  obs := fun s => obsLG n fa fn s.heap.get?
  val := fun _ => valL fn
  says := fun _ h => ∃ K : PySem.W.Frag, K.In h ∧ SaysL fa fn K
  of := fun _ _ e => ⟨_, He.frG_in, e⟩
  keeps := fun _ _ _ ⟨K, hK, c⟩ k => ⟨K, PySem.W.Frag.In.keeps hK k, c⟩
theorem obsLG_eq {n : Nat} {fa : List (PySem.W.Frag → Bool)} {fn : List He5.DefA} {g : Addr → Option Obj} {s : Shared} (h : ∀ a, g a = s.heap.get? a) : obsLG n fa fn g = (hookL n fa fn).obs s := by
  have e : g = s.heap.get? := funext h
  rw [e] <;> rfl
section
variable {fa : List (PySem.W.Frag → Bool)} {fn : List He5.DefA} {K : PySem.W.Frag}
theorem SaysL.fact (c : SaysL fa fn K) (i : Nat) {f : PySem.W.Frag → Bool} (h : fa[i]? = some f := by rfl) : f K = true := by
  have c1 := (He.ba (show ((fa.all fun f => f K) && fn.all fun d => d.ok K) = true from congrArg (fun z : He.AlD => z.1) c)).1
  exact List.all_eq_true.mp c1 f (List.mem_of_getElem? h)
theorem SaysL.def_ (c : SaysL fa fn K) (i : Nat) {d : He5.DefA} (h : fn[i]? = some d := by rfl) : ∃ fd, L2.FunD K d.name d.qual d.params d.body d.scope (d.dvs K) (d.kws K) (d.at_ K) fd := by
  have c2 := (He.ba (show ((fa.all fun f => f K) && fn.all fun d => d.ok K) = true from congrArg (fun z : He.AlD => z.1) c)).2
  have e : fn.map (fun d => He5.fnA K (d.at_ K)) = fn.map He5.DefA.val := congrArg (fun z : He.AlD => z.2) c
  have e2 : (fn.map fun d => He5.fnA K (d.at_ K))[i]? = (fn.map He5.DefA.val)[i]? := by rw [e]
  rw [List.getElem?_map, List.getElem?_map, h] at e2
  exact He5.DefA.funD (Option.some.inj e2) (List.all_eq_true.mp c2 d (List.mem_of_getElem? h))
end
def baseB (C m : Str) (K : PySem.W.Frag) : Bool := PySem.W.readsIn K (He.ga K C) (.type "type") && (He.eqO (PySem.W.specialIn K (.ref (He.ga K C)) "__getattribute__") (some (some (.builtin "type.__getattribute__"))) &&
  (match PySem.W.findCls K (.ref (He.ga K C)) (.type "type") m with
    | some (.val (.ref a)) => decide (a = He.ma K (He.ga K C) m) && PySem.W.keepIn K (.ref a)
    | _ => false))
theorem baseB_ok {g : G} {C m : Str} (hC : g.mg C = some (.ref (He.ga g.K C))) (h : baseB C m g.K = true) : ClX.CRead g.K (He.ga g.K C) (.type "type") ∧ ClX.CVal g.K (He.ga g.K C) (.type "type") m (.ref (He.ma g.K (He.ga g.K C) m)) (.ref (He.ma g.K (He.ga g.K C) m)) ∧ KnB g C m := by
  obtain ⟨h1, h⟩ := He.ba h
  obtain ⟨h2, h⟩ := He.ba h
  have rd : ClX.CRead g.K (He.ga g.K C) (.type "type") := ⟨h1, He.eqO_ok h2⟩
  have cv : ClX.CVal g.K (He.ga g.K C) (.type "type") m (.ref (He.ma g.K (He.ga g.K C) m)) (.ref (He.ma g.K (He.ga g.K C) m)) ∧ PySem.W.keepIn g.K (.ref (He.ma g.K (He.ga g.K C) m)) = true := by
    split at h
    · rename_i a e
      obtain ⟨k1, k2⟩ := He.ba h
      have z := of_decide_eq_true k1
      subst z
      exact ⟨⟨e, rfl⟩, k2⟩
    · cases h
  exact ⟨rd, cv.1, _, _, hC, rd, cv.1, cv.2⟩
abbrev Ow := List (Addr × HO)
section
variable {σ σ' : L2.St} {H : Hp} {Q : VK} {v x y : V} {i : Nat} {ta tb tc te : TE} {t u : TA} {r r' : R2} {D : Ends} {K : PySem.W.Frag} {c d : TT} {QT : Bool → Hp → Prop} {QA : List V → Hp → Prop} {b : Bool}
theorem rd_var (h : σ[i]? = some (some v)) (k : Q v H) : tVar i σ H Q := ⟨v, h, k⟩
theorem rd_c (k : Q v H) : tC v σ H Q := k
theorem rd_op (k : ta σ H fun x H1 => tb σ H1 fun y H2 => r x y H2 Q) : tOp r ta tb σ H Q := k
theorem rd_un {f : V → Hp → VK → Prop} (k : ta σ H fun x H1 => f x H1 Q) : tUn f ta σ H Q := k
theorem rd_nil (k : QA [] H) : tNil σ H QA := k
theorem rd_cons (k : te σ H fun x H1 => t σ H1 fun xs H2 => QA (x :: xs) H2) : tCons te t σ H QA := k
theorem rd_CB {f : List V → Hp → VK → Prop} (k : t σ H fun vs H1 => f vs H1 Q) : tCB f t σ H Q := k
def kLst (xs : List V) (H : Hp) (Q : VK) : Prop := xs.length ≤ sizeLine ∧ ∀ p, H p = none → Q (.ref p) (upd H p (.lst xs))
def kTup (xs : List V) (H : Hp) (Q : VK) : Prop := xs.length ≤ sizeLine ∧ ∀ p, H p = none → Q (.ref p) (upd H p (.tup xs))
theorem rd_lst (k : t σ H fun xs H1 => kLst xs H1 Q) : tLst t σ H Q := k
theorem rd_tup (k : t σ H fun xs H1 => kTup xs H1 Q) : tTup t σ H Q := k
theorem sl_of {n : Nat} (h : n ≤ 1000000) : n ≤ sizeLine := Nat.le_trans h (by decide +kernel)
theorem sl_lt {n : Nat} (h : n < 1000000) : n < sizeLine := Nat.lt_of_lt_of_le h (by decide +kernel)
def kB (x : V) (H : Hp) (Q : Bool → Hp → Prop) : Prop := ∃ k, x = .bl k ∧ Q k H
theorem rd_test (k : te σ H fun x H1 => kB x H1 QT) : tTest te σ H QT := k
theorem k_B (k : QT b H) : kB (.bl b) H QT := ⟨b, rfl, k⟩
theorem rd_tru (k : ta σ H fun x H1 => kTru K x H1 QT) : tTruG K ta σ H QT := k
def kIf (b : Bool) (A B : Prop) : Prop := if b = true then A else B
theorem k_ift {A B : Prop} (k : A) : kIf true A B := k
theorem k_iff {A B : Prop} (k : B) : kIf false A B := iteF k
theorem k_ifT {A B : Prop} (h : b = true) (k : A) : kIf b A B := by subst h; exact k
theorem k_ifF {A B : Prop} (h : b = false) (k : B) : kIf b A B := by subst h; exact iteF k
theorem k_nft {A B : Prop} (k : B) : kIf (!true) A B := iteF k
theorem k_nff {A B : Prop} (k : A) : kIf (!false) A B := k
theorem k_if {A B : Prop} (h1 : b = true → A) (h2 : b = false → B) : kIf b A B := by
  cases b with
  | true => exact h1 rfl
  | false => exact iteF (h2 rfl)
theorem k_ifd {A B p : Prop} [Decidable p] (h1 : p → A) (h2 : ¬ p → B) : kIf (decide p) A B := k_if (fun h => h1 (of_decide_eq_true h)) (fun h => h2 (of_decide_eq_false h))
theorem k_ifnd {A B p : Prop} [Decidable p] (h1 : ¬ p → A) (h2 : p → B) : kIf (!decide p) A B := k_if (fun h => h1 (by simpa using h)) (fun h => h2 (by simpa using h))
theorem k_ifp {A B p : Prop} [Decidable p] (h : p) (k : A) : kIf (decide p) A B := k_ifd (fun _ => k) (fun n => (n h).elim)
theorem k_ifn {A B p : Prop} [Decidable p] (h : ¬ p) (k : B) : kIf (decide p) A B := k_ifd (fun n => (h n).elim) (fun _ => k)
theorem k_ifnp {A B p : Prop} [Decidable p] (h : p) (k : B) : kIf (!decide p) A B := k_ifnd (fun n => (n h).elim) (fun _ => k)
theorem k_ifnn {A B p : Prop} [Decidable p] (h : ¬ p) (k : A) : kIf (!decide p) A B := k_ifnd (fun _ => k) (fun n => (h n).elim)
theorem rd_and (k : c σ H fun b H1 => kIf b (d σ H1 QT) (QT false H1)) : tAnd c d σ H QT := k
theorem rd_or (k : c σ H fun b H1 => kIf b (QT true H1) (d σ H1 QT)) : tOr c d σ H QT := k
theorem rd_not (k : c σ H fun b H1 => QT (!b) H1) : tNot c σ H QT := k
theorem rd_ifE (k : c σ H fun b H1 => kIf b (ta σ H1 Q) (tb σ H1 Q)) : tIf c ta tb σ H Q := k
def kAndV (K : PySem.W.Frag) (x : V) (H : Hp) (Q : VK) (R : Prop) : Prop := ∃ k, TruV K x H k ∧ kIf k R (Q x H)
def kOrV (K : PySem.W.Frag) (x : V) (H : Hp) (Q : VK) (R : Prop) : Prop := ∃ k, TruV K x H k ∧ kIf k (Q x H) R
theorem rd_andT (k : ta σ H fun x H1 => kAndV K x H1 Q (tb σ H1 Q)) : tAndT K ta tb σ H Q := k
theorem rd_orT (k : ta σ H fun x H1 => kOrV K x H1 Q (tb σ H1 Q)) : tOrT K ta tb σ H Q := k
theorem k_andV_bl {R : Prop} (k : kIf b R (Q (.bl b) H)) : kAndV K (.bl b) H Q R := ⟨b, rfl, k⟩
theorem k_orV_bl {R : Prop} (k : kIf b (Q (.bl b) H) R) : kOrV K (.bl b) H Q R := ⟨b, rfl, k⟩
def kNotV (K : PySem.W.Frag) (x : V) (H : Hp) (Q : VK) : Prop := ∃ k, TruV K x H k ∧ Q (.bl (!k)) H
theorem rd_notT (k : ta σ H fun x H1 => kNotV K x H1 Q) : tNotT K ta σ H Q := k
theorem k_notV_bl (k : Q (.bl (!b)) H) : kNotV K (.bl b) H Q := ⟨b, rfl, k⟩
def kFld (K : PySem.W.Frag) (x : V) (f : Str) (H : Hp) (Q : VK) : Prop := ∃ a C dx fs v, x = .ref a ∧ H a = some (.ins C dx fs) ∧ Cls K C ∧ NoAttr K C f ∧ fs.lookup f = some v ∧ Q v H
theorem rd_fld {f : Str} (k : ta σ H fun x H1 => kFld K x f H1 Q) : tFld K ta f σ H Q := k
theorem rd_sl {f : V → Option Int → Option Int → Hp → VK → Prop} {tl th : TO} (k : te σ H fun x H1 => tl σ H1 fun l H2 => th σ H2 fun u H3 => f x l u H3 Q) : tSl f te tl th σ H Q := k
theorem rd_nopart {QO : Option Int → Hp → Prop} (k : QO none H) : tNoPart σ H QO := k
def kPart (x : V) (H : Hp) (QO : Option Int → Hp → Prop) : Prop := ∃ i, x = .int i ∧ QO (some i) H
theorem rd_part {QO : Option Int → Hp → Prop} (k : te σ H fun x H1 => kPart x H1 QO) : tPart te σ H QO := k
theorem k_part {QO : Option Int → Hp → Prop} {i : Int} (k : QO (some i) H) : kPart (.int i) H QO := ⟨i, rfl, k⟩
def kChain (x : V) (H : Hp) (Q : VK) (R : Hp → Prop) : Prop := ∃ k, x = .bl k ∧ kIf k (R H) (Q (.bl false) H)
theorem rd_chain (k : ta σ H fun x H1 => tb σ H1 fun y H2 => r x y H2 fun z H3 => kChain z H3 Q fun H4 => tc σ H4 fun w H5 => r' y w H5 Q) : tChain r r' ta tb tc σ H Q := k
theorem k_chain {R : Hp → Prop} (k : kIf b (R H) (Q (.bl false) H)) : kChain (.bl b) H Q R := ⟨b, rfl, k⟩
def kBM (K : PySem.W.Frag) (T : String) (x : V) (H : Hp) (R : Prop) : Prop := tyV K T x H ∧ R
theorem rd_BM {T : String} {f : V → List V → Hp → VK → Prop} (k : ta σ H fun x H1 => kBM K T x H1 (t σ H1 fun xs H2 => f x xs H2 Q)) : tBM K T f ta t σ H Q := k
theorem rd_BM0 {T : String} {f : V → List V → Hp → VK → Prop} (k : ta σ H fun x H1 => kBM K T x H1 (f x [] H1 Q)) : tBM0 K T f ta σ H Q := k
def kBMT (x : V) (H : Hp) (R : Prop) : Prop := (∃ p o xs, x = .ref p ∧ H p = some o ∧ FT o xs) ∧ R
theorem rd_BMT {f : V → List V → Hp → VK → Prop} (k : ta σ H fun x H1 => kBMT x H1 (t σ H1 fun xs H2 => f x xs H2 Q)) : tBMT f ta t σ H Q := k
def kRng (a b : Int) (H : Hp) (Q : VK) : Prop := RgOk a b ∧ ∀ q, H q = none → Q (.ref q) (upd H q (.lst (rgV a b)))
def kI (x : V) (H : Hp) (R : Int → Hp → Prop) : Prop := ∃ i, x = .int i ∧ R i H
theorem k_I {R : Int → Hp → Prop} {i : Int} (k : R i H) : kI (.int i) H R := ⟨i, rfl, k⟩
theorem rd_lrg1 (k : ta σ H fun x H1 => kI x H1 fun n H2 => kRng 0 n H2 Q) : tLstRg (tRg1 ta) σ H Q := k
theorem rd_call {g : G} {A : Around} {f : Str} {E : XK} (k : t σ H fun vs H1 => kCall g A f E vs H1 Q) : tCallG g A f E t σ H Q := k
theorem k_call {g : G} {A : Around} {f : Str} {E : XK} {k : Nat} {sp : Sp} {vs : List V} (F : GF g k f sp) (hr : Room k A) (h : sp vs H Q E) : kCall g A f E vs H Q := ⟨k, sp, hr, F, h⟩
theorem rd_make {g : G} {A : Around} {f : Str} {E : XK} (k : t σ H fun vs H1 => kMake g A f E vs H1 Q) : tMakeG g A f E t σ H Q := k
theorem k_make {g : G} {A : Around} {f : Str} {E : XK} {k : Nat} {sp : Sp} {vs : List V} {C : Addr} {L : Ow} {Dd : List Fct} (hm : g.mg f = some (.ref C)) (F : IF g k C sp) (hr : Room (k + 1) A) (W : Wd L Dd H)
    (h : ∀ p dx H', Wd ((p, .ins C dx []) :: (dx, .own p) :: L) Dd H' → sp (.ref p :: vs) H' (fun v H2 => v = .non ∧ Q (.ref p) H2) E) : kMake g A f E vs H Q :=
  ⟨k, sp, C, hr, hm, F, fun p dx h1 h2 h3 => h p dx _ (by
    have W1 := W.new h2 (.own p)
    have h4 : upd H dx (.own p) p = none := by rw [upd_ne (Ne.symm h3)]; exact h1
    exact W1.new h4 (.ins C dx []))⟩
theorem rd_base {g : G} {A : Around} {C m : Str} {E : XK} (k : t σ H fun vs H1 => kBase g A C m E vs H1 Q) : tBaseG g A C m E t σ H Q := k
def BF (g : G) (k : Nat) (C m : Str) (sp : Sp) : Prop := ∃ f Ca, g.mg C = some (.ref Ca) ∧ ClX.CVal g.K Ca (.type "type") m (.ref f) (.ref f) ∧ Fk g k sp f
theorem k_base {g : G} {A : Around} {C m : Str} {E : XK} {k : Nat} {sp : Sp} {vs : List V} (F : BF g k C m sp) (hr : Room k A) (h : sp vs H Q E) : kBase g A C m E vs H Q := let ⟨f, Ca, a, b, c⟩ := F; ⟨k, sp, f, Ca, hr, a, b, c, h⟩
def kRecv (g : G) (m : Str) (x : V) (H : Hp) (R : Addr → Prop) : Prop := ∃ a C dx fs, x = .ref a ∧ H a = some (.ins C dx fs) ∧ Cls g.K C ∧ fs.lookup m = none ∧ (∃ f, Meth g.K C m f) ∧ R C
def kMeth (g : G) (A : Around) (C : Addr) (m : Str) (E : XK) (vs : List V) (H : Hp) (Q : VK) : Prop := ∃ k sp, Room k A ∧ MF g k C m sp ∧ sp vs H Q E
theorem rd_meth {g : G} {A : Around} {m : Str} {E : XK} (k : ta σ H fun x H1 => kRecv g m x H1 fun C => t σ H1 fun vs H2 => kMeth g A C m E (x :: vs) H2 Q) : tMethG g A m E ta t σ H Q := k
theorem k_meth {g : G} {A : Around} {C : Addr} {m : Str} {E : XK} {k : Nat} {sp : Sp} {vs : List V} (F : MF g k C m sp) (hr : Room k A) (h : sp vs H Q E) : kMeth g A C m E vs H Q := ⟨k, sp, hr, F, h⟩
theorem k_recv {g : G} {m : Str} {R : Addr → Prop} {a C dx : Addr} {fs : List (Str × V)} (hH : H a = some (.ins C dx fs)) (c : Cls g.K C) (l : fs.lookup m = none) (hm : ∃ f, Meth g.K C m f) (k : R C) : kRecv g m (.ref a) H R := ⟨a, C, dx, fs, rfl, hH, c, l, hm, k⟩
variable {s1 s2 : TS}
theorem rd_seq (k : s1 { D with nx := s2 D } σ H) : tSeq s1 s2 D σ H := k
theorem rd_cut (Mid : L2.St → Hp → Prop) (h1 : s1 { D with nx := Mid } σ H) (h2 : ∀ σ' H', Mid σ' H' → s2 D σ' H') : C8.tCut s1 s2 D σ H := ⟨Mid, h1, h2⟩
theorem rd_cut0 (k : s1 { D with nx := s2 D } σ H) : C8.tCut s1 s2 D σ H := ⟨s2 D, k, fun _ _ h => h⟩
theorem rd_next (k : D.nx σ H) : tNext D σ H := k
theorem rd_cont (k : D.ct σ H) : tCont D σ H := k
theorem rd_break (k : D.bk σ H) : tBreak D σ H := k
theorem rd_ret (k : te σ H D.rt) : tRet te D σ H := k
theorem rd_retN (k : D.rt .non H) : tRetN D σ H := k
theorem rd_drop (k : te σ H fun _ H1 => D.nx σ H1) : tDrop te D σ H := k
theorem rd_asg {gt : TG} (k : te σ H fun x H1 => gt x σ H1 D.nx) : tAsg te gt D σ H := k
theorem rd_ifS (k : c σ H fun b H1 => kIf b (s1 D σ H1) (s2 D σ H1)) : tIfS c s1 s2 D σ H := k
theorem rd_gname {R : L2.St → Hp → Prop} (h : σ.set i (some v) = σ') (k : R σ' H) : gName i v σ H R := by
  subst h
  exact k
def kUnp (K : PySem.W.Frag) (n : Nat) (x : V) (H : Hp) (R : List V → Prop) : Prop := ∃ a xs, x = .ref a ∧ SqT K H a xs ∧ xs.length = n ∧ R xs
theorem rd_gtup {n : Nat} {gs : TGs} {R : L2.St → Hp → Prop} (k : kUnp K n v H fun xs => gs xs σ H R) : gTup K n gs v σ H R := k
theorem rd_gcons {gt : TG} {gs : TGs} {R : L2.St → Hp → Prop} {xs : List V} (k : gt v σ H fun σ' H' => gs xs σ' H' R) : gCons gt gs (v :: xs) σ H R := ⟨v, xs, rfl, k⟩
theorem rd_gnil {R : L2.St → Hp → Prop} (k : R σ H) : gNil [] σ H R := ⟨rfl, k⟩
theorem rd_gsub {to ti : TE} {ts : TSet} {R : L2.St → Hp → Prop} (k : to σ H fun o H1 => ti σ H1 fun j H2 => ts o j v H2 fun H3 => R σ H3) : gSub to ti ts v σ H R := k
def kSetF (K : PySem.W.Frag) (x : V) (f : Str) (y : V) (H : Hp) (R : Hp → Prop) : Prop := ∃ a C dx fs, x = .ref a ∧ H a = some (.ins C dx fs) ∧ Cls K C ∧ NoAttr K C f ∧ fs.length < 1000 ∧ R (upd H a (.ins C dx (putF f y fs)))
theorem rd_sfld {f : Str} (k : tb σ H fun y H1 => ta σ H1 fun x H2 => kSetF K x f y H2 fun H3 => D.nx σ H3) : sFld K ta tb f D σ H := k
theorem rd_augS {to ti : TE} {tg : V → V → Hp → VK → Prop} {tp : TIp} {ts : TSet} (k : to σ H fun o H1 => ti σ H1 fun j H2 => tg o j H2 fun x H3 => te σ H3 fun y H4 => tp x y H4 fun z H5 => ts o j z H5 fun H6 => D.nx σ H6) : tAugS to ti te tg tp ts D σ H := k
theorem rd_aug {tp : TIp} (h : σ[i]? = some (some x)) (k : te σ H fun y H1 => tp x y H1 fun z H2 => D.nx (σ.set i (some z)) H2) : tAug i te tp D σ H := ⟨x, h, k⟩
theorem rd_par {j : Nat} (k : t σ H fun vs H1 => ∃ v w, vs = [v, w] ∧ D.nx ((σ.set i (some v)).set j (some w)) H1) : tPar i j t D σ H := k
end
section
variable {H : Hp} {Q : VK} {K : PySem.W.Frag} {L : Ow} {D : List Fct} {p q : Addr} {v x y : V} {xs ys : List V} {i j : Int} {s z : Str} {b : Bool}
theorem k_lst (W : Wd L D H) (hs : xs.length ≤ sizeLine) (k : ∀ p H', Wd ((p, .lst xs) :: L) D H' → Q (.ref p) H') : kLst xs H Q := ⟨hs, fun p hp => k p _ (W.new hp _)⟩
theorem k_tup (W : Wd L D H) (hs : xs.length ≤ sizeLine) (k : ∀ p H', Wd ((p, .tup xs) :: L) D H' → Q (.ref p) H') : kTup xs H Q := ⟨hs, fun p hp => k p _ (W.new hp _)⟩
theorem k_tupD {ds : List PyData} (W : Wd L D H) (hs : xs.length ≤ sizeLine) (h : HasAll K D xs ds) (k : ∀ p H', Wd L (isD K (.ref p) (.tuple ds) :: D) H' → Q (.ref p) H') : kTup xs H Q := ⟨hs, fun p hp => k p _ ((W.new hp _).frzT h)⟩
theorem k_rng {a : Int} (W : Wd L D H) (h : RgOk a i) (k : ∀ p H', Wd ((p, .lst (rgV a i)) :: L) D H' → Q (.ref p) H') : kRng a i H Q := ⟨h, fun p hp => k p _ (W.new hp _)⟩
theorem k_add_ii (k : Q (.int (i + j)) H) : kAdd K (.int i) (.int j) H Q := .inl ⟨i, j, rfl, rfl, k⟩
theorem k_add_ss (hl : s.length + z.length ≤ sizeLine) (k : Q (.str (s ++ z)) H) : kAdd K (.str s) (.str z) H Q := .inr (.inl ⟨s, z, rfl, rfl, hl, k⟩)
theorem k_add_ll (W : Wd L D H) (h1 : (p, .lst xs) ∈ L) (h2 : (q, .lst ys) ∈ L) (hl : xs.length + ys.length ≤ sizeLine) (k : ∀ r H', Wd ((r, .lst (xs ++ ys)) :: L) D H' → Q (.ref r) H') : kAdd K (.ref p) (.ref q) H Q :=
  .inr (.inr (.inl ⟨p, q, xs, ys, rfl, rfl, W.at_ h1, W.at_ h2, hl, fun r hr => k r _ (W.new hr _)⟩))
theorem k_sub (k : Q (.int (i - j)) H) : kSub (.int i) (.int j) H Q := ⟨i, j, rfl, rfl, k⟩
theorem k_mul (h : CMulW i j) (k : Q (.int (i * j)) H) : kMul (.int i) (.int j) H Q := .inl ⟨i, j, rfl, rfl, h, k⟩
theorem k_rep (W : Wd L D H) (h1 : (p, .lst xs) ∈ L) (h2 : -(2 ^ 63) ≤ i) (h3 : i < 2 ^ 63) (hl : xs.length * i.toNat ≤ sizeLine) (k : ∀ r H', Wd ((r, .lst (List.replicate i.toNat xs).flatten) :: L) D H' → Q (.ref r) H') : kMul (.ref p) (.int i) H Q :=
  .inr ⟨p, i, xs, rfl, rfl, W.at_ h1, h2, h3, hl, fun r hr => k r _ (W.new hr _)⟩
theorem k_div (h : CDivW i j) (k : Q (.int (i / j)) H) : kDiv (.int i) (.int j) H Q := ⟨i, j, rfl, rfl, h, k⟩
theorem k_mod (h : 0 < j) (k : Q (.int (i % j)) H) : kMod (.int i) (.int j) H Q := ⟨i, j, rfl, rfl, h, k⟩
theorem k_pow (h : CPowW i j) (k : Q (.int (i ^ j.toNat)) H) : kPow (.int i) (.int j) H Q := ⟨i, j, rfl, rfl, h, k⟩
theorem k_lt (k : Q (.bl (decide (i < j))) H) : kLt (.int i) (.int j) H Q := ⟨i, j, rfl, rfl, k⟩
theorem k_le (k : Q (.bl (decide (i ≤ j))) H) : kLe (.int i) (.int j) H Q := ⟨i, j, rfl, rfl, k⟩
theorem k_gt (k : Q (.bl (decide (j < i))) H) : kGt (.int i) (.int j) H Q := ⟨i, j, rfl, rfl, k⟩
theorem k_ge (k : Q (.bl (decide (j ≤ i))) H) : kGe (.int i) (.int j) H Q := ⟨i, j, rfl, rfl, k⟩
theorem k_eq_ii (k : Q (.bl (decide (i = j))) H) : kEq K (.int i) (.int j) H Q := .inl ⟨rfl, by rw [show (decide (V.int i = V.int j)) = decide (i = j) from by simp]; exact k⟩
theorem k_eq_ss (k : Q (.bl (decide (s = z))) H) : kEq K (.str s) (.str z) H Q := .inl ⟨rfl, by rw [show (decide (V.str s = V.str z)) = decide (s = z) from by simp]; exact k⟩
theorem k_eq_sc (h : scal x y = true) (k : Q (.bl (decide (x = y))) H) : kEq K x y H Q := .inl ⟨h, k⟩
theorem k_eq_D {d e : PyData} (W : Wd L D H) (hx : Has K D x d) (hy : Has K D y e) (s1 : SeqAt.shaped d = true) (s2 : SeqAt.shaped e = true) (k : Q (.bl (PyData.eqv d e)) H) : kEq K x y H Q := .inr ⟨d, e, W.has hx, W.has hy, s1, s2, k⟩
theorem k_ne_ii (k : Q (.bl (!decide (i = j))) H) : kNe K (.int i) (.int j) H Q := .inl ⟨rfl, by rw [show (decide (V.int i = V.int j)) = decide (i = j) from by simp]; exact k⟩
theorem k_ne_ss (k : Q (.bl (!decide (s = z))) H) : kNe K (.str s) (.str z) H Q := .inl ⟨rfl, by rw [show (decide (V.str s = V.str z)) = decide (s = z) from by simp]; exact k⟩
theorem k_ne_sc (h : scal x y = true) (k : Q (.bl (!decide (x = y))) H) : kNe K x y H Q := .inl ⟨h, k⟩
theorem k_ne_D {d e : PyData} (W : Wd L D H) (hx : Has K D x d) (hy : Has K D y e) (s1 : SeqAt.shaped d = true) (s2 : SeqAt.shaped e = true) (k : Q (.bl (!PyData.eqv d e)) H) : kNe K x y H Q := .inr ⟨d, e, W.has hx, W.has hy, s1, s2, k⟩
theorem k_isN (k : Q (.bl (decide (x = .non))) H) : kIsN x .non H Q := ⟨rfl, k⟩
theorem k_notN (k : Q (.bl (!decide (x = .non))) H) : kNotN x .non H Q := ⟨rfl, k⟩
theorem k_ix_l (W : Wd L D H) (h1 : (p, .lst xs) ∈ L) (h : atI xs i = some v) (k : Q v H) : kIx K (.ref p) (.int i) H Q := .inl (.inl ⟨p, xs, i, v, rfl, rfl, SqL.of (W.at_ h1), h, k⟩)
theorem k_ix_t (W : Wd L D H) (h1 : (p, .tup xs) ∈ L) (h : atI xs i = some v) (k : Q v H) : kIx K (.ref p) (.int i) H Q := .inl (.inr (.inl ⟨p, xs, i, v, rfl, rfl, SqT.of (W.at_ h1), h, k⟩))
theorem k_ix_L (h1 : SqL K H p xs) (h : atI xs i = some v) (k : Q v H) : kIx K (.ref p) (.int i) H Q := .inl (.inl ⟨p, xs, i, v, rfl, rfl, h1, h, k⟩)
theorem k_ix_T (h1 : SqT K H p xs) (h : atI xs i = some v) (k : Q v H) : kIx K (.ref p) (.int i) H Q := .inl (.inr (.inl ⟨p, xs, i, v, rfl, rfl, h1, h, k⟩))
theorem k_get_l (W : Wd L D H) (h1 : (p, .lst xs) ∈ L) (h : atI xs i = some v) (k : Q v H) : kGet K (.ref p) (.int i) H Q := .inl ⟨p, xs, i, v, rfl, rfl, SqL.of (W.at_ h1), h, k⟩
theorem k_ipadd (k : Q (.int (i + j)) H) : kIpAdd (.int i) (.int j) H Q := ⟨i, j, rfl, rfl, k⟩
theorem k_ipsub (k : Q (.int (i - j)) H) : ipI (fun i j => i - j) (.int i) (.int j) H Q := ⟨i, j, rfl, rfl, k⟩
theorem k_set_l {R : Hp → Prop} {n : Nat} (W : Wd ((p, .lst xs) :: L) D H) (h : ixN xs.length i = some n) (k : ∀ H', Wd ((p, .lst (xs.set n v)) :: L) D H' → R H') : kSet (.ref p) (.int i) v H R :=
  .inl ⟨p, xs, i, n, rfl, rfl, W.at_ List.mem_cons_self, h, k _ (W.put _)⟩
theorem k_fld {C dx : Addr} {fs : List (Str × V)} {f : Str} (hH : H p = some (.ins C dx fs)) (c : Cls K C) (n : NoAttr K C f) (l : fs.lookup f = some v) (k : Q v H) : kFld K (.ref p) f H Q := ⟨p, C, dx, fs, v, rfl, hH, c, n, l, k⟩
theorem k_setF {C dx : Addr} {fs fs' : List (Str × V)} {f : Str} {R : Hp → Prop} (W : Wd ((p, .ins C dx fs) :: L) D H) (c : Cls K C) (n : NoAttr K C f) (e : putF f y fs = fs') (hl : fs.length < 1000) (k : ∀ H', Wd ((p, .ins C dx fs') :: L) D H' → R H') : kSetF K (.ref p) f y H R :=
  ⟨p, C, dx, fs, rfl, W.at_ List.mem_cons_self, c, n, hl, by subst e; exact k _ (W.put _)⟩
theorem k_len_l (W : Wd L D H) (h1 : (p, .lst xs) ∈ L) (k : Q (.int xs.length) H) : kLen K [.ref p] H Q := .inl ⟨p, xs, rfl, .inl (SqL.of (W.at_ h1)), k⟩
theorem k_len_t (W : Wd L D H) (h1 : (p, .tup xs) ∈ L) (k : Q (.int xs.length) H) : kLen K [.ref p] H Q := .inl ⟨p, xs, rfl, .inr (SqT.of (W.at_ h1)), k⟩
theorem k_len_L (h1 : SqL K H p xs) (k : Q (.int xs.length) H) : kLen K [.ref p] H Q := .inl ⟨p, xs, rfl, .inl h1, k⟩
theorem k_len_T (h1 : SqT K H p xs) (k : Q (.int xs.length) H) : kLen K [.ref p] H Q := .inl ⟨p, xs, rfl, .inr h1, k⟩
theorem k_len_s (h : s.length ≤ sizeLine) (k : Q (.int s.length) H) : kLen K [.str s] H Q := .inr (.inl ⟨s, rfl, h, k⟩)
theorem k_abs (k : Q (.int (if i < 0 then -i else i)) H) : kAbs [.int i] H Q := ⟨i, rfl, k⟩
theorem k_max2 (k : Q (.int (if j > i then j else i)) H) : kMax K [.int i, .int j] H Q := .inl ⟨i, j, rfl, k⟩
theorem k_app {R : VK} (W : Wd ((p, .lst xs) :: L) D H) (hl : xs.length < sizeLine) (k : ∀ H', Wd ((p, .lst (xs ++ [v])) :: L) D H' → R .non H') : rAppend (.ref p) [v] H R :=
  ⟨p, xs, v, rfl, rfl, W.at_ List.mem_cons_self, hl, k _ (W.put _)⟩
theorem k_ext {R : VK} (W : Wd ((p, .lst xs) :: L) D H) (h2 : (q, .lst ys) ∈ L) (hl : xs.length + ys.length ≤ sizeLine) (k : ∀ H', Wd ((p, .lst (xs ++ ys)) :: L) D H' → R .non H') : rExtend (.ref p) [.ref q] H R :=
  ⟨p, q, xs, ys, rfl, rfl, W.at_ List.mem_cons_self, W.at_ (List.mem_cons_of_mem _ h2), hl, k _ (W.put _)⟩
theorem k_popAt {R : VK} {n : Nat} (W : Wd ((p, .lst xs) :: L) D H) (h1 : -(2 ^ 63) ≤ i) (h2 : i < 2 ^ 63) (h3 : seqIndex? i xs.length = some n) (h4 : xs[n]? = some v) (k : ∀ H', Wd ((p, .lst (xs.eraseIdx n)) :: L) D H' → R v H') : rPopAt (.ref p) [.int i] H R :=
  ⟨p, xs, i, n, v, rfl, rfl, W.at_ List.mem_cons_self, h1, h2, h3, h4, k _ (W.put _)⟩
theorem k_clear {R : VK} (W : Wd ((p, .lst xs) :: L) D H) (k : ∀ H', Wd ((p, .lst []) :: L) D H' → R .non H') : rClear (.ref p) [] H R := ⟨p, xs, rfl, rfl, W.at_ List.mem_cons_self, k _ (W.put _)⟩
theorem k_bm_l {R : Prop} (W : Wd L D H) (h1 : (p, .lst xs) ∈ L) (k : R) : kBM K "list" (.ref p) H R := ⟨.inl ⟨rfl, xs, SqL.of (W.at_ h1)⟩, k⟩
theorem k_bmt {R : Prop} {o : HO} (hH : H p = some o) (h : FT o xs) (k : R) : kBMT (.ref p) H R := ⟨⟨p, o, xs, rfl, hH, h⟩, k⟩
theorem k_list_l (W : Wd L D H) (h1 : (p, .lst xs) ∈ L) (k : ∀ r H', Wd ((r, .lst xs) :: L) D H' → Q (.ref r) H') : kList K [.ref p] H Q := .inl ⟨p, xs, rfl, .inl (SqL.of (W.at_ h1)), fun r hr => k r _ (W.new hr _)⟩
theorem k_list_L (W : Wd L D H) (h1 : SqL K H p xs) (k : ∀ r H', Wd ((r, .lst xs) :: L) D H' → Q (.ref r) H') : kList K [.ref p] H Q := .inl ⟨p, xs, rfl, .inl h1, fun r hr => k r _ (W.new hr _)⟩
theorem k_list_T (W : Wd L D H) (h1 : SqT K H p xs) (k : ∀ r H', Wd ((r, .lst xs) :: L) D H' → Q (.ref r) H') : kList K [.ref p] H Q := .inl ⟨p, xs, rfl, .inr h1, fun r hr => k r _ (W.new hr _)⟩
theorem k_tuple_l (W : Wd L D H) (h1 : SqL K H p xs) (k : ∀ r H', Wd ((r, .tup xs) :: L) D H' → Q (.ref r) H') : kTupleG K [.ref p] H Q := .inl ⟨p, xs, rfl, .inl ⟨h1, fun r hr => k r _ (W.new hr _)⟩⟩
theorem k_tuple_f (W : Wd L D H) (h1 : SqL K H p xs) (k : ∀ r o H', FT o xs → Wd ((r, o) :: L) D H' → Q (.ref r) H') : kTupleG K [.ref p] H Q := .inr ⟨p, xs, rfl, h1, fun r o hr ho => k r o _ ho (W.new hr _)⟩
theorem k_tuple_t (h1 : SqT K H p xs) (k : Q (.ref p) H) : kTupleG K [.ref p] H Q := .inl ⟨p, xs, rfl, .inr ⟨h1, k⟩⟩
theorem k_sl_L (W : Wd L D H) {lo hi : Option Int} (h1 : SqL K H p xs) (k : ∀ r H', Wd ((r, .lst (cutV xs lo hi)) :: L) D H' → Q (.ref r) H') : kSl K (.ref p) lo hi H Q := .inl ⟨p, xs, rfl, h1, fun r hr => k r _ (W.new hr _)⟩
theorem k_unp {R : List V → Prop} {n : Nat} (h1 : SqT K H p xs) (hl : xs.length = n) (k : R xs) : kUnp K n (.ref p) H R := ⟨p, xs, rfl, h1, hl, k⟩
theorem k_isi {c : V} {t u : Value} (hc : ClsV c u) (ht : TyX K H x t) (e : PySem.W.kitOne K t u = some b) (k : Q (.bl b) H) : kIsi K [x, c] H Q := .inl ⟨x, c, t, u, b, rfl, hc, ht, e, k⟩
theorem k_isi_ty {T U : String} (ht : TyX K H x (.type T)) (e : kitB T U = some b) (k : Q (.bl b) H) : kIsi K [x, .ty U] H Q := k_isi (.ty U) ht (kit_ty e) k
theorem k_tru_bl {R : Bool → Hp → Prop} (k : R b H) : kTru K (.bl b) H R := ⟨b, rfl, k⟩
theorem k_tru_int {R : Bool → Hp → Prop} (k : R (i != 0) H) : kTru K (.int i) H R := ⟨_, rfl, k⟩
theorem k_tru_non {R : Bool → Hp → Prop} (k : R false H) : kTru K .non H R := ⟨_, rfl, k⟩
theorem k_tru_L {R : Bool → Hp → Prop} (h : SqL K H p xs) (k : R (!xs.isEmpty) H) : kTru K (.ref p) H R := ⟨_, .inl ⟨xs, h, rfl⟩, k⟩
theorem k_tru_T {R : Bool → Hp → Prop} (h : SqT K H p xs) (k : R (!xs.isEmpty) H) : kTru K (.ref p) H R := ⟨_, .inr (.inl ⟨xs, h, rfl⟩), k⟩
theorem k_tru_s {R : Bool → Hp → Prop} (h : s.length ≤ sizeLine) (k : R ((s.length : Int) != 0) H) : kTru K (.str s) H R := ⟨_, ⟨h, rfl⟩, k⟩
theorem Wd.sq (W : Wd L D H) (h : (p, .lst xs) ∈ L) : SqL K H p xs := SqL.of (W.at_ h)
theorem Wd.st (W : Wd L D H) (h : (p, .tup xs) ∈ L) : SqT K H p xs := SqT.of (W.at_ h)
theorem k_set0 {R : Hp → Prop} {a : V} (W : Wd ((p, .lst (a :: xs)) :: L) D H) (k : ∀ H', Wd ((p, .lst (v :: xs)) :: L) D H' → R H') : kSet (.ref p) (.int 0) v H R :=
  k_set_l (n := 0) W (by rw [List.length_cons]; unfold ixN; rw [if_pos (by decide), if_pos (by omega)]; rfl) k
theorem k_set1 {R : Hp → Prop} {a b : V} (W : Wd ((p, .lst (a :: b :: xs)) :: L) D H) (k : ∀ H', Wd ((p, .lst (a :: v :: xs)) :: L) D H' → R H') : kSet (.ref p) (.int 1) v H R :=
  k_set_l (n := 1) W (by rw [List.length_cons, List.length_cons]; unfold ixN; rw [if_pos (by decide), if_pos (by omega)]; rfl) k
theorem k_set2 {R : Hp → Prop} {a b c : V} (W : Wd ((p, .lst (a :: b :: c :: xs)) :: L) D H) (k : ∀ H', Wd ((p, .lst (a :: b :: v :: xs)) :: L) D H' → R H') : kSet (.ref p) (.int 2) v H R :=
  k_set_l (n := 2) W (by rw [List.length_cons, List.length_cons, List.length_cons]; unfold ixN; rw [if_pos (by decide), if_pos (by omega)]; rfl) k
theorem k_set3 {R : Hp → Prop} {a b c d : V} (W : Wd ((p, .lst (a :: b :: c :: d :: xs)) :: L) D H) (k : ∀ H', Wd ((p, .lst (a :: b :: c :: v :: xs)) :: L) D H' → R H') : kSet (.ref p) (.int 3) v H R :=
  k_set_l (n := 3) W (by rw [List.length_cons, List.length_cons, List.length_cons, List.length_cons]; unfold ixN; rw [if_pos (by decide), if_pos (by omega)]; rfl) k
theorem k_set4 {R : Hp → Prop} {a b c d e : V} (W : Wd ((p, .lst (a :: b :: c :: d :: e :: xs)) :: L) D H) (k : ∀ H', Wd ((p, .lst (a :: b :: c :: d :: v :: xs)) :: L) D H' → R H') : kSet (.ref p) (.int 4) v H R :=
  k_set_l (n := 4) W (by rw [List.length_cons, List.length_cons, List.length_cons, List.length_cons, List.length_cons]; unfold ixN; rw [if_pos (by decide), if_pos (by omega)]; rfl) k
theorem k_pop0 {R : VK} (W : Wd ((p, .lst (v :: xs)) :: L) D H) (k : ∀ H', Wd ((p, .lst xs) :: L) D H' → R v H') : rPopAt (.ref p) [.int 0] H R :=
  k_popAt (n := 0) W (by decide) (by decide) (by rw [List.length_cons]; unfold seqIndex?; simp) rfl k
theorem k_tru_l {R : Bool → Hp → Prop} (W : Wd L D H) (h : (p, .lst xs) ∈ L) (k : R (!xs.isEmpty) H) : kTru K (.ref p) H R := k_tru_L (W.sq h) k
end
section
variable {σ : L2.St} {H : Hp} {Q : VK} {K : PySem.W.Frag} {L : Ow} {Dd : List Fct} {a b : Addr} {xs ys : List V} {i j : Int} {D : Ends} {gt : TG} {tb : TS} {wi : TI} {tl : TE} {ta : TA} {tt : TT} {te tk tv : TE} {R : It → Hp → Prop} {J : It} {n : Nat} {Gd : Hp → Prop} {Y : Nat → Hp → V → Hp → Prop} {vs : List Nat}
def kFor (J : It) (gt : TG) (tb : TS) (D : Ends) (σ : L2.St) (H : Hp) : Prop := ∃ W : Nat → Nat → L2.St → Hp → Prop, (∃ m, W 0 m σ H) ∧ ∀ i m σ H, W i m σ H →
  (J.stop i H ∧ D.nx σ H) ∨ (J.go i H ∧ ∃ N : L2.St → Hp → Prop, (∀ σ' H', N σ' H' → ∃ m', m' < m ∧ W (i + 1) m' σ' H') ∧ ∀ x H', J.yld i H x H' → gt x σ H' fun σ2 H2 => tb { D with nx := N, ct := N, bk := D.nx } σ2 H2)
theorem rd_for (k : wi σ H fun J H1 => kFor J gt tb D σ H1) : tFor wi gt tb D σ H := k
theorem k_for (w : Walk J n Gd Y) (Pv : Nat → L2.St → Hp → Prop) (h0 : Pv 0 σ H) (hG : ∀ i σ H, i ≤ n → Pv i σ H → Gd H)
    (hs : ∀ i x σ H H', i < n → Pv i σ H → Y i H x H' → gt x σ H' fun σ2 H2 => tb { D with nx := Pv (i + 1), ct := Pv (i + 1), bk := D.nx } σ2 H2) (hd : ∀ σ H, Pv n σ H → D.nx σ H) : kFor J gt tb D σ H := for_it w Pv h0 hG hs hd
theorem rd_seqI (k : tl σ H fun x H1 => kIter K x H1 R) : iSeq K tl σ H R := k
theorem k_iter_L (h : SqL K H a xs) (k : R (Itl K a) H) : kIter K (.ref a) H R := .inl ⟨a, xs, rfl, h, k⟩
theorem k_iter_T (h : SqT K H a xs) (k : R (Itt K a) H) : kIter K (.ref a) H R := .inr (.inl ⟨a, xs, rfl, h, k⟩)
theorem k_iter_S {z : Str} (k : R (Its z) H) : kIter K (.str z) H R := .inr (.inr ⟨z, rfl, k⟩)
def kRng1 (vs : List V) (H : Hp) (R : It → Hp → Prop) : Prop := ∃ j : Int, vs = [.int j] ∧ -(2 ^ 62) ≤ j ∧ j < 2 ^ 62 ∧ R (Itr 0 j.toNat) H
def kRng2 (vs : List V) (H : Hp) (R : It → Hp → Prop) : Prop := ∃ i j : Int, vs = [.int i, .int j] ∧ (-(2 ^ 62) ≤ i ∧ i < 2 ^ 62 ∧ -(2 ^ 62) ≤ j ∧ j < 2 ^ 62) ∧ R (Itr i (j - i).toNat) H
theorem rd_rng1 (k : ta σ H fun vs H1 => kRng1 vs H1 R) : iRng1 ta σ H R := k
theorem rd_rng2 (k : ta σ H fun vs H1 => kRng2 vs H1 R) : iRng2 ta σ H R := k
theorem k_rng1 (h1 : -(2 ^ 62) ≤ j) (h2 : j < 2 ^ 62) (k : R (Itr 0 j.toNat) H) : kRng1 [.int j] H R := ⟨j, rfl, h1, h2, k⟩
theorem k_rng2 (h1 : -(2 ^ 62) ≤ i) (h2 : i < 2 ^ 62) (h3 : -(2 ^ 62) ≤ j) (h4 : j < 2 ^ 62) (k : R (Itr i (j - i).toNat) H) : kRng2 [.int i, .int j] H R := ⟨i, j, rfl, ⟨h1, h2, h3, h4⟩, k⟩
theorem rd_enum (k : ta σ H fun vs H1 => kEnum K vs H1 R) : iEnumG K ta σ H R := k
theorem k_enum_L (h : SqL K H a xs) (k : R (Ite K a) H) : kEnum K [.ref a] H R := .inl ⟨a, xs, rfl, h, k⟩
theorem k_enum_T (h : SqT K H a xs) (k : R (Itet K a 0) H) : kEnum K [.ref a] H R := .inr ⟨a, xs, rfl, h, k⟩
def kLc (J : It) (gt : TG) (tt : TT) (te : TE) (vs : List Nat) (σ : L2.St) (H1 : Hp) (Q : VK) : Prop := ∀ D, H1 D = none → ∃ W : Nat → Nat → Hp → Prop, (∃ m, W 0 m (upd H1 D (.lst []))) ∧ ∀ i m H, W i m H →
  (J.stop i H ∧ Q (.ref D) H) ∨ (J.go i H ∧ ∃ Nx : Hp → Prop, (∀ H', Nx H' → ∃ m', m' < m ∧ W (i + 1) m' H') ∧ ∀ x H', J.yld i H x H' → gt x (wipe σ vs) H' fun σ2 H2 => wipe σ2 vs = wipe σ vs ∧ tt σ2 H2 fun b H3 =>
    if b = true then te σ2 H3 fun y H4 => ∃ acc, H4 D = some (.lst acc) ∧ acc.length < sizeLine ∧ Nx (upd H4 D (.lst (acc ++ [y]))) else Nx H3)
theorem rd_lc (k : wi σ H fun J H1 => kLc J gt tt te vs σ H1 Q) : tLc wi gt tt te vs σ H Q := k
def kPush (D : Addr) (N : Hp → Prop) (y : V) (H : Hp) : Prop := ∃ acc, H D = some (.lst acc) ∧ acc.length < sizeLine ∧ N (upd H D (.lst (acc ++ [y])))
theorem k_push {N : Hp → Prop} {y : V} {acc : List V} (W : Wd ((a, .lst acc) :: L) Dd H) (hl : acc.length < sizeLine) (k : ∀ H', Wd ((a, .lst (acc ++ [y])) :: L) Dd H' → N H') : kPush a N y H :=
  ⟨acc, W.at_ List.mem_cons_self, hl, k _ (W.put _)⟩
theorem k_lc (w : Walk J n Gd Y) (W : Wd L Dd H) (Pv : Addr → Nat → Hp → Prop) (h0 : ∀ p H', Wd ((p, .lst []) :: L) Dd H' → Pv p 0 H') (hG : ∀ p i H, i ≤ n → Pv p i H → Gd H)
    (hs : ∀ p i x H H', i < n → Pv p i H → Y i H x H' → gt x (wipe σ vs) H' fun σ2 H2 => wipe σ2 vs = wipe σ vs ∧ tt σ2 H2 fun b H3 => kIf b (te σ2 H3 fun y H4 => kPush p (Pv p (i + 1)) y H4) (Pv p (i + 1) H3)) (hd : ∀ p H, Pv p n H → Q (.ref p) H) : kLc J gt tt te vs σ H Q :=
  fun p hp => lc_it w (Pv p) (h0 p _ (W.new hp _)) (hG p) (fun i x H H' hi a b => hs p i x H H' hi a b) (hd p)
end
def isT (K : PySem.W.Frag) (a : Addr) (xs : List V) : Fct := fun B => SqT K B a xs
def isL (K : PySem.W.Frag) (a : Addr) (xs : List V) : Fct := fun B => SqL K B a xs
section
variable {H : Hp} {Q : VK} {K : PySem.W.Frag} {L : Ow} {D : List Fct} {p : Addr} {v x y z : V} {xs : List V} {ds : List PyData} {d d0 d1 d2 : PyData} {i : Int} {s : Str} {b : Bool}
theorem Wd.tupl (W : Wd L D H) (h : isT K p xs ∈ D) : SqT K H p xs := W.fact h
theorem Wd.list (W : Wd L D H) (h : isL K p xs ∈ D) : SqL K H p xs := W.fact h
theorem Wd.opT (W : Wd L D H) (h : isD K v (.tuple ds) ∈ D) : ∃ (a : Addr) (xs : List V), v = .ref a ∧ xs.length = ds.length ∧ Wd L (isT K a xs :: isDs K xs ds :: D) H := let ⟨a, xs, e, l, _, W⟩ := W.openT (has_mem h); ⟨a, xs, e, l, W⟩
theorem Wd.opL (W : Wd L D H) (h : isD K v (.list ds) ∈ D) : ∃ (a : Addr) (xs : List V), v = .ref a ∧ xs.length = ds.length ∧ Wd L (isL K a xs :: isDs K xs ds :: D) H := let ⟨a, xs, e, l, _, W⟩ := W.openL (has_mem h); ⟨a, xs, e, l, W⟩
theorem Wd.ds_cons (W : Wd L D H) (h : isDs K (x :: xs) (d :: ds) ∈ D) : Wd L (isD K x d :: isDs K xs ds :: D) H := by
  have W1 : Wd L (isDs K xs ds :: D) H := W.der isDs_stab fun B b => by
    have q : DpAll K B (x :: xs) (d :: ds) := b _ h
    cases q with
    | cons _ r => exact r
  exact W1.der isD_stab fun B b => by
    have q : DpAll K B (x :: xs) (d :: ds) := b _ (List.mem_cons_of_mem _ h)
    cases q with
    | cons a _ => exact a
theorem Wd.op1 (W : Wd L D H) (h : isD K v (.tuple [d0]) ∈ D) : ∃ (a : Addr) (x : V), v = .ref a ∧ Wd L (isT K a [x] :: isD K x d0 :: D) H := by
  obtain ⟨a, xs, e, l, W⟩ := W.opT h
  match xs, l with
  | [x], _ =>
    have W2 := W.ds_cons (List.mem_cons_of_mem _ List.mem_cons_self)
    exact ⟨a, x, e, W2.wk fun F hF => by simp only [List.mem_cons] at hF ⊢; rcases hF with h | h | h <;> simp only [h, true_or, or_true]⟩
theorem Wd.op2 (W : Wd L D H) (h : isD K v (.tuple [d0, d1]) ∈ D) : ∃ (a : Addr) (x y : V), v = .ref a ∧ Wd L (isT K a [x, y] :: isD K x d0 :: isD K y d1 :: D) H := by
  obtain ⟨a, xs, e, l, W⟩ := W.opT h
  match xs, l with
  | [x, y], _ =>
    have W2 := W.ds_cons (List.mem_cons_of_mem _ List.mem_cons_self)
    have W3 := W2.ds_cons (List.mem_cons_of_mem _ List.mem_cons_self)
    exact ⟨a, x, y, e, W3.wk fun F hF => by simp only [List.mem_cons] at hF ⊢; rcases hF with h | h | h | h <;> simp only [h, true_or, or_true]⟩
theorem Wd.op3 (W : Wd L D H) (h : isD K v (.tuple [d0, d1, d2]) ∈ D) : ∃ (a : Addr) (x y z : V), v = .ref a ∧ Wd L (isT K a [x, y, z] :: isD K x d0 :: isD K y d1 :: isD K z d2 :: D) H := by
  obtain ⟨a, xs, e, l, W⟩ := W.opT h
  match xs, l with
  | [x, y, z], _ =>
    have W2 := W.ds_cons (List.mem_cons_of_mem _ List.mem_cons_self)
    have W3 := W2.ds_cons (List.mem_cons_of_mem _ List.mem_cons_self)
    have W4 := W3.ds_cons (List.mem_cons_of_mem _ List.mem_cons_self)
    exact ⟨a, x, y, z, e, W4.wk fun F hF => by simp only [List.mem_cons] at hF ⊢; rcases hF with h | h | h | h | h <;> simp only [h, true_or, or_true]⟩
theorem Wd.vint (W : Wd L D H) (h : isD K v (.int i) ∈ D) : v = .int i := by
  have q : Dp K H v (.int i) := W.fact h
  cases q
  rfl
theorem Wd.vstr (W : Wd L D H) (h : isD K v (.str s) ∈ D) : v = .str s := by
  have q : Dp K H v (.str s) := W.fact h
  cases q
  rfl
theorem Wd.vbl (W : Wd L D H) (h : isD K v (.bool b) ∈ D) : v = .bl b := by
  have q : Dp K H v (.bool b) := W.fact h
  cases q
  rfl
theorem Wd.vnon (W : Wd L D H) (h : isD K v .none ∈ D) : v = .non := by
  have q : Dp K H v .none := W.fact h
  cases q
  rfl
theorem ty_T (h : SqT K H p xs) : TyX K H (.ref p) (.type "tuple") := by
  rcases h with (h | ⟨o, h⟩) | ⟨o, its, n, h, c, _⟩
  · exact .base (.tup h)
  · exact .fTuple h
  · exact .kTuple h c
theorem ty_L (h : SqL K H p xs) : TyX K H (.ref p) (.type "list") := by
  rcases h with (h | ⟨o, h⟩) | ⟨o, its, n, h, c, _⟩
  · exact .base (.lst h)
  · exact .base (.frz h)
  · exact .kList h c
theorem k_ix_Tm (W : Wd L D H) (h1 : isT K p xs ∈ D) (h : atI xs i = some v) (k : Q v H) : kIx K (.ref p) (.int i) H Q := k_ix_T (W.tupl h1) h k
theorem k_ix_Lm (W : Wd L D H) (h1 : isL K p xs ∈ D) (h : atI xs i = some v) (k : Q v H) : kIx K (.ref p) (.int i) H Q := k_ix_L (W.list h1) h k
theorem k_len_Tm (W : Wd L D H) (h1 : isT K p xs ∈ D) (k : Q (.int xs.length) H) : kLen K [.ref p] H Q := k_len_T (W.tupl h1) k
theorem k_len_Lm (W : Wd L D H) (h1 : isL K p xs ∈ D) (k : Q (.int xs.length) H) : kLen K [.ref p] H Q := k_len_L (W.list h1) k
theorem k_unp_Tm {R : List V → Prop} {n : Nat} (W : Wd L D H) (h1 : isT K p xs ∈ D) (hl : xs.length = n) (k : R xs) : kUnp K n (.ref p) H R := k_unp (W.tupl h1) hl k
theorem k_isi_Tm {U : String} (W : Wd L D H) (h1 : isT K p xs ∈ D) (e : kitB "tuple" U = some b) (k : Q (.bl b) H) : kIsi K [.ref p, .ty U] H Q := k_isi_ty (ty_T (W.tupl h1)) e k
theorem k_isi_Lm {U : String} (W : Wd L D H) (h1 : isL K p xs ∈ D) (e : kitB "list" U = some b) (k : Q (.bl b) H) : kIsi K [.ref p, .ty U] H Q := k_isi_ty (ty_L (W.list h1)) e k
theorem k_isi_l {U : String} (W : Wd L D H) (h1 : (p, .lst xs) ∈ L) (e : kitB "list" U = some b) (k : Q (.bl b) H) : kIsi K [.ref p, .ty U] H Q := k_isi_ty (ty_L (W.sq h1)) e k
theorem k_isi_t {U : String} (W : Wd L D H) (h1 : (p, .tup xs) ∈ L) (e : kitB "tuple" U = some b) (k : Q (.bl b) H) : kIsi K [.ref p, .ty U] H Q := k_isi_ty (ty_T (W.st h1)) e k
theorem k_isi_int {U : String} (e : kitB "int" U = some b) (k : Q (.bl b) H) : kIsi K [.int i, .ty U] H Q := k_isi_ty (.base (.int i)) e k
theorem k_isi_bl {U : String} {c : Bool} (e : kitB "bool" U = some b) (k : Q (.bl b) H) : kIsi K [.bl c, .ty U] H Q := k_isi_ty (.base (.bl c)) e k
theorem k_isi_str {U : String} (e : kitB "str" U = some b) (k : Q (.bl b) H) : kIsi K [.str s, .ty U] H Q := k_isi_ty (.base (.str s)) e k
theorem k_isi_non {U : String} (e : kitB "NoneType" U = some b) (k : Q (.bl b) H) : kIsi K [.non, .ty U] H Q := k_isi_ty (.base .non) e k
theorem k_iter_Tm {R : It → Hp → Prop} (W : Wd L D H) (h1 : isT K p xs ∈ D) (k : R (Itt K p) H) : kIter K (.ref p) H R := k_iter_T (W.tupl h1) k
theorem k_iter_Lm {R : It → Hp → Prop} (W : Wd L D H) (h1 : isL K p xs ∈ D) (k : R (Itl K p) H) : kIter K (.ref p) H R := k_iter_L (W.list h1) k
theorem k_iter_l {R : It → Hp → Prop} (W : Wd L D H) (h1 : (p, .lst xs) ∈ L) (k : R (Itl K p) H) : kIter K (.ref p) H R := k_iter_L (W.sq h1) k
end
structure ClsF (K : PySem.W.Frag) (C : Addr) (fs : List Str) : Prop where
  cl : Cls K C
  na : ∀ f ∈ fs, NoAttr K C f
theorem lk_nil {f : Str} : List.lookup f ([] : List (Str × V)) = none := rfl
theorem lk_eq {f : Str} {v : V} {r : List (Str × V)} : List.lookup f ((f, v) :: r) = some v := by rw [List.lookup_cons, beq_self_eq_true]
theorem lk_ne {f g : Str} {v : V} {r : List (Str × V)} (h : (f == g) = false) : List.lookup f ((g, v) :: r) = List.lookup f r := by rw [List.lookup_cons, h]
theorem pf_nil {f : Str} {y : V} : putF f y [] = [(f, y)] := rfl
theorem pf_eq {f : Str} {y v : V} {r : List (Str × V)} : putF f y ((f, v) :: r) = (f, y) :: r := if_pos rfl
theorem pf_ne {f g : Str} {y v : V} {r : List (Str × V)} (h : (g == f) = false) : putF f y ((g, v) :: r) = (g, v) :: putF f y r := if_neg (by simpa using h)
def kI2 (x y : V) (H : Hp) (R : Int → Int → Hp → Prop) : Prop := ∃ a b, x = .int a ∧ y = .int b ∧ R a b H
theorem k_I2 {i j : Int} {H : Hp} {R : Int → Int → Hp → Prop} (k : R i j H) : kI2 (.int i) (.int j) H R := ⟨i, j, rfl, rfl, k⟩
def kRngT (a b : Int) (H : Hp) (Q : VK) : Prop := RgOk a b ∧ ∀ q, H q = none → Q (.ref q) (upd H q (.tup (rgV a b)))
def kCut (A : (L2.St → Hp → Prop) → Prop) (B : L2.St → Hp → Prop) : Prop := ∃ Mid : L2.St → Hp → Prop, A Mid ∧ ∀ σ' H', Mid σ' H' → B σ' H'
theorem k_cut {A : (L2.St → Hp → Prop) → Prop} {B : L2.St → Hp → Prop} (Mid : L2.St → Hp → Prop) (h1 : A Mid) (h2 : ∀ σ' H', Mid σ' H' → B σ' H') : kCut A B := ⟨Mid, h1, h2⟩
theorem k_cut0 {A : (L2.St → Hp → Prop) → Prop} {B : L2.St → Hp → Prop} (h : A B) : kCut A B := ⟨B, h, fun _ _ h => h⟩
def kVar (σ : L2.St) (i : Nat) (H : Hp) (Q : VK) : Prop := ∃ v, σ[i]? = some (some v) ∧ Q v H
def kStore (i : Nat) (v : V) (σ : L2.St) (R : L2.St → Prop) : Prop := R (σ.set i (some v))
theorem k_var {σ : L2.St} {i : Nat} {H : Hp} {Q : VK} {v : V} (h : σ[i]? = some (some v)) (k : Q v H) : kVar σ i H Q := ⟨v, h, k⟩
theorem k_store {σ σ' : L2.St} {i : Nat} {v : V} {R : L2.St → Prop} (h : σ.set i (some v) = σ') (k : R σ') : kStore i v σ R := by
  subst h
  exact k
def kGl (g : G) (x : Str) (H : Hp) (Q : VK) : Prop := ∃ v u, g.mg x = some u ∧ RelV v u ∧ Q v H
theorem k_gl {g : G} {x : Str} {H : Hp} {Q : VK} {v : V} (h : ∃ u, g.mg x = some u ∧ RelV v u) (k : Q v H) : kGl g x H Q := let ⟨u, a, b⟩ := h; ⟨v, u, a, b, k⟩
@[reducible] def rVar (i : Nat) : TE := fun σ H Q => kVar σ i H Q
@[reducible] def rC (v : V) : TE := fun _ H Q => Q v H
@[reducible] def rGl (g : G) (x : Str) : TE := fun _ H Q => kGl g x H Q
@[reducible] def rOp (r : R2) (ta tb : TE) : TE := fun σ H Q => ta σ H fun x H1 => tb σ H1 fun y H2 => r x y H2 Q
@[reducible] def rUn (f : V → Hp → VK → Prop) (ta : TE) : TE := fun σ H Q => ta σ H fun x H1 => f x H1 Q
@[reducible] def rNil : TA := fun _ H Q => Q [] H
@[reducible] def rCons (te : TE) (t : TA) : TA := fun σ H Q => te σ H fun x H1 => t σ H1 fun xs H2 => Q (x :: xs) H2
@[reducible] def rCB (f : List V → Hp → VK → Prop) (t : TA) : TE := fun σ H Q => t σ H fun vs H1 => f vs H1 Q
@[reducible] def rLst (t : TA) : TE := fun σ H Q => t σ H fun xs H1 => kLst xs H1 Q
@[reducible] def rTup (t : TA) : TE := fun σ H Q => t σ H fun xs H1 => kTup xs H1 Q
@[reducible] def rTest (te : TE) : TT := fun σ H Q => te σ H fun x H1 => kB x H1 Q
@[reducible] def rTru (K : PySem.W.Frag) (te : TE) : TT := fun σ H Q => te σ H fun x H1 => kTru K x H1 Q
@[reducible] def rAnd (c d : TT) : TT := fun σ H Q => c σ H fun b H1 => kIf b (d σ H1 Q) (Q false H1)
@[reducible] def rOr (c d : TT) : TT := fun σ H Q => c σ H fun b H1 => kIf b (Q true H1) (d σ H1 Q)
@[reducible] def rNot (c : TT) : TT := fun σ H Q => c σ H fun b H1 => Q (!b) H1
@[reducible] def rIf (c : TT) (ta tb : TE) : TE := fun σ H Q => c σ H fun b H1 => kIf b (ta σ H1 Q) (tb σ H1 Q)
@[reducible] def rAndT (K : PySem.W.Frag) (ta tb : TE) : TE := fun σ H Q => ta σ H fun x H1 => kAndV K x H1 Q (tb σ H1 Q)
@[reducible] def rOrT (K : PySem.W.Frag) (ta tb : TE) : TE := fun σ H Q => ta σ H fun x H1 => kOrV K x H1 Q (tb σ H1 Q)
@[reducible] def rNotT (K : PySem.W.Frag) (ta : TE) : TE := fun σ H Q => ta σ H fun x H1 => kNotV K x H1 Q
@[reducible] def rFld (K : PySem.W.Frag) (ta : TE) (f : Str) : TE := fun σ H Q => ta σ H fun x H1 => kFld K x f H1 Q
@[reducible] def rNoPart : TO := fun _ H Q => Q none H
@[reducible] def rPart (te : TE) : TO := fun σ H Q => te σ H fun x H1 => kPart x H1 Q
@[reducible] def rSl (f : V → Option Int → Option Int → Hp → VK → Prop) (te : TE) (tl th : TO) : TE := fun σ H Q => te σ H fun x H1 => tl σ H1 fun l H2 => th σ H2 fun u H3 => f x l u H3 Q
@[reducible] def rChain (r r' : R2) (ta tb tc : TE) : TE := fun σ H Q => ta σ H fun x H1 => tb σ H1 fun y H2 => r x y H2 fun z H3 => kChain z H3 Q fun H4 => tc σ H4 fun w H5 => r' y w H5 Q
@[reducible] def rBM (K : PySem.W.Frag) (T : String) (f : V → List V → Hp → VK → Prop) (ta : TE) (t : TA) : TE := fun σ H Q => ta σ H fun x H1 => kBM K T x H1 (t σ H1 fun xs H2 => f x xs H2 Q)
@[reducible] def rBM0 (K : PySem.W.Frag) (T : String) (f : V → List V → Hp → VK → Prop) (ta : TE) : TE := fun σ H Q => ta σ H fun x H1 => kBM K T x H1 (f x [] H1 Q)
@[reducible] def rBMT (f : V → List V → Hp → VK → Prop) (ta : TE) (t : TA) : TE := fun σ H Q => ta σ H fun x H1 => kBMT x H1 (t σ H1 fun xs H2 => f x xs H2 Q)
@[reducible] def rLrg1 (ta : TE) : TE := fun σ H Q => ta σ H fun x H1 => kI x H1 fun n H2 => kRng 0 n H2 Q
@[reducible] def rLrg2 (ta tb : TE) : TE := fun σ H Q => ta σ H fun x H1 => tb σ H1 fun y H2 => kI2 x y H2 fun m n H3 => kRng m n H3 Q
@[reducible] def rTrg1 (ta : TE) : TE := fun σ H Q => ta σ H fun x H1 => kI x H1 fun n H2 => kRngT 0 n H2 Q
@[reducible] def rCall (g : G) (A : Around) (x : Str) (E : XK) (t : TA) : TE := fun σ H Q => t σ H fun vs H1 => kCall g A x E vs H1 Q
@[reducible] def rMake (g : G) (A : Around) (x : Str) (E : XK) (t : TA) : TE := fun σ H Q => t σ H fun vs H1 => kMake g A x E vs H1 Q
@[reducible] def rBase (g : G) (A : Around) (C m : Str) (E : XK) (t : TA) : TE := fun σ H Q => t σ H fun vs H1 => kBase g A C m E vs H1 Q
@[reducible] def rMeth (g : G) (A : Around) (m : Str) (E : XK) (ta : TE) (t : TA) : TE := fun σ H Q => ta σ H fun x H1 => kRecv g m x H1 fun C => t σ H1 fun vs H2 => kMeth g A C m E (x :: vs) H2 Q
@[reducible] def rSeq (s1 s2 : TS) : TS := fun D σ H => s1 { D with nx := s2 D } σ H
@[reducible] def rNext : TS := fun D σ H => D.nx σ H
@[reducible] def rCont : TS := fun D σ H => D.ct σ H
@[reducible] def rBreak : TS := fun D σ H => D.bk σ H
@[reducible] def rRet (te : TE) : TS := fun D σ H => te σ H D.rt
@[reducible] def rRetN : TS := fun D _ H => D.rt .non H
@[reducible] def rDrop (te : TE) : TS := fun D σ H => te σ H fun _ H1 => D.nx σ H1
@[reducible] def rAsg (te : TE) (gt : TG) : TS := fun D σ H => te σ H fun x H1 => gt x σ H1 D.nx
@[reducible] def rIfS (c : TT) (s1 s2 : TS) : TS := fun D σ H => c σ H fun b H1 => kIf b (s1 D σ H1) (s2 D σ H1)
@[reducible] def rName (i : Nat) : TG := fun v σ H R => kStore i v σ fun σ' => R σ' H
@[reducible] def rGTup (K : PySem.W.Frag) (n : Nat) (gs : TGs) : TG := fun v σ H R => kUnp K n v H fun xs => gs xs σ H R
def kGCons (vs : List V) (R : V → List V → Prop) : Prop := ∃ v r, vs = v :: r ∧ R v r
def kGNil (vs : List V) (R : Prop) : Prop := vs = [] ∧ R
theorem k_gcons {v : V} {r : List V} {R : V → List V → Prop} (k : R v r) : kGCons (v :: r) R := ⟨v, r, rfl, k⟩
theorem k_gnil {R : Prop} (k : R) : kGNil [] R := ⟨rfl, k⟩
@[reducible] def rGNil : TGs := fun vs σ H R => kGNil vs (R σ H)
@[reducible] def rGCons (gt : TG) (gs : TGs) : TGs := fun vs σ H R => kGCons vs fun v r => gt v σ H fun σ' H' => gs r σ' H' R
@[reducible] def rGSub (to ti : TE) (ts : TSet) : TG := fun v σ H R => to σ H fun o H1 => ti σ H1 fun j H2 => ts o j v H2 fun H3 => R σ H3
def kStar (K : PySem.W.Frag) (n i : Nat) (v : V) (H : Hp) (R : List V → Hp → Prop) : Prop := ∃ a xs, v = .ref a ∧ (SqL K H a xs ∨ SqT K H a xs) ∧ n ≤ xs.length + 1 ∧ xs.length ≤ 16384 ∧
  ∀ D, H D = none → R (xs.take i ++ [.ref D] ++ (xs.drop i).drop (xs.length + 1 - n)) (upd H D (.lst ((xs.drop i).take (xs.length + 1 - n))))
@[reducible] def rGStar (K : PySem.W.Frag) (n i : Nat) (gs : TGs) : TG := fun v σ H R => kStar K n i v H fun vs H1 => gs vs σ H1 R
@[reducible] def rSFld (K : PySem.W.Frag) (ta tb : TE) (f : Str) : TS := fun D σ H => tb σ H fun y H1 => ta σ H1 fun x H2 => kSetF K x f y H2 fun H3 => D.nx σ H3
@[reducible] def rAugS (to ti te : TE) (tg : V → V → Hp → VK → Prop) (tp : TIp) (ts : TSet) : TS := fun D σ H => to σ H fun o H1 => ti σ H1 fun j H2 => tg o j H2 fun x H3 => te σ H3 fun y H4 => tp x y H4 fun z H5 => ts o j z H5 fun H6 => D.nx σ H6
def kVar1 (σ : L2.St) (i : Nat) (R : V → Prop) : Prop := ∃ x, σ[i]? = some (some x) ∧ R x
theorem k_var1 {σ : L2.St} {i : Nat} {v : V} {R : V → Prop} (h : σ[i]? = some (some v)) (k : R v) : kVar1 σ i R := ⟨v, h, k⟩
@[reducible] def rAug (i : Nat) (te : TE) (tp : TIp) : TS := fun D σ H => kVar1 σ i fun x => te σ H fun y H1 => tp x y H1 fun z H2 => kStore i z σ fun σ' => D.nx σ' H2
def kPar (i j : Nat) (vs : List V) (σ : L2.St) (R : L2.St → Prop) : Prop := ∃ v w, vs = [v, w] ∧ R ((σ.set i (some v)).set j (some w))
theorem k_par {i j : Nat} {v w : V} {σ σ' : L2.St} {R : L2.St → Prop} (h : (σ.set i (some v)).set j (some w) = σ') (k : R σ') : kPar i j [v, w] σ R := ⟨v, w, rfl, by rw [h]; exact k⟩
@[reducible] def rPar (i j : Nat) (t : TA) : TS := fun D σ H => t σ H fun vs H1 => kPar i j vs σ fun σ' => D.nx σ' H1
@[reducible] def rSeqI (K : PySem.W.Frag) (tl : TE) : TI := fun σ H R => tl σ H fun x H1 => kIter K x H1 R
@[reducible] def rRng1 (ta : TA) : TI := fun σ H R => ta σ H fun vs H1 => kRng1 vs H1 R
@[reducible] def rRng2 (ta : TA) : TI := fun σ H R => ta σ H fun vs H1 => kRng2 vs H1 R
@[reducible] def rEnum (K : PySem.W.Frag) (ta : TA) : TI := fun σ H R => ta σ H fun vs H1 => kEnum K vs H1 R
@[reducible] def rLc (wi : TI) (gt : TG) (tt : TT) (te : TE) (vs : List Nat) : TE := fun σ H Q => wi σ H fun J H1 => kLc J gt tt te vs σ H1 Q
@[reducible] def rYes : TT := fun _ H Q => Q true H
@[reducible] def rFor (wi : TI) (gt : TG) (tb : TS) : TS := fun D σ H => wi σ H fun J H1 => kFor J gt tb D σ H1
@[reducible] def rCut (s1 s2 : TS) : TS := fun D σ H => kCut (fun N => s1 { D with nx := N } σ H) (s2 D)
theorem at0 {x : V} {xs : List V} : atI (x :: xs) 0 = some x := by unfold atI ixN; rw [if_pos (by decide), if_pos (by simp only [List.length_cons]; omega)]; rfl
theorem at1 {x a : V} {xs : List V} : atI (a :: x :: xs) 1 = some x := by unfold atI ixN; rw [if_pos (by decide), if_pos (by simp only [List.length_cons]; omega)]; rfl
theorem at2 {x a b : V} {xs : List V} : atI (a :: b :: x :: xs) 2 = some x := by unfold atI ixN; rw [if_pos (by decide), if_pos (by simp only [List.length_cons]; omega)]; rfl
theorem at3 {x a b c : V} {xs : List V} : atI (a :: b :: c :: x :: xs) 3 = some x := by unfold atI ixN; rw [if_pos (by decide), if_pos (by simp only [List.length_cons]; omega)]; rfl
theorem at4 {x a b c d : V} {xs : List V} : atI (a :: b :: c :: d :: x :: xs) 4 = some x := by unfold atI ixN; rw [if_pos (by decide), if_pos (by simp only [List.length_cons]; omega)]; rfl
section
variable {K : PySem.W.Frag} {H : Hp} {Q : VK} {x y z : V} {vs : List V} {L : Ow} {D : List Fct} {p q : Addr} {xs ys : List V} {i j : Int} {f : Str} {v : V}
theorem g_kIx (h : kIx K x y H Q) : kIx K x y H Q := h
theorem g_kGet (h : kGet K x y H Q) : kGet K x y H Q := h
theorem g_kLen (h : kLen K vs H Q) : kLen K vs H Q := h
theorem g_kEq (h : kEq K x y H Q) : kEq K x y H Q := h
theorem g_kNe (h : kNe K x y H Q) : kNe K x y H Q := h
theorem g_kAdd (h : kAdd K x y H Q) : kAdd K x y H Q := h
theorem g_kMul (h : kMul x y H Q) : kMul x y H Q := h
theorem g_kSub (h : kSub x y H Q) : kSub x y H Q := h
theorem g_kFld (h : kFld K x f H Q) : kFld K x f H Q := h
theorem g_kMax (h : kMax K vs H Q) : kMax K vs H Q := h
theorem g_kMin (h : kMin K vs H Q) : kMin K vs H Q := h
theorem g_kAbs (h : kAbs vs H Q) : kAbs vs H Q := h
theorem g_kIsi (h : kIsi K vs H Q) : kIsi K vs H Q := h
theorem g_rAppend (h : rAppend x vs H Q) : rAppend x vs H Q := h
theorem g_rExtend (h : rExtend x vs H Q) : rExtend x vs H Q := h
theorem g_rPopAt (h : rPopAt x vs H Q) : rPopAt x vs H Q := h
theorem g_rPop (h : rPop x vs H Q) : rPop x vs H Q := h
theorem g_rClear (h : rClear x vs H Q) : rClear x vs H Q := h
theorem g_kLst (h : kLst vs H Q) : kLst vs H Q := h
theorem g_kTup (h : kTup vs H Q) : kTup vs H Q := h
theorem g_kIpAdd (h : kIpAdd x y H Q) : kIpAdd x y H Q := h
theorem g_kNotV (h : kNotV K x H Q) : kNotV K x H Q := h
theorem g_kSet {R : Hp → Prop} (h : kSet x y z H R) : kSet x y z H R := h
theorem g_kSetF {R : Hp → Prop} (h : kSetF K x f y H R) : kSetF K x f y H R := h
theorem g_kTru {R : Bool → Hp → Prop} (h : kTru K x H R) : kTru K x H R := h
theorem g_kIf {b : Bool} {A B : Prop} (h : kIf b A B) : kIf b A B := h
theorem g_kIter {R : It → Hp → Prop} (h : kIter K x H R) : kIter K x H R := h
theorem g_kUnp {R : List V → Prop} {n : Nat} (h : kUnp K n x H R) : kUnp K n x H R := h
theorem g_kBM {R : Prop} {T : String} (h : kBM K T x H R) : kBM K T x H R := h
theorem g_kAndV {R : Prop} (h : kAndV K x H Q R) : kAndV K x H Q R := h
theorem g_kOrV {R : Prop} (h : kOrV K x H Q R) : kOrV K x H Q R := h
theorem k_fldC {C dx : Addr} {fs : List (Str × V)} {nm : List Str} (W : Wd L D H) (hm : (p, .ins C dx fs) ∈ L) (c : ClsF K C nm) (l : fs.lookup f = some v) (hn : f ∈ nm) (k : Q v H) : kFld K (.ref p) f H Q := k_fld (W.at_ hm) c.cl (c.na _ hn) l k
theorem k_setFC {C dx : Addr} {fs fs' : List (Str × V)} {nm : List Str} {R : Hp → Prop} (W : Wd ((p, .ins C dx fs) :: L) D H) (c : ClsF K C nm) (e : putF f y fs = fs') (hl : fs.length < 1000) (hn : f ∈ nm) (k : ∀ H', Wd ((p, .ins C dx fs') :: L) D H' → R H') : kSetF K (.ref p) f y H R :=
  k_setF W c.cl (c.na _ hn) e hl k
end
section
variable {σ : L2.St} {H : Hp} {Q : VK} {K : PySem.W.Frag} {L : Ow} {D : List Fct} {p : Addr} {gt : TG} {tt : TT} {te : TE} {J : It} {n : Nat} {Gd : Hp → Prop} {Y : Nat → Hp → V → Hp → Prop} {vs : List Nat} {xs acc : List V} {ds : List PyData} {bs : List Bool}
theorem Has.mono {D' : List Fct} {v : V} {d : PyData} (h : Has K D v d) (s : D ⊆ D') : Has K D' v d := fun B b => h B fun G hG => b G (s hG)
theorem HasAll.mono {D' : List Fct} (h : HasAll K D xs ds) (s : D ⊆ D') : HasAll K D' xs ds := fun B b => h B fun G hG => b G (s hG)
theorem k_lcD (w : Walk J n Gd Y) (W : Wd L D H) (hn : n ≤ sizeLine) (e : Nat → PyData) (hG : ∀ p acc D0 H, D ⊆ D0 → Wd ((p, .lst acc) :: L) D0 H → Gd H)
    (hs : ∀ p i x H H' acc D0 (N : VK) (Z : Hp → Prop), i < n → D ⊆ D0 → Wd ((p, .lst acc) :: L) D0 H → Y i H x H' → (∀ y H4 D1, D0 ⊆ D1 → Has K D1 y (e i) → Wd ((p, .lst acc) :: L) D1 H4 → N y H4) →
      gt x (wipe σ vs) H' fun σ2 H2 => wipe σ2 vs = wipe σ vs ∧ tt σ2 H2 fun b H3 => kIf b (te σ2 H3 N) (Z H3))
    (hd : ∀ p acc D0 H, D ⊆ D0 → HasAll K D0 acc ((List.range n).map e) → Wd ((p, .lst acc) :: L) D0 H → Q (.ref p) H) : kLc J gt tt te vs σ H Q := by
  refine k_lc w W (fun p i H => ∃ acc D0, D ⊆ D0 ∧ HasAll K D0 acc ((List.range i).map e) ∧ acc.length = i ∧ Wd ((p, .lst acc) :: L) D0 H) (fun p H' W => ⟨[], D, fun _ h => h, hasAll_nil, rfl, W⟩) (fun p i H _ ⟨acc, D0, s, _, _, W⟩ => hG p acc D0 H s W) ?_ (fun p H ⟨acc, D0, s, h, _, W⟩ => hd p acc D0 H s h W)
  rintro p i x H H' hi ⟨acc, D0, s, h, hl, W⟩ y
  refine hs p i x H H' acc D0 _ _ hi s W y ?_
  intro y H4 D1 s1 hy W
  refine k_push W (by omega) fun H5 W => ⟨acc ++ [y], D1, fun _ h => s1 (s h), ?_, by simp [hl], W⟩
  rw [List.range_succ, List.map_append]
  exact hasAll_app (h.mono s1) (hasAll_cons hy hasAll_nil)
theorem bls_of {B : Hp} : ∀ {vs : List V} {bs : List Bool}, DpAll K B vs (bs.map PyData.bool) → vs = bs.map V.bl
  | _, [], .nil => rfl
  | _, b :: r, .cons h t => by
    cases h
    rw [bls_of t]
    rfl
theorem Wd.bls (W : Wd L D H) (h : HasAll K D xs (bs.map PyData.bool)) : xs = bs.map V.bl := bls_of (W.hasAll h)
theorem Wd.ints (W : Wd L D H) {ns : List Int} (h : HasAll K D xs (ns.map PyData.int)) : xs = ns.map V.int := ints_of (W.hasAll h)
theorem k_all (h : SqL K H p (bs.map V.bl)) (k : Q (.bl (bs.all id)) H) : kAll K [.ref p] H Q := ⟨p, bs, rfl, h, k⟩
theorem range_rep {α : Type} {n : Nat} {a : α} {f : Nat → α} (h : ∀ i, f i = a) : (List.range n).map f = List.replicate n a := by
  induction n with
  | zero => rfl
  | succ n ih => rw [List.range_succ, List.map_append, ih, List.replicate_succ', List.map_singleton, h]
theorem k_all_tt (W : Wd ((p, .lst acc) :: L) D H) {n : Nat} (h : HasAll K D acc ((List.range n).map fun _ => PyData.bool true)) (k : Q (.bl true) H) : kAll K [.ref p] H Q := by
  rw [show ((List.range n).map fun _ => PyData.bool true) = (List.replicate n true).map PyData.bool from by rw [range_rep (fun _ => rfl), List.map_replicate]] at h
  have e := W.bls h
  subst e
  exact k_all (W.sq List.mem_cons_self) (by rw [show (List.replicate n true).all id = true from by simp]; exact k)
end
def Spm {α : Type} (l r : List α) : Prop := ∃ e, l.Perm (r ++ e)
section
variable {α : Type} {a b c d e f g h x : α} {l r : List α}
theorem spR : Spm l l := ⟨[], by rw [List.append_nil]⟩
theorem Spm.p {l' : List α} (p : l'.Perm (x :: l)) (h : Spm l r) : Spm l' (x :: r) := let ⟨e, q⟩ := h; ⟨e, p.trans (List.Perm.cons _ q)⟩
theorem sp0 (h : Spm l r) : Spm (x :: l) (x :: r) := h.p (List.Perm.refl _)
theorem sp1 (h : Spm (a :: l) r) : Spm (a :: x :: l) (x :: r) := h.p (mvP (List.Perm.refl _))
theorem sp2 (h : Spm (a :: b :: l) r) : Spm (a :: b :: x :: l) (x :: r) := h.p (mvP (mvP (List.Perm.refl _)))
theorem sp3 (h : Spm (a :: b :: c :: l) r) : Spm (a :: b :: c :: x :: l) (x :: r) := h.p (mvP (mvP (mvP (List.Perm.refl _))))
theorem sp4 (h : Spm (a :: b :: c :: d :: l) r) : Spm (a :: b :: c :: d :: x :: l) (x :: r) := h.p (mvP (mvP (mvP (mvP (List.Perm.refl _)))))
theorem sp5 (h : Spm (a :: b :: c :: d :: e :: l) r) : Spm (a :: b :: c :: d :: e :: x :: l) (x :: r) := h.p (mvP (mvP (mvP (mvP (mvP (List.Perm.refl _))))))
theorem sp6 (h : Spm (a :: b :: c :: d :: e :: f :: l) r) : Spm (a :: b :: c :: d :: e :: f :: x :: l) (x :: r) := h.p (mvP (mvP (mvP (mvP (mvP (mvP (List.Perm.refl _)))))))
theorem sp7 (h : Spm (a :: b :: c :: d :: e :: f :: g :: l) r) : Spm (a :: b :: c :: d :: e :: f :: g :: x :: l) (x :: r) := h.p (mvP (mvP (mvP (mvP (mvP (mvP (mvP (List.Perm.refl _))))))))
theorem spS (q : Spm l r) : Spm (x :: l) r := let ⟨e, h⟩ := q; ⟨x :: e, (List.Perm.cons x h).trans List.perm_middle.symm⟩
theorem spC (q : Spm l r) : Spm (x :: l) (x :: r) := sp0 q
theorem spN : Spm l [] := ⟨l, List.Perm.refl _⟩
theorem fsR : l ⊆ l := fun _ h => h
theorem fsC (h : x ∈ l) (s : r ⊆ l) : (x :: r) ⊆ l := fun y hy => by
  rcases List.mem_cons.mp hy with e | hy
  · rw [e]; exact h
  · exact s hy
theorem fsT (s : r ⊆ l) : r ⊆ (x :: l) := fun _ h => List.mem_cons_of_mem _ (s h)
theorem fsN : ([] : List α) ⊆ l := fun _ h => (List.not_mem_nil h).elim
end
theorem Wd.arr {L L' : Ow} {D D' : List Fct} {H : Hp} (W : Wd L D H) (p : Spm L L') (s : D' ⊆ D) : Wd L' D' H := by
  obtain ⟨e, q⟩ := p
  exact (W.perm q).sub (List.sublist_append_left _ _) fun F h => s h
theorem Wd.ord {L L' : Ow} {D : List Fct} {H : Hp} (W : Wd L D H) (p : Spm L L') : Wd L' D H := W.arr p fsR
section
variable {σ : L2.St} {H : Hp} {Q : VK} {K : PySem.W.Frag} {L : Ow} {D : List Fct} {p a : Addr} {gt : TG} {tt : TT} {te : TE} {J : It} {n : Nat} {Gd : Hp → Prop} {Y : Nat → Hp → V → Hp → Prop} {vs : List Nat} {xs acc : List V} {ds es : List PyData} {v : V} {i : Int}
theorem range_getD {α : Type} {d : α} : ∀ {es : List α}, (List.range es.length).map (fun i => es.getD i d) = es := by
  intro es
  apply List.ext_getElem
  · simp
  · intro i h1 h2
    simp [h2]
theorem k_lcL (w : Walk J n Gd Y) (W : Wd L D H) (es : List PyData) (hl : es.length = n) (hn : n ≤ sizeLine) (hG : ∀ p acc D0 H, D ⊆ D0 → Wd ((p, .lst acc) :: L) D0 H → Gd H)
    (hs : ∀ p i x H H' acc D0 d (N : VK) (Z : Hp → Prop), es[i]? = some d → D ⊆ D0 → Wd ((p, .lst acc) :: L) D0 H → Y i H x H' → (∀ y H4 D1, D0 ⊆ D1 → Has K D1 y d → Wd ((p, .lst acc) :: L) D1 H4 → N y H4) →
      gt x (wipe σ vs) H' fun σ2 H2 => wipe σ2 vs = wipe σ vs ∧ tt σ2 H2 fun b H3 => kIf b (te σ2 H3 N) (Z H3))
    (hd : ∀ p acc H, acc.length = n → Wd ((p, .lst acc) :: L) (isDs K acc es :: D) H → Q (.ref p) H) : kLc J gt tt te vs σ H Q := by
  subst hl
  refine k_lcD (K := K) w W hn (fun i => es.getD i .none) hG ?_ ?_
  · intro p i x H H' acc D0 N Z hi s W y hN
    refine hs p i x H H' acc D0 es[i] N Z (by simp [hi]) s W y ?_
    intro y H4 D1 s1 h W
    exact hN y H4 D1 s1 (by simpa [hi] using h) W
  · intro p acc D0 H s h W
    rw [range_getD] at h
    exact hd p acc H (dpAll_len (W.hasAll h)) ((W.addDs h).arr spR (fsC List.mem_cons_self (fsT s)))
theorem has_ds (h : isDs K xs ds ∈ D) : HasAll K D xs ds := hasAll_mem h
def isFT (a : Addr) (xs : List V) : Fct := fun B => ∃ o, B a = some o ∧ FT o xs
theorem isFT_stab : Stab (isFT a xs) := fun _ _ s ⟨o, h, f⟩ => ⟨o, s _ _ h, f⟩
theorem isT_stab : Stab (isT K a xs) := fun _ _ s h => Same.tup s h
theorem isL_stab : Stab (isL K a xs) := fun _ _ s h => s.seq h
theorem FT.sq {B : Hp} {o : HO} (f : FT o xs) (h : B a = some o) : SqT K B a xs := by
  obtain ⟨ob, rfl, _⟩ := f
  exact .inl (.inr ⟨ob, h⟩)
theorem Wd.frzFT {o : HO} (W : Wd ((a, o) :: L) D H) (f : FT o xs) : Wd L (isFT a xs :: isT K a xs :: D) H :=
  (W.frz (F := isFT a xs) isFT_stab fun B _ e => ⟨o, e, f⟩).der (F := isT K a xs) isT_stab (fun B b => let ⟨o, h, f⟩ : isFT a xs B := b _ List.mem_cons_self; f.sq h) |>.arr spR (fsC (List.mem_cons_of_mem _ List.mem_cons_self) (fsC List.mem_cons_self (fsT (fsT fsR))))
theorem Wd.ft (W : Wd L D H) (h : isFT a xs ∈ D) : ∃ o, H a = some o ∧ FT o xs := W.fact h
theorem k_bmtF {R : Prop} (W : Wd L D H) (h : isFT a xs ∈ D) (k : R) : kBMT (.ref a) H R := let ⟨_, h1, h2⟩ := W.ft h; k_bmt h1 h2 k
theorem Wd.lenL (W : Wd L D H) (h : isDs K xs ds ∈ D) : xs.length = ds.length := dpAll_len (W.hasAll (hasAll_mem h))
theorem Wd.frzLs (W : Wd ((p, .lst xs) :: L) D H) (h : isDs K xs ds ∈ D) : Wd L (isD K (.ref p) (.list ds) :: D) H := W.frzL (hasAll_mem h)
theorem atI_map {α : Type} {f : α → V} {ms : List α} {i : Nat} {m : α} (h : ms[i]? = some m) : atI (ms.map f) (i : Int) = some (f m) := by
  have hi := (List.getElem?_eq_some_iff.mp h).1
  unfold atI ixN
  rw [if_pos (Int.natCast_nonneg i), if_pos (by rw [List.length_map]; omega)]
  simp [h]
end
section
variable {H : Hp} {Q : VK} {K : PySem.W.Frag} {L : Ow} {D : List Fct} {a : Addr} {xs : List V} {x : V}
theorem k_star21 {R : List V → Hp → Prop} (W : Wd L D H) (h : isL K a (x :: xs) ∈ D) (hl : xs.length < 16384) (k : ∀ d H', Wd ((d, .lst xs) :: L) D H' → R [x, .ref d] H') : kStar K 2 1 (.ref a) H R := by
  refine ⟨a, x :: xs, rfl, .inl (W.list h), by simp, by simp; omega, fun d hd => ?_⟩
  have := k d _ (W.new hd (.lst xs))
  simpa using this
theorem k_recvM {g : G} {m : Str} {R : Addr → Prop} {C dx : Addr} {fs : List (Str × V)} {nm : List Str} {k : Nat} {sp : Sp} (W : Wd L D H) (h : (a, .ins C dx fs) ∈ L) (c : ClsF g.K C nm) (F : MF g k C m sp) (l : fs.lookup m = none) (q : R C) : kRecv g m (.ref a) H R :=
  let ⟨f, hf, _⟩ := F
  k_recv (W.at_ h) c.cl l ⟨f, hf⟩ q
end
def Shp (k : Nat) (d : PyData) : Prop := d.canLay0 = true ∧ d.depth ≤ k
theorem shp_all {k : Nat} : ∀ {ds : List PyData}, (∀ d ∈ ds, Shp k d) → PyData.canLayAll0 ds = true ∧ PyData.depthAll ds ≤ k
  | [], _ => ⟨rfl, Nat.zero_le _⟩
  | d :: r, h => by
    have h1 := h d List.mem_cons_self
    have h2 := shp_all (ds := r) fun x hx => h x (List.mem_cons_of_mem _ hx)
    have e1 : PyData.canLayAll0 (d :: r) = (d.canLay0 && PyData.canLayAll0 r) := by simp [PyData.canLayAll0]
    have e2 : PyData.depthAll (d :: r) = max d.depth (PyData.depthAll r) := by simp [PyData.depthAll]
    rw [e1, e2]
    exact ⟨by rw [h1.1, h2.1]; rfl, Nat.max_le.mpr ⟨h1.2, h2.2⟩⟩
theorem shp_int {k : Nat} {i : Int} : Shp k (.int i) := ⟨by simp [PyData.canLay0], by simp [PyData.depth]⟩
theorem shp_str {k : Nat} {s : Str} (h : PyData.strOk s = true) : Shp k (.str s) := ⟨by simp only [PyData.canLay0]; exact h, by simp [PyData.depth]⟩
theorem shp_bool {k : Nat} {b : Bool} : Shp k (.bool b) := ⟨by simp [PyData.canLay0], by simp [PyData.depth]⟩
theorem shp_none {k : Nat} : Shp k .none := ⟨by simp [PyData.canLay0], by simp [PyData.depth]⟩
theorem shp_list {k : Nat} {ds : List PyData} (h : ∀ d ∈ ds, Shp k d) : Shp (k + 1) (.list ds) := by
  have q := shp_all h
  refine ⟨by simp only [PyData.canLay0]; exact q.1, ?_⟩
  have e : PyData.depth (.list ds) = PyData.depthAll ds + 1 := by simp only [PyData.depth]
  omega
theorem shp_tuple {k : Nat} {ds : List PyData} (h : ∀ d ∈ ds, Shp k d) : Shp (k + 1) (.tuple ds) := by
  have q := shp_all h
  refine ⟨by simp only [PyData.canLay0]; exact q.1, ?_⟩
  have e : PyData.depth (.tuple ds) = PyData.depthAll ds + 1 := by simp only [PyData.depth]
  omega
theorem Shp.up {k j : Nat} {d : PyData} (h : Shp k d) (l : k ≤ j) : Shp j d := ⟨h.1, Nat.le_trans h.2 l⟩
theorem Shp.ok {k : Nat} {d : PyData} (h : Shp k d) (l : k ≤ 64 := by decide) : SeqAt.shaped d = true := by
  show (d.canLay0 && decide (d.depth ≤ 64)) = true
  rw [h.1, decide_eq_true (Nat.le_trans h.2 l)]
  rfl
theorem Shp.eqv {k : Nat} {d : PyData} (h : Shp k d) : PyData.eqv d d = true := by
  exact PySem.SeqAt.eqv_refl d h.1
theorem mem1 {α : Type} {P : α → Prop} {a : α} (h : P a) : ∀ x ∈ [a], P x := fun x hx => by
  rw [List.mem_singleton.mp hx]
  exact h
theorem mem2 {α : Type} {P : α → Prop} {a b : α} (h : P a) (h2 : P b) : ∀ x ∈ [a, b], P x := fun x hx => by
  rcases List.mem_cons.mp hx with e | hx
  · rw [e]; exact h
  · exact mem1 h2 x hx
theorem mem_cons' {α : Type} {P : α → Prop} {a : α} {r : List α} (h : P a) (h2 : ∀ x ∈ r, P x) : ∀ x ∈ a :: r, P x := fun x hx => by
  rcases List.mem_cons.mp hx with e | hx
  · rw [e]; exact h
  · exact h2 x hx
theorem mem_map {α β : Type} {P : β → Prop} {f : α → β} {r : List α} (h : ∀ x ∈ r, P (f x)) : ∀ x ∈ r.map f, P x := fun x hx => by
  obtain ⟨y, hy, rfl⟩ := List.mem_map.mp hx
  exact h y hy
theorem Fk.up {g : G} {j k : Nat} {sp : Sp} {f : Addr} (F : Fk g j sp f) (h : j ≤ k) : Fk g k sp f := let ⟨fd, ps, ds, dvs, sp0, a, b, c, d, e⟩ := F; ⟨fd, ps, ds, dvs, sp0, a, b.mono h, c, d, e⟩
theorem GF.up {g : G} {j k : Nat} {sp : Sp} {x : Str} (F : GF g j x sp) (h : j ≤ k) : GF g k x sp := let ⟨f, a, b⟩ := F; ⟨f, a, b.up h⟩
theorem MF.up {g : G} {j k : Nat} {sp : Sp} {C : Addr} {m : Str} (F : MF g j C m sp) (h : j ≤ k) : MF g k C m sp := let ⟨f, a, b⟩ := F; ⟨f, a, b.up h⟩
theorem IF.up {g : G} {j k : Nat} {sp : Sp} {C : Addr} (F : IF g j C sp) (h : j ≤ k) : IF g k C sp := let ⟨f, a, b⟩ := F; ⟨f, a, b.up h⟩
structure Pt (g : G) (qual : Str) (st : Stmt) (f : Addr) (N ps : List Str) (t : G → Around → TS) : Prop where
  ex : ∃ x fd, FunG g x qual st f fd ∧ Binds g.K fd ps []
  sc : FnScope N ps (defScope st)
  d : ∀ k, BodyOk g N qual st f k t
theorem Pt.fk {g : G} {qual : Str} {st : Stmt} {f : Addr} {N ps : List Str} {t : G → Around → TS} (P : Pt g qual st f N ps t) (k : Nat) {sp : Sp} (len : ∀ vs H Q E, sp vs H Q E → vs.length = ps.length)
    (w : ∀ (A : Around) (vs : List V) (H : Hp) (Q : VK) (E : XK), Room k A → sp vs H Q E → t g A { nx := fun _ H' => Q .non H', rt := Q } (start N vs) H) : Fk g (k + 1) sp f :=
  let ⟨x, fd, F, b⟩ := P.ex
  Fk.of F P.sc b (P.d k) len w
theorem start_wd {K : PySem.W.Frag} {H : Hp} {a : Addr} {xs : List V} (h : SqL K H a xs) : Wd [] [isL K a xs] H :=
  ⟨⟨H, Same.refl H, mem1 ⟨isL_stab, h⟩, fun _ h => (List.not_mem_nil h).elim⟩, List.nodup_nil⟩
theorem nat_of_bits {i : Int} {n : Nat} (h : Builtin.Int.intBits i ≤ n) : i.natAbs < 2 ^ n := by
  by_cases e : i.natAbs = 0
  · rw [e]
    exact Nat.two_pow_pos n
  · unfold Builtin.Int.intBits at h
    rw [if_neg (by simpa using e)] at h
    exact (Nat.log2_lt e).mp (by omega)
theorem cx_false {P : Program} {w : World} {H : Hp} {s : Shared} {e : Value} {s' : Shared} (h : L2.CX P w [] H s (fun _ _ _ => False) e s') : False :=
  let ⟨_, _, _, _, _, _, _, _, _, _, _, _, z⟩ := h
  z
theorem walk_end {l : PySem.W.OpenLaw} {n k : Nat} {q : Program} {loose : List Str} {XP : (Str → Option Value) → Heap → Prop} {YP : World → Heap → Prop} {d : DefRec} {x : Str}
    (hn : l.most = some n) (hn2 : n ≤ sizeLine) (hdf : d.params.defaults = []) (hr : Room k callerA)
    (F : ∀ (w : World) (mg : Str → Option Value) (fa : Addr) (h : Heap), YP w h → h.Ns mainGlobals mg → mg d.name = some (.ref fa) →
      ∃ (K : PySem.W.Frag) (fd : FuncData) (sp : Sp), K.In h ∧ (∀ (s : Shared) (u : Value), BindsTo s fd ⟨[u], []⟩ [(x, u)]) ∧
        (∀ (H : Hp) (a : Addr) (ns : List Int), ns.length ≤ n → (∀ z ∈ ns, z.natAbs < 2 ^ 1048576) → SqL K H a (ns.map V.int) → sp [.ref a] H (fun v _ => v = .bl true) fun _ _ _ => False) ∧
        ∀ base : Heap, K.In base → base.Ns mainGlobals mg → FnOk l.prog w K mg base (L2.CX l.prog w) k fa fd [x] sp) :
    PySem.W.WalkO q loose XP YP l.row.toRowW d [] (fun f vs => PySem.call f vs) := by
  refine Att.attach_callB hn hdf fun w s₀ s₁ mg mb fa o pm cd doc a vs ns G Y ho hd hcd hmg hobj hints hlen hbits hg => ?_
  obtain ⟨K, fd, sp, KX, hb, hsp, hF⟩ := F w mg fa _ Y G.T.g hmg
  exact law_call KX G.T.g G.T.b G.T.builtins G.T.nolimit hg hobj hints (Nat.le_trans hlen hn2) hr hF hb (fun H _ hS => hsp H a ns hlen (fun z hz => nat_of_bits (hbits z hz)) hS) fun H e s' => cx_false
section
variable {X : Cx} {E : XK} {A : Around}
theorem run_FkA {pins : List (Addr × Obj)} {σ : L2.St} {H : Hp} {s : Shared} {Q : VK} {us : List Value} {vs : List V} {k : Nat} {sp : Sp} {f : Addr} (F : Fk (gOf X) k sp f) (hr : Room k A) (hf : A.frames = X.A.frames) (hx : Passes (L2.CX X.prog X.w) X E)
    (I : Inv X pins σ H s) (r : Vals vs us) (h : sp vs H Q E) : wpAny (model X.prog X.w) A (call (.ref f) us) (EP X pins σ Q) X.xe s := by
  obtain ⟨fd, ps, ds, dvs, sp0, kp, F, hb, hd, im⟩ := F
  have h0 := im _ _ _ _ h
  have r2 : Vals (vs ++ dvs) (us ++ ds) := r.append hd
  have hl : (us ++ ds).length = ps.length := by rw [← r2.length]; exact F.len _ _ _ _ h0
  have e := I.env0
  have e0 : Env0 X.prog X.w X.K X.mg X.base A X.stack s H := ⟨hf.trans e.frames, e.mod, e.bs, e.bsz, e.funs, e.frf, e.hok, e.bare⟩
  refine wpAny_call (codeAny_mono (F.run A X.stack s H ⟨us, []⟩ (us ++ ds) (vs ++ dvs) Q E hr e0 (hb s us I.kIn hl) r2 h0) fun r s' hq => ?_)
  cases r with
  | error e => exact hx pins σ H s e s' I hq
  | ok fl =>
    cases fl with
    | ret u => exact I.after hq
    | next => exact hq.elim
    | brk => exact hq.elim
    | cont => exact hq.elim
end
def kOwn (g : G) (A : Around) (m : Str) (E : XK) (x : V) (vs : List V) (H : Hp) (Q : VK) : Prop := ∃ a C dx fs k sp, x = .ref a ∧ H a = some (.ins C dx fs) ∧ Room (k + 4) A ∧ MF g k C m sp ∧ sp (x :: vs) H Q E
def kBl (Q : VK) : VK := fun v H => ∃ b, v = .bl b ∧ Q (.bl b) H
def kEqOwn (g : G) (A : Around) (E : XK) : R2 := fun x y H Q => ∃ a C dx fs t, x = .ref a ∧ H a = some (.ins C dx fs) ∧ TyX g.K H y t ∧ PySem.W.notFirst g.K C t = true ∧ kOwn g A "__eq__" E x [y] H (kBl Q)
theorem op_eqOwn {X : Cx} {E : XK} (hx : Passes (L2.CX X.prog X.w) X E) (hu : X.A.units < cLine) : OpR X (compareOp .Eq) (kEqOwn (gOf X) X.A E) := by
  intro pins s σ H x y v u Q I rx ry h
  obtain ⟨a, C, dx, fs, t, rfl, ha, ty, nf, a', C', dx', fs', k, sp, ea, ha', hr, ⟨f, hm, F⟩, q⟩ := h
  cases ea
  rw [ha] at ha'
  cases ha'
  obtain rfl : v = Value.ref a := rx
  obtain ⟨mA, J, _⟩ := ins_get I.hok ha
  obtain ⟨od, J, _⟩ := J.look
  obtain ⟨m, hF⟩ := I.fr
  obtain ⟨P, Z, hP, _⟩ := kit_of I ry ty
  refine PySem.W.cmp_K (op := .Eq) (tb := t) hu hF I.ok.mod.kin J (Z.ty _ _ I.kIn hP) nf hm.at_ hm.fn ?_
  refine wpAny_mono (run_FkA (us := [.ref a, u]) (vs := [.ref a, y]) F (hr.mono (by omega)) rfl hx I (.cons rfl (.cons ry .nil)) q) (fun w s' hq => ?_) fun _ _ e => e
  obtain ⟨z, H', I', rz, b, rfl, q'⟩ := hq
  obtain rfl : w = Value.bool b := rz
  exact ⟨.bl b, H', I', rfl, q'⟩
def kEqO (g : G) (A : Around) (E : XK) : R2 := fun x y H Q => kEq g.K x y H Q ∨ kEqOwn g A E x y H Q
theorem op_eqO {X : Cx} {E : XK} (hx : Passes (L2.CX X.prog X.w) X E) (hu : X.A.units + 64 < cLine) : OpR X (compareOp .Eq) (kEqO (gOf X) X.A E) := (op_eqG hu).or (op_eqOwn hx (by omega))
def kLenOwn (g : G) (A : Around) (E : XK) : List V → Hp → VK → Prop := fun xs H Q => ∃ x, xs = [x] ∧ kOwn g A "__len__" E x [] H fun v H' => ∃ n : Nat, v = .int n ∧ (n : Int) < 2 ^ 63 ∧ Q (.int n) H'
theorem callLenOwn {X : Cx} {E : XK} (hx : Passes (L2.CX X.prog X.w) X E) : CallR X (.builtin "len") (kLenOwn (gOf X) X.A E) := by
  intro pins s σ H xs us Q I rx h
  obtain ⟨x, rfl, a, C, dx, fs, k, sp, rfl, ha, hr, ⟨f, hm, F⟩, q⟩ := h
  obtain ⟨u, rfl, ru⟩ := vals1 rx
  obtain rfl : u = Value.ref a := ru
  obtain ⟨mA, J, _⟩ := ins_get I.hok ha
  obtain ⟨od, J, _⟩ := J.look
  obtain ⟨m, hF⟩ := I.fr
  refine PySem.W.len_K hF I.ok.mod.kin J hm.at_ hm.fn ?_
  refine wpAny_mono (run_FkA (A := X.A.in1) (us := [.ref a]) (vs := [.ref a]) F ((hr.mono (show k + 1 ≤ k + 4 by omega)).in1) rfl hx I (.cons rfl .nil) q) (fun w s' hq => ?_) fun _ _ e => e
  obtain ⟨z, H', I', rz, n, rfl, hn, q'⟩ := hq
  obtain ⟨t, rfl⟩ := rz
  exact ⟨⟨Int.natCast_nonneg n, hn⟩, ⟨.int n, H', I'.tok _, ⟨_, rfl⟩, q'⟩⟩
def kLenO (g : G) (A : Around) (E : XK) : List V → Hp → VK → Prop := fun xs H Q => kLen g.K xs H Q ∨ kLenOwn g A E xs H Q
theorem callLenO {X : Cx} {E : XK} (hx : Passes (L2.CX X.prog X.w) X E) : CallR X (.builtin "len") (kLenO (gOf X) X.A E) := CallR.or callLen (callLenOwn hx)
def kStrOwn (g : G) (A : Around) (E : XK) : List V → Hp → VK → Prop := fun xs H Q => ∃ x, xs = [x] ∧ kOwn g A "__str__" E x [] H fun v H' => ∃ z : Str, v = .str z ∧ Q (.str z) H'
theorem callStrOwn {X : Cx} {E : XK} (hx : Passes (L2.CX X.prog X.w) X E) : CallR X (.type "str") (kStrOwn (gOf X) X.A E) := by
  intro pins s σ H xs us Q I rx h
  obtain ⟨x, rfl, a, C, dx, fs, k, sp, rfl, ha, hr, ⟨f, hm, F⟩, q⟩ := h
  obtain ⟨u, rfl, ru⟩ := vals1 rx
  obtain rfl : u = Value.ref a := ru
  obtain ⟨mA, J, _⟩ := ins_get I.hok ha
  obtain ⟨od, J, _⟩ := J.look
  have r2 : Room (k + 2) X.A.in1.in1 := ((hr.mono (show k + 3 + 1 ≤ k + 4 by omega)).in1).in1
  refine PySem.W.kso_call r2.units0 I.kIn J hm.at_ hm.fn ?_
  refine wpAny_mono (run_FkA (A := X.A.in1.in1) (us := [.ref a]) (vs := [.ref a]) F (r2.mono (by omega)) rfl hx I (.cons rfl .nil) q) (fun w s' hq => ?_) fun _ _ e => e
  obtain ⟨v, H', I', rz, z, rfl, q'⟩ := hq
  obtain ⟨t, rfl⟩ := rz
  exact ⟨.str z, H', I', ⟨t, rfl⟩, q'⟩
def kStrO (g : G) (A : Around) (E : XK) : List V → Hp → VK → Prop := fun xs H Q => kStr xs H Q ∨ kStrOwn g A E xs H Q
theorem callStrO {X : Cx} {E : XK} (hx : Passes (L2.CX X.prog X.w) X E) : CallR X (.type "str") (kStrO (gOf X) X.A E) := CallR.or callStr (callStrOwn hx)
def IK (g : G) (k : Nat) (C : Addr) (n : Nat) (ks : List Str) (sp : Sp) : Prop := ∃ f fd ps sp0 gs gV, Mk g.K C f ∧ PySem.W.keepIn g.K (.ref f) = true ∧ FnOk g.P g.w g.K g.mg g.base (L2.CX g.P g.w) k f fd ps sp0 ∧ KBn g.K fd ps (n + 1) ks gs gV ∧
  ∀ vs zs H Q E, vs.length = n + 1 → zs.length = ks.length → sp (vs ++ zs) H Q E → sp0 (gV vs zs) H Q E
def kMakeK (g : G) (A : Around) (x : Str) (n : Nat) (ks : List Str) (E : XK) : List V → List V → Hp → VK → Prop := fun vs zs H Q => ∃ k sp C, Room (k + 1) A ∧ g.mg x = some (.ref C) ∧ IK g k C n ks sp ∧ vs.length = n ∧ zs.length = ks.length ∧
  ∀ p dx, H p = none → H dx = none → dx ≠ p → sp (.ref p :: (vs ++ zs)) (upd (upd H dx (.own p)) p (.ins C dx [])) (fun v H2 => v = .non ∧ Q (.ref p) H2) E
def tMakeKG (g : G) (A : Around) (x : Str) (n : Nat) (ks : List Str) (E : XK) (t tk : TA) : TE := fun σ H Q => t σ H fun vs H1 => tk σ H1 fun zs H2 => kMakeK g A x n ks E vs zs H2 Q
theorem pe_makeKG {X : Cx} {E : XK} {x : Str} {p pos : Pos} {e : Expr} {es : List Expr} {kws : List Keyword} {t tk : TA} {n : Nat} {ks : List Str} (hm : Kn (gOf X) x) (hx : Passes (L2.CX X.prog X.w) X E) (ha : PA X (e :: es) t) (hkw : PK X kws tk) (hg : Gl X x := by rfl)
    (hall : (backToKw pos (keywordEach kws X.env)).all (·.1.isSome) = true := by rfl) (hks : (backToKw pos (keywordEach kws X.env)).filterMap (·.1) = ks := by rfl) (hdb : (x == ("__debug__" : Str)) = false := by decide)
    (he : starEach (e :: es) X.env = (false, eval e X.env) :: starEach es X.env := by rfl) (hpl : ((backTo pos (starEach (e :: es) X.env)).any (·.1) || (backToKw pos (keywordEach kws X.env)).any (·.1.isNone)) = false := by rfl) :
    PE X (.Call (.Name x p) (e :: es) kws pos) (tMakeKG (gOf X) X.A x n ks E t tk) := by
  obtain ⟨f0, hm, hk⟩ := hm
  refine ⟨fun pins s σ H Q I h => ?_⟩
  refine wpAny_Call_Name_kw (ld_glob I hg hm ?_ hdb)
  refine PySem.W.callWith_KW (h₀ := X.base) I.ok.mod.kin hk hall (thn (ha.run pos pins s σ H _ I h) fun us s1 ⟨vs, H1, I1, r, q⟩ => ?_) hpl he
  refine thn (hkw.run pos pins s1 σ H1 _ I1 q) fun ws s2 ⟨zs, H2, I2, rz, q2⟩ => ⟨I2.kIn, ?_⟩
  rw [hks]
  obtain ⟨k, sp, C, hr, hm', ⟨f, fd, ps, sp0, gs, gV, M, kp, F, hb, im⟩, n1, n2, q⟩ := q2
  have hm2 : X.mg x = some (.ref C) := hm'
  have hm1 : X.mg x = some (.ref f0) := hm
  rw [hm1] at hm2
  cases hm2
  exact run_makeK M F hr hb hx I2 r rz n1 n2 fun y dx a b c => im (.ref y :: vs) zs _ _ _ (by rw [List.length_cons, n1]) n2 (q y dx a b c)
def kBAnd : R2 := rI0 fun i j => .int (Builtin.bitAnd i j)
theorem op_bandG {X : Cx} : OpR X (binaryOp .BitAnd) kBAnd := op_and
def kShr : R2 := rI (fun _ j => 0 ≤ j) fun i j => .int (i / 2 ^ j.toNat)
theorem op_shrG {X : Cx} : OpR X (binaryOp .RShift) kShr := op_shr
def kShl : R2 := fun x y H Q => ∃ (i : Int) (k : Nat), x = .int i ∧ y = .int (k : Int) ∧ CShl i (k : Int) ∧ Q (.int (i * 2 ^ k)) H
theorem op_shlG {X : Cx} : OpR X (binaryOp .LShift) kShl := op_shlN
def ipOrG : TIp := fun x y H Q => rI0 (fun i j => .int (Builtin.bitOr i j)) x y H Q
theorem ip_orG {X : Cx} : PIp X .BitOr ipOrG := fun pins s σ H x y v u Q I rx ry h => iop_or pins s σ H x y v u Q I rx ry h
def kBits (x : V) (H : Hp) (Q : VK) : Prop := ∃ i, x = .int i ∧ Q (.int (Builtin.Int.intBits i : Nat)) H
def kJoin (K : PySem.W.Frag) : V → List V → Hp → VK → Prop := fun x xs H Q => ∃ a p, ∃ ys : List Str, x = .str a ∧ xs = [.ref p] ∧ (SqL K H p (ys.map V.str) ∨ SqT K H p (ys.map V.str)) ∧ (ys.map (·.length)).sum + ys.length * a.length ≤ 16777216 ∧ Q (.str (Txt.join a ys)) H
theorem mt_joinG {X : Cx} : MtR X "str.join" (kJoin X.K) := mt_join
theorem k_join {K : PySem.W.Frag} {a : Str} {p : Addr} {ys : List Str} {H : Hp} {Q : VK} (h : SqL K H p (ys.map V.str)) (hl : (ys.map (·.length)).sum + ys.length * a.length ≤ 16777216) (k : Q (.str (Txt.join a ys)) H) : kJoin K (.str a) [.ref p] H Q := ⟨a, p, ys, rfl, rfl, .inl h, hl, k⟩
def kInG (K : PySem.W.Frag) : R2 := fun x y H Q => kIn K x y H Q ∨ rInD K x y H Q
theorem op_inGD {X : Cx} (hu : X.A.units + 65 < cLine) : OpR X (compareOp .In) (kInG X.K) := (op_inG (by omega)).or (op_inD hu)
def kNotInG (K : PySem.W.Frag) : R2 := fun x y H Q => kNotIn K x y H Q ∨ rNotInD K x y H Q
theorem op_notInGD {X : Cx} (hu : X.A.units + 65 < cLine) : OpR X (compareOp .NotIn) (kNotInG X.K) := (op_notInG (by omega)).or (op_notInD hu)
def ItzM (K : PySem.W.Frag) (a b : Addr) : It :=
  ⟨fun i H => ∃ (xs ys : List V) (x y : V), SqT K H a xs ∧ SqL K H b ys ∧ xs[i]? = some x ∧ ys[i]? = some y,
    fun i H v H' => ∃ T x y, v = .ref T ∧ H T = none ∧ H' = upd H T (.tup [x, y]) ∧ (∀ xs, SqT K H a xs → xs[i]? = some x) ∧ ∀ ys, SqL K H b ys → ys[i]? = some y,
    fun i H => ∃ xs ys : List V, SqT K H a xs ∧ SqL K H b ys ∧ i ≤ xs.length ∧ i ≤ ys.length ∧ (i = xs.length ∨ i = ys.length)⟩
structure Zap (z TI TO i1 i2 a b : Addr) : Prop where
  q1 : TI ≠ z
  q2 : TO ≠ z
  q3 : TI ≠ TO
  q4 : TI ≠ i1
  q5 : TI ≠ i2
  q6 : z ≠ i1
  q7 : z ≠ a
  q8 : TO ≠ i1
  q9 : TO ≠ a
  r6 : z ≠ i2
  r7 : z ≠ b
  r8 : TO ≠ i2
  r9 : TO ≠ b
  s1 : i1 ≠ i2
  s2 : i1 ≠ b
  s3 : i2 ≠ a
  s4 : a ≠ i1
  s5 : b ≠ i2
theorem Zap.sep {z TI TO i1 i2 a b : Addr} (D : Zap z TI TO i1 i2 a b) : ZipSep2 z TI TO i1 i2 [i1, a] [i2, b] where
  TIz := D.q1
  TOz := D.q2
  TITO := D.q3
  TIi1 := D.q4
  TIi2 := D.q5
  mem1 := by simp
  mem2 := by simp
  zf1 := by simp [D.q6, D.q7]
  Tf1 := by simp [D.q8, D.q9]
  zf2 := by simp [D.r6, D.r7]
  Tf2 := by simp [D.r8, D.r9]
  sep1_2 := by simp [D.s1, D.s2]
  sep2_1 := by simp [Ne.symm D.s1, D.s3]
theorem turn_zipM {P : Program} {w : World} {K : PySem.W.Frag} {elts : List Expr} {kk : Nat} {tpos : Pos} {a b z TI TO i1 i2 : Addr} (D : Zap z TI TO i1 i2 a b) :
    Turn P w K (.Tuple elts kk tpos) (ItzM K a b) [z, TI, TO, i1, i2] z (fun i h => IsZip h z TI TO .none ∧ IsTupOf2 h TI (.ref i1) (.ref i2) ∧ (∃ x y, IsTupOf2 h TO x y) ∧ h.IsTupleIter i1 a i ∧ h.IsListIter i2 b i) where
  mem := by simp
  obj := fun i h st c hc => by
    obtain ⟨hz, hTI, ⟨x, y, hTO⟩, ⟨o1, e1, _, d1⟩, ⟨o2, e2, _, d2⟩⟩ := st
    have e' : c = z ∨ c = TI ∨ c = TO ∨ c = i1 ∨ c = i2 := by simpa using hc
    rcases e' with rfl | rfl | rfl | rfl | rfl
    · exact ⟨_, hz, fun v q => nomatch q⟩
    · exact ⟨_, hTI, fun v q => nomatch q⟩
    · exact ⟨_, hTO, fun v q => nomatch q⟩
    · exact ⟨o1, e1, fun v q => by rw [d1] at q; cases q⟩
    · exact ⟨o2, e2, fun v q => by rw [d2] at q; cases q⟩
  keep := fun i h h' st k => by
    obtain ⟨hz, hTI, ⟨x, y, hTO⟩, h1, h2⟩ := st
    exact ⟨k z (by simp) _ hz, k TI (by simp) _ hTI, ⟨x, y, k TO (by simp) _ hTO⟩, h1.at fun o q => k i1 (by simp) o q, h2.at fun o q => k i2 (by simp) o q⟩
  item := by
    intro X hP hw hK hc i pins s σ H E I hf st hg
    subst hP hw hK
    obtain ⟨hz, hTI, ⟨x0, y0, hTO⟩, h1, h2⟩ := st
    obtain ⟨xs, ys, x, y, hqx, hqy, hx, hy⟩ := hg
    obtain ⟨its, rv, p, _⟩ := I.tuple hqx
    obtain ⟨its2, rv2, p2, _⟩ := I.list hqy
    obtain ⟨u, hu, ru⟩ := rv.get hx
    obtain ⟨u2, hu2, ru2⟩ := rv2.get hy
    have hzl : z < s.heap.objs.size := Heap.lt_size hz
    have n1 : i < its.toArray.size := by simpa using (List.getElem?_eq_some_iff.mp hu).1
    have n2 : i < its2.toArray.size := by simpa using (List.getElem?_eq_some_iff.mp hu2).1
    refine wpAny_pyNext_zipD2_item D.sep (Draws.tuple (prog := X.prog) (w := X.w) (A := X.A.in1) (I.ok.hd hc) i1 a D.s4 its.toArray) (Draws.list (prog := X.prog) (w := X.w) (A := X.A.in1) (I.ok.hd hc) i2 b D.s5 its2.toArray)
      hz hTI hTO ⟨h1, p⟩ ⟨h2, p2.isList⟩ n1 n2 fun x1 x2 h' tk y1 y2 z' TO' t1 t2 hT hsz hk => ?_
    obtain rfl : x1 = u := Option.some.inj (y1.symm.trans (by simpa using hu))
    obtain rfl : x2 = u2 := Option.some.inj (y2.symm.trans (by simpa using hu2))
    refine ⟨_, rfl, wpAny_letOwnedTupleGo_zip (s := { s with heap := h', toks := tk }) z' fun h'' z'' sb => ?_⟩
    have hT2 : h''.get? s.heap.objs.size = some { cls := .type "tuple", data := .seq #[x1, x2] } := (sb.2 _ (Nat.ne_of_gt hzl)).trans hT
    have new : ObjOk X.prog X.w (upd H s.heap.objs.size (.tup [x, y])) h'' s.heap.objs.size (.tup [x, y]) :=
      ⟨by show 2 ≤ sizeLine; decide, [x1, x2], .cons ru (.cons ru2 .nil), ⟨_, hT2, rfl, _, rfl⟩⟩
    have I1 : Inv X pins σ (upd H s.heap.objs.size (.tup [x, y])) { s with heap := h'', toks := tk } :=
      I.turnedNew (t' := tk) (ch := [z, TI, TO, i1, i2]) (fun c o hb q => (sb.2 c (fun q' => hb (by simp [q']))).trans (hk c o (fun q' => hb (by simp [q'])) (fun q' => hb (by simp [q'])) (fun q' => hb (by simp [q'])) (fun q' => hb (by simp [q'])) q)) hf (Nat.le_refl _) new
    refine ⟨.ref s.heap.objs.size, _, I1, rfl, ⟨_, x, y, rfl, I.hok.fresh (Nat.le_refl _), rfl, fun l hl => by rw [I.tuple_inj hl hqx]; exact hx, fun l hl => by rw [I.list_inj hl hqy]; exact hy⟩, ⟨z'', ?_, ⟨x1, x2, ?_⟩, ?_, ?_⟩, fun c hcm => ?_⟩
    · exact (sb.2 _ D.q1).trans (hk _ _ D.q1 D.q3 D.q4 D.q5 hTI)
    · exact (sb.2 _ D.q2).trans TO'
    · exact t1.1.at fun o q => (sb.2 _ (Ne.symm D.q6)).trans q
    · exact t2.1.at fun o q => (sb.2 _ (Ne.symm D.r6)).trans q
    · have hlt : c < s.heap.objs.size := by
        have e' : c = z ∨ c = TI ∨ c = TO ∨ c = i1 ∨ c = i2 := by simpa using hcm
        rcases e' with rfl | rfl | rfl | rfl | rfl
        · exact hzl
        · exact Heap.lt_size hTI
        · exact Heap.lt_size hTO
        · obtain ⟨_, e1, _⟩ := h1; exact Heap.lt_size e1
        · obtain ⟨_, e2, _⟩ := h2; exact Heap.lt_size e2
      rw [upd_ne (Nat.ne_of_lt hlt)]
      exact (hf c hcm).1
  done := by
    intro X hP hw hK hc i pins s σ H E I hf st hg
    subst hP hw hK
    obtain ⟨hz, hTI, ⟨x0, y0, hTO⟩, h1, h2⟩ := st
    obtain ⟨xs, ys, hqx, hqy, le1, le2, hend⟩ := hg
    obtain ⟨its, rv, p, _⟩ := I.tuple hqx
    obtain ⟨its2, rv2, p2, _⟩ := I.list hqy
    have l1 := rv.length
    have l2 := rv2.length
    refine wpAny_pyNext_zipD2_end D.sep (Draws.tuple (prog := X.prog) (w := X.w) (A := X.A.in1) (I.ok.hd hc) i1 a D.s4 its.toArray) (Draws.list (prog := X.prog) (w := X.w) (A := X.A.in1) (I.ok.hd hc) i2 b D.s5 its2.toArray)
      hz hTI hTO ⟨h1, p⟩ ⟨h2, p2.isList⟩ (by simp; omega) (by simp; omega) (by simp; omega) fun h' tk hk => ⟨rfl, I.turnedL (t' := tk) (ch := [z, TI, TO, i1, i2]) (fun c o hb q =>
      hk c o (fun q' => hb (by simp [q'])) (fun q' => hb (by simp [q'])) (fun q' => hb (by simp [q'])) (fun q' => hb (by simp [q'])) q) hf⟩
  self := fun A i s Q E st h => wpAny_pyIter_zip st.1 h
def kZip (K : PySem.W.Frag) (vs : List V) (H : Hp) (R : It → Hp → Prop) : Prop := ∃ a b xs ys, vs = [.ref a, .ref b] ∧ ((SqL K H a xs ∧ SqL K H b ys ∧ R (Itz K a b) H) ∨ (SqT K H a xs ∧ SqT K H b ys ∧ R (RZ.ItzT K a b) H) ∨ (SqT K H a xs ∧ SqL K H b ys ∧ R (ItzM K a b) H))
def iZipG (K : PySem.W.Frag) (ta : TA) : TI := fun σ H R => ta σ H fun vs H1 => kZip K vs H1 R
theorem zap_of {n a b : Nat} (ha : a < n) (hb : b < n) : Zap (n + 4) (n + 2) (n + 3) n (n + 1) a b := by
  constructor <;> (intro h; have h : (_ : Nat) = _ := h; omega)
theorem five_le {n c : Nat} (h : c = n + 4 ∨ c = n + 2 ∨ c = n + 3 ∨ c = n ∨ c = n + 1) : n ≤ c := by omega
theorem pi_zipG {X : Cx} {e e2 : Expr} {ta : TA} {p pos tpos : Pos} {elts : List Expr} {kk : Nat} (hg : Gl X "zip") (hm : X.mg "zip" = none) (ha : PA X [e, e2] ta)
    (hs : starEach [e, e2] X.env = (false, eval e X.env) :: starEach [e2] X.env := by rfl) (hpl : (backTo pos (starEach [e2] X.env)).any (·.1) = false := by rfl) :
    PI X (.Tuple elts kk tpos) (.Call (.Name "zip" p) [e, e2] [] pos) (iZipG X.K ta) := by
  refine ⟨fun pins s σ H R I h => ?_⟩
  refine Call_ (ld_blt I hg hm PyProof.Rows.boot_zip (PyProof.Rows.callWith_type1 (thn (ha.run pos pins s σ H _ I h) fun us s1 ⟨vs, H1, I1, r1, q1⟩ => ?_) hs hpl))
  obtain ⟨a, b, xs, ys, rfl, q1⟩ := q1
  cases r1 with
  | cons r rr =>
    cases rr with
    | cons r' rr =>
      cases rr
      cases r
      cases r'
      have fresh5 : ∀ c, c ∈ [s1.heap.objs.size + 4, s1.heap.objs.size + 2, s1.heap.objs.size + 3, s1.heap.objs.size, s1.heap.objs.size + 1] → FpOk X pins H1 c := fun c hcm => by
        have hle : s1.heap.objs.size ≤ c := five_le (by simpa using hcm)
        exact I1.fpOk hle (I1.hok.fresh hle)
      rcases q1 with ⟨hqx, hqy, q⟩ | ⟨hqx, hqy, q⟩ | ⟨hqx, hqy, q⟩
      · obtain ⟨its, rv, p1, _⟩ := I1.list hqx
        obtain ⟨its2, rv2, p2, _⟩ := I1.list hqy
        refine call_zip_2 p1.isList p2.isList fun h' hz hTI hTO h1 h2 hsz hk => wpAny_pyIter_zip hz ?_
        have I2 : Inv X pins σ H1 { s1 with heap := h' } := I1.kept (t' := s1.toks) hk
        exact ⟨_, _, _, _, H1, rfl, I2, turn_zip (PySem.W.ktu_apart s1.heap.objs.size a b p1.lt p2.lt), ⟨hz, hTI, ⟨_, _, hTO⟩, h1, h2⟩, fresh5, q⟩
      · obtain ⟨its, rv, p1, _⟩ := I1.tuple hqx
        obtain ⟨its2, rv2, p2, _⟩ := I1.tuple hqy
        obtain ⟨o1, ho1, _⟩ := id p1
        obtain ⟨o2, ho2, _⟩ := id p2
        refine RZ.call_zipT (show s1.heap.IsTuple a its.toArray from p1) (show s1.heap.IsTuple b its2.toArray from p2) fun h' hz hTI hTO h1 h2 hsz hk => wpAny_pyIter_zip hz ?_
        have I2 : Inv X pins σ H1 { s1 with heap := h' } := I1.kept (t' := s1.toks) hk
        exact ⟨_, _, _, _, H1, rfl, I2, RZ.turn_zipT (PySem.W.ktu_apart s1.heap.objs.size a b (Heap.lt_size ho1) (Heap.lt_size ho2)), ⟨hz, hTI, ⟨_, _, hTO⟩, h1, h2⟩, fresh5, q⟩
      · obtain ⟨its, rv, p1, _⟩ := I1.tuple hqx
        obtain ⟨its2, rv2, p2, _⟩ := I1.list hqy
        refine zip_begins2 (begins_tuple a its.toArray) (begins_list b its2.toArray) p1 p2.isList fun h' hz hTI hTO h1 h2 hsz hk => wpAny_pyIter_zip hz ?_
        have I2 : Inv X pins σ H1 { s1 with heap := h' } := I1.kept (t' := s1.toks) hk
        obtain ⟨oa, ha1, _⟩ := id p1
        exact ⟨_, _, _, _, H1, rfl, I2, turn_zipM (zap_of (Heap.lt_size ha1) p2.lt), ⟨hz, hTI, ⟨_, _, hTO⟩, ⟨_, h1, rfl, rfl⟩, ⟨_, h2, rfl, rfl⟩⟩, fresh5, q⟩
theorem walk_zipM {K : PySem.W.Frag} {a b : Addr} {xs ys : List V} (hl : xs.length = ys.length) : Walk (ItzM K a b) xs.length (fun H => SqT K H a xs ∧ SqL K H b ys) (YPair (fun i => xs[i]?) (fun i => ys[i]?)) := by
  refine ⟨fun i _ hi q => ⟨xs, ys, xs[i], ys[i]'(by omega), q.1, q.2, by simp [hi], by simp⟩, fun _ q => ⟨xs, ys, q.1, q.2, Nat.le_refl _, by omega, .inl rfl⟩, fun i H v H' _ q y => ?_⟩
  obtain ⟨T, x, z, h1, h2, h3, h4, h5⟩ := y
  exact ⟨T, x, z, h1, h2, h3, h4 xs q.1, h5 ys q.2⟩
def Itel (K : PySem.W.Frag) (a : Addr) (c : Int) : It :=
  ⟨fun i H => ∃ (xs : List V) (x : V), SqL K H a xs ∧ xs[i]? = some x, fun i H v H' => ∃ T x, v = .ref T ∧ H T = none ∧ H' = upd H T (.tup [.int (c + (i : Nat)), x]) ∧ ∀ xs, SqL K H a xs → xs[i]? = some x, fun i H => ∃ xs : List V, SqL K H a xs ∧ xs.length ≤ i⟩
theorem turn_enumL {P : Program} {w : World} {K : PySem.W.Frag} {elts : List Expr} {kk : Nat} {tpos : Pos} (a e it : Addr) (c : Int) :
    Turn P w K (.Tuple elts kk tpos) (Itel K a c) [e, it] e (fun i h => (∃ old, IsEnum h e it (c + (i : Nat)) old) ∧ h.IsListIter it a i ∧ e ≠ it) where
  mem := by simp
  obj := fun i h st b hb => by
    obtain ⟨⟨old, he⟩, ⟨o, ho, hc, hd⟩, _⟩ := st
    have e' : b = e ∨ b = it := by simpa using hb
    rcases e' with rfl | rfl
    · exact ⟨_, he, fun v q => nomatch q⟩
    · exact ⟨o, ho, fun v q => by rw [hd] at q; cases q⟩
  keep := fun i h h' st k => let ⟨⟨old, he⟩, hi, hne⟩ := st; ⟨⟨old, k e (by simp) _ he⟩, hi.at fun o q => k it (by simp) o q, hne⟩
  item := by
    intro X hP hw hK hc i pins s σ H E I hf st hg
    subst hP hw hK
    obtain ⟨⟨old, he⟩, hit, hne⟩ := st
    obtain ⟨xs, x, hq, hx⟩ := hg
    obtain ⟨its, rv, p, hz⟩ := I.list hq
    obtain ⟨u, hu, ru⟩ := rv.get hx
    have hel : e < s.heap.objs.size := Heap.lt_size he
    have hil : it < s.heap.objs.size := by obtain ⟨_, q, _⟩ := hit; exact Heap.lt_size q
    have pl := p.isList
    have hai : a ≠ it := by
      rintro rfl
      obtain ⟨o1, h1, c1, _⟩ := hit
      obtain ⟨o2, h2, c2, _⟩ := pl
      rw [h1] at h2
      cases h2
      rw [c1] at c2
      injection c2 with z
      exact absurd z (by decide)
    have hae : e ≠ a := by
      rintro rfl
      obtain ⟨o2, h2, c2, _⟩ := pl
      rw [he] at h2
      cases h2
      injection c2 with z
      exact absurd z (by decide)
    have hlt : i < its.toArray.size := by
      have := (List.getElem?_eq_some_iff.mp hu).1
      simpa using this
    refine wpAny_pyNext_enum_itemC (Draws.list (prog := X.prog) (w := X.w) (A := X.A.in1) (I.ok.hd hc) it a hai its.toArray) he ⟨hit, pl⟩ hlt hne (by simp [hne, hae]) fun x' h' tk hx' ho ⟨hit', _⟩ hT hsz hk => ?_
    obtain rfl : x' = u := Option.some.inj (hx'.symm.trans (by simpa using hu))
    refine ⟨_, rfl, wpAny_letOwnedTupleGo_enum (s := { s with heap := h', toks := tk + 1 }) ho fun h'' he' sb => ?_⟩
    have hT2 : h''.get? s.heap.objs.size = some { cls := .type "tuple", data := .seq #[.int (c + (i : Nat)) tk, x'] } := (sb.2 _ (Nat.ne_of_gt hel)).trans hT
    have new : ObjOk X.prog X.w (upd H s.heap.objs.size (.tup [.int (c + (i : Nat)), x])) h'' s.heap.objs.size (.tup [.int (c + (i : Nat)), x]) :=
      ⟨by show 2 ≤ sizeLine; decide, [.int (c + (i : Nat)) tk, x'], .cons ⟨_, rfl⟩ (.cons ru .nil), ⟨_, hT2, rfl, _, rfl⟩⟩
    have I1 : Inv X pins σ (upd H s.heap.objs.size (.tup [.int (c + (i : Nat)), x])) { s with heap := h'', toks := tk + 1 } :=
      I.turnedNew (ch := [e, it]) (fun b ob hb q => (sb.2 b (fun z => hb (by simp [z]))).trans (hk b ob (fun z => hb (by simp [z])) (fun z => hb (by simp [z])) q)) hf (Nat.le_refl _) new
    refine ⟨.ref s.heap.objs.size, _, I1, rfl, ⟨_, x, rfl, I.hok.fresh (Nat.le_refl _), rfl, fun ys hy => by rw [I.list_inj hy hq]; exact hx⟩, ⟨⟨x', ?_⟩, hit'.at fun o q => (sb.2 it (Ne.symm hne)).trans q, hne⟩, fun b hb => ?_⟩
    · have e1 : c + ((i + 1 : Nat) : Int) = c + (i : Nat) + 1 := by omega
      rw [e1]; exact he'
    · have hb' : b < s.heap.objs.size := by
        have e' : b = e ∨ b = it := by simpa using hb
        rcases e' with rfl | rfl
        · exact hel
        · exact hil
      rw [upd_ne (Nat.ne_of_lt hb')]
      exact (hf b hb).1
  done := by
    intro X hP hw hK hc i pins s σ H E I hf st hg
    subst hP hw hK
    obtain ⟨⟨old, he⟩, hit, hne⟩ := st
    obtain ⟨xs, hq, hx⟩ := hg
    obtain ⟨its, rv, p, hz⟩ := I.list hq
    obtain ⟨f0, f1, f2, f3, f4, f5⟩ := hf it (by simp)
    have hl := rv.length
    have hT : s.TypeIs (.ref e) "enumerate" := ⟨_, he, rfl⟩
    unfold pyNext
    refine wpAny_bind (wpAny_attempt (wpAny_callSpecial?_slot (name := Str.ofString "__next__") hT F.slot_enumerate_next
      (wpAny_call_entry F.slot_enumerate_next hT F.entry_enumerate_next ?_ (F.args_enumerate_next_1 _))))
    show wpAny _ _ (field (.ref e) 2 >>= _) _ _ _
    refine wpAny_bind (wpAny_field he rfl (x := .ref it) rfl ?_)
    refine wpAny_bind (wpAny_nextOf_list_end (I.ok.hd hc) hit p.isList (by simp; omega) fun h' x he' hx' => ?_)
    obtain ⟨o, ho, hc'⟩ := hx'
    refine wpAny_bind (wpAny_isInstance (T := "StopIteration") (b := true) ⟨o, ho, hc'⟩ isSubtype_stop ?_)
    exact wpAny_pure ⟨rfl, I.turned (t' := s.toks) (fun b o hb q => he' b o hb q) f0 f1 f3 f4 f5⟩
  self := fun A i s Q E st h => let ⟨⟨_, he⟩, _⟩ := st; wpAny_pyIter_enum he h
theorem walk_enumL {K : PySem.W.Frag} {a : Addr} {xs : List V} {c : Int} : Walk (Itel K a c) xs.length (fun H => SqL K H a xs) (YPair (fun i => some (.int (c + (i : Nat)))) (fun i => xs[i]?)) := by
  refine ⟨fun i _ hi q => ⟨xs, xs[i], q, by simp [hi]⟩, fun _ q => ⟨xs, q, Nat.le_refl _⟩, fun i H v H' _ q y => ?_⟩
  obtain ⟨T, x, h1, h2, h3, h4⟩ := y
  exact ⟨T, .int (c + (i : Nat)), x, h1, h2, h3, rfl, h4 xs q⟩
def kEnumS (K : PySem.W.Frag) (c : Int) (vs : List V) (H : Hp) (R : It → Hp → Prop) : Prop := (∃ a xs, vs = [.ref a] ∧ SqL K H a xs ∧ R (Itel K a c) H) ∨ ∃ a xs, vs = [.ref a] ∧ SqT K H a xs ∧ R (Itet K a c) H
def iEnumS (K : PySem.W.Frag) (c : Int) (ta : TA) : TI := fun σ H R => ta σ H fun vs H1 => kEnumS K c vs H1 R
theorem pi_enumS {X : Cx} {e : Expr} {ta : TA} {p pos tpos q1 q2 : Pos} {elts : List Expr} {kk j : Nat} {c : Int} (hm : X.mg "enumerate" = none) (ha : PA X [e] ta) (hc0 : -(2 ^ 63) ≤ c := by decide) (hc1 : c < 2 ^ 63 := by decide) (hg : Gl X "enumerate" := by rfl)
    (hs : starEach [e] X.env = (false, eval e X.env) :: starEach [] X.env := by rfl)
    (hpl : ((backTo pos (starEach [e] X.env)).any (·.1) || (backToKw pos (keywordEach [⟨some "start", .Constant (.int c) j q1, q2⟩] X.env)).any (·.1.isNone)) = false := by rfl)
    (hall : (backToKw pos (keywordEach [⟨some "start", .Constant (.int c) j q1, q2⟩] X.env)).all (·.1.isSome) = true := by rfl)
    (hks : (backToKw pos (keywordEach [⟨some "start", .Constant (.int c) j q1, q2⟩] X.env)).filterMap (·.1) = [("start" : Str)] := by rfl) :
    PI X (.Tuple elts kk tpos) (.Call (.Name "enumerate" p) [e] [⟨some "start", .Constant (.int c) j q1, q2⟩] pos) (iEnumS X.K c ta) := by
  refine ⟨fun pins s σ H R I h => ?_⟩
  have hkw : PK X [⟨some "start", .Constant (.int c) j q1, q2⟩] (tCons (tC (.int c)) tNil) := pk_cons pe_int pk_nil
  refine wpAny_Call_Name_kw (ld_blt I hg hm boot_enumerate ?_)
  refine PySem.W.callWith_of (P := fun _ => True) hpl (fun h _ => ⟨.machine, .inr (.inl rfl), PySem.W.Looks.of_pure rfl⟩) (evalArgs_kw2 hall (thn (ha.run pos pins s σ H _ I h) fun us s1 ⟨vs, H1, I1, r1, q1⟩ => ?_) hs)
  refine thn (hkw.run pos pins s1 σ H1 (fun zs H2 => zs = [.int c] ∧ H2 = H1) I1 ⟨rfl, rfl⟩) fun ws s2 ⟨zs, H2, I2, rz, e1, e2⟩ => ⟨True.intro, ?_⟩
  subst e1 e2
  rw [hks]
  obtain ⟨w, rfl, tk, rfl⟩ := vals1 rz
  have fp : ∀ b, b = s2.heap.objs.size + 1 ∨ b = s2.heap.objs.size → s2.heap.objs.size ≤ b := fun b e' => by
    rcases e' with z | z
    · rw [z]; exact Nat.le_add_right _ _
    · rw [z]; exact Nat.le_refl _
  rcases q1 with ⟨a, xs, rfl, hq, q⟩ | ⟨a, xs, rfl, hq, q⟩
  · cases r1 with
    | cons r rr =>
      cases rr
      cases r
      obtain ⟨its, rv, p', hz⟩ := I2.list hq
      refine enum_begins_start (begins_list a its.toArray) p'.isList hc0 hc1 fun h' he hit hsz hk => wpAny_pyIter_enum he ?_
      have I3 : Inv X pins σ H2 { s2 with heap := h' } := I2.kept (t' := s2.toks) hk
      refine ⟨_, [s2.heap.objs.size + 1, s2.heap.objs.size], _, _, H2, rfl, I3, turn_enumL a (s2.heap.objs.size + 1) s2.heap.objs.size c, ⟨⟨.none, by simpa using he⟩, ⟨_, hit, rfl, rfl⟩, Nat.succ_ne_self _⟩, fun b hb => ?_, q⟩
      have hle := fp b (by simpa using hb)
      exact I2.fpOk hle (I2.hok.fresh hle)
  · cases r1 with
    | cons r rr =>
      cases rr
      cases r
      obtain ⟨its, rv, p', hz⟩ := I2.tuple hq
      refine enum_begins_start (begins_tuple a its.toArray) (show s2.heap.IsTuple a its.toArray from p') hc0 hc1 fun h' he hit hsz hk => wpAny_pyIter_enum he ?_
      have I3 : Inv X pins σ H2 { s2 with heap := h' } := I2.kept (t' := s2.toks) hk
      refine ⟨_, [s2.heap.objs.size + 1, s2.heap.objs.size], _, _, H2, rfl, I3, turn_enumT a (s2.heap.objs.size + 1) s2.heap.objs.size c, ⟨⟨.none, by simpa using he⟩, ⟨_, hit, rfl, rfl⟩, Nat.succ_ne_self _⟩, fun b hb => ?_, q⟩
      have hle := fp b (by simpa using hb)
      exact I2.fpOk hle (I2.hok.fresh hle)
structure Mk0 (K : PySem.W.Frag) (C : Addr) : Prop where
  makes : PySem.W.makesIn K C = true
  init : PySem.W.findIn K (.ref C) "__init__" = some (some (.builtin "object.__init__"))
  kp : PySem.W.keepIn K (.ref C) = true
def mk0B (C : Str) (K : PySem.W.Frag) : Bool := PySem.W.makesIn K (He.ga K C) && (He.eqO (PySem.W.findIn K (.ref (He.ga K C)) "__init__") (some (some (.builtin "object.__init__"))) && PySem.W.keepIn K (.ref (He.ga K C)))
theorem mk0_ok {C : Str} {K : PySem.W.Frag} (h : mk0B C K = true) : Mk0 K (He.ga K C) := by
  obtain ⟨h1, h⟩ := He.ba h
  obtain ⟨h2, h3⟩ := He.ba h
  exact ⟨h1, He.eqO_ok h2, h3⟩
theorem run_make0 {X : Cx} {pins : List (Addr × Obj)} {σ : L2.St} {H : Hp} {s : Shared} {Q : VK} {C : Addr} (M : Mk0 X.K C) (I : L2.Inv X pins σ H s)
    (h : ∀ x dx, H x = none → H dx = none → dx ≠ x → Q (.ref x) (upd (upd H dx (.own x)) x (.ins C dx []))) : wpAny (model X.prog X.w) X.A (call (.ref C) []) (EP X pins σ Q) X.xe s := by
  have hq := h (s.heap.objs.size + 1) s.heap.objs.size (I.hok.fresh (Nat.le_succ _)) (I.hok.fresh (Nat.le_refl _)) (Nat.ne_of_lt (Nat.lt_succ_self _))
  have I2 := L2.Inv.made (C := C) I
  have hX := I.kIn
  obtain ⟨hh, g, d, t, os⟩ := s
  have Y := PySem.W.makes_of (M := model X.prog X.w) hX M.makes
  have e2 : ((hh.push PySem.W.emptyDict).push (PySem.W.instObj C hh.objs.size)).get? (hh.objs.size + 1) = some (PySem.W.instObj C hh.objs.size) := by
    have := Heap.get?_push_size (hh.push PySem.W.emptyDict) (o := PySem.W.instObj C hh.objs.size) rfl
    rwa [Heap.size_push] at this
  refine wpAny_call (PySem.W.make_core Y (PySem.W.looks_findIn hX M.init) (fun self => PySem.W.Looks.of_pure (PySem.W.oi_bind self)) (.inr ⟨rfl, rfl⟩) ?_)
  have t1 : PySem.W.Looks (model X.prog X.w) ((hh.push PySem.W.emptyDict).push (PySem.W.instObj C hh.objs.size)) (typeOf (.ref (hh.objs.size + 1))) (.ref C) := (PySem.W.Looks.ld e2).andThen .now
  have t2 : PySem.W.Looks (model X.prog X.w) ((hh.push PySem.W.emptyDict).push (PySem.W.instObj C hh.objs.size)) (isInstance (.ref (hh.objs.size + 1)) (.type "object")) true :=
    t1.andThen (Y.top.keeps fun b o e => Heap.get?_push_of_some _ (Heap.get?_push_of_some _ e))
  refine codeAny_call_builtin PySem.W.oi_plain PySem.W.entry_oi (@PySem.W.check_slot (model X.prog X.w) _ _ _ "object.__init__" "object" "__init__" (.ref (hh.objs.size + 1)) [] [] _ PySem.W.oi_kind PySem.W.oi_split t2 (PySem.W.oi_args (.ref (hh.objs.size + 1))) ?_)
  rw [PySem.W.oi_run]
  exact wpAny_pure (And.intro rfl ⟨V.ref (hh.objs.size + 1), _, I2, rfl, hq⟩)
def kMakeP (g : G) (x : Str) (H : Hp) (Q : VK) : Prop := ∃ C, g.mg x = some (.ref C) ∧ Mk0 g.K C ∧ ∀ p dx, H p = none → H dx = none → dx ≠ p → Q (.ref p) (upd (upd H dx (.own p)) p (.ins C dx []))
def tMakePlain (g : G) (x : Str) : TE := fun _ H Q => kMakeP g x H Q
@[reducible] def rMakePlain (g : G) (x : Str) : TE := fun _ H Q => kMakeP g x H Q
theorem pe_makePlain {X : Cx} {x : Str} {p pos : Pos} (hm : Kn (gOf X) x) (hg : Gl X x := by rfl) (hdb : (x == ("__debug__" : Str)) = false := by decide) : PE X (.Call (.Name x p) [] [] pos) (tMakePlain (gOf X) x) := by
  obtain ⟨f, hm, hk⟩ := hm
  refine ⟨fun pins s σ H Q I h => ?_⟩
  refine wpAny_Call_Name_kw (ld_glob I hg hm ?_ hdb)
  obtain ⟨C, hm', M, q⟩ := h
  have hm2 : X.mg x = some (.ref C) := hm'
  have hm1 : X.mg x = some (.ref f) := hm
  rw [hm1] at hm2
  cases hm2
  exact PySem.W.callWith_K0 I.kIn hk (run_make0 M I q)
section
variable {g : G} {A : Around} {E : XK} {K : PySem.W.Frag} {H : Hp} {Q : VK} {L : Ow} {D : List Fct} {x y v : V} {C : Addr} {f : Str}
theorem k_makeP (hm : g.mg f = some (.ref C)) (M : Mk0 g.K C) (W : Wd L D H) (h : ∀ p dx H', Wd ((p, .ins C dx []) :: (dx, .own p) :: L) D H' → Q (.ref p) H') : kMakeP g f H Q :=
  ⟨C, hm, M, fun p dx h1 h2 h3 => h p dx _ (by
    have W1 := W.new h2 (.own p)
    have h4 : upd H dx (.own p) p = none := by rw [upd_ne (Ne.symm h3)]; exact h1
    exact W1.new h4 (.ins C dx []))⟩
theorem k_makeK {n : Nat} {ks : List Str} {k : Nat} {sp : Sp} {vs zs : List V} (hm : g.mg f = some (.ref C)) (F : IK g k C n ks sp) (hr : Room (k + 1) A) (h1 : vs.length = n) (h2 : zs.length = ks.length) (W : Wd L D H)
    (h : ∀ p dx H', Wd ((p, .ins C dx []) :: (dx, .own p) :: L) D H' → sp (.ref p :: (vs ++ zs)) H' (fun v H2 => v = .non ∧ Q (.ref p) H2) E) : kMakeK g A f n ks E vs zs H Q :=
  ⟨k, sp, C, hr, hm, F, h1, h2, fun p dx h1 h2 h3 => h p dx _ (by
    have W1 := W.new h2 (.own p)
    have h4 : upd H dx (.own p) p = none := by rw [upd_ne (Ne.symm h3)]; exact h1
    exact W1.new h4 (.ins C dx []))⟩
end
@[reducible] def rMakeK (g : G) (A : Around) (x : Str) (n : Nat) (ks : List Str) (E : XK) (t tk : TA) : TE := fun σ H Q => t σ H fun vs H1 => tk σ H1 fun zs H2 => kMakeK g A x n ks E vs zs H2 Q
@[reducible] def rZipG (K : PySem.W.Frag) (ta : TA) : TI := fun σ H R => ta σ H fun vs H1 => kZip K vs H1 R
@[reducible] def rEnumS (K : PySem.W.Frag) (c : Int) (ta : TA) : TI := fun σ H R => ta σ H fun vs H1 => kEnumS K c vs H1 R
theorem IF.ofK {g : G} {k : Nat} {C : Addr} {sp : Sp} {f : Addr} {fd : FuncData} {ps : List Str} {dvs : List V} {ds : List Value} {sp0 : Sp} (M : Mk g.K C f) (kp : PySem.W.keepIn g.K (.ref f) = true) (F : FnOk g.P g.w g.K g.mg g.base (L2.CX g.P g.w) k f fd ps sp0) (hb : Binds g.K fd ps ds) (hd : Vals dvs ds)
    (im : ∀ vs H Q E, sp vs H Q E → sp0 (vs ++ dvs) H Q E) : IF g k C sp := ⟨f, M, fd, ps, ds, dvs, sp0, kp, F, hb, hd, im⟩
section
variable {g : G} {A : Around} {E : XK} {K : PySem.W.Frag} {H : Hp} {Q : VK} {x y z : V} {vs : List V} {L : Ow} {D : List Fct} {p q : Addr} {xs ys : List V} {i j : Int}
theorem g_kLenO (h : kLenO g A E vs H Q) : kLenO g A E vs H Q := h
theorem k_lenO (h : kLen g.K vs H Q) : kLenO g A E vs H Q := .inl h
theorem g_kStrO (h : kStrO g A E vs H Q) : kStrO g A E vs H Q := h
theorem k_strI (hl : i.natAbs.log2 < 1920) (k : Q (.str (toString i)) H) : kStr [.int i] H Q := ⟨i, rfl, hl, k⟩
theorem k_strO (h : kStr vs H Q) : kStrO g A E vs H Q := .inl h
theorem k_eqO (h : kEq g.K x y H Q) : kEqO g A E x y H Q := .inl h
theorem k_inG (h : kIn K x y H Q) : kInG K x y H Q := .inl h
theorem k_notInG (h : kNotIn K x y H Q) : kNotInG K x y H Q := .inl h
theorem k_own {k : Nat} {sp : Sp} {m : Str} {a C dx : Addr} {fs : List (Str × V)} (hH : H a = some (.ins C dx fs)) (F : MF g k C m sp) (hr : Room (k + 4) A) (h : sp (.ref a :: vs) H Q E) : kOwn g A m E (.ref a) vs H Q := ⟨a, C, dx, fs, k, sp, rfl, hH, hr, F, h⟩
theorem k_isB {a b : Bool} (k : Q (.bl (decide (a = b))) H) : rIsB (.bl a) (.bl b) H Q := ⟨a, b, rfl, rfl, k⟩
theorem k_isNB {a b : Bool} (k : Q (.bl (!decide (a = b))) H) : rNotB (.bl a) (.bl b) H Q := ⟨a, b, rfl, rfl, k⟩
theorem k_band (k : Q (.int (Builtin.bitAnd i j)) H) : kBAnd (.int i) (.int j) H Q := ⟨i, j, rfl, rfl, k⟩
theorem k_shl {n : Nat} (h : CShl i (n : Int)) (k : Q (.int (i * 2 ^ n)) H) : kShl (.int i) (.int (n : Int)) H Q := ⟨i, n, rfl, rfl, h, k⟩
theorem k_shr (h : 0 ≤ j) (k : Q (.int (i / 2 ^ j.toNat)) H) : kShr (.int i) (.int j) H Q := ⟨i, j, rfl, rfl, h, k⟩
theorem k_ipor (k : Q (.int (Builtin.bitOr i j)) H) : ipOrG (.int i) (.int j) H Q := ⟨i, j, rfl, rfl, k⟩
theorem k_bits (k : Q (.int (Builtin.Int.intBits i : Nat)) H) : kBits (.int i) H Q := ⟨i, rfl, k⟩
theorem k_zip_LL {R : It → Hp → Prop} (h1 : SqL K H p xs) (h2 : SqL K H q ys) (k : R (Itz K p q) H) : kZip K [.ref p, .ref q] H R := ⟨p, q, xs, ys, rfl, .inl ⟨h1, h2, k⟩⟩
theorem k_zip_TL {R : It → Hp → Prop} (h1 : SqT K H p xs) (h2 : SqL K H q ys) (k : R (ItzM K p q) H) : kZip K [.ref p, .ref q] H R := ⟨p, q, xs, ys, rfl, .inr (.inr ⟨h1, h2, k⟩)⟩
theorem k_enumS_L {c : Int} {R : It → Hp → Prop} (h : SqL K H p xs) (k : R (Itel K p c) H) : kEnumS K c [.ref p] H R := .inl ⟨p, xs, rfl, h, k⟩
theorem k_enumS_T {c : Int} {R : It → Hp → Prop} (h : SqT K H p xs) (k : R (Itet K p c) H) : kEnumS K c [.ref p] H R := .inr ⟨p, xs, rfl, h, k⟩
end
theorem kwds_of {K : PySem.W.Frag} {D : Addr} {kws : List (Str × V)} (h : ∀ q ∈ kws, ∃ u, PySem.W.nsIn K D q.1 = some (some u) ∧ RelV q.2 u) : KwdV K (.ref D) kws := .inr ⟨D, rfl, h⟩
theorem un65 {k : Nat} {A : Around} (r : Room k A) : A.units + 65 < cLine := by have := r.un; omega
def kSplit0 : V → List V → Hp → VK → Prop := fun x xs H Q => ∃ a, x = .str a ∧ xs = [] ∧ a.length + 2 ≤ sizeLine ∧ rNewStrs (Txt.words a) H Q
theorem mt_split0 {X : Cx} : MtR X "str.split" kSplit0 := mt_words
theorem k_split0 {L : Ow} {D : List Fct} {H : Hp} {Q : VK} {a : Str} (W : Wd L D H) (hl : a.length + 2 ≤ sizeLine) (k : ∀ q H', Wd ((q, .lst ((Txt.words a).map V.str)) :: L) D H' → Q (.ref q) H') : kSplit0 (.str a) [] H Q :=
  ⟨a, rfl, rfl, hl, fun p hp => k p _ (W.new hp _)⟩
theorem noI_tuple_add : typeLookup (.type "tuple") (dunderI "add") = pure none := by kernel_rfl
theorem icat_tup0 {prog : Program} {w : World} {A : Around} {E : Value → Shared → Prop} {s : Shared} {t b : Addr} {ws : List Value} {Q : Value → Shared → Prop} (ht : IsTup s.heap t ([] : List Value).toArray) (hb : IsTup s.heap b ws.toArray) (h : Q (.ref b) s) : wpAny (model prog w) A (inplaceOp .Add (.ref t) (.ref b)) Q E s := by
  obtain ⟨⟨cls, dd, data, sl⟩, ho, hc, n, hd⟩ := id ht
  obtain ⟨⟨cls2, dd2, data2, sl2⟩, ho2, hc2, n2, hd2⟩ := id hb
  simp only at hc hd hc2 hd2
  subst hc hd hc2 hd2
  exact wpAny_inplaceOp_concat ⟨_, ho, rfl⟩ ⟨_, ho2, rfl⟩ noI_tuple_add noFill_tuple_add seq_tuple_add (call_meets PySem.F.slot_tuple_add ⟨_, ho, rfl⟩ PySem.F.entry_tuple_add (PySem.F.args_tuple_add_2 _ _)
    (tuple_addW0 t b ([] : List Value).toArray ws.toArray n n2 dd dd2 sl sl2 (by simp)) ⟨ho, ho2, h⟩)
theorem icat_tup {prog : Program} {w : World} {A : Around} {E : Value → Shared → Prop} {s : Shared} {t b : Addr} {vs ws : List Value} {Q : Value → Shared → Prop} (ht : IsTup s.heap t vs.toArray) (hb : IsTup s.heap b ws.toArray) (hv : vs ≠ [])
    (h1 : ws = [] → Q (.ref t) s) (h2 : ws ≠ [] → Q (.ref s.heap.objs.size) { s with heap := s.heap.push { cls := .type "tuple", data := .seq (vs ++ ws).toArray } })
    (hsz : vs.length + ws.length ≤ sizeLine) : wpAny (model prog w) A (inplaceOp .Add (.ref t) (.ref b)) Q E s := by
  obtain ⟨⟨cls, dd, data, sl⟩, ho, hc, n, hd⟩ := id ht
  obtain ⟨⟨cls2, dd2, data2, sl2⟩, ho2, hc2, n2, hd2⟩ := id hb
  simp only at hc hd hc2 hd2
  subst hc hd hc2 hd2
  have e : vs.toArray ++ ws.toArray = (vs ++ ws).toArray := by simp
  by_cases hw : ws = []
  · exact wpAny_inplaceOp_concat ⟨_, ho, rfl⟩ ⟨_, ho2, rfl⟩ noI_tuple_add noFill_tuple_add seq_tuple_add (call_meets PySem.F.slot_tuple_add ⟨_, ho, rfl⟩ PySem.F.entry_tuple_add (PySem.F.args_tuple_add_2 _ _)
      (tuple_addW1 t b vs.toArray ws.toArray n n2 dd dd2 sl sl2 (by simpa using hv) (by simp [hw])) ⟨ho, ho2, h1 hw⟩)
  · refine wpAny_inplaceOp_concat ⟨_, ho, rfl⟩ ⟨_, ho2, rfl⟩ noI_tuple_add noFill_tuple_add seq_tuple_add (call_meets PySem.F.slot_tuple_add ⟨_, ho, rfl⟩ PySem.F.entry_tuple_add (PySem.F.args_tuple_add_2 _ _)
      (tuple_addW2 t b vs.toArray ws.toArray n n2 dd dd2 sl sl2 (by simpa using hv) (by simpa using hw) (by rw [List.size_toArray, List.size_toArray]; exact hsz)) ⟨ho, ho2, ?_⟩)
    rw [e]
    exact h2 hw
theorem ip_catA {X : Cx} : PIp X .Add (rCatA X.K) := by
  intro pins s σ H x y v u Q I rx ry h
  obtain ⟨a, b, xs, ys, rfl, rfl, ha, hb, hz, q0, q1, q2⟩ := h
  cases rx
  cases ry
  obtain ⟨its, r1, p1, _⟩ := I.tuple ha
  obtain ⟨its2, r2, p2, _⟩ := I.tuple hb
  by_cases hx : xs = []
  · subst hx
    cases r1
    exact icat_tup0 p1 p2 ⟨.ref b, H, I, rfl, q0 rfl⟩
  · refine icat_tup p1 p2 (fun z => hx (r1.nil_iff.mp z)) (fun z => ⟨.ref a, H, I, rfl, q1 hx (r2.nil_iff.mp z)⟩) (fun z => ?_) (by rw [← r1.length, ← r2.length]; exact hz)
    refine ⟨.ref s.heap.objs.size, _, I.laid (t' := s.toks) (o := .tup (xs ++ ys)) (fun b ob q => Heap.get?_push_of_some _ q) (Nat.le_refl _) ?_, rfl, q2 hx (fun w => z (r2.nil_iff.mpr w)) _ (I.hok.fresh (Nat.le_refl _))⟩
    exact ⟨by rw [List.length_append]; exact hz, _, r1.append r2, IsTup.new _ _⟩
def kIpCat (K : PySem.W.Frag) : TIp := fun x y H Q => kIpAdd x y H Q ∨ rCatA K x y H Q
theorem ip_catG {X : Cx} : PIp X .Add (kIpCat X.K) := by
  intro pins s σ H x y v u Q I rx ry h
  rcases h with h | h
  · exact ip_add pins s σ H x y v u Q I rx ry h
  · exact ip_catA pins s σ H x y v u Q I rx ry h
theorem k_ipcat {K : PySem.W.Frag} {L : Ow} {D : List Fct} {H : Hp} {Q : VK} {p q : Addr} {xs ys : List V} (W : Wd L D H) (h1 : isT K p xs ∈ D) (h2 : SqT K H q ys) (hy : ys ≠ []) (hl : xs.length + ys.length ≤ sizeLine)
    (k0 : xs = [] → Q (.ref q) H) (k : ∀ r H', Wd ((r, .tup (xs ++ ys)) :: L) D H' → Q (.ref r) H') : kIpCat K (.ref p) (.ref q) H Q :=
  .inr ⟨p, q, xs, ys, rfl, rfl, W.tupl h1, h2, hl, k0, fun _ e => absurd e hy, fun _ _ r hr => k r _ (W.new hr _)⟩
theorem k_wh {b : Bool} {A : (L2.St → Hp → Prop) → Prop} {B : Prop} {W : Nat → L2.St → Hp → Prop} {m : Nat} (h1 : b = true → A (fun σ' H' => ∃ m', m' < m ∧ W m' σ' H')) (h2 : b = false → B) :
    if b = true then ∃ N : L2.St → Hp → Prop, (∀ σ' H', N σ' H' → ∃ m', m' < m ∧ W m' σ' H') ∧ A N else B := by
  cases b with
  | true => exact ⟨_, fun _ _ h => h, h1 rfl⟩
  | false => exact h2 rfl
structure ClTy (K : PySem.W.Frag) (C : Addr) : Prop where
  ha : PySem.W.findIn K (.ref C) "__class__" = some (some (.builtin "object.__class__"))
  hn : PySem.W.specialIn K (.builtin "object.__class__") "__get__" = some (some (.builtin "getset_descriptor.__get__"))
  htk : PySem.W.takesIn K (.builtin "object.__class__") = some true
  hm : PySem.W.mroIn K C (.type "object") = some true
def clTyB (C : Str) (K : PySem.W.Frag) : Bool := He.eqO (PySem.W.findIn K (.ref (He.ga K C)) "__class__") (some (some (.builtin "object.__class__"))) && (He.eqO (PySem.W.specialIn K (.builtin "object.__class__") "__get__") (some (some (.builtin "getset_descriptor.__get__"))) && (decide (PySem.W.takesIn K (.builtin "object.__class__") = some true) && decide (PySem.W.mroIn K (He.ga K C) (.type "object") = some true)))
theorem clTy_ok {C : Str} {K : PySem.W.Frag} (h : clTyB C K = true) : ClTy K (He.ga K C) := by
  obtain ⟨h1, h⟩ := He.ba h
  obtain ⟨h2, h⟩ := He.ba h
  obtain ⟨h3, h4⟩ := He.ba h
  exact ⟨He.eqO_ok h1, He.eqO_ok h2, of_decide_eq_true h3, of_decide_eq_true h4⟩
def kitB (t : PySem.W.Frag → Value) (C : Str) (b : Bool) (K : PySem.W.Frag) : Bool := decide (PySem.W.kitOne K (t K) (.ref (He.ga K C)) = some b)
theorem kit_ok {t : PySem.W.Frag → Value} {C : Str} {b : Bool} {K : PySem.W.Frag} (h : kitB t C b K = true) : PySem.W.kitOne K (t K) (.ref (He.ga K C)) = some b := of_decide_eq_true h
def notFirstB (C : Str) (ts : List (PySem.W.Frag → Value)) (K : PySem.W.Frag) : Bool := ts.all fun t => PySem.W.notFirst K (He.ga K C) (t K)
theorem notFirst_ok {C : Str} {ts : List (PySem.W.Frag → Value)} {K : PySem.W.Frag} (h : notFirstB C ts K = true) : ∀ t ∈ ts.map fun t => t K, PySem.W.notFirst K (He.ga K C) t = true := by
  intro t ht
  obtain ⟨f, hf, rfl⟩ := List.mem_map.mp ht
  exact List.all_eq_true.mp h f hf
def kwAd (f : PySem.W.Frag → Addr) (x : Str) (K : PySem.W.Frag) : Addr := match K.lookup (f K) with
  | some ⟨_, _, .func fd, _⟩ => (match fd.kwdefaults with
    | .ref D => (match PySem.W.nsIn K D x with
      | some (some (.ref a)) => a
      | _ => 0)
    | _ => 0)
  | _ => 0
def empB (p : PySem.W.Frag → Addr) (K : PySem.W.Frag) : Bool := match K.lookup (p K) with
  | some ⟨.type c, _, .seq its _, _⟩ => decide (c = "tuple") && (decide (its.size ≤ sizeLine) && He.relAll [] its.toList)
  | _ => false
theorem empB_ok {p : PySem.W.Frag → Addr} {K : PySem.W.Frag} (h : empB p K = true) (H : Hp) : SqT K H (p K) [] := by
  unfold empB at h
  cases q : K.lookup (p K) with
  | none =>
    rw [q] at h
    cases h
  | some o =>
    obtain ⟨oc, od, dt, osl⟩ := o
    rw [q] at h
    cases oc with
    | type c =>
      cases dt with
      | seq its n =>
        obtain ⟨h1, h2⟩ := He.ba (show (decide (c = "tuple") && (decide (its.size ≤ sizeLine) && He.relAll [] its.toList)) = true from h)
        obtain ⟨h3, h4⟩ := He.ba h2
        exact .inr ⟨_, its, n, q, congrArg Value.type (of_decide_eq_true h1), rfl, of_decide_eq_true h3, He.relAll_ok h4⟩
      | _ => cases h
    | _ => cases dt <;> cases h
structure PtB (g : G) (qual : Str) (st : Stmt) (f : Addr) (N ps : List Str) (x1 x2 : Str) (e1 e2 : Addr) (t : G → Around → TS) : Prop where
  ex : ∃ x fd, FunD g.K x qual (defArgs st) (defBody st) (defScope st) [] [(x1, .ref e1), (x2, .ref e2)] f fd ∧ (∃ ds, Vals [.ref e1, .ref e2] ds ∧ Binds g.K fd ps ds) ∧
    (∃ gs, KBn g.K fd ps 3 [x2, x1] gs fun vs zs => vs ++ zs.reverse) ∧ (∃ gs, KBn g.K fd ps 3 [x2] gs fun vs zs => vs ++ ([.ref e1] ++ zs)) ∧ (∃ gs, KBn g.K fd ps 3 [x1] gs fun vs zs => vs ++ (zs ++ [.ref e2])) ∧ ∃ gs, KBn g.K fd ps 3 [x1, x2] gs fun vs zs => vs ++ zs
  sc : FnScope N ps (defScope st)
  d : ∀ k, BodyOk g N qual st f k t
abbrev bA (x qual : Str) (st : Stmt) (D : Addr) (doc pm : Value) (an : Option Addr) (cdv ct : Value) : FuncData := PySem.W.fnOf x qual (defArgs st) (defBody st) (defScope st) .none (.ref D) doc pm an cdv ct
theorem PtB.of {g : G} {x qual : Str} {st : Stmt} {f : Addr} {fd : FuncData} {N ps : List Str} {x1 x2 : Str} {e1 e2 : Addr} {t : G → Around → TS} (F : FunD g.K x qual (defArgs st) (defBody st) (defScope st) [] [(x1, .ref e1), (x2, .ref e2)] f fd) (hl : ps.length = 5)
    (h1 : ∀ D doc pm an cdv ct a b c d e, KwChain D [(x1, d), (x2, e)] (bindArgs (bA x qual st D doc pm an cdv ct) ⟨[a, b, c], []⟩) (ps.zip [a, b, c, d, e]))
    (h2 : ∀ D doc pm an cdv ct a b c d e, KwChain D [] (bindArgs (bA x qual st D doc pm an cdv ct) ⟨[a, b, c], [(x2, e), (x1, d)]⟩) (ps.zip [a, b, c, d, e]))
    (h3 : ∀ D doc pm an cdv ct a b c d e, KwChain D [(x1, d)] (bindArgs (bA x qual st D doc pm an cdv ct) ⟨[a, b, c], [(x2, e)]⟩) (ps.zip [a, b, c, d, e]))
    (h4 : ∀ D doc pm an cdv ct a b c d e, KwChain D [(x2, e)] (bindArgs (bA x qual st D doc pm an cdv ct) ⟨[a, b, c], [(x1, d)]⟩) (ps.zip [a, b, c, d, e]))
    (h5 : ∀ D doc pm an cdv ct a b c d e, KwChain D [] (bindArgs (bA x qual st D doc pm an cdv ct) ⟨[a, b, c], [(x1, d), (x2, e)]⟩) (ps.zip [a, b, c, d, e]))
    (sc : FnScope N ps (defScope st)) (d : ∀ k, BodyOk g N qual st f k t) : PtB g qual st f N ps x1 x2 e1 e2 t := by
  refine ⟨⟨x, fd, F, ?_, ?_, ?_, ?_, ?_⟩, sc, d⟩
  · refine F.binds0 3 (by simp) (by rw [hl]; rfl) fun D doc pm an cdv ct us ks hu hk => ?_
    match us, hu, ks, hk with
    | [a, b, c], _, [d, e], _ => exact h1 D doc pm an cdv ct a b c d e
  · obtain ⟨mv, B⟩ := F.kbinds0 (ps := ps) 3 [x2, x1] [] (fun vs mz zs => vs ++ zs.reverse) (by simp) (by simp) (fun r1 r2 r3 => r1.append r3.reverse) fun D doc pm an cdv ct us mv ws hu hm hw => by
      match us, hu, mv, hm, ws, hw with
      | [a, b, c], _, [], _, [e, d], _ => exact h2 D doc pm an cdv ct a b c d e
    exact ⟨_, B⟩
  · obtain ⟨mv, B⟩ := F.kbinds0 (ps := ps) 3 [x2] [(x1, .ref e1)] (fun vs mz zs => vs ++ (mz ++ zs)) (by simp) (by simp) (fun r1 r2 r3 => r1.append (r2.append r3)) fun D doc pm an cdv ct us mv ws hu hm hw => by
      match us, hu, mv, hm, ws, hw with
      | [a, b, c], _, [d], _, [e], _ => exact h3 D doc pm an cdv ct a b c d e
    exact ⟨_, B⟩
  · obtain ⟨mv, B⟩ := F.kbinds0 (ps := ps) 3 [x1] [(x2, .ref e2)] (fun vs mz zs => vs ++ (zs ++ mz)) (by simp) (by simp) (fun r1 r2 r3 => r1.append (r3.append r2)) fun D doc pm an cdv ct us mv ws hu hm hw => by
      match us, hu, mv, hm, ws, hw with
      | [a, b, c], _, [e], _, [d], _ => exact h4 D doc pm an cdv ct a b c d e
    exact ⟨_, B⟩
  · obtain ⟨mv, B⟩ := F.kbinds0 (ps := ps) 3 [x1, x2] [] (fun vs mz zs => vs ++ zs) (by simp) (by simp) (fun r1 r2 r3 => r1.append r3) fun D doc pm an cdv ct us mv ws hu hm hw => by
      match us, hu, mv, hm, ws, hw with
      | [a, b, c], _, [], _, [d, e], _ => exact h5 D doc pm an cdv ct a b c d e
    exact ⟨_, B⟩
section
variable {g : G} {qual : Str} {st : Stmt} {f C : Addr} {N ps : List Str} {x1 x2 : Str} {e1 e2 : Addr} {t : G → Around → TS} {k : Nat} {sp : Sp}
theorem PtB.fk (P : PtB g qual st f N ps x1 x2 e1 e2 t) (M : Mk g.K C f) (len : ∀ vs H Q E, sp vs H Q E → vs.length = ps.length)
    (w : ∀ (A : Around) (vs : List V) (H : Hp) (Q : VK) (E : XK), Room k A → sp vs H Q E → t g A { nx := fun _ H' => Q .non H', rt := Q } (start N vs) H) :
    IF g (k + 1) C (fun vs => sp (vs ++ [.ref e1, .ref e2])) ∧ IK g (k + 1) C 2 [x2, x1] (fun vs H Q E => ∀ a b c d e, vs = [a, b, c, e, d] → sp [a, b, c, d, e] H Q E) ∧
    IK g (k + 1) C 2 [x2] (fun vs H Q E => ∀ a b c e, vs = [a, b, c, e] → sp [a, b, c, .ref e1, e] H Q E) ∧ IK g (k + 1) C 2 [x1] (fun vs H Q E => ∀ a b c d, vs = [a, b, c, d] → sp [a, b, c, d, .ref e2] H Q E) ∧ IK g (k + 1) C 2 [x1, x2] sp := by
  obtain ⟨x, fd, F, ⟨ds, hv, hb⟩, ⟨gs1, B1⟩, ⟨gs2, B2⟩, ⟨gs3, B3⟩, ⟨gs4, B4⟩⟩ := P.ex
  have ok : FnOk g.P g.w g.K g.mg g.base (L2.CX g.P g.w) (k + 1) f fd ps sp := F.ok P.sc len fun cdv A outer s H vs Q E hr h => ⟨_, ((P.d k) cdv A outer s H E hr).nox, w _ vs H Q E hr h⟩
  refine ⟨⟨f, M, fd, ps, ds, _, sp, F.kp, ok, hb, hv, fun vs H Q E h => h⟩, ⟨f, fd, ps, sp, gs1, _, M, F.kp, ok, B1, fun vs zs H Q E hv hz h => ?_⟩, ⟨f, fd, ps, sp, gs2, _, M, F.kp, ok, B2, fun vs zs H Q E hv hz h => ?_⟩, ⟨f, fd, ps, sp, gs3, _, M, F.kp, ok, B3, fun vs zs H Q E hv hz h => ?_⟩, ⟨f, fd, ps, sp, gs4, _, M, F.kp, ok, B4, fun vs zs H Q E hv hz h => h⟩⟩
  · match vs, hv, zs, hz with
    | [a, b, c], _, [e, d], _ => exact h a b c d e rfl
  · match vs, hv, zs, hz with
    | [a, b, c], _, [e], _ => exact h a b c e rfl
  · match vs, hv, zs, hz with
    | [a, b, c], _, [d], _ => exact h a b c d rfl
end
def oexB (C : Str) (K : PySem.W.Frag) : Bool := (match K.lookup (He.ga K C) with
  | some ⟨.type "type", _, .cls cd, sl⟩ => (match cd.mro, sl.toList with
    | .ref C' :: bm, [_, _, _, _, some (.builtin n), _] => decide (C' = He.ga K C) && (decide (n = "ValueError.__new__") && (!cd.hasDel && (cd.hasDict && PySem.HandSPX.refsVE bm)))
    | _, _ => false)
  | _ => false) && (He.eqO (PySem.W.findIn K (.ref (He.ga K C)) "__setattr__") (some (some (.builtin "object.__setattr__"))) && (decide (PySem.W.subIn K (.ref (He.ga K C)) (.type "BaseException") = some true) && (decide (PySem.W.typeIn K (.ref (He.ga K C)) = some (.type "type")) && PySem.W.keepIn K (.ref (He.ga K C)))))
theorem oexB_ok {C : Str} {K : PySem.W.Frag} (h : oexB C K = true) : OexC K (He.ga K C) := by
  obtain ⟨h0, h⟩ := He.ba h
  obtain ⟨h1, h⟩ := He.ba h
  obtain ⟨h2, h⟩ := He.ba h
  obtain ⟨h3, h4⟩ := He.ba h
  refine ⟨?_, He.eqO_ok h1, of_decide_eq_true h2, of_decide_eq_true h3, h4⟩
  split at h0
  · rename_i dd cd sl ho
    split at h0
    · rename_i C' bm k0 k1 k2 k3 n k5 hm hs
      obtain ⟨a1, h0⟩ := He.ba h0
      obtain ⟨a2, h0⟩ := He.ba h0
      obtain ⟨hdel, h0⟩ := He.ba h0
      obtain ⟨hdct, hbm⟩ := He.ba h0
      have a1 := of_decide_eq_true a1
      have a2 := of_decide_eq_true a2
      subst a2
      obtain ⟨nm, bs, mro, ns, qn, hd, sn, sub, ab, col, del⟩ := cd
      dsimp only at hm hdel hdct
      have hdel : del = false := by simpa using hdel
      subst hm hdel hdct
      have hsl : sl = #[k0, k1, k2, k3, some (.builtin "ValueError.__new__"), k5] := by
        obtain ⟨l⟩ := sl
        simp only at hs
        rw [hs]
      subst hsl
      rw [a1] at ho
      exact ⟨nm, qn, ns, bs, bm, sn, sub, ab, col, dd, k0, k1, k2, k3, k5, ho, hbm⟩
    · cases h0
  · cases h0
structure XMk (K : PySem.W.Frag) (C f : Addr) : Prop where
  ox : OexC K C
  i : PySem.W.findIn K (.ref C) "__init__" = some (some (.ref f))
  t : PySem.W.typeIn K (.ref f) = some (.type "function")
def xmkB (C : Str) (K : PySem.W.Frag) : Bool := oexB C K && (He.eqO (PySem.W.findIn K (.ref (He.ga K C)) "__init__") (some (some (.ref (He.ma K (He.ga K C) "__init__")))) && decide (PySem.W.typeIn K (.ref (He.ma K (He.ga K C) "__init__")) = some (.type "function")))
theorem xmk_ok {C : Str} {K : PySem.W.Frag} (h : xmkB C K = true) : XMk K (He.ga K C) (He.ma K (He.ga K C) "__init__") := by
  obtain ⟨h1, h⟩ := He.ba h
  obtain ⟨h2, h3⟩ := He.ba h
  exact ⟨oexB_ok h1, He.eqO_ok h2, of_decide_eq_true h3⟩
def excCB (C : Str) (K : PySem.W.Frag) : Bool := He.eqO (PySem.W.findIn K (.ref (He.ga K C)) "__getattribute__") (some (some (.builtin "BaseException.__getattribute__"))) && (He.eqO (PySem.W.findIn K (.ref (He.ga K C)) "__getattr__") (some none) && (decide (PySem.W.subIn K (.ref (He.ga K C)) (.type "BaseException") = some true) && (PySem.W.hasDictIn K (He.ga K C) &&
  (He.eqO (PySem.W.findIn K (.ref (He.ga K C)) "__class__") (some (some (.builtin "object.__class__"))) && (He.eqO (PySem.W.specialIn K (.builtin "object.__class__") "__get__") (some (some (.builtin "getset_descriptor.__get__"))) && (decide (PySem.W.takesIn K (.builtin "object.__class__") = some true) && decide (PySem.W.mroIn K (He.ga K C) (.type "object") = some true)))))))
theorem excC_ok {C : Str} {K : PySem.W.Frag} (h : excCB C K = true) : ExcC K (He.ga K C) := by
  obtain ⟨h1, h⟩ := He.ba h
  obtain ⟨h2, h⟩ := He.ba h
  obtain ⟨h3, h⟩ := He.ba h
  obtain ⟨h4, h⟩ := He.ba h
  obtain ⟨h5, h⟩ := He.ba h
  obtain ⟨h6, h⟩ := He.ba h
  obtain ⟨h7, h8⟩ := He.ba h
  exact ⟨He.eqO_ok h1, He.eqO_ok h2, of_decide_eq_true h3, h4, He.eqO_ok h5, He.eqO_ok h6, of_decide_eq_true h7, of_decide_eq_true h8⟩
def KnV (g : G) (B : Str) : Prop := ∃ b, g.mg B = some (.ref b) ∧ ClX.CRead g.K b (.type "type") ∧ PySem.W.findCls g.K (.ref b) (.type "type") "__init__" = some (.val (.builtin "ValueError.__init__"))
def knvB (C : Str) (K : PySem.W.Frag) : Bool := PySem.W.readsIn K (He.ga K C) (.type "type") && (He.eqO (PySem.W.specialIn K (.ref (He.ga K C)) "__getattribute__") (some (some (.builtin "type.__getattribute__"))) &&
  (match PySem.W.findCls K (.ref (He.ga K C)) (.type "type") "__init__" with
    | some (.val (.builtin n)) => decide (n = "ValueError.__init__")
    | _ => false))
theorem knv_ok {g : G} {C : Str} (hC : g.mg C = some (.ref (He.ga g.K C))) (h : knvB C g.K = true) : KnV g C := by
  obtain ⟨h1, h⟩ := He.ba h
  obtain ⟨h2, h⟩ := He.ba h
  refine ⟨_, hC, ⟨h1, He.eqO_ok h2⟩, ?_⟩
  split at h
  · rename_i n e
    have z := of_decide_eq_true h
    subst z
    exact e
  · cases h
section
variable {X : Cx} {e : Expr} {es : List Expr} {t : TA} {p apos pos : Pos} {C : Str}
def kVeI (K : PySem.W.Frag) : List V → Hp → VK → Prop := fun vs H Q => ∃ (a C : Addr) (ws : List V), vs = .ref a :: ws ∧ ws.length ≤ 1000 ∧ OexC K C ∧ H a = some (exo a C none) ∧ Q .non H
def tVeG (g : G) (B : Str) (ta : TA) : TE := fun σ H Q => ta σ H fun vs H1 => kVeI g.K vs H1 Q
theorem pe_veG {pl : Sem Bool} (hk : KnV (gOf X) C) (ha : PA X (e :: es) t) (hg : Gl X C := by rfl) (hdb : (C == ("__debug__" : Str)) = false := by decide)
    (hst : starEach (e :: es) X.env = (false, eval e X.env) :: starEach es X.env := by rfl) (hpl : (backTo pos (starEach es X.env)).any (·.1) = false := by rfl)
    (ht : eval (.Call (.Attribute (.Name C p) "__init__" apos) (e :: es) [] pos) X.env = (do
      let ov ← eval (.Name C p) X.env
      standAt apos.atName
      let (f, first) ← holding [ov] (getMethod ov "__init__" pl)
      callWith pos f first (backTo pos (starEach (e :: es) X.env)) (backToKw pos (keywordEach [] X.env))) := by rfl) :
    PE X (.Call (.Attribute (.Name C p) "__init__" apos) (e :: es) [] pos) (tVeG (gOf X) C t) := by
  obtain ⟨Ca, hm, rd, cv⟩ := hk
  refine ⟨fun pins s σ H Q I h => ?_⟩
  refine PySem.W.methodCall_KW (pl := pl) (ld_glob I hg hm ?_ hdb) ht
  refine PySem.W.method_cls I.kIn rd.ga ?_
  refine PySem.W.cls_value I.kIn rd.rd cv rfl ?_
  show wpAny _ _ (callWith pos (Value.builtin "ValueError.__init__") [] (backTo pos (starEach (e :: es) X.env)) []) _ _ _
  refine PyProof.Rows.callWith_method1 (thn (ha.run pos pins _ σ H _ (I.tok _) h) fun us s1 ⟨vs, H1, I1, r1, a, C, ws, ev, hl, T, ea, q⟩ => ?_) hst hpl
  subst ev
  cases r1 with
  | @cons _ u0 _ ur ra rw' =>
    obtain rfl : u0 = Value.ref a := ra
    have hlen : ur.length ≤ sizeLine := by
      rw [← Paired.length rw', sizeLine_eq]
      omega
    exact oinit_ok T I1 ea hlen fun s' J => ⟨.non, H1, J, rfl, q⟩
end
def kRaise (g : G) (A : Around) (x : Str) (E : XK) : List V → Hp → Prop := fun vs H => ∃ k sp C fI, Room (k + 1) A ∧ g.mg x = some (.ref C) ∧ XMk g.K C fI ∧ Fk g k sp fI ∧ vs.length ≤ 1000 ∧ ∀ a, H a = none → sp (.ref a :: vs) (upd H a (exo a C none))
  (fun v H2 => v = .non ∧ ∃ (d : Addr) (fs : List (Str × V)), H2 a = some (exo a C (some d)) ∧ H2 d = some (exd d fs) ∧ H d = none ∧ E (.ref C) (some d) (upd (del H2 a) d (.xd fs))) fun _ _ _ => False
def tRaise (g : G) (A : Around) (x : Str) (E : XK) (ta : TA) : TS := fun _ σ H => ta σ H fun vs H1 => kRaise g A x E vs H1
theorem pmk_own {X : Cx} {x : Str} {p pos : Pos} {e : Expr} {es : List Expr} {ta : TA} (hm : Kn (gOf X) x) (hx : Passes (L2.CX X.prog X.w) X (fun _ _ _ => False)) (ha : PA X (e :: es) ta) (hg : Gl X x := by rfl)
    (hdb : (x == ("__debug__" : Str)) = false := by decide) (he : starEach (e :: es) X.env = (false, eval e X.env) :: starEach es X.env := by rfl) (hpl : (backTo pos (starEach es X.env)).any (·.1) = false := by rfl) :
    PMk X (.Call (.Name x p) (e :: es) [] pos) (fun σ H Q => ta σ H fun vs H1 => kRaise (gOf X) X.A x Q vs H1) := by
  intro pins s σ H Q I h
  obtain ⟨f0, hm0, hk0⟩ := hm
  refine wpAny_Call_Name_kw (ld_glob I hg hm0 ?_ hdb)
  refine PySem.W.callWith_K (h₀ := X.base) I.ok.mod.kin hk0 (thn (ha.run pos pins s σ H _ I h) fun us s1 ⟨vs, H1, I1, r1, q0⟩ => ⟨I1.kIn, ?_⟩) he hpl
  obtain ⟨k, sp, C, fI, hr, hm', M, ⟨fd, ps, ds, dvs, sp0, kp, F1, hb, hd, im⟩, hz, q1⟩ := q0
  have hm1 : X.mg x = some (.ref f0) := hm0
  have hm2 : X.mg x = some (.ref C) := hm'
  rw [hm1] at hm2
  cases hm2
  have T := M.ox
  obtain ⟨nm, q, N, bs, bm, sn, sub, ab, col, dd, k0, k1, k2, k3, k5, hC, hbm⟩ := T.cls
  show wpAny _ _ (call (.ref f0) us) _ _ _
  obtain ⟨hp, g, dr, tk, os⟩ := s1
  have hsz : hp.objs.size ≤ hp.objs.size + 1 := Nat.le_succ _
  have hn : H1 (hp.objs.size + 1) = none := I1.hok.fresh hsz
  have hq := im _ _ _ _ (q1 (hp.objs.size + 1) hn)
  have kk : ∀ b o, hp.get? b = some o → ((hp.push (PySem.W.kdv_tup us)).push (PySem.HandSPX.excO f0 hp.objs.size)).get? b = some o := fun b o e => Heap.get?_push_of_some _ (Heap.get?_push_of_some _ e)
  have hget : ((hp.push (PySem.W.kdv_tup us)).push (PySem.HandSPX.excO f0 hp.objs.size)).get? (hp.objs.size + 1) = some (PySem.HandSPX.excO f0 hp.objs.size) := by heap_get
  have I2 : Inv X pins σ (upd H1 (hp.objs.size + 1) (exo (hp.objs.size + 1) f0 none)) ⟨(hp.push (PySem.W.kdv_tup us)).push (PySem.HandSPX.excO f0 hp.objs.size), g, dr, tk, os⟩ :=
    I1.laid (t' := tk) (a := hp.objs.size + 1) (o := exo (hp.objs.size + 1) f0 none) (h' := (hp.push (PySem.W.kdv_tup us)).push (PySem.HandSPX.excO f0 hp.objs.size)) kk hsz (exo_ok hget)
  have r2 : Vals ((V.ref (hp.objs.size + 1) :: vs) ++ dvs) ((Value.ref (hp.objs.size + 1) :: us) ++ ds) := Vals.append (.cons rfl r1) hd
  have hl : ((Value.ref (hp.objs.size + 1) :: us) ++ ds).length = ps.length := by
    have e := r2.length
    rw [F1.len _ _ _ _ hq] at e
    exact e.symm
  have hus : us.length ≤ sizeLine := by
    rw [← Paired.length r1, sizeLine_eq]
    omega
  refine wpAny_call (PySem.HandSPX.call_own F.excBase_ValueError (fun Y => PySem.HandSPX.refsVE_contains Y bm hbm) (I1.kIn _ _ hC) (PySem.W.looks_findIn I1.kIn M.i) (fun self => PySem.W.bind_fn I1.kIn self M.t) hus
    (codeAny_mono (F1.run _ X.stack _ _ ⟨Value.ref (hp.objs.size + 1) :: us, []⟩ ((Value.ref (hp.objs.size + 1) :: us) ++ ds) _ _ (fun _ _ _ => False) (hr.make f0 us []) (I2.env0.make f0 us []) (hb _ (Value.ref (hp.objs.size + 1) :: us) I2.kIn hl) r2 hq) fun r s' hq' => ?_))
  cases r with
  | error er => exact hx pins σ _ _ er s' I2 hq'
  | ok fl =>
    cases fl with
    | ret u =>
      obtain ⟨v, H2, os2, bare2, un2, hok2, rv, ev, d, fs, ea, ed, hd1, q2⟩ := hq'
      subst ev
      obtain ⟨h2, g2, d2, t2, os'⟩ := s'
      exact ⟨rv, mk_end (raises_own T.exC T.tyC) I1 hsz kk un2 hok2 os2 bare2 ea ed hd1 q2⟩
    | next => exact False.elim hq'
    | brk => exact False.elim hq'
    | cont => exact False.elim hq'
theorem ps_raiseG {X : Cx} {E : XK} {x : Str} {p pos pos2 : Pos} {e : Expr} {es : List Expr} {ta : TA} (hc : X.calm = true) (tk : Takes X fun c d _ H => E c d H) (hm : Kn (gOf X) x) (hx : Passes (L2.CX X.prog X.w) X (fun _ _ _ => False)) (ha : PA X (e :: es) ta) (hg : Gl X x := by rfl)
    (hdb : (x == ("__debug__" : Str)) = false := by decide) (he : starEach (e :: es) X.env = (false, eval e X.env) :: starEach es X.env := by rfl) (hpl : (backTo pos (starEach es X.env)).any (·.1) = false := by rfl) :
    PS X (.Raise (some (.Call (.Name x p) (e :: es) [] pos)) none pos2) (tRaise (gOf X) X.A x E ta) := ps_raise hc tk (pmk_own hm hx ha hg hdb he hpl)
def kOst (K : PySem.W.Frag) (f : Str) (x y : V) (H : Hp) (R : Hp → Prop) : Prop := ∃ a C : Addr, x = .ref a ∧ OexC K C ∧ PySem.W.findIn K (.ref C) f = some none ∧
  ((H a = some (exo a C none) ∧ ∀ dx, H dx = none → dx ≠ a → R (upd (upd H dx (exd dx [(f, y)])) a (exo a C (some dx)))) ∨
    ∃ (dx : Addr) (fs : List (Str × V)), H a = some (exo a C (some dx)) ∧ H dx = some (exd dx fs) ∧ fs.length ≤ 900 ∧ R (upd H dx (exd dx ((f, y) :: fs))))
section
variable {K : PySem.W.Frag} {L : Ow} {D : List Fct} {H : Hp} {Q : VK} {R : Hp → Prop} {a C dx : Addr} {f : Str} {y : V} {fs : List (Str × V)}
theorem k_ost1 (T : OexC K C) (hn : PySem.W.findIn K (.ref C) f = some none) (W : Wd ((a, exo a C none) :: L) D H) (k : ∀ dx H', H dx = none → Wd ((a, exo a C (some dx)) :: (dx, exd dx [(f, y)]) :: L) D H' → R H') : kOst K f (.ref a) y H R := by
  refine ⟨a, C, rfl, T, hn, .inl ⟨W.at_ List.mem_cons_self, fun dx h1 h2 => ?_⟩⟩
  exact k dx _ h1 ((W.new h1 _).mv1.put _)
theorem k_ost2 (T : OexC K C) (hn : PySem.W.findIn K (.ref C) f = some none) (hl : fs.length ≤ 900) (W : Wd ((a, exo a C (some dx)) :: (dx, exd dx fs) :: L) D H) (k : ∀ H', Wd ((a, exo a C (some dx)) :: (dx, exd dx ((f, y) :: fs)) :: L) D H' → R H') : kOst K f (.ref a) y H R := by
  refine ⟨a, C, rfl, T, hn, .inr ⟨dx, fs, W.at_ List.mem_cons_self, W.at_ (by simp), hl, ?_⟩⟩
  exact k _ ((W.mv1.put _).mv1)
theorem k_vei {ws : List V} (T : OexC K C) (hl : ws.length ≤ 1000) (W : Wd ((a, exo a C none) :: L) D H) (k : Q .non H) : kVeI K (.ref a :: ws) H Q := ⟨a, C, ws, rfl, hl, T, W.at_ List.mem_cons_self, k⟩
theorem Wd.del {p : Addr} {o : HO} (W : Wd ((p, o) :: L) D H) : Wd L D (del H p) := by
  have nd := W.nd
  obtain ⟨B, s, d, l⟩ := W.ex
  have hp := l (p, o) List.mem_cons_self
  rw [List.map_cons, List.nodup_cons] at nd
  refine ⟨⟨B, fun b u e => ?_, d, fun x hx => ?_⟩, nd.2⟩
  · have ne : b ≠ p := fun q => by
      rw [q, hp.2] at e
      cases e
    rw [del_ne ne]
    exact s b u e
  · have ne : x.1 ≠ p := fun q => nd.1 (q ▸ List.mem_map.mpr ⟨x, hx, rfl⟩)
    rw [del_ne ne]
    exact l x (List.mem_cons_of_mem _ hx)
theorem k_raise {g : G} {A : Around} {x : Str} {E : XK} {vs : List V} {k : Nat} {sp : Sp} {fI : Addr} (hm : g.mg x = some (.ref C)) (M : XMk g.K C fI) (F : Fk g k sp fI) (hr : Room (k + 1) A) (hl : vs.length ≤ 1000) (W : Wd L D H)
    (h : ∀ a H' (Q : VK), Wd ((a, exo a C none) :: L) D H' → (∀ d H2, H' d = none → Wd ((a, exo a C (some d)) :: (d, exd d fs) :: L) D H2 → Q .non H2) → sp (.ref a :: vs) H' Q fun _ _ _ => False)
    (q : ∀ d H', Wd ((d, .xd fs) :: L) D H' → E (.ref C) (some d) H') : kRaise g A x E vs H := by
  refine ⟨k, sp, C, fI, hr, hm, M, F, hl, fun a ha => ?_⟩
  refine h a _ _ (W.new ha _) fun d H2 hd W2 => ⟨rfl, d, fs, W2.at_ List.mem_cons_self, W2.at_ (by simp), ?_, q d _ (W2.del.put _)⟩
  by_cases e : d = a
  · rw [e]
    exact ha
  · rwa [upd_ne e] at hd
end
section
variable {X : Cx} {E : XK} {A : Around}
theorem run_FkS {pins : List (Addr × Obj)} {σ : L2.St} {H : Hp} {s : Shared} {Q : VK} {us : List Value} {vs : List V} {k : Nat} {sp : Sp} {f : Addr} (F : Fk (gOf X) k sp f) (hr : Room k X.A) (hx : PassesAt (L2.CX X.prog X.w) X σ E)
    (I : Inv X pins σ H s) (r : Vals vs us) (h : sp vs H Q E) : wpAny (model X.prog X.w) X.A (call (.ref f) us) (EP X pins σ Q) X.xe s := by
  obtain ⟨fd, ps, ds, dvs, sp0, kp, F, hb, hd, im⟩ := F
  have h0 := im _ _ _ _ h
  have r2 : Vals (vs ++ dvs) (us ++ ds) := r.append hd
  have hl : (us ++ ds).length = ps.length := by rw [← r2.length]; exact F.len _ _ _ _ h0
  refine wpAny_call (codeAny_mono (F.run X.A X.stack s H ⟨us, []⟩ (us ++ ds) (vs ++ dvs) Q E hr I.env0 (hb s us I.kIn hl) r2 h0) fun r s' hq => ?_)
  cases r with
  | error e => exact hx pins H s e s' I hq
  | ok fl =>
    cases fl with
    | ret u => exact I.after hq
    | next => exact hq.elim
    | brk => exact hq.elim
    | cont => exact hq.elim
theorem run_makeKS {pins : List (Addr × Obj)} {σ : L2.St} {H : Hp} {s : Shared} {Q : VK} {us ws : List Value} {vs zs : List V} {k n : Nat} {f C : Addr} {fd : FuncData} {ps ks : List Str} {sp : Sp} {g : List Value → List Value → List Value} {gV : List V → List V → List V}
    (M : Mk X.K C f) (F : FnOk X.prog X.w X.K X.mg X.base (L2.CX X.prog X.w) k f fd ps sp) (hr : Room (k + 1) X.A) (hb : KBn X.K fd ps (n + 1) ks g gV) (hx : PassesAt (L2.CX X.prog X.w) X σ E)
    (I : Inv X pins σ H s) (r : Vals vs us) (rz : Vals zs ws) (l1 : vs.length = n) (l2 : zs.length = ks.length)
    (h : ∀ x dx, H x = none → H dx = none → dx ≠ x → sp (gV (.ref x :: vs) zs) (upd (upd H dx (.own x)) x (.ins C dx [])) (fun v H2 => v = .non ∧ Q (.ref x) H2) E) :
    wpAny (model X.prog X.w) X.A (call (.ref C) us (ks.zip ws)) (EP X pins σ Q) X.xe s := by
  have hq := h (s.heap.objs.size + 1) s.heap.objs.size (I.hok.fresh (Nat.le_succ _)) (I.hok.fresh (Nat.le_refl _)) (Nat.ne_of_lt (Nat.lt_succ_self _))
  have I2 := Inv.made (C := C) I
  have r1 : Vals (V.ref (s.heap.objs.size + 1) :: vs) (Value.ref (s.heap.objs.size + 1) :: us) := .cons rfl r
  have r2 := hb.rel r1 rz
  have n1 : (Value.ref (s.heap.objs.size + 1) :: us).length = n + 1 := by
    rw [List.length_cons, ← r.length, l1]
  refine wpAny_call (make_map (f := f) I.kIn M.makes M.init (beq_iff_eq.mp M.fn) (codeAny_mono (F.run _ X.stack _ _ ⟨Value.ref (s.heap.objs.size + 1) :: us, ks.zip ws⟩ (g (Value.ref (s.heap.objs.size + 1) :: us) ws) _ _ E (hr.make C us (ks.zip ws))
    (I2.env0.make C us (ks.zip ws)) (hb.to _ (Value.ref (s.heap.objs.size + 1) :: us) ws I2.kIn n1 (rz.length.symm.trans l2)) r2 hq) fun r s' hq' => ?_))
  cases r with
  | error e => exact hx pins _ _ e s' I2 hq'
  | ok fl =>
    cases fl with
    | ret u =>
      obtain ⟨v, H', I3, rv, ev, q3⟩ := I2.after hq'
      subst ev
      exact ⟨rv, ⟨V.ref (s.heap.objs.size + 1), H', I3, rfl, q3⟩⟩
    | next => exact False.elim hq'
    | brk => exact False.elim hq'
    | cont => exact False.elim hq'
end
def tCallS (g : G) (A : Around) (x : Str) (W : WX) (t : TA) : TE := fun σ H Q => t σ H fun vs H1 => kCall g A x (fun c d H => W c d σ H) vs H1 Q
def tMakeKS (g : G) (A : Around) (x : Str) (n : Nat) (ks : List Str) (W : WX) (t tk : TA) : TE := fun σ H Q => t σ H fun vs H1 => tk σ H1 fun zs H2 => kMakeK g A x n ks (fun c d H => W c d σ H) vs zs H2 Q
section
variable {X : Cx} {W : WX} {x : Str} {p pos : Pos} {e : Expr} {es : List Expr} {kws : List Keyword} {t tk : TA} {n : Nat} {ks : List Str}
theorem pe_callS (hm : Kn (gOf X) x) (tkW : Takes X W) (ha : PA X (e :: es) t) (hg : Gl X x := by rfl) (hdb : (x == ("__debug__" : Str)) = false := by decide) (he : starEach (e :: es) X.env = (false, eval e X.env) :: starEach es X.env := by rfl)
    (hpl : (backTo pos (starEach es X.env)).any (·.1) = false := by rfl) : PE X (.Call (.Name x p) (e :: es) [] pos) (tCallS (gOf X) X.A x W t) := by
  obtain ⟨f, hm, hk⟩ := hm
  refine ⟨fun pins s σ H Q I h => ?_⟩
  refine wpAny_Call_Name_kw (ld_glob I hg hm ?_ hdb)
  refine PySem.W.callWith_K (h₀ := X.base) I.ok.mod.kin hk (thn (ha.run pos pins s σ H _ I h) fun us s1 ⟨vs, H1, I1, r, q⟩ => ⟨I1.kIn, ?_⟩) he hpl
  obtain ⟨k, sp, hr, ⟨f', hm', F⟩, q⟩ := q
  have hm2 : X.mg x = some (.ref f') := hm'
  have hm1 : X.mg x = some (.ref f) := hm
  rw [hm1] at hm2
  cases hm2
  exact run_FkS F hr (passAt tkW σ) I1 r q
theorem pe_makeKS (hm : Kn (gOf X) x) (tkW : Takes X W) (ha : PA X (e :: es) t) (hkw : PK X kws tk) (hg : Gl X x := by rfl)
    (hall : (backToKw pos (keywordEach kws X.env)).all (·.1.isSome) = true := by rfl) (hks : (backToKw pos (keywordEach kws X.env)).filterMap (·.1) = ks := by rfl) (hdb : (x == ("__debug__" : Str)) = false := by decide)
    (he : starEach (e :: es) X.env = (false, eval e X.env) :: starEach es X.env := by rfl) (hpl : ((backTo pos (starEach (e :: es) X.env)).any (·.1) || (backToKw pos (keywordEach kws X.env)).any (·.1.isNone)) = false := by rfl) :
    PE X (.Call (.Name x p) (e :: es) kws pos) (tMakeKS (gOf X) X.A x n ks W t tk) := by
  obtain ⟨f0, hm, hk⟩ := hm
  refine ⟨fun pins s σ H Q I h => ?_⟩
  refine wpAny_Call_Name_kw (ld_glob I hg hm ?_ hdb)
  refine PySem.W.callWith_KW (h₀ := X.base) I.ok.mod.kin hk hall (thn (ha.run pos pins s σ H _ I h) fun us s1 ⟨vs, H1, I1, r, q⟩ => ?_) hpl he
  refine thn (hkw.run pos pins s1 σ H1 _ I1 q) fun ws s2 ⟨zs, H2, I2, rz, q2⟩ => ⟨I2.kIn, ?_⟩
  rw [hks]
  obtain ⟨k, sp, C, hr, hm', ⟨f, fd, ps, sp0, gs, gV, M, kp, F, hb, im⟩, n1, n2, q⟩ := q2
  have hm2 : X.mg x = some (.ref C) := hm'
  have hm1 : X.mg x = some (.ref f0) := hm
  rw [hm1] at hm2
  cases hm2
  exact run_makeKS M F hr hb (passAt tkW σ) I2 r rz n1 n2 fun y dx a b c => im (.ref y :: vs) zs _ _ _ (by rw [List.length_cons, n1]) n2 (q y dx a b c)
end
def kXf (K : PySem.W.Frag) (a : Addr) (cls : Value) (d : Option Addr) (f : Str) (x : V) (H : Hp) (Q : VK) : Prop := x = .ref a ∧ ∃ (C dd : Addr) (fs : List (Str × V)) (v : V), cls = .ref C ∧ XfC K C ∧ PySem.W.findIn K (.ref C) f = some none ∧ d = some dd ∧ H dd = some (.xd fs) ∧ fs.lookup f = some v ∧ Q v H
def tXfG (K : PySem.W.Frag) (a : Addr) (cls : Value) (d : Option Addr) (f : Str) (te : TE) : TE := fun σ H Q => te σ H fun x H1 => kXf K a cls d f x H1 Q
theorem pe_xfG {X : Cx} {a : Addr} {oe : Obj} {cls : Value} {d : Option Addr} {pn : List (Addr × Obj)} {e : Expr} {te : TE} {pos : Pos} {n : Str} (hz : Zc cls d oe) (hf : ∃ vs, oe.data = .fields vs) (he : PE (X.suite a ((a, oe) :: pn)) e te)
    (hb : attributeBase e n X.env (eval e X.env) = eval e X.env := by rfl) : PE (X.suite a ((a, oe) :: pn)) (.Attribute e n pos) (tXfG X.K a cls d n te) := by
  refine ⟨fun pins s σ H Q I h => ?_⟩
  refine attr_of hb (thn (he.run pins s σ H _ I h) fun u s1 hh => ?_)
  obtain ⟨x, H1, I1, rx, ex, C, dd, fs, v, ec, T, hno, ed, ea, l, q⟩ := hh
  subst ex
  obtain rfl : u = Value.ref a := rx
  subst ec
  subst ed
  obtain ⟨ha, _⟩ := I1.pin (a, oe) (List.mem_append_left _ List.mem_cons_self)
  obtain ⟨vs, hd⟩ := hf
  have hx : ObjOk X.prog X.w H1 s1.heap dd (.xd fs) := I1.hok dd _ ea
  obtain ⟨mA, hns, hr⟩ := hx
  obtain ⟨od, ho, hl⟩ := lookIn_ns hns
  obtain ⟨u, hu, ru⟩ := RelO.some_of (v := v) (o := mA n) (by rw [← l]; exact hr n)
  have J : PySem.W.InstAt s1.heap a oe C (some od) := ⟨ha, hz.1, by unfold PySem.W.notCls; rw [hd] <;> rfl, by rw [hz.2]; exact ho⟩
  exact HandSPX.exc_get I1.kIn J T.ga T.gg T.exC (PySem.W.findObj_own T.hdC hno rfl (by rw [hl, hu])) (handed_of ru) ⟨v, H1, I1.tok _, ru, q⟩
theorem kitx_excO {K : PySem.W.Frag} {x D : Addr} {ox : Obj} {od : Option Obj} (C : ExcC K D) : PySem.W.KitX K (.ref x) (.ref D) (fun h => PySem.W.InstAt h x ox D od) where
  ty := fun _ _ _ I => I.type
  it := fun _ _ X _ => by
    obtain ⟨cdD, hcD, _⟩ := PySem.W.any_some C.hd
    unfold PySem.W.clsIn at hcD
    split at hcD
    · rename_i c' d' cd' sl' ho
      intro A' Q' E' s' k q
      unfold isType loadHead
      exact wpAny_bind (wpAny_loadPart (k _ _ (X _ _ ho)) (wpAny_pure q))
    · cases hcD
  ne := fun h tp dd its n sl X htp => by
    obtain ⟨cdD, hcD, _⟩ := PySem.W.any_some C.hd
    refine Bool.eq_false_iff.mpr fun q => ?_
    have e : D = tp := Value.ref.inj (beq_iff_eq.mp q)
    subst e
    unfold PySem.W.clsIn at hcD
    split at hcD
    · rename_i c' d' cd' sl' ho
      have z := (X _ _ ho).symm.trans htp
      cases z
    · cases hcD
  ca := fun X I k => PySem.W.kx_classE X I C.hg C.hk C.hs (PySem.W.findObj_dataE (by obtain ⟨cd, hc, _⟩ := PySem.W.any_some C.hd; rw [hc]; rfl) C.ha C.hn C.ht) C.hm k
def kIsE (K : PySem.W.Frag) (a : Addr) (cls : Value) (d : Option Addr) : List V → Hp → VK → Prop := fun xs H Q => ∃ (D dd : Addr) (fs : List (Str × V)) (c : V) (cv : Value) (b : Bool), cls = .ref D ∧ ExcC K D ∧ d = some dd ∧ H dd = some (.xd fs) ∧ xs = [.ref a, c] ∧ (∀ u, RelV c u → u = cv) ∧ PySem.W.kitOne K (.ref D) cv = some b ∧ Q (.bl b) H
theorem call_isEG {X : Cx} {a : Addr} {oe : Obj} {cls : Value} {d : Option Addr} {pn : List (Addr × Obj)} (hz : Zc cls d oe) (hf : ∃ vs, oe.data = .fields vs) : CallR (X.suite a ((a, oe) :: pn)) (.builtin "isinstance") (kIsE X.K a cls d) := by
  intro pins s σ H xs us Q I r h
  obtain ⟨D, dd, fs, c, cv, b, rfl, C, rfl, ea, rfl, hcv, e, q⟩ := h
  cases r with
  | cons rx rr =>
    cases rr with
    | cons rt rr =>
      cases rr
      cases rx
      have ec := hcv _ rt
      subst ec
      obtain ⟨hget, _⟩ := I.pin (a, oe) (List.mem_append.mpr (.inl List.mem_cons_self))
      obtain ⟨vs, hv⟩ := hf
      have hx : ObjOk X.prog X.w H s.heap dd (.xd fs) := I.hok dd _ ea
      obtain ⟨mA, hns, hr⟩ := hx
      obtain ⟨od, ho, hl⟩ := lookIn_ns hns
      have J : PySem.W.InstAt s.heap a oe D (some od) := ⟨hget, hz.1, by unfold PySem.W.notCls; rw [hv] <;> rfl, by rw [hz.2]; exact ho⟩
      exact PySem.W.kia_one (kitx_excO C) I.kIn J e (fun z => nomatch z) fun tk => ⟨.bl b, H, I.kept (t' := tk) fun _ _ z => z, rfl, q⟩
def tTry (K : PySem.W.Frag) (c : Value) (i : Nat) (tb : WX → TS) (ts : Addr → Value → Option Addr → TS) (Wout : WX) : TS := fun D σ H => tb (wAs K c i ts Wout D) D σ H
def tFS (ts : List TE) : TE := fun σ H Q => tJs ts Str.empty σ H fun out H1 => Q (.str out) H1
theorem takes_false {X : Cx} : Takes X fun _ _ _ _ => False := fun _ _ ⟨_, _, _, _, _, _, _, _, _, _, _, _, _, _, _, _, h⟩ => h.elim
@[reducible] def rTry (K : PySem.W.Frag) (c : Value) (i : Nat) (tb : WX → TS) (ts : Addr → Value → Option Addr → TS) (Wout : WX) : TS := fun D σ H => tb (wAs K c i ts Wout D) D σ H
@[reducible] def rRaise (g : G) (A : Around) (x : Str) (E : XK) (ta : TA) : TS := fun _ σ H => ta σ H fun vs H1 => kRaise g A x E vs H1
@[reducible] def rOst (K : PySem.W.Frag) (f : Str) (to te : TE) : TS := fun D σ H => te σ H fun y H1 => to σ H1 fun x H2 => kOst K f x y H2 fun H3 => D.nx σ H3
@[reducible] def rVeG (g : G) (B : Str) (ta : TA) : TE := fun σ H Q => ta σ H fun vs H1 => kVeI g.K vs H1 Q
@[reducible] def rXfG (K : PySem.W.Frag) (a : Addr) (cls : Value) (d : Option Addr) (f : Str) (te : TE) : TE := fun σ H Q => te σ H fun x H1 => kXf K a cls d f x H1 Q
@[reducible] def rCallS (g : G) (A : Around) (x : Str) (W : WX) (t : TA) : TE := fun σ H Q => t σ H fun vs H1 => kCall g A x (fun c d H => W c d σ H) vs H1 Q
@[reducible] def rMakeKS (g : G) (A : Around) (x : Str) (n : Nat) (ks : List Str) (W : WX) (t tk : TA) : TE := fun σ H Q => t σ H fun vs H1 => tk σ H1 fun zs H2 => kMakeK g A x n ks (fun c d H => W c d σ H) vs zs H2 Q
structure PtX (g : G) (qual : Str) (st : Stmt) (f : Addr) (N ps : List Str) (t : G → Around → XK → TS) : Prop where
  ex : ∃ x fd, FunG g x qual st f fd ∧ Binds g.K fd ps []
  sc : FnScope N ps (defScope st)
  d : ∀ k, BodyOkX g N qual st f k t
theorem PtX.fk {g : G} {qual : Str} {st : Stmt} {f : Addr} {N ps : List Str} {t : G → Around → XK → TS} (P : PtX g qual st f N ps t) (k : Nat) {sp : Sp} (len : ∀ vs H Q E, sp vs H Q E → vs.length = ps.length)
    (w : ∀ (A : Around) (vs : List V) (H : Hp) (Q : VK) (E : XK), Room k A → sp vs H Q E → t g A E { nx := fun _ H' => Q .non H', rt := Q } (start N vs) H) : Fk g (k + 1) sp f :=
  let ⟨x, fd, F, b⟩ := P.ex
  Fk.ofX F P.sc b (P.d k) len w
structure PtBX (g : G) (qual : Str) (st : Stmt) (f : Addr) (N ps : List Str) (x1 x2 : Str) (e1 e2 : Addr) (t : G → Around → XK → TS) : Prop where
  ex : ∃ x fd, FunD g.K x qual (defArgs st) (defBody st) (defScope st) [] [(x1, .ref e1), (x2, .ref e2)] f fd ∧ (∃ ds, Vals [.ref e1, .ref e2] ds ∧ Binds g.K fd ps ds) ∧
    (∃ gs, KBn g.K fd ps 3 [x2, x1] gs fun vs zs => vs ++ zs.reverse) ∧ (∃ gs, KBn g.K fd ps 3 [x2] gs fun vs zs => vs ++ ([.ref e1] ++ zs)) ∧ (∃ gs, KBn g.K fd ps 3 [x1] gs fun vs zs => vs ++ (zs ++ [.ref e2])) ∧ ∃ gs, KBn g.K fd ps 3 [x1, x2] gs fun vs zs => vs ++ zs
  sc : FnScope N ps (defScope st)
  d : ∀ k, BodyOkX g N qual st f k t
theorem PtBX.of {g : G} {x qual : Str} {st : Stmt} {f : Addr} {fd : FuncData} {N ps : List Str} {x1 x2 : Str} {e1 e2 : Addr} {t : G → Around → XK → TS} (F : FunD g.K x qual (defArgs st) (defBody st) (defScope st) [] [(x1, .ref e1), (x2, .ref e2)] f fd) (hl : ps.length = 5)
    (h1 : ∀ D doc pm an cdv ct a b c d e, KwChain D [(x1, d), (x2, e)] (bindArgs (bA x qual st D doc pm an cdv ct) ⟨[a, b, c], []⟩) (ps.zip [a, b, c, d, e]))
    (h2 : ∀ D doc pm an cdv ct a b c d e, KwChain D [] (bindArgs (bA x qual st D doc pm an cdv ct) ⟨[a, b, c], [(x2, e), (x1, d)]⟩) (ps.zip [a, b, c, d, e]))
    (h3 : ∀ D doc pm an cdv ct a b c d e, KwChain D [(x1, d)] (bindArgs (bA x qual st D doc pm an cdv ct) ⟨[a, b, c], [(x2, e)]⟩) (ps.zip [a, b, c, d, e]))
    (h4 : ∀ D doc pm an cdv ct a b c d e, KwChain D [(x2, e)] (bindArgs (bA x qual st D doc pm an cdv ct) ⟨[a, b, c], [(x1, d)]⟩) (ps.zip [a, b, c, d, e]))
    (h5 : ∀ D doc pm an cdv ct a b c d e, KwChain D [] (bindArgs (bA x qual st D doc pm an cdv ct) ⟨[a, b, c], [(x1, d), (x2, e)]⟩) (ps.zip [a, b, c, d, e]))
    (sc : FnScope N ps (defScope st)) (d : ∀ k, BodyOkX g N qual st f k t) : PtBX g qual st f N ps x1 x2 e1 e2 t :=
  ⟨(PtB.of (t := fun _ _ => tNever) F hl h1 h2 h3 h4 h5 sc fun k cdv A outer s H E hr => pss_never).ex, sc, d⟩
section
variable {g : G} {qual : Str} {st : Stmt} {f C : Addr} {N ps : List Str} {x1 x2 : Str} {e1 e2 : Addr} {t : G → Around → XK → TS} {k : Nat} {sp : Sp}
theorem PtBX.fk (P : PtBX g qual st f N ps x1 x2 e1 e2 t) (M : Mk g.K C f) (len : ∀ vs H Q E, sp vs H Q E → vs.length = ps.length)
    (w : ∀ (A : Around) (vs : List V) (H : Hp) (Q : VK) (E : XK), Room k A → sp vs H Q E → t g A E { nx := fun _ H' => Q .non H', rt := Q } (start N vs) H) :
    IF g (k + 1) C (fun vs => sp (vs ++ [.ref e1, .ref e2])) ∧ IK g (k + 1) C 2 [x2, x1] (fun vs H Q E => ∀ a b c d e, vs = [a, b, c, e, d] → sp [a, b, c, d, e] H Q E) ∧
    IK g (k + 1) C 2 [x2] (fun vs H Q E => ∀ a b c e, vs = [a, b, c, e] → sp [a, b, c, .ref e1, e] H Q E) ∧ IK g (k + 1) C 2 [x1] (fun vs H Q E => ∀ a b c d, vs = [a, b, c, d] → sp [a, b, c, d, .ref e2] H Q E) ∧ IK g (k + 1) C 2 [x1, x2] sp := by
  obtain ⟨x, fd, F, ⟨ds, hv, hb⟩, ⟨gs1, B1⟩, ⟨gs2, B2⟩, ⟨gs3, B3⟩, ⟨gs4, B4⟩⟩ := P.ex
  have ok : FnOk g.P g.w g.K g.mg g.base (L2.CX g.P g.w) (k + 1) f fd ps sp := F.ok P.sc len fun cdv A outer s H vs Q E hr h => ⟨_, (P.d k) cdv A outer s H E hr, w _ vs H Q E hr h⟩
  refine ⟨⟨f, M, fd, ps, ds, _, sp, F.kp, ok, hb, hv, fun vs H Q E h => h⟩, ⟨f, fd, ps, sp, gs1, _, M, F.kp, ok, B1, fun vs zs H Q E hv hz h => ?_⟩, ⟨f, fd, ps, sp, gs2, _, M, F.kp, ok, B2, fun vs zs H Q E hv hz h => ?_⟩, ⟨f, fd, ps, sp, gs3, _, M, F.kp, ok, B3, fun vs zs H Q E hv hz h => ?_⟩, ⟨f, fd, ps, sp, gs4, _, M, F.kp, ok, B4, fun vs zs H Q E hv hz h => h⟩⟩
  · match vs, hv, zs, hz with
    | [a, b, c], _, [e, d], _ => exact h a b c d e rfl
  · match vs, hv, zs, hz with
    | [a, b, c], _, [e], _ => exact h a b c e rfl
  · match vs, hv, zs, hz with
    | [a, b, c], _, [d], _ => exact h a b c d rfl
end
def kRev (K : PySem.W.Frag) (x : V) (H : Hp) (Q : VK) : Prop := ∃ a xs, x = .ref a ∧ SqL K H a xs ∧ ∀ p, H p = none → Q (.ref p) (upd H p (.lst xs.reverse))
@[reducible] def rRevL (K : PySem.W.Frag) (te : TE) : TE := fun σ H Q => te σ H fun x H1 => kRev K x H1 Q
theorem k_rev {K : PySem.W.Frag} {L : Ow} {D : List Fct} {H : Hp} {Q : VK} {a : Addr} {xs : List V} (W : Wd L D H) (h : SqL K H a xs) (k : ∀ p H', Wd ((p, .lst xs.reverse) :: L) D H' → Q (.ref p) H') : kRev K (.ref a) H Q := ⟨a, xs, rfl, h, fun p hp => k p _ (W.new hp _)⟩
def kNeE (K : PySem.W.Frag) : R2 := fun x y H Q => ∃ a b xs, x = .ref a ∧ y = .ref b ∧ SqL K H a xs ∧ SqL K H b [] ∧ Q (.bl (!xs.isEmpty)) H
theorem op_neE {X : Cx} (hu : X.A.units + 64 < cLine) : OpR X (compareOp .NotEq) (kNeE X.K) := by
  intro pins s σ H x y v u Q I rx ry h
  obtain ⟨a, b, xs, rfl, rfl, ha, hb, q⟩ := h
  cases xs with
  | nil => exact op_neD hu pins s σ H _ _ v u Q I rx ry ⟨.list [], .list [], .lst ha .nil, .lst hb .nil, rfl, rfl, q⟩
  | cons z xs =>
    obtain rfl : v = Value.ref a := rx
    obtain rfl : u = Value.ref b := ry
    obtain ⟨its, r1, l1, _⟩ := I.list ha
    obtain ⟨its2, r2, l2, _⟩ := I.list hb
    cases r2
    cases r1
    have R := PySem.SeqAt.RcNeAt.lists_lengths (A := X.A) l1.isList l2.isList (by simp) (by omega)
    exact R _ _ _ _ ⟨.bl true, H, I, rfl, q⟩
theorem ps_tryG {X : Cx} {x n : Str} {c : Value} {i : Nat} {body suite : List Stmt} {b₀ : Stmt} {np pos pos' : Pos} {tb : WX → TS} {ts : Addr → Value → Option Addr → TS} {Wout : WX} (hN : X.N.Nodup) (hc : X.mg x = some c) (tk : Takes X Wout)
    (hb : ∀ (W : WX) (pn : List (Addr × Obj)) (xe : Value → Shared → Prop), Takes (X.tr pn xe) W → PassesOwn (model X.prog X.w) X.A X.env xe → PSs (X.tr pn xe) body (tb W))
    (hsu : ∀ (a : Addr) (oe : Obj) (cls : Value) (d : Option Addr) (pn : List (Addr × Obj)), Zc cls d oe → (∃ vs, oe.data = .fields vs) → PSs (X.suite a ((a, oe) :: pn)) (b₀ :: suite) (ts a cls d))
    (hs : X.stack = X.env :: X.outer := by rfl) (hf : X.env.frame = some X.env.locals := by rfl) (hi : X.N[i]? = some n := by rfl) (hln : X.env.kindOf n = some .local := by rfl) (hg : Gl X x := by rfl) (hd : (x == ("__debug__" : Str)) = false := by decide) :
    PS X (.Try body [.ExceptHandler (some (.Name x np)) (some n) (b₀ :: suite) pos'] [] [] pos) (tTry X.K c i tb ts Wout) :=
  ps_try_as hs hf hN hi hln ⟨hg, hd, .inl hc⟩ tk hb hsu
def toS (i : Int) : Str := Str.ofString (toString i)
def risingB : List Int → Bool
  | a :: b :: r => decide (a < b) && risingB (b :: r)
  | _ => true
def wordOf (n : Int) (one : List Int) : Option Str :=
  if one = [] then some "empty" else if (one.all fun s => decide (0 ≤ s ∧ s < n)) = false then some "outside" else if risingB one then none else some "order"
def faultGo (n : Int) : Nat → List (List Int) → List (List Int) → Option (Nat × Str)
  | _, _, [] => none
  | i, known, one :: r => match wordOf n one with
    | some w => some (i, w)
    | none => if one ∈ known then some (i, "again") else faultGo n (i + 1) (known ++ [one]) r
def faultF (n : Int) (ss : List (List Int)) : Option (Nat × Str) := faultGo n 0 [] ss
def meetS (s t : List Int) : Bool := s.any fun x => decide (x ∈ t)
def meets : List (List Int) → Bool
  | [] => true
  | s :: r => (r.all fun t => meetS s t) && meets r
structure SetOk (n : Int) (s : List Int) : Prop where
  ne : s ≠ []
  bd : ∀ x ∈ s, 0 ≤ x ∧ x < n
  up : risingB s = true
theorem wordOf_none {n : Int} {s : List Int} : wordOf n s = none ↔ SetOk n s := by
  unfold wordOf
  constructor
  · intro h
    split at h
    · cases h
    · rename_i h1
      split at h
      · cases h
      · rename_i h2
        split at h
        · rename_i h3
          refine ⟨h1, fun x hx => ?_, h3⟩
          have := List.all_eq_true.mp (eq_true_of_ne_false h2) x hx
          simpa using this
        · cases h
  · rintro ⟨h1, h2, h3⟩
    rw [if_neg h1, if_neg, if_pos h3]
    intro e
    have : (s.all fun s => decide (0 ≤ s ∧ s < n)) = true := List.all_eq_true.mpr fun x hx => by simpa using h2 x hx
    rw [this] at e
    cases e
theorem faultGo_none {n : Int} : ∀ {ss known : List (List Int)} {i : Nat}, faultGo n i known ss = none ↔ (∀ s ∈ ss, SetOk n s) ∧ ss.Nodup ∧ ∀ s ∈ ss, s ∉ known
  | [], known, i => by simp [faultGo]
  | one :: r, known, i => by
    unfold faultGo
    cases hw : wordOf n one with
    | some w =>
      simp only []
      constructor
      · intro h
        cases h
      · rintro ⟨h, _⟩
        have := wordOf_none.mpr (h one List.mem_cons_self)
        rw [hw] at this
        cases this
    | none =>
      simp only []
      by_cases hk : one ∈ known
      · rw [if_pos hk]
        constructor
        · intro h
          cases h
        · rintro ⟨_, _, h⟩
          exact absurd hk (h one List.mem_cons_self)
      · rw [if_neg hk, faultGo_none]
        have h1 := wordOf_none.mp hw
        constructor
        · rintro ⟨a, b, c⟩
          refine ⟨?_, ?_, ?_⟩
          · intro s hs
            rcases List.mem_cons.mp hs with rfl | hs
            · exact h1
            · exact a s hs
          · refine List.nodup_cons.mpr ⟨fun h => ?_, b⟩
            exact c one h (by simp)
          · intro s hs
            rcases List.mem_cons.mp hs with rfl | hs
            · exact hk
            · exact fun h => c s hs (by simp [h])
        · rintro ⟨a, b, c⟩
          have b := List.nodup_cons.mp b
          refine ⟨fun s hs => a s (List.mem_cons_of_mem _ hs), b.2, fun s hs h => ?_⟩
          rcases List.mem_append.mp h with h | h
          · exact c s (List.mem_cons_of_mem _ hs) h
          · rw [List.mem_singleton.mp h] at hs
            exact b.1 hs
structure FamOk (n : Int) (ss : List (List Int)) : Prop where
  ok : ∀ s ∈ ss, SetOk n s
  nd : ss.Nodup
theorem faultF_none {n : Int} {ss : List (List Int)} : faultF n ss = none ↔ FamOk n ss := by
  unfold faultF
  rw [faultGo_none]
  exact ⟨fun h => ⟨h.1, h.2.1⟩, fun h => ⟨h.1, h.2, fun _ _ h => (List.not_mem_nil h).elim⟩⟩
def bitsN (s : List Int) : Nat := s.foldl (fun b x => b ||| 1 <<< x.toNat) 0
theorem bits_go (s : List Int) : ∀ (b k : Nat), (s.foldl (fun b x => b ||| 1 <<< x.toNat) b).testBit k = (b.testBit k || s.any fun x => decide (x.toNat = k)) := by
  induction s with
  | nil => simp
  | cons x r ih =>
    intro b k
    rw [List.foldl_cons, ih, Nat.testBit_or, List.any_cons, Bool.or_assoc]
    congr 1
    congr 1
    rw [Nat.testBit_shiftLeft]
    by_cases h : x.toNat = k
    · subst h
      simp
    · by_cases h2 : k ≥ x.toNat
      · have : k - x.toNat ≠ 0 := by omega
        simp [h, h2, Bool.eq_false_iff.mpr (fun e => this (Nat.testBit_one_eq_true_iff_self_eq_zero.mp e))]
      · simp [h, h2]
theorem bitsN_test (s : List Int) (k : Nat) : (bitsN s).testBit k = s.any fun x => decide (x.toNat = k) := by
  unfold bitsN
  rw [bits_go]
  simp
theorem bits_apart {s t : List Int} (hs : ∀ x ∈ s, 0 ≤ x) (ht : ∀ x ∈ t, 0 ≤ x) : (bitsN s &&& bitsN t = 0) ↔ meetS s t = false := by
  constructor
  · intro h
    unfold meetS
    rw [List.any_eq_false]
    intro x hx e
    have hxt : x ∈ t := by simpa using e
    have : (bitsN s &&& bitsN t).testBit x.toNat = true := by
      rw [Nat.testBit_and, bitsN_test, bitsN_test, Bool.and_eq_true, List.any_eq_true, List.any_eq_true]
      exact ⟨⟨x, hx, by simp⟩, ⟨x, hxt, by simp⟩⟩
    rw [h] at this
    simp at this
  · intro h
    apply Nat.eq_of_testBit_eq
    intro k
    rw [Nat.zero_testBit, Nat.testBit_and, bitsN_test, bitsN_test]
    cases h1 : s.any fun x => decide (x.toNat = k) with
    | false => rfl
    | true =>
      cases h2 : t.any fun x => decide (x.toNat = k) with
      | false => rfl
      | true =>
        obtain ⟨x, hx, ex⟩ := List.any_eq_true.mp h1
        obtain ⟨y, hy, ey⟩ := List.any_eq_true.mp h2
        have ex : x.toNat = k := by simpa using ex
        have ey : y.toNat = k := by simpa using ey
        have e : x = y := by
          have := hs x hx
          have := ht y hy
          omega
        subst e
        unfold meetS at h
        rw [List.any_eq_false] at h
        exact absurd hy (by simpa using h x hx)
inductive Pn
  | leaf
  | br (m : Str) (ab : List Int) (ss : List (List Int)) (ps : List Pn)
def setTail (ss : List (List Int)) : List Str := ss.flatMap fun s => ("|" : Str) :: s.map toS
def setWs : List (List Int) → List Str
  | [] => []
  | s :: r => s.map toS ++ setTail r
mutual
def Pn.words : Pn → List Str
  | .leaf => ["o"]
  | .br m ab ss ps => (["[", m] : List Str) ++ ab.map toS ++ setWs ss ++ ([":"] : List Str) ++ wordsL ps ++ (["]"] : List Str)
def wordsL : List Pn → List Str
  | [] => []
  | p :: r => p.words ++ wordsL r
end
mutual
def Pn.leaves : Pn → Nat
  | .leaf => 1
  | .br _ _ _ ps => leavesL ps
def leavesL : List Pn → Nat
  | [] => 0
  | p :: r => p.leaves + leavesL r
end
mutual
def Pn.halls : Pn → Nat
  | .leaf => 0
  | .br _ _ _ ps => 1 + hallsL ps
def hallsL : List Pn → Nat
  | [] => 0
  | p :: r => p.halls + hallsL r
end
mutual
def Pn.deep : Pn → Nat
  | .leaf => 0
  | .br _ _ _ ps => 1 + deepL ps
def deepL : List Pn → Nat
  | [] => 0
  | p :: r => max p.deep (deepL r)
end
def manners : List Str := ["stamps", "tree", "turning", "votes", "calls"]
def isTr (m : Str) : Bool := decide (m = "tree") || decide (m = "turning")
def aboveOk (m : Str) (ab : List Int) (n : Nat) : Prop := if isTr m then ab.length + 1 = n ∧ ∀ (i : Nat) (x : Int), ab[i]? = some x → 0 ≤ x ∧ x ≤ (i : Int) else ab = []
def famOk (m : Str) (ss : List (List Int)) (n : Nat) : Prop := if m = "votes" then ss ≠ [] ∧ ss.length ≤ 200 ∧ FamOk n ss ∧ meets ss = true else ss = []
structure Fits (m : Str) (ab : List Int) (ss : List (List Int)) (ps : List Pn) : Prop where
  hm : m ∈ manners
  hp : ps ≠ []
  hs : leavesL ps + hallsL ps ≤ 60
  hd : deepL ps ≤ 5
  ha : aboveOk m ab ps.length
  hf : famOk m ss ps.length
mutual
def Pn.ok : Pn → Prop
  | .leaf => True
  | .br m ab ss ps => Fits m ab ss ps ∧ okL ps
def okL : List Pn → Prop
  | [] => True
  | p :: r => p.ok ∧ okL r
end
theorem okL_iff : ∀ {ps : List Pn}, okL ps ↔ ∀ p ∈ ps, p.ok
  | [] => by simp [okL]
  | p :: r => by simp [okL, okL_iff (ps := r)]
theorem deepL_le : ∀ {ps : List Pn} {d : Nat}, deepL ps ≤ d ↔ ∀ p ∈ ps, p.deep ≤ d
  | [], d => by simp [deepL]
  | p :: r, d => by
    have := deepL_le (ps := r) (d := d)
    simp only [deepL, List.mem_cons, forall_eq_or_imp]
    rw [← this]
    omega
theorem wordsL_eq : ∀ ps : List Pn, wordsL ps = ps.flatMap Pn.words
  | [] => rfl
  | p :: r => by rw [wordsL, wordsL_eq r, List.flatMap_cons]
theorem wordsL_app : ∀ ps qs : List Pn, wordsL (ps ++ qs) = wordsL ps ++ wordsL qs
  | [], qs => rfl
  | p :: r, qs => by rw [List.cons_append, wordsL, wordsL, wordsL_app r, List.append_assoc]
theorem leavesL_eq : ∀ ps : List Pn, leavesL ps = (ps.map Pn.leaves).sum
  | [] => rfl
  | p :: r => by rw [leavesL, leavesL_eq r, List.map_cons, List.sum_cons]
theorem hallsL_eq : ∀ ps : List Pn, hallsL ps = (ps.map Pn.halls).sum
  | [] => rfl
  | p :: r => by rw [hallsL, hallsL_eq r, List.map_cons, List.sum_cons]
theorem setTail_app (a b : List (List Int)) : setTail (a ++ b) = setTail a ++ setTail b := by simp [setTail]
theorem setWs_app {a : List (List Int)} (h : a ≠ []) (b : List (List Int)) : setWs (a ++ b) = setWs a ++ setTail b := by
  cases a with
  | nil => exact absurd rfl h
  | cons s r => simp [setWs, setTail_app]
def SqB (K : PySem.W.Frag) (b : Bool) (H : Hp) (a : Addr) (xs : List V) : Prop := match b with
  | true => SqL K H a xs
  | false => SqT K H a xs
def ItB (K : PySem.W.Frag) (b : Bool) (a : Addr) : It := match b with
  | true => Itl K a
  | false => Itt K a
theorem walk_B {K : PySem.W.Frag} {b : Bool} {a : Addr} {xs : List V} : Walk (ItB K b a) xs.length (fun H => SqB K b H a xs) (YAt xs) := by
  cases b
  · exact walk_tup
  · exact walk_list
def InB (K : PySem.W.Frag) (b : Bool) (L : Ow) (D : List Fct) (a : Addr) (xs : List V) : Prop := match b with
  | true => (a, HO.lst xs) ∈ L ∨ isL K a xs ∈ D
  | false => isT K a xs ∈ D
def isI (a : Addr) (o : HO) : Fct := fun B => B a = some o
theorem isI_stab {a : Addr} {o : HO} : Stab (isI a o) := fun _ _ s h => s _ _ h
section
variable {K : PySem.W.Frag} {b : Bool} {L L' : Ow} {D D' : List Fct} {a : Addr} {xs : List V} {H : Hp} {Q : VK} {R : It → Hp → Prop}
theorem Wd.sqB (W : Wd L D H) (h : InB K b L D a xs) : SqB K b H a xs := by
  cases b
  · exact W.tupl h
  · rcases h with h | h
    · exact W.sq h
    · exact W.list h
theorem InB.mono (h : InB K b L D a xs) (hl : L ⊆ L') (hd : D ⊆ D') : InB K b L' D' a xs := by
  cases b
  · exact hd h
  · rcases h with h | h
    · exact .inl (hl h)
    · exact .inr (hd h)
theorem k_iter_B (h : SqB K b H a xs) (k : R (ItB K b a) H) : kIter K (.ref a) H R := by
  cases b
  · exact k_iter_T h k
  · exact k_iter_L h k
theorem k_len_B (h : SqB K b H a xs) (k : Q (.int xs.length) H) : kLen K [.ref a] H Q := by
  cases b
  · exact k_len_T h k
  · exact k_len_L h k
theorem k_tru_B {R : Bool → Hp → Prop} (h : SqB K b H a xs) (k : R (!xs.isEmpty) H) : kTru K (.ref a) H R := by
  cases b
  · exact k_tru_T h k
  · exact k_tru_L h k
theorem k_notV_L (h : SqL K H a xs) (k : Q (.bl (!(!xs.isEmpty))) H) : kNotV K (.ref a) H Q := ⟨_, .inl ⟨xs, h, rfl⟩, k⟩
theorem k_notV_T (h : SqT K H a xs) (k : Q (.bl (!(!xs.isEmpty))) H) : kNotV K (.ref a) H Q := ⟨_, .inr (.inl ⟨xs, h, rfl⟩), k⟩
theorem k_notV_B (h : SqB K b H a xs) (k : Q (.bl (!(!xs.isEmpty))) H) : kNotV K (.ref a) H Q := by
  cases b
  · exact k_notV_T h k
  · exact k_notV_L h k
theorem k_list_B (W : Wd L D H) (h : SqB K b H a xs) (k : ∀ r H', Wd ((r, .lst xs) :: L) D H' → Q (.ref r) H') : kList K [.ref a] H Q := by
  cases b
  · exact k_list_T W h k
  · exact k_list_L W h k
theorem k_tuple_B (W : Wd L D H) (h : InB K b L D a xs) (k : ∀ r H', Wd L (isT K r xs :: D) H' → Q (.ref r) H') : kTupleG K [.ref a] H Q := by
  cases b
  · refine k_tuple_t (W.tupl h) (k _ _ (W.arr spR (fsC h fsR)))
  · exact k_tuple_l W (W.sqB (b := true) h) fun r H' W' => k r H' (W'.frz isT_stab fun B _ e => SqT.of e)
theorem Wd.frzI {o : HO} (W : Wd ((a, o) :: L) D H) : Wd L (isI a o :: D) H := W.frz isI_stab fun _ _ e => e
theorem Wd.atI (W : Wd L D H) {o : HO} (h : isI a o ∈ D) : H a = some o := W.fact h
theorem k_fldI {C dx p : Addr} {fs : List (Str × V)} {nm : List Str} {f : Str} {v : V} (W : Wd L D H) (hm : isI p (.ins C dx fs) ∈ D) (c : ClsF K C nm) (l : fs.lookup f = some v) (hn : f ∈ nm) (k : Q v H) : kFld K (.ref p) f H Q := k_fld (W.atI hm) c.cl (c.na _ hn) l k
theorem k_recvI {g : G} {m : Str} {R : Addr → Prop} {C dx : Addr} {fs : List (Str × V)} {nm : List Str} {k : Nat} {sp : Sp} (W : Wd L D H) (h : isI a (.ins C dx fs) ∈ D) (c : ClsF g.K C nm) (F : MF g k C m sp) (l : fs.lookup m = none) (q : R C) : kRecv g m (.ref a) H R :=
  let ⟨f, hf, _⟩ := F
  k_recv (W.atI h) c.cl l ⟨f, hf⟩ q
end
inductive SsAt (B : Hp) : List V → List (List Int) → Prop
  | nil : SsAt B [] []
  | cons {a : Addr} {s : List Int} {vs : List V} {ss : List (List Int)} (h : B a = some (.tup (s.map V.int))) (r : SsAt B vs ss) : SsAt B (.ref a :: vs) (s :: ss)
theorem SsAt.stab {B B' : Hp} (e : Same B B') : ∀ {vs : List V} {ss : List (List Int)}, SsAt B vs ss → SsAt B' vs ss
  | _, _, .nil => .nil
  | _, _, .cons h r => .cons (e _ _ h) (r.stab e)
theorem SsAt.len {B : Hp} : ∀ {vs : List V} {ss : List (List Int)}, SsAt B vs ss → vs.length = ss.length
  | _, _, .nil => rfl
  | _, _, .cons _ r => congrArg Nat.succ r.len
theorem SsAt.get {B : Hp} : ∀ {vs : List V} {ss : List (List Int)} {i : Nat} {v : V}, SsAt B vs ss → vs[i]? = some v → ∃ a s, v = .ref a ∧ ss[i]? = some s ∧ B a = some (.tup (s.map V.int))
  | _, _, _, _, .nil, e => by simp at e
  | _, _, 0, _, .cons h _, e => by simp at e; exact ⟨_, _, e.symm, rfl, h⟩
  | _, _, i + 1, _, .cons _ r, e => by
    obtain ⟨a, s, h1, h2, h3⟩ := r.get (i := i) (by simpa using e)
    exact ⟨a, s, h1, by simpa using h2, h3⟩
theorem SsAt.app {B : Hp} : ∀ {vs ws : List V} {ss ts : List (List Int)}, SsAt B vs ss → SsAt B ws ts → SsAt B (vs ++ ws) (ss ++ ts)
  | _, _, _, _, .nil, h => h
  | _, _, _, _, .cons a r, h => .cons a (r.app h)
def isSs (vs : List V) (ss : List (List Int)) : Fct := fun B => SsAt B vs ss
theorem isSs_stab {vs : List V} {ss : List (List Int)} : Stab (isSs vs ss) := fun _ _ e h => h.stab e
abbrev setD (s : List Int) : PyData := .tuple (s.map PyData.int)
theorem SsAt.dp {K : PySem.W.Frag} {B : Hp} : ∀ {vs : List V} {ss : List (List Int)}, SsAt B vs ss → DpAll K B vs (ss.map setD)
  | _, _, .nil => .nil
  | _, _, .cons h r => .cons (.tup (SqT.of h) (dpAll_ints _)) r.dp
mutual
inductive PlAt (K : PySem.W.Frag) (CL CB : Addr) (B : Hp) : V → Pn → Prop
  | leaf {a dx : Addr} (h : B a = some (.ins CL dx [])) : PlAt K CL CB B (.ref a) .leaf
  | br {a dx pa au sa : Addr} {m : Str} {ab : List Int} {ss : List (List Int)} {ps : List Pn} {pvs svs : List V}
      (h : B a = some (.ins CB dx [("manner", .str m), ("parts", .ref pa), ("above", .ref au), ("sets", .ref sa)])) (hp : SqT K B pa pvs) (hps : PlsAt K CL CB B pvs ps) (ha : SqT K B au (ab.map V.int)) (hsa : SqT K B sa svs) (hss : SsAt B svs ss) : PlAt K CL CB B (.ref a) (.br m ab ss ps)
inductive PlsAt (K : PySem.W.Frag) (CL CB : Addr) (B : Hp) : List V → List Pn → Prop
  | nil : PlsAt K CL CB B [] []
  | cons {v : V} {t : Pn} {vs : List V} {ts : List Pn} (h : PlAt K CL CB B v t) (r : PlsAt K CL CB B vs ts) : PlsAt K CL CB B (v :: vs) (t :: ts)
end
section
variable {K : PySem.W.Frag} {CL CB : Addr} {B B' : Hp}
mutual
theorem PlAt.stab (e : Same B B') : ∀ {v : V} {t : Pn}, PlAt K CL CB B v t → PlAt K CL CB B' v t
  | _, _, .leaf h => .leaf (e _ _ h)
  | _, _, .br h hp hps ha hsa hss => .br (e _ _ h) (Same.tup e hp) (PlsAt.stab e hps) (Same.tup e ha) (Same.tup e hsa) (hss.stab e)
theorem PlsAt.stab (e : Same B B') : ∀ {vs : List V} {ts : List Pn}, PlsAt K CL CB B vs ts → PlsAt K CL CB B' vs ts
  | _, _, .nil => .nil
  | _, _, .cons h r => .cons (PlAt.stab e h) (PlsAt.stab e r)
end
theorem PlsAt.len : ∀ {vs : List V} {ts : List Pn}, PlsAt K CL CB B vs ts → vs.length = ts.length
  | _, _, .nil => rfl
  | _, _, .cons _ r => congrArg Nat.succ r.len
theorem PlsAt.get : ∀ {vs : List V} {ts : List Pn} {i : Nat} {v : V}, PlsAt K CL CB B vs ts → vs[i]? = some v → ∃ t, ts[i]? = some t ∧ PlAt K CL CB B v t
  | _, _, _, _, .nil, e => by simp at e
  | _, _, 0, _, .cons h _, e => by simp at e; subst e; exact ⟨_, rfl, h⟩
  | _, _, i + 1, _, .cons _ r, e => by
    obtain ⟨t, h1, h2⟩ := r.get (i := i) (by simpa using e)
    exact ⟨t, by simpa using h1, h2⟩
theorem PlsAt.app : ∀ {vs ws : List V} {ts us : List Pn}, PlsAt K CL CB B vs ts → PlsAt K CL CB B ws us → PlsAt K CL CB B (vs ++ ws) (ts ++ us)
  | _, _, _, _, .nil, h => h
  | _, _, _, _, .cons a r, h => .cons a (r.app h)
end
def isP (K : PySem.W.Frag) (CL CB : Addr) (v : V) (t : Pn) : Fct := fun B => PlAt K CL CB B v t
def isPs (K : PySem.W.Frag) (CL CB : Addr) (vs : List V) (ts : List Pn) : Fct := fun B => PlsAt K CL CB B vs ts
theorem isP_stab {K : PySem.W.Frag} {CL CB : Addr} {v : V} {t : Pn} : Stab (isP K CL CB v t) := fun _ _ e h => h.stab e
theorem isPs_stab {K : PySem.W.Frag} {CL CB : Addr} {vs : List V} {ts : List Pn} : Stab (isPs K CL CB vs ts) := fun _ _ e h => h.stab e
section
variable {K : PySem.W.Frag} {CL CB : Addr} {L : Ow} {D : List Fct} {H : Hp} {v : V} {m : Str} {ab : List Int} {ss : List (List Int)} {ps : List Pn} {vs : List V} {i : Nat}
theorem Wd.opLf (W : Wd L D H) (h : isP K CL CB v .leaf ∈ D) : ∃ a dx, v = .ref a ∧ Wd L (isI a (.ins CL dx []) :: D) H := by
  obtain ⟨B, s, d, l⟩ := W.ex
  cases (d _ h).2 with
  | @leaf a dx e =>
    refine ⟨a, dx, rfl, ⟨B, s, fun F hF => ?_, l⟩, W.nd⟩
    rcases List.mem_cons.mp hF with e' | hF
    · subst e'
      exact ⟨isI_stab, e⟩
    · exact d F hF
theorem Wd.opBr (W : Wd L D H) (h : isP K CL CB v (.br m ab ss ps) ∈ D) : ∃ a dx pa au sa pvs svs, v = .ref a ∧ pvs.length = ps.length ∧ svs.length = ss.length ∧
    Wd L (isI a (.ins CB dx [("manner", .str m), ("parts", .ref pa), ("above", .ref au), ("sets", .ref sa)]) :: isT K pa pvs :: isPs K CL CB pvs ps :: isT K au (ab.map V.int) :: isT K sa svs :: isSs svs ss :: D) H := by
  obtain ⟨B, s, d, l⟩ := W.ex
  cases (d _ h).2 with
  | @br a dx pa au sa _ _ _ _ pvs svs e1 e2 e3 e4 e5 e6 =>
    refine ⟨a, dx, pa, au, sa, pvs, svs, rfl, e3.len, e6.len, ⟨B, s, fun F hF => ?_, l⟩, W.nd⟩
    simp only [List.mem_cons] at hF
    rcases hF with rfl | rfl | rfl | rfl | rfl | rfl | hF
    · exact ⟨isI_stab, e1⟩
    · exact ⟨isT_stab, e2⟩
    · exact ⟨isPs_stab, e3⟩
    · exact ⟨isT_stab, e4⟩
    · exact ⟨isT_stab, e5⟩
    · exact ⟨isSs_stab, e6⟩
    · exact d F hF
theorem Wd.itemP (W : Wd L D H) (h : isPs K CL CB vs ps ∈ D) (hv : vs[i]? = some v) : ∃ t, ps[i]? = some t ∧ Wd L (isP K CL CB v t :: D) H := by
  obtain ⟨B, s, d, l⟩ := W.ex
  obtain ⟨t, h1, h2⟩ := PlsAt.get (d _ h).2 hv
  refine ⟨t, h1, ⟨B, s, fun F hF => ?_, l⟩, W.nd⟩
  rcases List.mem_cons.mp hF with e' | hF
  · subst e'
    exact ⟨isP_stab, h2⟩
  · exact d F hF
theorem Wd.itemS (W : Wd L D H) (h : isSs vs ss ∈ D) (hv : vs[i]? = some v) : ∃ a s, v = .ref a ∧ ss[i]? = some s ∧ Wd L (isI a (.tup (s.map V.int)) :: D) H := by
  obtain ⟨B, s, d, l⟩ := W.ex
  obtain ⟨a, t, e, h1, h2⟩ := SsAt.get (d _ h).2 hv
  refine ⟨a, t, e, h1, ⟨B, s, fun F hF => ?_, l⟩, W.nd⟩
  rcases List.mem_cons.mp hF with e' | hF
  · subst e'
    exact ⟨isI_stab, h2⟩
  · exact d F hF
theorem Wd.itT {a : Addr} {xs : List V} (W : Wd L D H) (h : isI a (.tup xs) ∈ D) : Wd L (isT K a xs :: D) H := W.der isT_stab fun B b => SqT.of (b _ h)
theorem Wd.lenPs (W : Wd L D H) (h : isPs K CL CB vs ps ∈ D) : vs.length = ps.length := (W.fact h : PlsAt K CL CB H vs ps).len
theorem Wd.lenSs (W : Wd L D H) (h : isSs vs ss ∈ D) : vs.length = ss.length := (W.fact h : SsAt H vs ss).len
end
section
variable {K : PySem.W.Frag} {L : Ow} {D : List Fct} {H : Hp} {Q : VK} {σ : L2.St} {d b p : Addr} {v x : V}
theorem k_dnewT (W : Wd L D H) (k : ∀ p H', Wd ((p, .dT []) :: L) D H' → Q (.ref p) H') : tDNew σ H Q := .inr fun p hp => k p _ (W.new hp _)
theorem k_dnewK (W : Wd L D H) (k : ∀ p H', Wd ((p, .dK []) :: L) D H' → Q (.ref p) H') : tDNew σ H Q := .inl fun p hp => k p _ (W.new hp _)
abbrev keyI (s : List Int) : List Key := s.map Sum.inl
theorem keyI_v (s : List Int) : (keyI s).map kV = s.map V.int := by rw [List.map_map]; rfl
theorem keyI_inj {s t : List Int} (h : keyI s = keyI t) : s = t := by
  have h2 : s.map (Sum.inl : Int → Key) = t.map Sum.inl := h
  exact (List.map_inj_right (fun a b e => Sum.inl.inj e)).mp h2
theorem k_in_dT {kvs : List (List Key × V)} {s : List Int} (W : Wd L D H) (h : (d, .dT kvs) ∈ L) (hk : isI b (.tup (s.map V.int)) ∈ D) (k : Q (.bl (valV kvs (keyI s)).isSome) H) : kIn K (.ref b) (.ref d) H Q :=
  .inr (.inl ⟨d, _, rfl, DGet.t (W.at_ h) (by rw [keyI_v]; exact W.atI hk), k⟩)
theorem k_set_dT {R : Hp → Prop} {kvs : List (List Key × V)} {s : List Int} (W : Wd ((d, .dT kvs) :: L) D H) (hk : isI b (.tup (s.map V.int)) ∈ D) (hl : kvs.length < sizeLine) (k : ∀ H', Wd ((d, .dT (putK kvs (keyI s) v)) :: L) D H' → R H') : kSet (.ref d) (.ref b) v H R :=
  .inr ⟨d, _, rfl, DPut.t (W.at_ List.mem_cons_self) (by rw [keyI_v]; exact W.atI hk) hl, k _ (W.put _)⟩
theorem inV_strs {x : Str} {ws : List Str} : inV (.str x) (ws.map V.str) = decide (x ∈ ws) := by
  induction ws with
  | nil => rfl
  | cons w r ih =>
    unfold inV at ih ⊢
    rw [List.map_cons, List.any_cons, ih]
    by_cases e : w = x
    · subst e
      simp [eqV]
    · have e' : ¬ x = w := fun h => e h.symm
      simp [eqV, e, e']
theorem k_in_strs {x : Str} {ws : List Str} (h : SqL K H p (ws.map V.str) ∨ SqT K H p (ws.map V.str)) (k : Q (.bl (decide (x ∈ ws))) H) : kIn K (.str x) (.ref p) H Q :=
  .inl ⟨p, _, rfl, h, rfl, by rw [List.all_map]; exact List.all_eq_true.mpr fun _ _ => rfl, by rw [if_neg (by decide), inV_strs]; exact k⟩
theorem k_notIn_strs {x : Str} {ws : List Str} (h : SqL K H p (ws.map V.str) ∨ SqT K H p (ws.map V.str)) (k : Q (.bl (!decide (x ∈ ws))) H) : kNotIn K (.str x) (.ref p) H Q :=
  .inl ⟨p, _, rfl, h, rfl, by rw [List.all_map]; exact List.all_eq_true.mpr fun _ _ => rfl, by rw [if_pos rfl, inV_strs]; exact k⟩
theorem inV_ints2 {s : Int} {ms : List Int} : inV (.int s) (ms.map V.int) = decide (s ∈ ms) := by
  induction ms with
  | nil => rfl
  | cons w r ih =>
    unfold inV at ih ⊢
    rw [List.map_cons, List.any_cons, ih]
    by_cases e : w = s
    · subst e
      simp [eqV]
    · have e' : ¬ s = w := fun h => e h.symm
      simp [eqV, e, e']
theorem k_in_ints {x : Int} {ws : List Int} (h : SqL K H p (ws.map V.int) ∨ SqT K H p (ws.map V.int)) (k : Q (.bl (decide (x ∈ ws))) H) : kIn K (.int x) (.ref p) H Q :=
  .inl ⟨p, _, rfl, h, rfl, by rw [List.all_map]; exact List.all_eq_true.mpr fun _ _ => rfl, by rw [if_neg (by decide), inV_ints2]; exact k⟩
theorem k_notIn_ints {x : Int} {ws : List Int} (h : SqL K H p (ws.map V.int) ∨ SqT K H p (ws.map V.int)) (k : Q (.bl (!decide (x ∈ ws))) H) : kNotIn K (.int x) (.ref p) H Q :=
  .inl ⟨p, _, rfl, h, rfl, by rw [List.all_map]; exact List.all_eq_true.mpr fun _ _ => rfl, by rw [if_pos rfl, inV_ints2]; exact k⟩
theorem k_sum {ns : List Int} (h : SqL K H p (ns.map V.int)) (k : Q (.int ns.sum) H) : kSum K [.ref p] H Q := ⟨p, ns, rfl, h, k⟩
theorem k_maxL {ns : List Int} (h : SqL K H p (ns.map V.int)) (h0 : 0 < ns.length) (k : ∀ m, m ∈ ns → (∀ y ∈ ns, y ≤ m) → Q (.int m) H) : kMax K [.ref p] H Q := .inr ⟨p, ns, rfl, h, h0, k⟩
theorem k_any {bs : List Bool} (h : SqL K H p (bs.map V.bl)) (k : Q (.bl (bs.any id)) H) : kAny K [.ref p] H Q := ⟨p, bs, rfl, h, k⟩
theorem band_nn {x y : Int} (hx : 0 ≤ x) (hy : 0 ≤ y) : Builtin.bitAnd x y = ((x.toNat &&& y.toNat : Nat) : Int) := by
  unfold Builtin.bitAnd
  rw [decide_eq_true hx, decide_eq_true hy]
theorem k_numI {i : Int} (k : Q (.int i) H) : kInt [.int i] H Q := .inl (.inl ⟨i, rfl, k⟩)
theorem k_numB {b : Bool} (k : Q (.int (if b then 1 else 0)) H) : kInt [.bl b] H Q := .inl (.inr ⟨b, rfl, k⟩)
theorem k_lcN {J : It} {n : Nat} {Gd : Hp → Prop} {Y : Nat → Hp → V → Hp → Prop} {gt : TG} {tt : TT} {te : TE} {vs : List Nat} (w : Walk J n Gd Y) (W : Wd L D H) (hn : n ≤ sizeLine) (hG : ∀ p acc H, Wd ((p, .lst acc) :: L) D H → Gd H)
    (hs : ∀ p i x H H' acc (N : VK) (Z : Hp → Prop), i < n → Wd ((p, .lst acc) :: L) D H → Y i H x H' → (∀ y H4, Wd ((p, .lst acc) :: L) D H4 → N y H4) →
      gt x (wipe σ vs) H' fun σ2 H2 => wipe σ2 vs = wipe σ vs ∧ tt σ2 H2 fun b H3 => kIf b (te σ2 H3 N) (Z H3))
    (hd : ∀ p acc H, acc.length = n → Wd ((p, .lst acc) :: L) D H → Q (.ref p) H) : kLc J gt tt te vs σ H Q := by
  refine k_lc w W (fun p i H => ∃ acc, acc.length = i ∧ Wd ((p, .lst acc) :: L) D H) (fun p H' W => ⟨[], rfl, W⟩) (fun p i H _ ⟨acc, _, W⟩ => hG p acc H W) ?_ (fun p H ⟨acc, h, W⟩ => hd p acc H h W)
  rintro p i x H H' hi ⟨acc, hl, W⟩ y
  refine hs p i x H H' acc _ _ hi W y ?_
  intro y H4 W
  exact k_push W (by omega) fun H5 W => ⟨acc ++ [y], by simp [hl], W⟩
theorem k_lcV {J : It} {n : Nat} {Gd : Hp → Prop} {Y : Nat → Hp → V → Hp → Prop} {gt : TG} {tt : TT} {te : TE} {vs : List Nat} (f : Nat → V) (w : Walk J n Gd Y) (W : Wd L D H) (hn : n ≤ sizeLine) (hG : ∀ p acc H, Wd ((p, .lst acc) :: L) D H → Gd H)
    (hs : ∀ p i x H H' acc (N : VK) (Z : Hp → Prop), i < n → Wd ((p, .lst acc) :: L) D H → Y i H x H' → (∀ H4, Wd ((p, .lst acc) :: L) D H4 → N (f i) H4) →
      gt x (wipe σ vs) H' fun σ2 H2 => wipe σ2 vs = wipe σ vs ∧ tt σ2 H2 fun b H3 => kIf b (te σ2 H3 N) (Z H3))
    (hd : ∀ p H, Wd ((p, .lst ((List.range n).map f)) :: L) D H → Q (.ref p) H) : kLc J gt tt te vs σ H Q := by
  refine k_lc w W (fun p i H => Wd ((p, .lst ((List.range i).map f)) :: L) D H) (fun p H' W => W) (fun p i H _ W => hG p _ H W) ?_ (fun p H W => hd p H W)
  rintro p i x H H' hi W y
  refine hs p i x H H' _ _ _ hi W y ?_
  intro H4 W
  refine k_push W (by rw [List.length_map, List.length_range]; omega) fun H5 W => ?_
  rw [List.range_succ, List.map_append]
  exact W
theorem k_lcM {α : Type} {J : It} {Gd : Hp → Prop} {Y : Nat → Hp → V → Hp → Prop} {gt : TG} {tt : TT} {te : TE} {vs : List Nat} (es : List α) (f : α → V) (w : Walk J es.length Gd Y) (W : Wd L D H) (hn : es.length ≤ sizeLine) (hG : ∀ p acc H, Wd ((p, .lst acc) :: L) D H → Gd H)
    (hs : ∀ p i x H H' acc e (N : VK) (Z : Hp → Prop), es[i]? = some e → Wd ((p, .lst acc) :: L) D H → Y i H x H' → (∀ H4, Wd ((p, .lst acc) :: L) D H4 → N (f e) H4) →
      gt x (wipe σ vs) H' fun σ2 H2 => wipe σ2 vs = wipe σ vs ∧ tt σ2 H2 fun b H3 => kIf b (te σ2 H3 N) (Z H3))
    (hd : ∀ p H, Wd ((p, .lst (es.map f)) :: L) D H → Q (.ref p) H) : kLc J gt tt te vs σ H Q := by
  refine k_lcV (fun i => match es[i]? with | some e => f e | none => .non) w W hn hG ?_ ?_
  · intro p i x H H' acc N Z hi W y k
    refine hs p i x H H' acc es[i] N Z (List.getElem?_eq_getElem hi) W y fun H4 W4 => ?_
    have := k H4 W4
    rwa [List.getElem?_eq_getElem hi] at this
  · intro p H W
    refine hd p H ?_
    have e : (List.range es.length).map (fun i => match es[i]? with | some e => f e | none => .non) = es.map f := by
      apply List.ext_getElem
      · simp
      · intro i h1 h2
        have : i < es.length := by simpa using h1
        simp [this]
    rwa [e] at W
end
def EnS (K : PySem.W.Frag) (b : Bool) (a : Addr) (c : Int) : It := match b with
  | true => Itel K a c
  | false => Itet K a c
theorem walk_enumSB {K : PySem.W.Frag} {b : Bool} {a : Addr} {xs : List V} {c : Int} : Walk (EnS K b a c) xs.length (fun H => SqB K b H a xs) (YPair (fun i => some (.int (c + (i : Nat)))) (fun i => xs[i]?)) := by
  cases b
  · exact walk_enumT
  · exact walk_enumL
theorem k_enumS_B {K : PySem.W.Frag} {b : Bool} {a : Addr} {xs : List V} {c : Int} {H : Hp} {R : It → Hp → Prop} (h : SqB K b H a xs) (k : R (EnS K b a c) H) : kEnumS K c [.ref a] H R := by
  cases b
  · exact k_enumS_T h k
  · exact k_enumS_L h k
theorem size_pos : ∀ (t : Pn), 1 ≤ t.leaves + t.halls
  | .leaf => by simp [Pn.leaves]
  | .br _ _ _ _ => by simp only [Pn.halls]; omega
theorem len_le_size : ∀ (ps : List Pn), ps.length ≤ leavesL ps + hallsL ps
  | [] => by simp
  | p :: r => by
    have := size_pos p
    have := len_le_size r
    simp only [List.length_cons, leavesL, hallsL]
    omega
theorem Fits.len {m : Str} {ab : List Int} {ss : List (List Int)} {ps : List Pn} (F : Fits m ab ss ps) : ps.length ≤ 60 := Nat.le_trans (len_le_size ps) F.hs
theorem Fits.abd {m : Str} {ab : List Int} {ss : List (List Int)} {ps : List Pn} (F : Fits m ab ss ps) : ab.length ≤ 60 ∧ ∀ x ∈ ab, 0 ≤ x ∧ x < 60 := by
  have h := F.ha
  have hl := F.len
  unfold aboveOk at h
  split at h
  · refine ⟨by omega, fun x hx => ?_⟩
    obtain ⟨i, hi⟩ := List.mem_iff_getElem?.mp hx
    have h1 := h.2 i x hi
    have h2 := (List.getElem?_eq_some_iff.mp hi).1
    omega
  · subst h
    simp
theorem Fits.fam {m : Str} {ab : List Int} {ss : List (List Int)} {ps : List Pn} (F : Fits m ab ss ps) : ss.length ≤ 200 ∧ FamOk ps.length ss := by
  have h := F.hf
  unfold famOk at h
  split at h
  · exact ⟨h.2.1, h.2.2.1⟩
  · subst h
    exact ⟨by simp, ⟨by simp, List.nodup_nil⟩⟩
theorem SetOk.ge' {n : Int} {s : List Int} (h : SetOk n s) : s.length ≤ n.toNat := by
  have up : ∀ {s : List Int} {a : Int}, risingB s = true → (∀ x ∈ s, a ≤ x ∧ x < n) → a + s.length ≤ max a n := by
    intro s
    induction s with
    | nil => intro a _ _; simp; omega
    | cons b r ih =>
      intro a hr hb
      have hb1 := hb b List.mem_cons_self
      have hr2 : risingB r = true := by
        cases r with
        | nil => rfl
        | cons c r =>
          unfold risingB at hr
          exact (Bool.and_eq_true_iff.mp hr).2
      have hlow : ∀ x ∈ r, b + 1 ≤ x ∧ x < n := by
        clear ih
        induction r generalizing b with
        | nil => intro x hx; exact (List.not_mem_nil hx).elim
        | cons c r ih2 =>
          have h0 : b < c ∧ risingB (c :: r) = true := by
            unfold risingB at hr
            have := Bool.and_eq_true_iff.mp hr
            exact ⟨of_decide_eq_true this.1, this.2⟩
          intro x hx
          have hxn := (hb x (List.mem_cons_of_mem _ hx)).2
          rcases List.mem_cons.mp hx with rfl | hx
          · omega
          · have hr3 : risingB r = true := by
              cases r with
              | nil => rfl
              | cons d r =>
                have := h0.2
                unfold risingB at this
                exact (Bool.and_eq_true_iff.mp this).2
            have := ih2 c h0.2 (fun y hy => ⟨by
              rcases List.mem_cons.mp hy with rfl | hy
              · omega
              · have := hb y (List.mem_cons_of_mem _ (List.mem_cons_of_mem _ hy))
                omega, (hb y (List.mem_cons_of_mem _ hy)).2⟩) (by have := hb c (List.mem_cons_of_mem _ List.mem_cons_self); omega) hr3 x hx
            omega
      have := ih (a := b + 1) hr2 hlow
      rw [List.length_cons]
      omega
  have := up (a := 0) h.up h.bd
  omega
theorem setTail_len {n : Nat} : ∀ {ss : List (List Int)}, (∀ s ∈ ss, SetOk n s) → (setTail ss).length ≤ ss.length * (n + 1)
  | [], _ => by simp [setTail]
  | s :: r, h => by
    have h1 := (h s List.mem_cons_self).ge'
    have h2 := setTail_len (n := n) (ss := r) fun t ht => h t (List.mem_cons_of_mem _ ht)
    have : setTail (s :: r) = ("|" : Str) :: s.map toS ++ setTail r := by simp [setTail]
    rw [this, List.length_append, List.length_cons, List.length_map, List.length_cons, Nat.succ_mul]
    simp at h1
    omega
theorem setWs_len {n : Nat} {ss : List (List Int)} (h : ∀ s ∈ ss, SetOk n s) : (setWs ss).length ≤ ss.length * (n + 1) := by
  cases ss with
  | nil => simp [setWs]
  | cons s r =>
    have h1 := (h s List.mem_cons_self).ge'
    have h2 := setTail_len (n := n) (ss := r) fun t ht => h t (List.mem_cons_of_mem _ ht)
    rw [setWs, List.length_append, List.length_map, List.length_cons, Nat.succ_mul]
    simp at h1
    omega
theorem Fits.sets_len {m : Str} {ab : List Int} {ss : List (List Int)} {ps : List Pn} (F : Fits m ab ss ps) : (setWs ss).length ≤ 12200 := by
  have h1 := F.fam
  have h2 := setWs_len h1.2.ok
  have h3 := F.len
  have : ss.length * (ps.length + 1) ≤ 200 * 61 := Nat.mul_le_mul h1.1 (by omega)
  omega
mutual
theorem words_len : ∀ (t : Pn), t.ok → t.words.length ≤ 12400 * (t.leaves + t.halls)
  | .leaf, _ => by simp [Pn.words, Pn.leaves, Pn.halls]
  | .br m ab ss ps, h => by
    have h1 := h.1.abd.1
    have h2 := h.1.sets_len
    have h3 := wordsL_len ps h.2
    simp only [Pn.words, Pn.leaves, Pn.halls, List.length_append, List.length_map, List.length_cons, List.length_nil]
    omega
theorem wordsL_len : ∀ (ps : List Pn), okL ps → (wordsL ps).length ≤ 12400 * (leavesL ps + hallsL ps)
  | [], _ => by simp [wordsL]
  | p :: r, h => by
    have h1 := words_len p h.1
    have h2 := wordsL_len r h.2
    simp only [wordsL, leavesL, hallsL, List.length_append]
    omega
end
theorem size_le {t : Pn} (h : t.ok) : t.leaves + t.halls ≤ 61 := by
  cases t with
  | leaf => simp [Pn.leaves, Pn.halls]
  | br m ab ss ps =>
    have := h.1.hs
    simp only [Pn.leaves, Pn.halls]
    omega
theorem words_max {t : Pn} (h : t.ok) : t.words.length ≤ 756400 := by
  have h1 := words_len t h
  have h2 := size_le h
  omega
theorem toS_small {i : Int} (h0 : 0 ≤ i) (h1 : i < 60) : toS i ≠ "o" ∧ (toS i).length ≤ 8 ∧ PyData.strOk (toS i) = true ∧ toS i ≠ "[" ∧ toS i ≠ "|" := by
  have key : ∀ k : Fin 60, toS (k.val : Int) ≠ "o" ∧ (toS (k.val : Int)).length ≤ 8 ∧ PyData.strOk (toS (k.val : Int)) = true ∧ toS (k.val : Int) ≠ "[" ∧ toS (k.val : Int) ≠ "|" := by decide +kernel
  have := key ⟨i.toNat, by omega⟩
  rwa [show ((i.toNat : Nat) : Int) = i from by omega] at this
theorem manner_small : ∀ {m : Str}, m ∈ manners → m ≠ "o" ∧ m.length ≤ 8 ∧ PyData.strOk m = true ∧ m ≠ "[" ∧ m ≠ "|" := by
  have : ∀ m ∈ manners, m ≠ "o" ∧ m.length ≤ 8 ∧ PyData.strOk m = true ∧ m ≠ "[" ∧ m ≠ "|" := by decide +kernel
  exact fun {m} h => this m h
theorem set_words_all {P : Str → Prop} {n : Nat} (hn : n ≤ 60) (hb : P "|") (hi : ∀ i : Int, 0 ≤ i → i < 60 → P (toS i)) : ∀ {ss : List (List Int)}, (∀ s ∈ ss, SetOk n s) → ∀ w ∈ setWs ss, P w := by
  have tail : ∀ {ss : List (List Int)}, (∀ s ∈ ss, SetOk n s) → ∀ w ∈ setTail ss, P w := by
    intro ss h w hw
    obtain ⟨s, hs, hw⟩ := List.mem_flatMap.mp hw
    rcases List.mem_cons.mp hw with rfl | hw
    · exact hb
    · obtain ⟨x, hx, rfl⟩ := List.mem_map.mp hw
      have := (h s hs).bd x hx
      exact hi x this.1 (by omega)
  intro ss h w hw
  cases ss with
  | nil => exact (List.not_mem_nil hw).elim
  | cons s r =>
    rcases List.mem_append.mp hw with hw | hw
    · obtain ⟨x, hx, rfl⟩ := List.mem_map.mp hw
      have := (h s List.mem_cons_self).bd x hx
      exact hi x this.1 (by omega)
    · exact tail (fun t ht => h t (List.mem_cons_of_mem _ ht)) w hw
mutual
theorem words_all {P : Str → Prop} (ho : P "o") (h1 : P "[") (h2 : P "]") (h3 : P ":") (h4 : P "|") (hm : ∀ m ∈ manners, P m) (hi : ∀ i : Int, 0 ≤ i → i < 60 → P (toS i)) : ∀ (t : Pn), t.ok → ∀ w ∈ t.words, P w
  | .leaf, _ => fun w hw => by
    rw [List.mem_singleton.mp (show w ∈ (["o"] : List Str) from hw)]
    exact ho
  | .br m ab ss ps, h => fun w hw => by
    have hw : w ∈ (["[", m] : List Str) ++ ab.map toS ++ setWs ss ++ ([":"] : List Str) ++ wordsL ps ++ (["]"] : List Str) := hw
    simp only [List.mem_append, List.mem_cons, List.not_mem_nil, or_false, List.mem_map] at hw
    rcases hw with ((((((rfl | rfl) | ⟨x, hx, rfl⟩) | hw) | rfl) | hw) | rfl)
    · exact h1
    · exact hm _ h.1.hm
    · have := h.1.abd.2 x hx
      exact hi x this.1 this.2
    · exact set_words_all h.1.len h4 hi h.1.fam.2.ok w hw
    · exact h3
    · exact wordsL_all ho h1 h2 h3 h4 hm hi ps h.2 w hw
    · exact h2
theorem wordsL_all {P : Str → Prop} (ho : P "o") (h1 : P "[") (h2 : P "]") (h3 : P ":") (h4 : P "|") (hm : ∀ m ∈ manners, P m) (hi : ∀ i : Int, 0 ≤ i → i < 60 → P (toS i)) : ∀ (ps : List Pn), okL ps → ∀ w ∈ wordsL ps, P w
  | [], _ => fun w hw => (List.not_mem_nil hw).elim
  | p :: r, h => fun w hw => by
    rcases List.mem_append.mp (show w ∈ p.words ++ wordsL r from hw) with hw | hw
    · exact words_all ho h1 h2 h3 h4 hm hi p h.1 w hw
    · exact wordsL_all ho h1 h2 h3 h4 hm hi r h.2 w hw
end
theorem words_small {t : Pn} (h : t.ok) : ∀ w ∈ t.words, w.length ≤ 8 ∧ PyData.strOk w = true := by
  refine words_all ?_ ?_ ?_ ?_ ?_ (fun m hm => ?_) (fun i h0 h1 => ?_) t h
  · decide +kernel
  · decide +kernel
  · decide +kernel
  · decide +kernel
  · decide +kernel
  · exact ⟨(manner_small hm).2.1, (manner_small hm).2.2.1⟩
  · exact ⟨(toS_small h0 h1).2.1, (toS_small h0 h1).2.2.1⟩
theorem sum_le {α : Type} {f : α → Nat} {k : Nat} : ∀ {l : List α}, (∀ x ∈ l, f x ≤ k) → (l.map f).sum ≤ l.length * k
  | [], _ => by simp
  | a :: r, h => by
    have h1 := h a List.mem_cons_self
    have h2 := sum_le (f := f) (k := k) (l := r) fun x hx => h x (List.mem_cons_of_mem _ hx)
    rw [List.map_cons, List.sum_cons, List.length_cons, Nat.succ_mul]
    omega
theorem words_join {t : Pn} (h : t.ok) : (t.words.map (·.length)).sum + t.words.length * 1 ≤ 16777216 := by
  have h1 := sum_le (f := fun w : Str => w.length) (k := 8) fun w hw => (words_small h w hw).1
  have h2 := words_max h
  omega
def cnt (x : Str) (ws : List Str) : Nat := (ws.filter fun w => decide (w = x)).length
theorem cnt_app {x : Str} {a b : List Str} : cnt x (a ++ b) = cnt x a + cnt x b := by simp [cnt, List.filter_append]
theorem cnt_zero {x : Str} {a : List Str} (h : ∀ w ∈ a, w ≠ x) : cnt x a = 0 := by
  unfold cnt
  rw [List.filter_eq_nil_iff.mpr (fun w hw => by simpa using h w hw)]
  rfl
theorem cnt_cons {x w : Str} {a : List Str} : cnt x (w :: a) = (if w = x then 1 else 0) + cnt x a := by
  unfold cnt
  rw [List.filter_cons]
  by_cases h : w = x
  · rw [if_pos (by simpa using h), if_pos h, List.length_cons]
    omega
  · rw [if_neg (by simpa using h), if_neg h]
    omega
theorem cnt_nil {x : Str} : cnt x [] = 0 := rfl
mutual
theorem cnt_o : ∀ (t : Pn), t.ok → cnt "o" t.words = t.leaves
  | .leaf, _ => by decide +kernel
  | .br m ab ss ps, h => by
    have e1 := cnt_oL ps h.2
    have e2 : cnt "o" (ab.map toS) = 0 := cnt_zero fun w hw => by
      obtain ⟨x, hx, rfl⟩ := List.mem_map.mp hw
      exact (toS_small (h.1.abd.2 x hx).1 (h.1.abd.2 x hx).2).1
    have e3 : cnt "o" (setWs ss) = 0 := cnt_zero (set_words_all (P := fun w => w ≠ "o") h.1.len (by decide +kernel) (fun i a b => (toS_small a b).1) h.1.fam.2.ok)
    have e4 : cnt "o" (["[", m] : List Str) = 0 := cnt_zero fun w hw => by
      rcases List.mem_cons.mp hw with rfl | hw
      · decide +kernel
      · rw [List.mem_singleton.mp hw]
        exact (manner_small h.1.hm).1
    have e5 : cnt "o" ([":"] : List Str) = 0 := by decide +kernel
    have e6 : cnt "o" (["]"] : List Str) = 0 := by decide +kernel
    rw [Pn.words, cnt_app, cnt_app, cnt_app, cnt_app, cnt_app, e1, e2, e3, e4, e5, e6, Pn.leaves]
    omega
theorem cnt_oL : ∀ (ps : List Pn), okL ps → cnt "o" (wordsL ps) = leavesL ps
  | [], _ => rfl
  | p :: r, h => by rw [wordsL, cnt_app, cnt_o p h.1, cnt_oL r h.2, leavesL]
end
mutual
theorem cnt_h : ∀ (t : Pn), t.ok → cnt "[" t.words = t.halls
  | .leaf, _ => by decide +kernel
  | .br m ab ss ps, h => by
    have e1 := cnt_hL ps h.2
    have e2 : cnt "[" (ab.map toS) = 0 := cnt_zero fun w hw => by
      obtain ⟨x, hx, rfl⟩ := List.mem_map.mp hw
      exact (toS_small (h.1.abd.2 x hx).1 (h.1.abd.2 x hx).2).2.2.2.1
    have e3 : cnt "[" (setWs ss) = 0 := cnt_zero (set_words_all (P := fun w => w ≠ "[") h.1.len (by decide +kernel) (fun i a b => (toS_small a b).2.2.2.1) h.1.fam.2.ok)
    have e4 : cnt "[" (["[", m] : List Str) = 1 := by
      rw [cnt_cons, if_pos rfl, cnt_cons, if_neg (manner_small h.1.hm).2.2.2.1, cnt_nil]
    have e5 : cnt "[" ([":"] : List Str) = 0 := by decide +kernel
    have e6 : cnt "[" (["]"] : List Str) = 0 := by decide +kernel
    rw [Pn.words, cnt_app, cnt_app, cnt_app, cnt_app, cnt_app, e1, e2, e3, e4, e5, e6, Pn.halls]
    omega
theorem cnt_hL : ∀ (ps : List Pn), okL ps → cnt "[" (wordsL ps) = hallsL ps
  | [], _ => rfl
  | p :: r, h => by rw [wordsL, cnt_app, cnt_h p h.1, cnt_hL r h.2, hallsL]
end
def Pn.isBr : Pn → Bool
  | .leaf => false
  | _ => true
mutual
inductive RepAt (K : PySem.W.Frag) (B : Hp) : V → Pn → Prop
  | leaf : RepAt K B (.str "o") .leaf
  | br {a ua fa pa : Addr} {m : Str} {ab : List Int} {ss : List (List Int)} {ps : List Pn} {pvs svs : List V}
      (h : B a = some (.tup [.str m, .ref ua, .ref fa, .ref pa])) (hu : SqT K B ua (ab.map V.int)) (hf : SqT K B fa svs) (hs : SsAt B svs ss) (hp : B pa = some (.lst pvs)) (hps : RepsAt K B pvs ps) : RepAt K B (.ref a) (.br m ab ss ps)
inductive RepsAt (K : PySem.W.Frag) (B : Hp) : List V → List Pn → Prop
  | nil : RepsAt K B [] []
  | cons {v : V} {t : Pn} {vs : List V} {ts : List Pn} (h : RepAt K B v t) (r : RepsAt K B vs ts) : RepsAt K B (v :: vs) (t :: ts)
end
mutual
def repD : Pn → PyData
  | .leaf => .str "o"
  | .br m ab ss ps => .tuple [.str m, .tuple (ab.map PyData.int), .tuple (ss.map setD), .list (repDs ps)]
def repDs : List Pn → List PyData
  | [] => []
  | p :: r => repD p :: repDs r
end
section
variable {K : PySem.W.Frag} {B B' : Hp}
mutual
theorem RepAt.stab (e : Same B B') : ∀ {v : V} {t : Pn}, RepAt K B v t → RepAt K B' v t
  | _, _, .leaf => .leaf
  | _, _, .br h hu hf hs hp hps => .br (e _ _ h) (Same.tup e hu) (Same.tup e hf) (hs.stab e) (e _ _ hp) (RepsAt.stab e hps)
theorem RepsAt.stab (e : Same B B') : ∀ {vs : List V} {ts : List Pn}, RepsAt K B vs ts → RepsAt K B' vs ts
  | _, _, .nil => .nil
  | _, _, .cons h r => .cons (RepAt.stab e h) (RepsAt.stab e r)
end
mutual
theorem RepAt.dp : ∀ {v : V} {t : Pn}, RepAt K B v t → Dp K B v (repD t)
  | _, _, .leaf => .str _
  | _, _, .br h hu hf hs hp hps => by
    rw [repD]
    exact .tup (SqT.of h) (.cons (.str _) (.cons (.tup hu (dpAll_ints _)) (.cons (.tup hf hs.dp) (.cons (.lst (SqL.of hp) (RepsAt.dp hps)) .nil))))
theorem RepsAt.dp : ∀ {vs : List V} {ts : List Pn}, RepsAt K B vs ts → DpAll K B vs (repDs ts)
  | _, _, .nil => by rw [repDs]; exact .nil
  | _, _, .cons h r => by rw [repDs]; exact .cons (RepAt.dp h) (RepsAt.dp r)
end
theorem RepsAt.len : ∀ {vs : List V} {ts : List Pn}, RepsAt K B vs ts → vs.length = ts.length
  | _, _, .nil => rfl
  | _, _, .cons _ r => congrArg Nat.succ r.len
theorem RepsAt.get : ∀ {vs : List V} {ts : List Pn} {i : Nat} {v : V}, RepsAt K B vs ts → vs[i]? = some v → ∃ t, ts[i]? = some t ∧ RepAt K B v t
  | _, _, _, _, .nil, e => by simp at e
  | _, _, 0, _, .cons h _, e => by simp at e; subst e; exact ⟨_, rfl, h⟩
  | _, _, i + 1, _, .cons _ r, e => by
    obtain ⟨t, h1, h2⟩ := r.get (i := i) (by simpa using e)
    exact ⟨t, by simpa using h1, h2⟩
theorem RepsAt.app : ∀ {vs ws : List V} {ts us : List Pn}, RepsAt K B vs ts → RepsAt K B ws us → RepsAt K B (vs ++ ws) (ts ++ us)
  | _, _, _, _, .nil, h => h
  | _, _, _, _, .cons a r, h => .cons a (r.app h)
end
def isR (K : PySem.W.Frag) (v : V) (t : Pn) : Fct := fun B => RepAt K B v t
def isRs (K : PySem.W.Frag) (vs : List V) (ts : List Pn) : Fct := fun B => RepsAt K B vs ts
theorem isR_stab {K : PySem.W.Frag} {v : V} {t : Pn} : Stab (isR K v t) := fun _ _ e h => h.stab e
theorem isRs_stab {K : PySem.W.Frag} {vs : List V} {ts : List Pn} : Stab (isRs K vs ts) := fun _ _ e h => h.stab e
section
variable {K : PySem.W.Frag} {L : Ow} {D : List Fct} {H : Hp} {v : V} {m : Str} {ab : List Int} {ss : List (List Int)} {ps : List Pn} {t : Pn} {vs : List V} {i : Nat}
theorem has_R (h : isR K v t ∈ D) : Has K D v (repD t) := fun B b => (b _ h : RepAt K B v t).dp
theorem Wd.lfR (W : Wd L D H) (h : isR K v .leaf ∈ D) : v = .str "o" := by
  cases (W.fact h : RepAt K H v .leaf)
  rfl
theorem Wd.opR (W : Wd L D H) (h : isR K v (.br m ab ss ps) ∈ D) : ∃ a ua fa pa pvs svs, v = .ref a ∧ pvs.length = ps.length ∧ svs.length = ss.length ∧
    Wd L (isI a (.tup [.str m, .ref ua, .ref fa, .ref pa]) :: isT K a [.str m, .ref ua, .ref fa, .ref pa] :: isT K ua (ab.map V.int) :: isT K fa svs :: isSs svs ss :: isI pa (.lst pvs) :: isL K pa pvs :: isRs K pvs ps :: D) H := by
  obtain ⟨B, s, d, l⟩ := W.ex
  cases (d _ h).2 with
  | @br a ua fa pa _ _ _ _ pvs svs e1 e2 e3 e4 e5 e6 =>
    refine ⟨a, ua, fa, pa, pvs, svs, rfl, e6.len, e4.len, ⟨B, s, fun F hF => ?_, l⟩, W.nd⟩
    simp only [List.mem_cons] at hF
    rcases hF with rfl | rfl | rfl | rfl | rfl | rfl | rfl | rfl | hF
    · exact ⟨isI_stab, e1⟩
    · exact ⟨isT_stab, SqT.of e1⟩
    · exact ⟨isT_stab, e2⟩
    · exact ⟨isT_stab, e3⟩
    · exact ⟨isSs_stab, e4⟩
    · exact ⟨isI_stab, e5⟩
    · exact ⟨isL_stab, SqL.of e5⟩
    · exact ⟨isRs_stab, e6⟩
    · exact d F hF
theorem Wd.itemR (W : Wd L D H) (h : isRs K vs ps ∈ D) (hv : vs[i]? = some v) : ∃ t, ps[i]? = some t ∧ Wd L (isR K v t :: D) H := by
  obtain ⟨B, s, d, l⟩ := W.ex
  obtain ⟨t, h1, h2⟩ := RepsAt.get (d _ h).2 hv
  refine ⟨t, h1, ⟨B, s, fun F hF => ?_, l⟩, W.nd⟩
  rcases List.mem_cons.mp hF with e' | hF
  · subst e'
    exact ⟨isR_stab, h2⟩
  · exact d F hF
theorem Wd.lenR (W : Wd L D H) (h : isRs K vs ps ∈ D) : vs.length = ps.length := (W.fact h : RepsAt K H vs ps).len
end
theorem shp_set {k : Nat} {s : List Int} : Shp (k + 1) (setD s) := shp_tuple (mem_map fun _ _ => shp_int)
mutual
theorem repD_shp : ∀ (t : Pn), t.ok → Shp (2 * t.deep + 3) (repD t)
  | .leaf, _ => by
    rw [repD]
    exact shp_str (by decide +kernel)
  | .br m ab ss ps, h => by
    have h1 := repDs_shp ps h.2
    rw [repD, Pn.deep]
    have e : 2 * (1 + deepL ps) + 3 = (2 * deepL ps + 4) + 1 := by omega
    rw [e]
    refine shp_tuple (mem_cons' (shp_str (manner_small h.1.hm).2.2.1) (mem_cons' ((shp_tuple (k := 0) (mem_map fun _ _ => shp_int)).up (by omega)) (mem_cons' ((shp_tuple (k := 1) (mem_map fun _ _ => shp_set)).up (by omega)) (mem1 ((shp_list h1).up (by omega))))))
theorem repDs_shp : ∀ (ps : List Pn), okL ps → ∀ d ∈ repDs ps, Shp (2 * deepL ps + 3) d
  | [], _ => fun d hd => (List.not_mem_nil (by rw [repDs] at hd; exact hd)).elim
  | p :: r, h => fun d hd => by
    rw [repDs] at hd
    rcases List.mem_cons.mp hd with e | hd
    · subst e
      exact (repD_shp p h.1).up (by rw [deepL]; omega)
    · exact (repDs_shp r h.2 d hd).up (by rw [deepL]; omega)
end
theorem tyOf_stab {K : PySem.W.Frag} {H H' : Hp} (s : Same H H') {v : V} {t : Value} (h : TyOf K H v t) : TyOf K H' v t := by
  cases h with
  | non => exact .non
  | bl x => exact .bl x
  | int x => exact .int x
  | str x => exact .str x
  | flt x => exact .flt x
  | lst e => exact .lst (s _ _ e)
  | frz e => exact .frz (s _ _ e)
  | tup e => exact .tup (s _ _ e)
  | dK e => exact .dK (s _ _ e)
  | dT e => exact .dT (s _ _ e)
  | ins e cl ha hn htk hm => exact .ins (s _ _ e) cl ha hn htk hm
theorem tyX_stab {K : PySem.W.Frag} {H H' : Hp} (s : Same H H') {v : V} {t : Value} (h : TyX K H v t) : TyX K H' v t := by
  cases h with
  | base h => exact .base (tyOf_stab s h)
  | byt b => exact .byt b
  | set e => exact .set (s _ _ e)
  | kList e c => exact .kList e c
  | kTuple e c => exact .kTuple e c
  | kDict e c => exact .kDict e c
  | fTuple e => exact .fTuple (s _ _ e)
  | fDict e => exact .fDict (s _ _ e)
def isTy (K : PySem.W.Frag) (v : V) (T : String) : Fct := fun B => TyX K B v (.type T)
theorem isTy_stab {K : PySem.W.Frag} {v : V} {T : String} : Stab (isTy K v T) := fun _ _ s h => tyX_stab s h
def oddT : List String := ["NoneType", "str", "int", "bool", "list", "tuple"]
inductive QsAt (K : PySem.W.Frag) (CL CB : Addr) (B : Hp) : List V → List (Option Pn) → Prop
  | nil : QsAt K CL CB B [] []
  | plan {v : V} {t : Pn} {vs : List V} {qs : List (Option Pn)} (h : PlAt K CL CB B v t) (r : QsAt K CL CB B vs qs) : QsAt K CL CB B (v :: vs) (some t :: qs)
  | odd {v : V} {T : String} {vs : List V} {qs : List (Option Pn)} (hT : T ∈ oddT) (h : TyX K B v (.type T)) (r : QsAt K CL CB B vs qs) : QsAt K CL CB B (v :: vs) (none :: qs)
section
variable {K : PySem.W.Frag} {CL CB : Addr} {B B' : Hp}
theorem QsAt.stab (e : Same B B') : ∀ {vs : List V} {qs : List (Option Pn)}, QsAt K CL CB B vs qs → QsAt K CL CB B' vs qs
  | _, _, .nil => .nil
  | _, _, .plan h r => .plan (h.stab e) (r.stab e)
  | _, _, .odd hT h r => .odd hT (tyX_stab e h) (r.stab e)
theorem QsAt.len : ∀ {vs : List V} {qs : List (Option Pn)}, QsAt K CL CB B vs qs → vs.length = qs.length
  | _, _, .nil => rfl
  | _, _, .plan _ r => congrArg Nat.succ r.len
  | _, _, .odd _ _ r => congrArg Nat.succ r.len
theorem QsAt.get : ∀ {vs : List V} {qs : List (Option Pn)} {i : Nat} {v : V}, QsAt K CL CB B vs qs → vs[i]? = some v → (∃ t, qs[i]? = some (some t) ∧ PlAt K CL CB B v t) ∨ (qs[i]? = some none ∧ ∃ T ∈ oddT, TyX K B v (.type T))
  | _, _, _, _, .nil, e => by simp at e
  | _, _, 0, _, .plan h _, e => by simp at e; subst e; exact .inl ⟨_, rfl, h⟩
  | _, _, 0, _, .odd hT h _, e => by simp at e; subst e; exact .inr ⟨rfl, _, hT, h⟩
  | _, _, i + 1, _, .plan _ r, e => by
    rcases r.get (i := i) (by simpa using e) with ⟨t, h1, h2⟩ | ⟨h1, h2⟩
    · exact .inl ⟨t, by simpa using h1, h2⟩
    · exact .inr ⟨by simpa using h1, h2⟩
  | _, _, i + 1, _, .odd _ _ r, e => by
    rcases r.get (i := i) (by simpa using e) with ⟨t, h1, h2⟩ | ⟨h1, h2⟩
    · exact .inl ⟨t, by simpa using h1, h2⟩
    · exact .inr ⟨by simpa using h1, h2⟩
theorem QsAt.set {v : V} {T : String} (hT : T ∈ oddT) (h : TyX K B v (.type T)) : ∀ {vs : List V} {qs : List (Option Pn)} (i : Nat), QsAt K CL CB B vs qs → QsAt K CL CB B (vs.set i v) (qs.set i none)
  | _, _, _, .nil => .nil
  | _, _, 0, .plan _ r => .odd hT h r
  | _, _, 0, .odd _ _ r => .odd hT h r
  | _, _, i + 1, .plan a r => .plan a (QsAt.set hT h i r)
  | _, _, i + 1, .odd a b r => .odd a b (QsAt.set hT h i r)
theorem QsAt.plans : ∀ {vs : List V} {ps : List Pn}, QsAt K CL CB B vs (ps.map some) → PlsAt K CL CB B vs ps
  | _, [], h => by cases h; exact .nil
  | _, p :: ps, h => by
    cases h with
    | plan h r => exact .cons h r.plans
theorem PlsAt.qs : ∀ {vs : List V} {ps : List Pn}, PlsAt K CL CB B vs ps → QsAt K CL CB B vs (ps.map some)
  | _, _, .nil => .nil
  | _, _, .cons h r => .plan h r.qs
end
def isQs (K : PySem.W.Frag) (CL CB : Addr) (vs : List V) (qs : List (Option Pn)) : Fct := fun B => QsAt K CL CB B vs qs
theorem isQs_stab {K : PySem.W.Frag} {CL CB : Addr} {vs : List V} {qs : List (Option Pn)} : Stab (isQs K CL CB vs qs) := fun _ _ s h => h.stab s
section
variable {K : PySem.W.Frag} {CL CB : Addr} {L : Ow} {D : List Fct} {H : Hp} {vs : List V} {qs : List (Option Pn)} {i : Nat} {v : V}
theorem Wd.lenQs (W : Wd L D H) (h : isQs K CL CB vs qs ∈ D) : vs.length = qs.length := (W.fact h).len
theorem Wd.itemQ (W : Wd L D H) (h : isQs K CL CB vs qs ∈ D) (e : vs[i]? = some v) : (∃ t, qs[i]? = some (some t) ∧ Wd L (isP K CL CB v t :: D) H) ∨ (qs[i]? = some none ∧ ∃ T ∈ oddT, Wd L (isTy K v T :: D) H) := by
  rcases (W.fact h).get e with ⟨t, h1, _⟩ | ⟨h1, T, hT, _⟩
  · refine .inl ⟨t, h1, W.der isP_stab fun B b => ?_⟩
    rcases (b _ h : QsAt K CL CB B vs qs).get e with ⟨t', h1', h2⟩ | ⟨h1', _⟩
    · rw [h1] at h1'
      cases h1'
      exact h2
    · rw [h1] at h1'
      cases h1'
  · obtain ⟨B, s, d, l⟩ := W.ex
    rcases ((d _ h).2 : QsAt K CL CB B vs qs).get e with ⟨t', h1', _⟩ | ⟨_, T, hT, h2⟩
    · rw [h1] at h1'
      cases h1'
    · refine .inr ⟨h1, T, hT, ⟨⟨B, s, fun F hF => ?_, l⟩, W.nd⟩⟩
      rcases List.mem_cons.mp hF with rfl | hF
      · exact ⟨isTy_stab, h2⟩
      · exact d F hF
end
def rInDT (K : PySem.W.Frag) : R2 := fun x y H Q => ∃ d ds, Dp K H x d ∧ Dp K H y (.tuple ds) ∧ SeqAt.shaped d = true ∧ SeqAt.shaped (.tuple ds) = true ∧ Q (.bl (ds.any fun z => PyData.eqv z d)) H
def rNotInDT (K : PySem.W.Frag) : R2 := fun x y H Q => ∃ d ds, Dp K H x d ∧ Dp K H y (.tuple ds) ∧ SeqAt.shaped d = true ∧ SeqAt.shaped (.tuple ds) = true ∧ Q (.bl (!ds.any fun z => PyData.eqv z d)) H
theorem op_inDT {X : Cx} (hu : X.A.units + 65 < cLine) : OpR X (compareOp .In) (rInDT X.K) := by
  intro pins s σ H x y v u Q I rx ry h
  obtain ⟨d, ds, hd, he, sd, se, q⟩ := h
  obtain ⟨as, r1⟩ := Dp.reads I d x v hd rx
  obtain ⟨bs, r2⟩ := Dp.reads I (.tuple ds) y u he ry
  exact SeqAt.in_tuple_reads r2 r1 (SeqAt.canLay_of_shaped se) (SeqAt.canLay_of_shaped sd) (room_in_shaped sd hu) ⟨.bl _, H, I, rfl, q⟩
theorem op_notInDT {X : Cx} (hu : X.A.units + 65 < cLine) : OpR X (compareOp .NotIn) (rNotInDT X.K) := by
  intro pins s σ H x y v u Q I rx ry h
  obtain ⟨d, ds, hd, he, sd, se, q⟩ := h
  obtain ⟨as, r1⟩ := Dp.reads I d x v hd rx
  obtain ⟨bs, r2⟩ := Dp.reads I (.tuple ds) y u he ry
  exact SeqAt.notIn_tuple_reads r2 r1 (SeqAt.canLay_of_shaped se) (SeqAt.canLay_of_shaped sd) (room_in_shaped sd hu) ⟨.bl _, H, I, rfl, q⟩
def kInX (K : PySem.W.Frag) : R2 := fun x y H Q => kInG K x y H Q ∨ rInDT K x y H Q
def kNotInX (K : PySem.W.Frag) : R2 := fun x y H Q => kNotInG K x y H Q ∨ rNotInDT K x y H Q
theorem op_inX {X : Cx} (hu : X.A.units + 65 < cLine) : OpR X (compareOp .In) (kInX X.K) := (op_inGD hu).or (op_inDT hu)
theorem op_notInX {X : Cx} (hu : X.A.units + 65 < cLine) : OpR X (compareOp .NotIn) (kNotInX X.K) := (op_notInGD hu).or (op_notInDT hu)
def mergeT (acc more : List (List Key × V)) : List (List Key × V) := more.foldl (fun a kv => putK a kv.1 kv.2) acc
inductive PrsAt (K : PySem.W.Frag) (B : Hp) : List V → List (List Key × V) → Prop
  | nil : PrsAt K B [] []
  | cons {p b : Addr} {k : List Key} {v : V} {vs : List V} {kvs : List (List Key × V)} (h : SqT K B p [.ref b, v]) (hk : B b = some (.tup (k.map kV))) (r : PrsAt K B vs kvs) : PrsAt K B (.ref p :: vs) ((k, v) :: kvs)
theorem PrsAt.len {K : PySem.W.Frag} {B : Hp} : ∀ {vs : List V} {kvs : List (List Key × V)}, PrsAt K B vs kvs → vs.length = kvs.length
  | _, _, .nil => rfl
  | _, _, .cons _ _ r => congrArg Nat.succ r.len
theorem prs_of {X : Cx} {pins : List (Addr × Obj)} {σ : L2.St} {H : Hp} {s : Shared} (I : Inv X pins σ H s) : ∀ {vs : List V} {kvs : List (List Key × V)} {its : List Value}, PrsAt X.K H vs kvs → Vals vs its →
    ∃ (prs : List (List Key × Addr × Value)) (Ts : List Addr), KT H kvs prs ∧ Ts.length = prs.length ∧ its = Ts.map Value.ref ∧ ∀ (j : Nat) (q : List Key × Addr × Value), prs[j]? = some q → ∃ b : Addr, Ts[j]? = some b ∧ IsTup s.heap b #[.ref q.2.1, q.2.2]
  | _, _, _, .nil, r => by
    cases r
    exact ⟨[], [], .nil, rfl, rfl, fun j q e => by simp at e⟩
  | _, _, _, .cons (p := p) (b := b) (k := k) (v := v) h hk t, r => by
    cases r with
    | cons r1 r2 =>
      cases r1
      obtain ⟨prs, Ts, kt, hl, ei, hp⟩ := prs_of I t r2
      obtain ⟨tis, rv, ht, _⟩ := I.tuple h
      obtain ⟨u, y, e2, ru, ry⟩ := vals2 rv
      subst e2
      cases ru
      refine ⟨(k, b, y) :: prs, p :: Ts, .cons ⟨rfl, hk, ry⟩ kt, by rw [List.length_cons, List.length_cons, hl], by rw [ei]; rfl, fun j q e => ?_⟩
      cases j with
      | zero =>
        have e' : (k, b, y) = q := Option.some.inj e
        subst e'
        exact ⟨p, rfl, ht⟩
      | succ j =>
        obtain ⟨c, e1, e3⟩ := hp j q (by simpa using e)
        exact ⟨c, by simpa using e1, e3⟩
theorem kt_all {H : Hp} : ∀ {kvs acc : List (List Key × V)} {prs xs : List (List Key × Addr × Value)}, KT H kvs prs → KT H acc xs → KT H (mergeT acc kvs) (storedAllH xs prs)
  | _, _, _, _, .nil, h => h
  | _, _, _, _, .cons (a := kv) (b := q) h t, ha => by
    obtain ⟨h1, h2, h3⟩ := h
    have hp := ha.put kv.1 h2 h3
    have := kt_all t hp
    show KT H _ (storedAllH (storedH _ q.1 q.2.1 q.2.2) _)
    rw [← h1]
    exact this
def kDictT (K : PySem.W.Frag) : List V → Hp → VK → Prop := fun xs H Q => ∃ a vs kvs, xs = [.ref a] ∧ SqL K H a vs ∧ PrsAt K H vs kvs ∧ ∀ p, H p = none → Q (.ref p) (upd H p (.dT (mergeT [] kvs)))
theorem callDictT {X : Cx} (hcalm : X.calm = true) (hu : X.A.units + 9 < cLine) : CallR X (.type "dict") (kDictT X.K) := by
  intro pins s σ H xs us Q I r h
  obtain ⟨a, vs, kvs, rfl, hq, hp, q⟩ := h
  obtain ⟨u, rfl, rx⟩ := vals1 r
  cases rx
  obtain ⟨its, rv, pl, hz⟩ := I.list hq
  obtain ⟨prs, Ts, kt, hl, ei, hpr⟩ := prs_of I hp rv
  subst ei
  obtain ⟨o, n, ho, hc, hd, hdat⟩ := pl
  have hlk : kvs.length = prs.length := Paired.length kt
  have hln : prs.length ≤ sizeLine := by
    have := rv.length
    rw [List.length_map] at this
    omega
  have P := PairArg.list (prog := X.prog) (w := X.w) a (Ts.map Value.ref).toArray (fun j => Ts.getD j 0) (prs.map fun q => (Value.ref q.2.1, q.2.2))
  refine PySem.call_dict_pairsH (knd := tupleKind (mixKind X.prog X.w)) (ps := prs) P (I.ok.hd hcalm) (tupleKind_room_in1 (A := X.A.in1) (by show X.A.units + 1 + 1 < cLine; omega)) ⟨⟨o, n, ho, hc, hd, hdat⟩, ?_⟩ ⟨by simp, fun i key v e => ?_⟩ (fun h' hk x hx => ?_) (by simpa using hln) fun h' tk dd hk => ?_
  · refine ⟨by simp [hl], fun j k v e => ?_⟩
    rw [List.getElem?_map] at e
    obtain ⟨x, hx, ex⟩ := Option.map_eq_some_iff.mp e
    cases ex
    obtain ⟨b, e1, e2⟩ := hpr j x hx
    refine ⟨by simp [e1, List.getD_eq_getElem?_getD], .inl ?_⟩
    show s.heap.IsTuple (Ts.getD j 0) _
    rw [show Ts.getD j 0 = b from by simp [List.getD_eq_getElem?_getD, e1]]
    exact e2
  · have e : (prs.map fun q => (Value.ref q.2.1, q.2.2))[i]? = some (key, v) := e
    rw [List.getElem?_map] at e
    obtain ⟨x, hx, ex⟩ := Option.map_eq_some_iff.mp e
    cases ex
    exact ⟨x.1, x.2.1, hx, rfl⟩
  · obtain ⟨j, hj⟩ := List.mem_iff_getElem?.mp hx
    have hb : H x.2.1 = some (.tup (x.1.map kV)) := by
      obtain ⟨kv, hkv⟩ : ∃ kv, kvs[j]? = some kv := ⟨kvs[j]'(by rw [hlk]; exact (List.getElem?_eq_some_iff.mp hj).1), List.getElem?_eq_getElem _⟩
      have key : ∀ {l : List (List Key × V)} {m : List (List Key × Addr × Value)}, KT H l m → ∀ x ∈ m, H x.2.1 = some (.tup (x.1.map kV)) := by
        intro l m z
        induction z with
        | nil => intro x hx; exact nomatch hx
        | @cons p q ps qs hq t ih =>
          intro x hx
          rcases List.mem_cons.mp hx with e | hx
          · subst e
            rw [← hq.1]
            exact hq.2.1
          · exact ih x hx
      exact key kt x hx
    have k0 := key_of I.hok hb
    obtain ⟨o', its', n', g1, g2, g3, g4⟩ := k0
    exact ⟨o', its', n', hk _ _ (Nat.ne_of_lt (Heap.lt_size g1)) (fun z => nomatch z) g1, g2, g3, g4⟩
  · have kp : ∀ b o, s.heap.get? b = some o → h'.get? b = some o := fun b o e => hk b o (fun z => nomatch z) e
    have hm : (s.heap.objs.size == sysModules) = false := beq_eq_false_iff_ne.mpr (Nat.ne_of_gt I.big)
    obtain ⟨q', es, ep, hq', h2, h3, h4, _, h5⟩ := dd
    have kt2 := kt_all kt (.nil : KT H [] [])
    have hlen : (mergeT [] kvs).length ≤ sizeLine := by
      rw [Paired.length kt2]
      have := storedAllH_length prs ([] : List (List Key × Addr × Value))
      simp at this
      omega
    have fr : H s.heap.objs.size = none := I.hok.fresh (Nat.le_refl _)
    refine ⟨.ref s.heap.objs.size, upd H s.heap.objs.size (.dT (mergeT [] kvs)), I.laid (t' := tk) kp (Nat.le_refl _) (show ObjOk X.prog X.w _ _ _ (.dT (mergeT [] kvs)) from ⟨hlen, hm, storedAllH [] prs, kt2.keeps fun c ys ec => ?_, q', es, ep, hq', h2, h3, h4, h5⟩), rfl, q _ fr⟩
    rw [upd_ne (ne_of_none ec fr)]
    exact ec
def mergeT_new : ∀ {kvs acc : List (List Key × V)}, ((acc ++ kvs).map (·.1)).Nodup → mergeT acc kvs = acc ++ kvs
  | [], acc, _ => by rw [List.append_nil]; rfl
  | kv :: kvs, acc, h => by
    have hn : valV acc kv.1 = none := by
      have : (acc.any fun z => decide (z.1 = kv.1)) = false := by
        rw [List.any_eq_false]
        intro z hz e
        have e := of_decide_eq_true e
        rw [List.map_append, List.map_cons] at h
        have := (List.nodup_append.mp h).2.2 z.1 (List.mem_map.mpr ⟨z, hz, rfl⟩) kv.1 List.mem_cons_self
        exact this e
      rw [valV_any] at this
      cases hv : valV acc kv.1 with
      | none => rfl
      | some _ => rw [hv] at this; cases this
    show mergeT (putK acc kv.1 kv.2) kvs = _
    rw [putK_new kv.2 hn, mergeT_new (by simpa using h)]
    simp
section
variable {K : PySem.W.Frag} {L : Ow} {D : List Fct} {H : Hp} {Q : VK} {p q : Addr} {xs ys : List V}
theorem k_catI (W : Wd ((q, .tup ys) :: L) D H) (h1 : isI p (.tup xs) ∈ D) (hy : ys ≠ []) (hl : xs.length + ys.length ≤ 1000000) (k : ∀ r H', Wd L (isI r (.tup (xs ++ ys)) :: D) H' → Q (.ref r) H') : kAdd K (.ref p) (.ref q) H Q := by
  refine .inr (.inr (.inr ⟨p, q, xs, ys, rfl, rfl, SqT.of (W.atI h1), W.st List.mem_cons_self, sl_of hl, fun e => ?_, fun _ e => absurd e hy, fun _ _ r hr => ?_⟩))
  · subst e
    exact k q H W.frzI
  · exact k r _ (W.new hr _).frzI.dO
end
theorem lt9 {n c : Nat} (h : n + 64 < c) : n + 9 < c := by omega
def kEqDi (K : PySem.W.Frag) : R2 := fun x y H Q => kEq K x y H Q ∨ ∃ a b kvs, x = .ref a ∧ y = .ref b ∧ H a = some (.dK kvs) ∧ H b = some (.dK kvs) ∧ (kvs.map (·.1)).Nodup ∧ (∀ p ∈ kvs, flatB p.2 = true) ∧ Q (.bl true) H
theorem op_eqDi {X : Cx} (hu : X.A.units + 64 < cLine) : OpR X (compareOp .Eq) (kEqDi X.K) := (op_eqG hu).or (op_eq_dict (by omega))
abbrev ZR (h : Heap) (z TI TO : Addr) (u : Value) (f : Bool) : Prop := h.get? z = some { cls := .type "zip", dict := none, data := .fields #[u, .bool f, .bool false, .ref TI, .ref TO], slots := #[] }
def U0 (u : Value) : Prop := u = .none ∨ ∃ T : Nat, u = rawInt (T : Int)
section
variable {prog : Program} {w : World} {A : Around} {E : Value → Shared → Prop} {s : Shared} {z TI TO i1 i2 : Addr} {u : Value} {f : Bool}
theorem zn_free {Q : Bool → Shared → Prop} (o : ZR s.heap z TI TO u f) (hu : U0 u) (yes : Q true s) (no : ∀ h' f', ZR h' z TI TO u f' → Heap.SameBut z s.heap h' → Q false { s with heap := h' }) :
    wpAny (model prog w) A (Builtin.SmallTypes.ownedTupleIsFree (.ref z)) Q E s := by
  unfold Builtin.SmallTypes.ownedTupleIsFree
  rcases hu with rfl | ⟨T, rfl⟩
  · exact wpAny_bind (wpAny_field o rfl (x := .none) rfl (wpAny_pure yes))
  refine wpAny_bind (wpAny_field o rfl (x := rawInt (T : Int)) rfl ?_)
  show wpAny _ _ (loadIfAlive ((T : Int)).toNat >>= _) _ _ _
  rw [Int.toNat_natCast]
  have step : ∀ {R : Option Obj → Shared → Prop}, R (s.heap.get? T) s → wpAny (model prog w) A (loadIfAlive T) R E s := fun r => fun _ _ _ => r
  refine wpAny_bind (step ?_)
  cases s.heap.get? T with
  | none => exact wpAny_pure yes
  | some oT =>
    show wpAny _ _ (field (.ref z) 1 >>= _) _ _ _
    refine wpAny_bind (wpAny_field o rfl (x := .bool f) rfl ?_)
    cases f with
    | true => exact wpAny_pure (no s.heap true o (Heap.SameBut.refl _ _))
    | false => exact wpAny_bind (wpAny_setField_rec o (by simp) fun h1 o1 k1 => wpAny_pure (no h1 true o1 k1))
variable {fp1 fp2 : List Addr} {n1 n2 i : Nat} {P1 P2 : Nat → Value → Prop} {St1 St2 : Nat → Heap → Prop} {a1 a2 : Value}
theorem zn_item {Q : Value → Shared → Prop} (S : ZipSep2 z TI TO i1 i2 fp1 fp2) (D1 : Draws prog w A i1 fp1 n1 P1 St1) (D2 : Draws prog w A i2 fp2 n2 P2 St2) (o : ZR s.heap z TI TO u f) (hu : U0 u)
    (oI : IsTupOf2 s.heap TI (.ref i1) (.ref i2)) (oO : IsTupOf2 s.heap TO a1 a2) (q1 : St1 i s.heap) (q2 : St2 i s.heap) (l1 : i < n1) (l2 : i < n2)
    (hQ : ∀ x y h' tk u' f', P1 i x → P2 i y → U0 u' → ZR h' z TI TO u' f' → (∃ b1 b2, IsTupOf2 h' TO b1 b2) → St1 (i + 1) h' → St2 (i + 1) h' → IsTupOf2 h' s.heap.objs.size x y → h'.objs.size = s.heap.objs.size + 1 →
      (∀ c ob, c ≠ z → c ≠ TO → c ≠ i1 → c ≠ i2 → s.heap.get? c = some ob → h'.get? c = some ob) → Q (.ref s.heap.objs.size) { s with heap := h', toks := tk }) :
    wpAny (model prog w) A (Builtin.«zip.__next__» ⟨[.ref z], []⟩) (fun fin s' => ∃ v, fin = .done (.ret v) ∧ Q v s') E s := by
  obtain ⟨H0, gl, dr, t0, os⟩ := s
  show wpAny _ _ (field (.ref z) 2 >>= _) _ _ _
  refine wpAny_bind (wpAny_field o rfl (x := .bool false) rfl ?_)
  show wpAny _ _ (field (.ref z) 3 >>= _) _ _ _
  refine wpAny_bind (wpAny_field o rfl (x := .ref TI) rfl ?_)
  refine wpAny_bind (wpAny_seqItems oI rfl ?_)
  show wpAny _ _ (Builtin.SmallTypes.ownedTupleIsFree (.ref z) >>= _) _ _ _
  refine wpAny_bind (zn_free o hu ?_ ?_)
  · simp only [if_true]
    refine wpAny_bind (wpAny_rule ?_)
    refine wpAny_bind (wpAny_field o rfl (x := .ref TO) rfl ?_)
    refine wpAny_bind (wpAny_setField_rec o (by simp) fun H1 o1 k1 => ?_)
    replace o1 : ZR H1 z TI TO .ellipsis f := o1
    replace k1 : Heap.SameBut z H0 H1 := k1
    refine wpAny_bind ?_
    simp only [List.zipIdx_cons, List.zipIdx_nil, List.forIn_cons, List.forIn_nil]
    refine wpAny_bind (wpAny_bind (wpAny_onRaise ?_))
    show wpAny _ _ (Builtin.SmallTypes.nextOf (.ref i1) >>= _) _ _ ⟨H1, gl, dr, t0, os⟩
    refine wpAny_bind (D1.item i _ _ _ l1 (D1.over q1 k1 S.zf1) fun x H2 t2 px r1 k2 => wpAny_pure ?_)
    replace k2 : Heap.SameBut i1 H1 H2 := k2
    have oO2 : IsTupOf2 H2 TO a1 a2 := k2.extBut _ _ S.Ti1 (k1.extBut _ _ S.TOz oO)
    refine wpAny_bind (wpAny_seqItems (s := ⟨H2, gl, dr, t2, os⟩) oO2 rfl ?_)
    refine wpAny_bind (updateSeq_IsTupOf2 (s := ⟨H2, gl, dr, t2, os⟩) oO2 fun H3 oO3 k3 => ?_)
    replace oO3 : IsTupOf2 H3 TO x a2 := oO3
    replace k3 : Heap.SameBut TO H2 H3 := k3
    refine wpAny_bind (wpAny_letGo (wpAny_pure ?_))
    refine wpAny_bind (wpAny_bind (wpAny_onRaise ?_))
    show wpAny _ _ (Builtin.SmallTypes.nextOf (.ref i2) >>= _) _ _ ⟨H3, gl, dr, t2, os⟩
    refine wpAny_bind (D2.item i _ _ _ l2 (D2.over (D2.over (D2.over q2 k1 S.zf2) k2 S.sep1_2) k3 S.Tf2) fun y H4 t4 py r2 k4 => wpAny_pure ?_)
    replace k4 : Heap.SameBut i2 H3 H4 := k4
    have oO4 : IsTupOf2 H4 TO x a2 := k4.extBut _ _ S.Ti2 oO3
    refine wpAny_bind (wpAny_seqItems (s := ⟨H4, gl, dr, t4, os⟩) oO4 rfl ?_)
    refine wpAny_bind (updateSeq_IsTupOf2 (s := ⟨H4, gl, dr, t4, os⟩) oO4 fun H5 oO5 k5 => ?_)
    replace oO5 : IsTupOf2 H5 TO x y := oO5
    replace k5 : Heap.SameBut TO H4 H5 := k5
    refine wpAny_bind (wpAny_letGo (wpAny_pure (wpAny_pure ?_)))
    refine wpAny_bind (wpAny_seqItems (s := ⟨H5, gl, dr, t4, os⟩) oO5 rfl ?_)
    refine wpAny_bind (wpAny_newTuple ?_)
    have sz : H5.objs.size = H0.objs.size := by rw [k5.1, k4.1, k3.1, k2.1, k1.1]
    have o5 : ZR H5 z TI TO .ellipsis f := k5.extBut _ _ S.TOz.symm (k4.extBut _ _ S.zi2 (k3.extBut _ _ S.TOz.symm (k2.extBut _ _ S.zi1 o1)))
    have fr5 : ∀ c ob, c ≠ z → c ≠ TO → c ≠ i1 → c ≠ i2 → H0.get? c = some ob → H5.get? c = some ob := fun c ob e1 e2 e3 e4 e => k5.extBut _ _ e2 (k4.extBut _ _ e4 (k3.extBut _ _ e2 (k2.extBut _ _ e3 (k1.extBut _ _ e1 e))))
    have s1 : St1 (i + 1) H5 := D1.over (D1.over (D1.over r1 k3 S.Tf1) k4 S.sep2_1) k5 S.Tf1
    have s2 : St2 (i + 1) H5 := D2.over r2 k5 S.Tf2
    have zl : z < H5.objs.size := Heap.lt_size o5
    show wpAny _ _ (Builtin.SmallTypes.ownedTupleHandOut (.ref z) (.ref H5.objs.size) >>= _) _ _ ⟨H5.push { cls := .type "tuple", data := .seq #[x, y] }, gl, dr, t4, os⟩
    refine wpAny_bind ?_
    unfold Builtin.SmallTypes.ownedTupleHandOut
    have o6 : ZR (H5.push { cls := .type "tuple", data := .seq #[x, y] }) z TI TO .ellipsis f := Heap.get?_push_of_some _ o5
    refine wpAny_bind (wpAny_setField_rec o6 (by simp) fun H7 o7 k7 => ?_)
    replace o7 : ZR H7 z TI TO (rawInt H5.objs.size) f := o7
    replace k7 : Heap.SameBut z (H5.push { cls := .type "tuple", data := .seq #[x, y] }) H7 := k7
    refine wpAny_setField_rec o7 (by simp) fun H8 o8 k8 => ?_
    replace o8 : ZR H8 z TI TO (rawInt H5.objs.size) false := o8
    replace k8 : Heap.SameBut z H7 H8 := k8
    have up : ∀ c ob, c ≠ z → H5.get? c = some ob → H8.get? c = some ob := fun c ob e1 e => k8.extBut _ _ e1 (k7.extBut _ _ e1 (Heap.get?_push_of_some _ e))
    have oT : IsTupOf2 H8 H5.objs.size x y := k8.extBut _ _ (Nat.ne_of_gt zl) (k7.extBut _ _ (Nat.ne_of_gt zl) (Heap.get?_push_size _ rfl))
    have sz8 : H8.objs.size = H5.objs.size + 1 := by rw [k8.1, k7.1, Heap.size_push]
    refine wpAny_pure ⟨_, rfl, ?_⟩
    show Q (.ref H5.objs.size) ⟨H8, gl, dr, t4, os⟩
    rw [sz] at oT sz8 ⊢
    exact hQ x y H8 t4 _ false px py (.inr ⟨_, rfl⟩) o8 ⟨x, y, up _ _ S.TOz oO5⟩ (D1.frame _ _ _ s1 fun b hb ob e => up b ob (fun q => S.zf1 (q ▸ hb)) e) (D2.frame _ _ _ s2 fun b hb ob e => up b ob (fun q => S.zf2 (q ▸ hb)) e) oT sz8 fun c ob e1 e2 e3 e4 e => up c ob e1 (fr5 c ob e1 e2 e3 e4 e)
  · intro H1 f1 o1 k1
    replace k1 : Heap.SameBut z H0 H1 := k1
    simp only [Bool.false_eq_true, if_false]
    refine wpAny_bind ?_
    rw [← Array.forIn_toList]
    simp only [List.forIn_cons, List.forIn_nil]
    refine wpAny_bind (wpAny_bind (wpAny_holding ?_))
    show wpAny _ _ (Builtin.SmallTypes.nextOf (.ref i1) >>= _) _ _ ⟨H1, gl, dr, t0, os⟩
    refine wpAny_bind (D1.item i _ _ _ l1 (D1.over q1 k1 S.zf1) fun x H2 t2 px r1 k2 => wpAny_pure ?_)
    replace k2 : Heap.SameBut i1 H1 H2 := k2
    refine wpAny_pure ?_
    refine wpAny_bind (wpAny_bind (wpAny_holding ?_))
    show wpAny _ _ (Builtin.SmallTypes.nextOf (.ref i2) >>= _) _ _ ⟨H2, gl, dr, t2, os⟩
    refine wpAny_bind (D2.item i _ _ _ l2 (D2.over (D2.over q2 k1 S.zf2) k2 S.sep1_2) fun y H4 t4 py r2 k4 => wpAny_pure ?_)
    replace k4 : Heap.SameBut i2 H2 H4 := k4
    refine wpAny_pure (wpAny_pure ?_)
    show wpAny _ _ (newTuple [x, y] >>= _) _ _ _
    refine wpAny_bind (wpAny_newTuple ?_)
    have sz : H4.objs.size = H0.objs.size := by rw [k4.1, k2.1, k1.1]
    have o4 : ZR H4 z TI TO u f1 := k4.extBut _ _ S.zi2 (k2.extBut _ _ S.zi1 o1)
    have fr4 : ∀ c ob, c ≠ z → c ≠ i1 → c ≠ i2 → H0.get? c = some ob → H4.get? c = some ob := fun c ob e1 e3 e4 e => k4.extBut _ _ e4 (k2.extBut _ _ e3 (k1.extBut _ _ e1 e))
    have s1 : St1 (i + 1) H4 := D1.over r1 k4 S.sep2_1
    have oT : IsTupOf2 (H4.push { cls := .type "tuple", data := .seq #[x, y] }) H4.objs.size x y := Heap.get?_push_size _ rfl
    have sz8 : (H4.push { cls := .type "tuple", data := .seq #[x, y] }).objs.size = H4.objs.size + 1 := Heap.size_push ..
    refine wpAny_pure ⟨_, rfl, ?_⟩
    show Q (.ref H4.objs.size) ⟨H4.push { cls := .type "tuple", data := .seq #[x, y] }, gl, dr, t4, os⟩
    rw [sz] at oT sz8 ⊢
    exact hQ x y _ t4 u f1 px py hu (Heap.get?_push_of_some _ o4) ⟨a1, a2, Heap.get?_push_of_some _ (fr4 TO _ S.TOz S.Ti1 S.Ti2 oO)⟩ (D1.frame _ _ _ s1 fun b _ ob e => Heap.get?_push_of_some _ e) (D2.frame _ _ _ r2 fun b _ ob e => Heap.get?_push_of_some _ e) oT sz8 fun c ob e1 _ e3 e4 e => Heap.get?_push_of_some _ (fr4 c ob e1 e3 e4 e)
theorem zn_end {Q : Fin → Shared → Prop} (S : ZipSep2 z TI TO i1 i2 fp1 fp2) (D1 : Draws prog w A i1 fp1 n1 P1 St1) (o : ZR s.heap z TI TO u f) (hu : U0 u) (oI : IsTupOf2 s.heap TI (.ref i1) (.ref i2)) (oO : IsTupOf2 s.heap TO a1 a2) (q1 : St1 n1 s.heap)
    (hE : ∀ h' tk e, (∀ c ob, c ≠ z → c ≠ i1 → s.heap.get? c = some ob → h'.get? c = some ob) → (∃ ob, h'.get? e = some ob ∧ ob.cls = .type "StopIteration") → E (.ref e) { s with heap := h', toks := tk }) :
    wpAny (model prog w) A (Builtin.«zip.__next__» ⟨[.ref z], []⟩) Q E s := by
  obtain ⟨H0, gl, dr, t0, os⟩ := s
  show wpAny _ _ (field (.ref z) 2 >>= _) _ _ _
  refine wpAny_bind (wpAny_field o rfl (x := .bool false) rfl ?_)
  show wpAny _ _ (field (.ref z) 3 >>= _) _ _ _
  refine wpAny_bind (wpAny_field o rfl (x := .ref TI) rfl ?_)
  refine wpAny_bind (wpAny_seqItems oI rfl ?_)
  show wpAny _ _ (Builtin.SmallTypes.ownedTupleIsFree (.ref z) >>= _) _ _ _
  refine wpAny_bind (zn_free o hu ?_ ?_)
  · simp only [if_true]
    refine wpAny_bind (wpAny_rule ?_)
    refine wpAny_bind (wpAny_field o rfl (x := .ref TO) rfl ?_)
    refine wpAny_bind (wpAny_setField_rec o (by simp) fun H1 o1 k1 => ?_)
    replace o1 : ZR H1 z TI TO .ellipsis f := o1
    replace k1 : Heap.SameBut z H0 H1 := k1
    refine wpAny_bind ?_
    simp only [List.zipIdx_cons, List.zipIdx_nil, List.forIn_cons, List.forIn_nil]
    refine wpAny_bind (wpAny_bind (wpAny_onRaise ?_))
    show wpAny _ _ (Builtin.SmallTypes.nextOf (.ref i1) >>= _) _ _ ⟨H1, gl, dr, t0, os⟩
    refine wpAny_bind (D1.done ⟨H1, gl, dr, t0, os⟩ _ _ (D1.over q1 k1 S.zf1) fun H2 e k2 he => ?_)
    replace k2 : Heap.ExtBut i1 H1 H2 := k2
    obtain ⟨oe, ge, ce⟩ := he
    replace ge : H2.get? e = some oe := ge
    have o2 : ZR H2 z TI TO .ellipsis f := k2 _ _ S.zi1 o1
    have ez : e ≠ z := fun q => by
      subst q
      rw [o2] at ge
      cases ge
      simp at ce
    refine wpAny_setField_rec (s := ⟨H2, gl, dr, t0, os⟩) o2 (by simp) fun H3 _ k3 => ?_
    replace k3 : Heap.SameBut z H2 H3 := k3
    exact hE H3 t0 e (fun c ob e1 e2 q => k3.extBut _ _ e1 (k2 _ _ e2 (k1.extBut _ _ e1 q))) ⟨oe, k3.extBut _ _ ez ge, ce⟩
  · intro H1 f1 o1 k1
    replace k1 : Heap.SameBut z H0 H1 := k1
    simp only [Bool.false_eq_true, if_false]
    refine wpAny_bind ?_
    rw [← Array.forIn_toList]
    simp only [List.forIn_cons, List.forIn_nil]
    refine wpAny_bind (wpAny_bind (wpAny_holding ?_))
    show wpAny _ _ (Builtin.SmallTypes.nextOf (.ref i1) >>= _) _ _ ⟨H1, gl, dr, t0, os⟩
    refine wpAny_bind (D1.done ⟨H1, gl, dr, t0, os⟩ _ _ (D1.over q1 k1 S.zf1) fun H2 e k2 he => ?_)
    exact hE H2 t0 e (fun c ob e1 e2 q => k2 _ _ e2 (k1.extBut _ _ e1 q)) he
end
def ItzN (K : PySem.W.Frag) (a b : Addr) : It :=
  ⟨fun i H => ∃ (xs ys : List V) (x y : V), SqT K H a xs ∧ SqL K H b ys ∧ xs[i]? = some x ∧ ys[i]? = some y,
    fun i H v H' => ∃ T x y, v = .ref T ∧ H T = none ∧ H' = upd H T (.tup [x, y]) ∧ (∀ xs, SqT K H a xs → xs[i]? = some x) ∧ ∀ ys, SqL K H b ys → ys[i]? = some y,
    fun i H => ∃ xs ys : List V, SqT K H a xs ∧ SqL K H b ys ∧ i = xs.length⟩
theorem zr_iter {prog : Program} {w : World} {A : Around} {s : Shared} {z TI TO : Addr} {u : Value} {f : Bool} {Q E : Value → Shared → Prop} (o : ZR s.heap z TI TO u f) (h : Q (.ref z) s) : wpAny (model prog w) A (pyIter (.ref z)) Q E s := by
  have ty : s.TypeIs (.ref z) "zip" := ⟨_, o, rfl⟩
  exact wpAny_pyIter_slot ty F.slot_zip_iter (wpAny_call_entry F.slot_zip_iter ty F.entry_zip_iter (show wpAny _ _ (ret (.ref z)) _ _ s from wpAny_pure ⟨_, rfl, "zip", _, ty, F.slot_zip_next.lookup, h⟩) (F.args_zip_iter_1 _))
theorem turn_zipN {P : Program} {w : World} {K : PySem.W.Frag} {nm : Str} {tp : Pos} {a b z TI TO i1 i2 : Addr} (D : Zap z TI TO i1 i2 a b) :
    Turn P w K (.Name nm tp) (ItzN K a b) [z, TI, TO, i1, i2] z (fun i h => (∃ u f, U0 u ∧ ZR h z TI TO u f) ∧ IsTupOf2 h TI (.ref i1) (.ref i2) ∧ (∃ x y, IsTupOf2 h TO x y) ∧ h.IsTupleIter i1 a i ∧ h.IsListIter i2 b i) where
  mem := by simp
  obj := fun i h st c hc => by
    obtain ⟨⟨u, f, _, hz⟩, hTI, ⟨x, y, hTO⟩, ⟨o1, e1, _, d1⟩, ⟨o2, e2, _, d2⟩⟩ := st
    have e' : c = z ∨ c = TI ∨ c = TO ∨ c = i1 ∨ c = i2 := by simpa using hc
    rcases e' with rfl | rfl | rfl | rfl | rfl
    · exact ⟨_, hz, fun v q => nomatch q⟩
    · exact ⟨_, hTI, fun v q => nomatch q⟩
    · exact ⟨_, hTO, fun v q => nomatch q⟩
    · exact ⟨o1, e1, fun v q => by rw [d1] at q; cases q⟩
    · exact ⟨o2, e2, fun v q => by rw [d2] at q; cases q⟩
  keep := fun i h h' st k => by
    obtain ⟨⟨u, f, hu, hz⟩, hTI, ⟨x, y, hTO⟩, h1, h2⟩ := st
    exact ⟨⟨u, f, hu, k z (by simp) _ hz⟩, k TI (by simp) _ hTI, ⟨x, y, k TO (by simp) _ hTO⟩, h1.at fun o q => k i1 (by simp) o q, h2.at fun o q => k i2 (by simp) o q⟩
  item := by
    intro X hP hw hK hc i pins s σ H E I hf st hg
    subst hP hw hK
    obtain ⟨⟨u, f, hu, hz⟩, hTI, ⟨x0, y0, hTO⟩, h1, h2⟩ := st
    obtain ⟨xs, ys, x, y, hqx, hqy, hx, hy⟩ := hg
    obtain ⟨its, rv, p, _⟩ := I.tuple hqx
    obtain ⟨its2, rv2, p2, _⟩ := I.list hqy
    obtain ⟨v1, hv1, ru⟩ := rv.get hx
    obtain ⟨v2, hv2, ru2⟩ := rv2.get hy
    have zl : z < s.heap.objs.size := Heap.lt_size hz
    have n1 : i < its.toArray.size := by simpa using (List.getElem?_eq_some_iff.mp hv1).1
    have n2 : i < its2.toArray.size := by simpa using (List.getElem?_eq_some_iff.mp hv2).1
    have ty : s.TypeIs (.ref z) "zip" := ⟨_, hz, rfl⟩
    unfold pyNext
    refine wpAny_bind (wpAny_attempt (wpAny_callSpecial?_slot (name := Str.ofString "__next__") ty F.slot_zip_next (wpAny_call_entry F.slot_zip_next ty F.entry_zip_next
      (zn_item D.sep (Draws.tuple (prog := X.prog) (w := X.w) (A := X.A.in1) (I.ok.hd hc) i1 a D.s4 its.toArray) (Draws.list (prog := X.prog) (w := X.w) (A := X.A.in1) (I.ok.hd hc) i2 b D.s5 its2.toArray)
        hz hu hTI hTO ⟨h1, p⟩ ⟨h2, p2.isList⟩ n1 n2 fun x1 x2 h' tk u' f' y1 y2 hu' z' TO' t1 t2 hT hsz hk => wpAny_pure ?_) (F.args_zip_next_1 _))))
    obtain rfl : x1 = v1 := Option.some.inj (y1.symm.trans (by simpa using hv1))
    obtain rfl : x2 = v2 := Option.some.inj (y2.symm.trans (by simpa using hv2))
    have new : ObjOk X.prog X.w (upd H s.heap.objs.size (.tup [x, y])) h' s.heap.objs.size (.tup [x, y]) :=
      ⟨by show 2 ≤ sizeLine; decide, [x1, x2], .cons ru (.cons ru2 .nil), ⟨_, hT, rfl, _, rfl⟩⟩
    have I1 : Inv X pins σ (upd H s.heap.objs.size (.tup [x, y])) { s with heap := h', toks := tk } :=
      I.turnedNew (t' := tk) (ch := [z, TI, TO, i1, i2]) (fun c o hb q => hk c o (fun q' => hb (by simp [q'])) (fun q' => hb (by simp [q'])) (fun q' => hb (by simp [q'])) (fun q' => hb (by simp [q'])) q) hf (Nat.le_refl _) new
    have eTI : IsTupOf2 h' TI (.ref i1) (.ref i2) := hk _ _ D.q1 D.q3 D.q4 D.q5 hTI
    refine ⟨_, rfl, wpAny_pure ⟨.ref s.heap.objs.size, _, I1, rfl, ⟨_, x, y, rfl, I.hok.fresh (Nat.le_refl _), rfl, fun l hl => by rw [I.tuple_inj hl hqx]; exact hx, fun l hl => by rw [I.list_inj hl hqy]; exact hy⟩, ⟨⟨u', f', hu', z'⟩, eTI, TO', t1.1, t2.1⟩, fun c hcm => ?_⟩⟩
    have hlt : c < s.heap.objs.size := by
      have e' : c = z ∨ c = TI ∨ c = TO ∨ c = i1 ∨ c = i2 := by simpa using hcm
      rcases e' with rfl | rfl | rfl | rfl | rfl
      · exact zl
      · exact Heap.lt_size hTI
      · exact Heap.lt_size hTO
      · obtain ⟨_, e1, _⟩ := h1; exact Heap.lt_size e1
      · obtain ⟨_, e2, _⟩ := h2; exact Heap.lt_size e2
    rw [upd_ne (Nat.ne_of_lt hlt)]
    exact (hf c hcm).1
  done := by
    intro X hP hw hK hc i pins s σ H E I hf st hg
    subst hP hw hK
    obtain ⟨⟨u, f, hu, hz⟩, hTI, ⟨x0, y0, hTO⟩, h1, h2⟩ := st
    obtain ⟨xs, ys, hqx, hqy, hend⟩ := hg
    obtain ⟨its, rv, p, _⟩ := I.tuple hqx
    obtain ⟨its2, rv2, p2, _⟩ := I.list hqy
    have l1 := rv.length
    have ty : s.TypeIs (.ref z) "zip" := ⟨_, hz, rfl⟩
    have hi : i = its.toArray.size := by simp; omega
    rw [hi] at h1
    unfold pyNext
    refine wpAny_bind (wpAny_attempt (wpAny_callSpecial?_slot (name := Str.ofString "__next__") ty F.slot_zip_next (wpAny_call_entry F.slot_zip_next ty F.entry_zip_next
      (zn_end (fp2 := [i2, b]) D.sep (Draws.tuple (prog := X.prog) (w := X.w) (A := X.A.in1) (I.ok.hd hc) i1 a D.s4 its.toArray) hz hu hTI hTO ⟨h1, p⟩ fun h' tk e hk he => ?_) (F.args_zip_next_1 _))))
    obtain ⟨o, ho, hcl⟩ := he
    refine wpAny_bind (wpAny_isInstance (T := "StopIteration") (b := true) ⟨o, ho, hcl⟩ isSubtype_stop ?_)
    exact wpAny_pure ⟨rfl, I.turnedL (t' := tk) (ch := [z, TI, TO, i1, i2]) (fun c o hb q => hk c o (fun q' => hb (by simp [q'])) (fun q' => hb (by simp [q'])) q) hf⟩
  self := fun A i s Q E st h => let ⟨⟨u, f, _, hz⟩, _⟩ := st; zr_iter hz h
def kZipN (K : PySem.W.Frag) (vs : List V) (H : Hp) (R : It → Hp → Prop) : Prop := ∃ a b xs ys, vs = [.ref a, .ref b] ∧ SqT K H a xs ∧ SqL K H b ys ∧ R (ItzN K a b) H
def iZipN (K : PySem.W.Frag) (ta : TA) : TI := fun σ H R => ta σ H fun vs H1 => kZipN K vs H1 R
@[reducible] def rZipN (K : PySem.W.Frag) (ta : TA) : TI := fun σ H R => ta σ H fun vs H1 => kZipN K vs H1 R
theorem pi_zipN {X : Cx} {e e2 : Expr} {ta : TA} {p pos tpos : Pos} {nm : Str} (hg : Gl X "zip") (hm : X.mg "zip" = none) (ha : PA X [e, e2] ta)
    (hs : starEach [e, e2] X.env = (false, eval e X.env) :: starEach [e2] X.env := by rfl) (hpl : (backTo pos (starEach [e2] X.env)).any (·.1) = false := by rfl) :
    PI X (.Name nm tpos) (.Call (.Name "zip" p) [e, e2] [] pos) (iZipN X.K ta) := by
  refine ⟨fun pins s σ H R I h => ?_⟩
  refine Call_ (ld_blt I hg hm PyProof.Rows.boot_zip (PyProof.Rows.callWith_type1 (thn (ha.run pos pins s σ H _ I h) fun us s1 ⟨vs, H1, I1, r1, q1⟩ => ?_) hs hpl))
  obtain ⟨a, b, xs, ys, rfl, hqx, hqy, q⟩ := q1
  cases r1 with
  | cons r rr =>
    cases rr with
    | cons r' rr =>
      cases rr
      cases r
      cases r'
      have fresh5 : ∀ c, c ∈ [s1.heap.objs.size + 4, s1.heap.objs.size + 2, s1.heap.objs.size + 3, s1.heap.objs.size, s1.heap.objs.size + 1] → FpOk X pins H1 c := fun c hcm => by
        have hle : s1.heap.objs.size ≤ c := five_le (by simpa using hcm)
        exact I1.fpOk hle (I1.hok.fresh hle)
      obtain ⟨its, rv, p1, _⟩ := I1.tuple hqx
      obtain ⟨its2, rv2, p2, _⟩ := I1.list hqy
      refine zip_begins2 (begins_tuple a its.toArray) (begins_list b its2.toArray) p1 p2.isList fun h' hz hTI hTO h1 h2 hsz hk => zr_iter (f := false) hz ?_
      have I2 : Inv X pins σ H1 { s1 with heap := h' } := I1.kept (t' := s1.toks) hk
      obtain ⟨oa, ha1, _⟩ := id p1
      exact ⟨_, _, _, _, H1, rfl, I2, turn_zipN (zap_of (Heap.lt_size ha1) p2.lt), ⟨⟨_, false, .inl rfl, hz⟩, hTI, ⟨_, _, hTO⟩, ⟨_, h1, rfl, rfl⟩, ⟨_, h2, rfl, rfl⟩⟩, fresh5, q⟩
theorem walk_zipN {K : PySem.W.Frag} {a b : Addr} {xs ys : List V} (hl : xs.length = ys.length) : Walk (ItzN K a b) xs.length (fun H => SqT K H a xs ∧ SqL K H b ys) (YPair (fun i => xs[i]?) (fun i => ys[i]?)) := by
  refine ⟨fun i _ hi q => ⟨xs, ys, xs[i], ys[i]'(by omega), q.1, q.2, by simp [hi], by simp⟩, fun _ q => ⟨xs, ys, q.1, q.2, rfl⟩, fun i H v H' _ q y => ?_⟩
  obtain ⟨T, x, z, h1, h2, h3, h4, h5⟩ := y
  exact ⟨T, x, z, h1, h2, h3, h4 xs q.1, h5 ys q.2⟩
def t_is_number (g : G) (A : Around) : TS := (tRet (tAndT g.K (tCB (kIsi g.K) (tCons (tVar 0) (tCons (tC (.ty "int")) tNil))) (tNotT g.K (tCB (kIsi g.K) (tCons (tVar 0) (tCons (tC (.ty "bool")) tNil))))))
def r_is_number (g : G) (A : Around) : TS := (rRet (rAndT g.K (rCB (kIsi g.K) (rCons (rVar 0) (rCons (rC (.ty "int")) rNil))) (rNotT g.K (rCB (kIsi g.K) (rCons (rVar 0) (rCons (rC (.ty "bool")) rNil))))))
theorem e_is_number (g : G) (A : Around) : t_is_number g A = r_is_number g A := by kernel_rfl
def t_is_word (g : G) (A : Around) : TS := (tSeq (tIfS (tOr (tNot (tTruG g.K (tCB (kIsi g.K) (tCons (tVar 0) (tCons (tC (.ty "str")) tNil))))) (tTest (tOp (kEq g.K) (tVar 0) (tGl g "MARK"))))
  (tRet (tC (.bl false)))
  tNext)
  (tRet (tAndT g.K (tChain kLe kLe (tC (.int 1)) (tCB (kLen g.K) (tCons (tVar 0) tNil)) (tGl g "MOST_SIGNS")) (tCB (kAll g.K) (tCons (tLc (iSeq g.K (tVar 0)) (gName 1) tYes (tOp (kIn g.K) (tVar 1) (tGl g "LETTERS")) [1]) tNil)))))
def r_is_word (g : G) (A : Around) : TS := (rSeq (rIfS (rOr (rNot (rTru g.K (rCB (kIsi g.K) (rCons (rVar 0) (rCons (rC (.ty "str")) rNil))))) (rTest (rOp (kEq g.K) (rVar 0) (rGl g "MARK"))))
  (rRet (rC (.bl false)))
  rNext)
  (rRet (rAndT g.K (rChain kLe kLe (rC (.int 1)) (rCB (kLen g.K) (rCons (rVar 0) rNil)) (rGl g "MOST_SIGNS")) (rCB (kAll g.K) (rCons (rLc (rSeqI g.K (rVar 0)) (rName 1) rYes (rOp (kIn g.K) (rVar 1) (rGl g "LETTERS")) [1]) rNil)))))
theorem e_is_word (g : G) (A : Around) : t_is_word g A = r_is_word g A := by kernel_rfl
def t_is_part (g : G) (A : Around) : TS := (tSeq (tIfS (tTruG g.K (tCB (kIsi g.K) (tCons (tVar 0) (tCons (tC (.ty "tuple")) tNil))))
  (tRet (tAndT g.K (tOp kLt (tVar 1) (tGl g "MOST_DEEP")) (tCB (kAll g.K) (tCons (tLc (iSeq g.K (tVar 0)) (gName 2) tYes (tCallG g A "is_part" E0 (tCons (tVar 2) (tCons (tOp (kAdd g.K) (tVar 1) (tC (.int 1))) tNil))) [2]) tNil))))
  tNext)
  (tRet (tAndT g.K (tCallG g A "is_number" E0 (tCons (tVar 0) tNil)) (tChain kLe kLt (tC (.int 0)) (tVar 0) (tGl g "BOUND")))))
def r_is_part (g : G) (A : Around) : TS := (rSeq (rIfS (rTru g.K (rCB (kIsi g.K) (rCons (rVar 0) (rCons (rC (.ty "tuple")) rNil))))
  (rRet (rAndT g.K (rOp kLt (rVar 1) (rGl g "MOST_DEEP")) (rCB (kAll g.K) (rCons (rLc (rSeqI g.K (rVar 0)) (rName 2) rYes (rCall g A "is_part" E0 (rCons (rVar 2) (rCons (rOp (kAdd g.K) (rVar 1) (rC (.int 1))) rNil))) [2]) rNil))))
  rNext)
  (rRet (rAndT g.K (rCall g A "is_number" E0 (rCons (rVar 0) rNil)) (rChain kLe kLt (rC (.int 0)) (rVar 0) (rGl g "BOUND")))))
theorem e_is_part (g : G) (A : Around) : t_is_part g A = r_is_part g A := by kernel_rfl
def t_letter_fault (g : G) (A : Around) : TS := (tSeq (tIfS (tOr (tNot (tTruG g.K (tCB (kIsi g.K) (tCons (tVar 0) (tCons (tC (.ty "tuple")) tNil))))) (tOr (tTest (tOp (kEq g.K) (tVar 0) (tTup tNil))) (tNot (tTruG g.K (tCallG g A "is_word" E0 (tCons (tOp (kIx g.K) (tVar 0) (tC (.int 0))) tNil))))))
  (tRet (tC (.int 0)))
  tNext)
  (tSeq (tFor (iEnumG g.K (tCons (tVar 0) tNil)) (gTup g.K 2 (gCons (gName 1) (gCons (gName 2) gNil)))
  (tIfS (tAnd (tTest (tOp kGt (tVar 1) (tC (.int 0)))) (tNot (tTruG g.K (tCallG g A "is_part" E0 (tCons (tVar 2) (tCons (tC (.int 1)) tNil))))))
  (tRet (tVar 1))
  tNext))
  (tRet (tC .non))))
@[reducible] def rb_letter_fault_0 (g : G) (A : Around) : TS := (rIfS (rAnd (rTest (rOp kGt (rVar 1) (rC (.int 0)))) (rNot (rTru g.K (rCall g A "is_part" E0 (rCons (rVar 2) (rCons (rC (.int 1)) rNil))))))
  (rRet (rVar 1))
  rNext)
def r_letter_fault (g : G) (A : Around) : TS := (rSeq (rIfS (rOr (rNot (rTru g.K (rCB (kIsi g.K) (rCons (rVar 0) (rCons (rC (.ty "tuple")) rNil))))) (rOr (rTest (rOp (kEq g.K) (rVar 0) (rTup rNil))) (rNot (rTru g.K (rCall g A "is_word" E0 (rCons (rOp (kIx g.K) (rVar 0) (rC (.int 0))) rNil))))))
  (rRet (rC (.int 0)))
  rNext)
  (rSeq (rFor (rEnum g.K (rCons (rVar 0) rNil)) (rGTup g.K 2 (rGCons (rName 1) (rGCons (rName 2) rGNil)))
  (rb_letter_fault_0 g A))
  (rRet (rC .non))))
theorem e_letter_fault (g : G) (A : Around) : t_letter_fault g A = r_letter_fault g A := by kernel_rfl
def t_is_letter (g : G) (A : Around) : TS := (tRet (tOp kIsN (tCallG g A "letter_fault" E0 (tCons (tVar 0) tNil)) (tC .non)))
def r_is_letter (g : G) (A : Around) : TS := (rRet (rOp kIsN (rCall g A "letter_fault" E0 (rCons (rVar 0) rNil)) (rC .non)))
theorem e_is_letter (g : G) (A : Around) : t_is_letter g A = r_is_letter g A := by kernel_rfl
def t_is_below (g : G) (A : Around) : TS := (tRet (tAndT g.K (tCallG g A "is_number" E0 (tCons (tVar 0) tNil)) (tChain kLe kLt (tC (.int 0)) (tVar 0) (tVar 1))))
def r_is_below (g : G) (A : Around) : TS := (rRet (rAndT g.K (rCall g A "is_number" E0 (rCons (rVar 0) rNil)) (rChain kLe kLt (rC (.int 0)) (rVar 0) (rVar 1))))
theorem e_is_below (g : G) (A : Around) : t_is_below g A = r_is_below g A := by kernel_rfl
def t_is_sending (g : G) (A : Around) : TS := (tRet (tAndT g.K (tCB (kIsi g.K) (tCons (tVar 0) (tCons (tC (.ty "tuple")) tNil))) (tAndT g.K (tOp (kEq g.K) (tCB (kLen g.K) (tCons (tVar 0) tNil)) (tC (.int 2))) (tAndT g.K (tCallG g A "is_below" E0 (tCons (tOp (kIx g.K) (tVar 0) (tC (.int 0))) (tCons (tVar 1) tNil))) (tCallG g A "is_letter" E0 (tCons (tOp (kIx g.K) (tVar 0) (tC (.int 1))) tNil))))))
def r_is_sending (g : G) (A : Around) : TS := (rRet (rAndT g.K (rCB (kIsi g.K) (rCons (rVar 0) (rCons (rC (.ty "tuple")) rNil))) (rAndT g.K (rOp (kEq g.K) (rCB (kLen g.K) (rCons (rVar 0) rNil)) (rC (.int 2))) (rAndT g.K (rCall g A "is_below" E0 (rCons (rOp (kIx g.K) (rVar 0) (rC (.int 0))) (rCons (rVar 1) rNil))) (rCall g A "is_letter" E0 (rCons (rOp (kIx g.K) (rVar 0) (rC (.int 1))) rNil))))))
theorem e_is_sending (g : G) (A : Around) : t_is_sending g A = r_is_sending g A := by kernel_rfl
def t_is_play (g : G) (A : Around) : TS := (tSeq (tIfS (tOr (tNot (tTruG g.K (tCB (kIsi g.K) (tCons (tVar 0) (tCons (tC (.ty "tuple")) tNil))))) (tOr (tTest (tOp (kNe g.K) (tCB (kLen g.K) (tCons (tVar 0) tNil)) (tC (.int 2)))) (tNot (tTruG g.K (tCB (kIsi g.K) (tCons (tOp (kIx g.K) (tVar 0) (tC (.int 0))) (tCons (tC (.ty "bool")) tNil)))))))
  (tRet (tC (.bl false)))
  tNext)
  (tRet (tAndT g.K (tCB (kIsi g.K) (tCons (tOp (kIx g.K) (tVar 0) (tC (.int 1))) (tCons (tC (.ty "list")) tNil))) (tCB (kAll g.K) (tCons (tLc (iSeq g.K (tOp (kIx g.K) (tVar 0) (tC (.int 1)))) (gName 2) tYes (tCallG g A "is_sending" E0 (tCons (tVar 2) (tCons (tVar 1) tNil))) [2]) tNil)))))
def r_is_play (g : G) (A : Around) : TS := (rSeq (rIfS (rOr (rNot (rTru g.K (rCB (kIsi g.K) (rCons (rVar 0) (rCons (rC (.ty "tuple")) rNil))))) (rOr (rTest (rOp (kNe g.K) (rCB (kLen g.K) (rCons (rVar 0) rNil)) (rC (.int 2)))) (rNot (rTru g.K (rCB (kIsi g.K) (rCons (rOp (kIx g.K) (rVar 0) (rC (.int 0))) (rCons (rC (.ty "bool")) rNil)))))))
  (rRet (rC (.bl false)))
  rNext)
  (rRet (rAndT g.K (rCB (kIsi g.K) (rCons (rOp (kIx g.K) (rVar 0) (rC (.int 1))) (rCons (rC (.ty "list")) rNil))) (rCB (kAll g.K) (rCons (rLc (rSeqI g.K (rOp (kIx g.K) (rVar 0) (rC (.int 1)))) (rName 2) rYes (rCall g A "is_sending" E0 (rCons (rVar 2) (rCons (rVar 1) rNil))) [2]) rNil)))))
theorem e_is_play (g : G) (A : Around) : t_is_play g A = r_is_play g A := by kernel_rfl
def t_law_box (g : G) (A : Around) : TS := (tRet (tLst (tCons (tCB (kList g.K) (tCons (tVar 0) tNil)) (tCons (tC (.int 0)) (tCons (tC (.int 0)) (tCons (tC (.int 5)) tNil))))))
def r_law_box (g : G) (A : Around) : TS := (rRet (rLst (rCons (rCB (kList g.K) (rCons (rVar 0) rNil)) (rCons (rC (.int 0)) (rCons (rC (.int 0)) (rCons (rC (.int 5)) rNil))))))
theorem e_law_box (g : G) (A : Around) : t_law_box g A = r_law_box g A := by kernel_rfl
def t_law_pick (g : G) (A : Around) : TS := (tSeq (tAugS (tVar 0) (tC (.int 2)) (tC (.int 1)) (kGet g.K) kIpAdd kSet)
  (C8.tCut (tIfS (tAnd (tTest (tOp (kEq g.K) (tOp (kIx g.K) (tVar 0) (tC (.int 1))) (tC (.int 0)))) (tTruG g.K (tOp (kIx g.K) (tVar 0) (tC (.int 0)))))
  (tSeq (tAsg (tCB (kAbs) (tCons (tBM g.K "list" rPopAt (tOp (kIx g.K) (tVar 0) (tC (.int 0))) (tCons (tC (.int 0)) tNil)) tNil)) (gName 2))
  (tIfS (tTest (tOp kGe (tVar 2) (tOp kPow (tC (.int 10)) (tC (.int 18)))))
  (tAsg (tVar 2) (gSub (tVar 0) (tC (.int 1)) kSet))
  (tAsg (tOp kMod (tOp (kAdd g.K) (tOp kMul (tOp (kIx g.K) (tVar 0) (tC (.int 3))) (tC (.int 31))) (tVar 2)) (tOp kPow (tC (.int 10)) (tC (.int 18)))) (gSub (tVar 0) (tC (.int 3)) kSet))))
  tNext)
  (tSeq (tIfS (tTest (tOp kGt (tOp (kIx g.K) (tVar 0) (tC (.int 1))) (tC (.int 0))))
  (tSeq (tAsg (tOp kMod (tOp (kIx g.K) (tVar 0) (tC (.int 1))) (tVar 1)) (gName 3))
  (tSeq (tAsg (tOp kDiv (tOp (kIx g.K) (tVar 0) (tC (.int 1))) (tVar 1)) (gSub (tVar 0) (tC (.int 1)) kSet))
  (tRet (tVar 3))))
  tNext)
  (tSeq (tAsg (tOp kMod (tOp kPow (tOp (kAdd g.K) (tOp (kAdd g.K) (tOp kMul (tOp (kIx g.K) (tVar 0) (tC (.int 3))) (tOp (kAdd g.K) (tOp kMul (tC (.int 2)) (tOp (kIx g.K) (tVar 0) (tC (.int 2)))) (tC (.int 3)))) (tOp kMul (tC (.int 104729)) (tOp (kIx g.K) (tVar 0) (tC (.int 2))))) (tC (.int 17))) (tC (.int 3))) (tC (.int 2147483647))) (gName 4))
  (tRet (tOp kMod (tOp kDiv (tVar 4) (tC (.int 16))) (tVar 1)))))))
def r_law_pick (g : G) (A : Around) : TS := (rSeq (rAugS (rVar 0) (rC (.int 2)) (rC (.int 1)) (kGet g.K) kIpAdd kSet)
  (rCut (rIfS (rAnd (rTest (rOp (kEq g.K) (rOp (kIx g.K) (rVar 0) (rC (.int 1))) (rC (.int 0)))) (rTru g.K (rOp (kIx g.K) (rVar 0) (rC (.int 0)))))
  (rSeq (rAsg (rCB (kAbs) (rCons (rBM g.K "list" rPopAt (rOp (kIx g.K) (rVar 0) (rC (.int 0))) (rCons (rC (.int 0)) rNil)) rNil)) (rName 2))
  (rIfS (rTest (rOp kGe (rVar 2) (rOp kPow (rC (.int 10)) (rC (.int 18)))))
  (rAsg (rVar 2) (rGSub (rVar 0) (rC (.int 1)) kSet))
  (rAsg (rOp kMod (rOp (kAdd g.K) (rOp kMul (rOp (kIx g.K) (rVar 0) (rC (.int 3))) (rC (.int 31))) (rVar 2)) (rOp kPow (rC (.int 10)) (rC (.int 18)))) (rGSub (rVar 0) (rC (.int 3)) kSet))))
  rNext)
  (rSeq (rIfS (rTest (rOp kGt (rOp (kIx g.K) (rVar 0) (rC (.int 1))) (rC (.int 0))))
  (rSeq (rAsg (rOp kMod (rOp (kIx g.K) (rVar 0) (rC (.int 1))) (rVar 1)) (rName 3))
  (rSeq (rAsg (rOp kDiv (rOp (kIx g.K) (rVar 0) (rC (.int 1))) (rVar 1)) (rGSub (rVar 0) (rC (.int 1)) kSet))
  (rRet (rVar 3))))
  rNext)
  (rSeq (rAsg (rOp kMod (rOp kPow (rOp (kAdd g.K) (rOp (kAdd g.K) (rOp kMul (rOp (kIx g.K) (rVar 0) (rC (.int 3))) (rOp (kAdd g.K) (rOp kMul (rC (.int 2)) (rOp (kIx g.K) (rVar 0) (rC (.int 2)))) (rC (.int 3)))) (rOp kMul (rC (.int 104729)) (rOp (kIx g.K) (rVar 0) (rC (.int 2))))) (rC (.int 17))) (rC (.int 3))) (rC (.int 2147483647))) (rName 4))
  (rRet (rOp kMod (rOp kDiv (rVar 4) (rC (.int 16))) (rVar 1)))))))
theorem e_law_pick (g : G) (A : Around) : t_law_pick g A = r_law_pick g A := by kernel_rfl
def t_law_plays (g : G) (A : Around) : TS := (tSeq (tAsg (tLst tNil) (gName 2))
  (tSeq (tFor (iRng1 (tCons (tCallG g A "_law_pick" E0 (tCons (tVar 0) (tCons (tC (.int 40)) tNil))) tNil)) (gName 3)
  (tSeq (tAsg (tLst tNil) (gName 4))
  (tSeq (tFor (iRng1 (tCons (tOp (kIx g.K) (tLst (tCons (tC (.int 0)) (tCons (tC (.int 0)) (tCons (tC (.int 1)) (tCons (tC (.int 1)) (tCons (tC (.int 2)) (tCons (tC (.int 5)) tNil))))))) (tCallG g A "_law_pick" E0 (tCons (tVar 0) (tCons (tC (.int 6)) tNil)))) tNil)) (gName 5)
  (tSeq (tAsg (tCallG g A "_law_pick" E0 (tCons (tVar 0) (tCons (tVar 1) tNil))) (gName 6))
  (tDrop (tBM g.K "list" rAppend (tVar 4) (tCons (tTup (tCons (tVar 6) (tCons (tTup (tCons (tOp (kIx g.K) (tLst (tCons (tC (.str "ask")) (tCons (tC (.str "key")) (tCons (tC (.str "yes")) (tCons (tC (.str "q")) tNil))))) (tCallG g A "_law_pick" E0 (tCons (tVar 0) (tCons (tC (.int 4)) tNil)))) (tCons (tCallG g A "_law_pick" E0 (tCons (tVar 0) (tCons (tOp kPow (tC (.int 10)) (tC (.int 9))) tNil))) tNil))) tNil))) tNil)))))
  (tDrop (tBM g.K "list" rAppend (tVar 2) (tCons (tTup (tCons (tOp (kEq g.K) (tCallG g A "_law_pick" E0 (tCons (tVar 0) (tCons (tC (.int 2)) tNil))) (tC (.int 1))) (tCons (tVar 4) tNil))) tNil))))))
  (tRet (tVar 2))))
@[reducible] def rb_law_plays_0 (g : G) (A : Around) : TS := (rSeq (rAsg (rCall g A "_law_pick" E0 (rCons (rVar 0) (rCons (rVar 1) rNil))) (rName 6))
  (rDrop (rBM g.K "list" rAppend (rVar 4) (rCons (rTup (rCons (rVar 6) (rCons (rTup (rCons (rOp (kIx g.K) (rLst (rCons (rC (.str "ask")) (rCons (rC (.str "key")) (rCons (rC (.str "yes")) (rCons (rC (.str "q")) rNil))))) (rCall g A "_law_pick" E0 (rCons (rVar 0) (rCons (rC (.int 4)) rNil)))) (rCons (rCall g A "_law_pick" E0 (rCons (rVar 0) (rCons (rOp kPow (rC (.int 10)) (rC (.int 9))) rNil))) rNil))) rNil))) rNil))))
@[reducible] def rb_law_plays_1 (g : G) (A : Around) : TS := (rSeq (rAsg (rLst rNil) (rName 4))
  (rSeq (rFor (rRng1 (rCons (rOp (kIx g.K) (rLst (rCons (rC (.int 0)) (rCons (rC (.int 0)) (rCons (rC (.int 1)) (rCons (rC (.int 1)) (rCons (rC (.int 2)) (rCons (rC (.int 5)) rNil))))))) (rCall g A "_law_pick" E0 (rCons (rVar 0) (rCons (rC (.int 6)) rNil)))) rNil)) (rName 5)
  (rb_law_plays_0 g A))
  (rDrop (rBM g.K "list" rAppend (rVar 2) (rCons (rTup (rCons (rOp (kEq g.K) (rCall g A "_law_pick" E0 (rCons (rVar 0) (rCons (rC (.int 2)) rNil))) (rC (.int 1))) (rCons (rVar 4) rNil))) rNil)))))
def r_law_plays (g : G) (A : Around) : TS := (rSeq (rAsg (rLst rNil) (rName 2))
  (rSeq (rFor (rRng1 (rCons (rCall g A "_law_pick" E0 (rCons (rVar 0) (rCons (rC (.int 40)) rNil))) rNil)) (rName 3)
  (rb_law_plays_1 g A))
  (rRet (rVar 2))))
theorem e_law_plays (g : G) (A : Around) : t_law_plays g A = r_law_plays g A := by kernel_rfl
def t_law_play (g : G) (A : Around) : TS := (tSeq (tAugS (tVar 1) (tC (.int 0)) (tC (.int 1)) (kGet g.K) kIpAdd kSet)
  (tSeq (tIfS (tTest (tOp kLe (tOp (kIx g.K) (tVar 1) (tC (.int 0))) (tCB (kLen g.K) (tCons (tVar 0) tNil))))
  (tRet (tOp (kIx g.K) (tVar 0) (tOp kSub (tOp (kIx g.K) (tVar 1) (tC (.int 0))) (tC (.int 1)))))
  tNext)
  (tRet (tTup (tCons (tC (.bl true)) (tCons (tLst tNil) tNil))))))
def r_law_play (g : G) (A : Around) : TS := (rSeq (rAugS (rVar 1) (rC (.int 0)) (rC (.int 1)) (kGet g.K) kIpAdd kSet)
  (rSeq (rIfS (rTest (rOp kLe (rOp (kIx g.K) (rVar 1) (rC (.int 0))) (rCB (kLen g.K) (rCons (rVar 0) rNil))))
  (rRet (rOp (kIx g.K) (rVar 0) (rOp kSub (rOp (kIx g.K) (rVar 1) (rC (.int 0))) (rC (.int 1)))))
  rNext)
  (rRet (rTup (rCons (rC (.bl true)) (rCons (rLst rNil) rNil))))))
theorem e_law_play (g : G) (A : Around) : t_law_play g A = r_law_play g A := by kernel_rfl
def t_law_unlike (g : G) (A : Around) : TS := (tSeq (tAsg (tLstRg (tRg1 (tC (.int 60)))) (gName 2))
  (tSeq (tAsg (tLst tNil) (gName 3))
  (tSeq (tFor (iRng1 (tCons (tVar 1) tNil)) (gName 4)
  (tDrop (tBM g.K "list" rAppend (tVar 3) (tCons (tBM g.K "list" rPopAt (tVar 2) (tCons (tCallG g A "_law_pick" E0 (tCons (tVar 0) (tCons (tCB (kLen g.K) (tCons (tVar 2) tNil)) tNil))) tNil)) tNil))))
  (tRet (tVar 3)))))
@[reducible] def rb_law_unlike_0 (g : G) (A : Around) : TS := (rDrop (rBM g.K "list" rAppend (rVar 3) (rCons (rBM g.K "list" rPopAt (rVar 2) (rCons (rCall g A "_law_pick" E0 (rCons (rVar 0) (rCons (rCB (kLen g.K) (rCons (rVar 2) rNil)) rNil))) rNil)) rNil)))
def r_law_unlike (g : G) (A : Around) : TS := (rSeq (rAsg (rLrg1 (rC (.int 60))) (rName 2))
  (rSeq (rAsg (rLst rNil) (rName 3))
  (rSeq (rFor (rRng1 (rCons (rVar 1) rNil)) (rName 4)
  (rb_law_unlike_0 g A))
  (rRet (rVar 3)))))
theorem e_law_unlike (g : G) (A : Around) : t_law_unlike g A = r_law_unlike g A := by kernel_rfl
def t_law_turned (g : G) (A : Around) : TS := (tRet (tLc (iSeq g.K (tVar 1)) (gTup g.K 2 (gCons (gName 2) (gCons (gName 3) gNil))) tYes (tTup (tCons (tOp (kIx g.K) (tVar 0) (tVar 2)) (tCons (tVar 3) tNil))) [2, 3]))
def r_law_turned (g : G) (A : Around) : TS := (rRet (rLc (rSeqI g.K (rVar 1)) (rGTup g.K 2 (rGCons (rName 2) (rGCons (rName 3) rGNil))) rYes (rTup (rCons (rOp (kIx g.K) (rVar 0) (rVar 2)) (rCons (rVar 3) rNil))) [2, 3]))
theorem e_law_turned (g : G) (A : Around) : t_law_turned g A = r_law_turned g A := by kernel_rfl
def t_law_pairs (g : G) (A : Around) : TS := (tSeq (tIfS (tOr (tNot (tTruG g.K (tCB (kIsi g.K) (tCons (tVar 0) (tCons (tC (.ty "list")) tNil))))) (tTest (tOp (kNe g.K) (tVar 0) (tVar 1))))
  (tRet (tC (.bl false)))
  tNext)
  (tSeq (tFor (iSeq g.K (tVar 0)) (gName 2)
  (tIfS (tOr (tNot (tTruG g.K (tCB (kIsi g.K) (tCons (tVar 2) (tCons (tC (.ty "tuple")) tNil))))) (tOr (tNot (tTruG g.K (tCB (kIsi g.K) (tCons (tOp (kIx g.K) (tVar 2) (tC (.int 0))) (tCons (tC (.ty "int")) tNil))))) (tNot (tTruG g.K (tCB (kIsi g.K) (tCons (tOp (kIx g.K) (tVar 2) (tC (.int 1))) (tCons (tC (.ty "tuple")) tNil)))))))
  (tRet (tC (.bl false)))
  tNext))
  (tRet (tC (.bl true)))))
@[reducible] def rb_law_pairs_0 (g : G) (A : Around) : TS := (rIfS (rOr (rNot (rTru g.K (rCB (kIsi g.K) (rCons (rVar 2) (rCons (rC (.ty "tuple")) rNil))))) (rOr (rNot (rTru g.K (rCB (kIsi g.K) (rCons (rOp (kIx g.K) (rVar 2) (rC (.int 0))) (rCons (rC (.ty "int")) rNil))))) (rNot (rTru g.K (rCB (kIsi g.K) (rCons (rOp (kIx g.K) (rVar 2) (rC (.int 1))) (rCons (rC (.ty "tuple")) rNil)))))))
  (rRet (rC (.bl false)))
  rNext)
def r_law_pairs (g : G) (A : Around) : TS := (rSeq (rIfS (rOr (rNot (rTru g.K (rCB (kIsi g.K) (rCons (rVar 0) (rCons (rC (.ty "list")) rNil))))) (rTest (rOp (kNe g.K) (rVar 0) (rVar 1))))
  (rRet (rC (.bl false)))
  rNext)
  (rSeq (rFor (rSeqI g.K (rVar 0)) (rName 2)
  (rb_law_pairs_0 g A))
  (rRet (rC (.bl true)))))
theorem e_law_pairs (g : G) (A : Around) : t_law_pairs g A = r_law_pairs g A := by kernel_rfl
def t_law_deeds (g : G) (A : Around) : TS := (tSeq (tAsg (tLc (iSeq g.K (tVar 1)) (gName 4) tYes (tTup (tCons (tC (.str "hear")) (tCons (tVar 4) tNil))) [4]) (gName 3))
  (C8.tCut (tIfS (tTest (tOp (kEq g.K) (tOp (kIx g.K) (tVar 0) (tC (.int 0))) (tC (.str "out"))))
  (tDrop (tBM g.K "list" rExtend (tVar 3) (tCons (tOp kMul (tLst (tCons (tTup (tCons (tC (.str "ask")) (tCons (tC (.int 0)) tNil))) tNil)) (tCB (kLen g.K) (tCons (tVar 1) tNil))) tNil)))
  tNext)
  (C8.tCut (tIfS (tTest (tOp (kEq g.K) (tOp (kIx g.K) (tVar 0) (tC (.int 0))) (tC (.str "in"))))
  (tDrop (tBM g.K "list" rExtend (tVar 3) (tCons (tOp kMul (tLst (tCons (tTup (tCons (tC (.str "leave")) (tCons (tC (.int 0)) tNil))) tNil)) (tCB (kLen g.K) (tCons (tVar 1) tNil))) tNil)))
  tNext)
  (C8.tCut (tIfS (tTruG g.K (tOp (kIx g.K) (tVar 0) (tC (.int 2))))
  (tDrop (tBM g.K "list" rExtend (tVar 3) (tCons (tOp kMul (tLst (tCons (tTup (tCons (tC (.str "yours")) (tCons (tVar 2) tNil))) tNil)) (tCB (kLen g.K) (tCons (tVar 1) tNil))) tNil)))
  tNext)
  (tRet (tVar 3))))))
def r_law_deeds (g : G) (A : Around) : TS := (rSeq (rAsg (rLc (rSeqI g.K (rVar 1)) (rName 4) rYes (rTup (rCons (rC (.str "hear")) (rCons (rVar 4) rNil))) [4]) (rName 3))
  (rCut (rIfS (rTest (rOp (kEq g.K) (rOp (kIx g.K) (rVar 0) (rC (.int 0))) (rC (.str "out"))))
  (rDrop (rBM g.K "list" rExtend (rVar 3) (rCons (rOp kMul (rLst (rCons (rTup (rCons (rC (.str "ask")) (rCons (rC (.int 0)) rNil))) rNil)) (rCB (kLen g.K) (rCons (rVar 1) rNil))) rNil)))
  rNext)
  (rCut (rIfS (rTest (rOp (kEq g.K) (rOp (kIx g.K) (rVar 0) (rC (.int 0))) (rC (.str "in"))))
  (rDrop (rBM g.K "list" rExtend (rVar 3) (rCons (rOp kMul (rLst (rCons (rTup (rCons (rC (.str "leave")) (rCons (rC (.int 0)) rNil))) rNil)) (rCB (kLen g.K) (rCons (rVar 1) rNil))) rNil)))
  rNext)
  (rCut (rIfS (rTru g.K (rOp (kIx g.K) (rVar 0) (rC (.int 2))))
  (rDrop (rBM g.K "list" rExtend (rVar 3) (rCons (rOp kMul (rLst (rCons (rTup (rCons (rC (.str "yours")) (rCons (rVar 2) rNil))) rNil)) (rCB (kLen g.K) (rCons (rVar 1) rNil))) rNil)))
  rNext)
  (rRet (rVar 3))))))
theorem e_law_deeds (g : G) (A : Around) : t_law_deeds g A = r_law_deeds g A := by kernel_rfl
def t_law_done (g : G) (A : Around) : TS := (tSeq (tIfS (tTest (tOp (kEq g.K) (tOp (kIx g.K) (tVar 1) (tC (.int 0))) (tC (.str "ask"))))
  (tRet (tMethG g A "ask" E0 (tVar 0) tNil))
  tNext)
  (tSeq (tIfS (tTest (tOp (kEq g.K) (tOp (kIx g.K) (tVar 1) (tC (.int 0))) (tC (.str "leave"))))
  (tRet (tMethG g A "leave" E0 (tVar 0) tNil))
  tNext)
  (tSeq (tIfS (tTest (tOp (kEq g.K) (tOp (kIx g.K) (tVar 1) (tC (.int 0))) (tC (.str "yours"))))
  (tRet (tMethG g A "hear" E0 (tVar 0) (tCons (tOp (kIx g.K) (tVar 1) (tC (.int 1))) (tCons (tTup (tCons (tC (.str "yours")) tNil)) tNil))))
  tNext)
  (tRet (tMethG g A "hear" E0 (tVar 0) (tCons (tOp (kIx g.K) (tVar 1) (tC (.int 1))) (tCons (tVar 2) tNil)))))))
def r_law_done (g : G) (A : Around) : TS := (rSeq (rIfS (rTest (rOp (kEq g.K) (rOp (kIx g.K) (rVar 1) (rC (.int 0))) (rC (.str "ask"))))
  (rRet (rMeth g A "ask" E0 (rVar 0) rNil))
  rNext)
  (rSeq (rIfS (rTest (rOp (kEq g.K) (rOp (kIx g.K) (rVar 1) (rC (.int 0))) (rC (.str "leave"))))
  (rRet (rMeth g A "leave" E0 (rVar 0) rNil))
  rNext)
  (rSeq (rIfS (rTest (rOp (kEq g.K) (rOp (kIx g.K) (rVar 1) (rC (.int 0))) (rC (.str "yours"))))
  (rRet (rMeth g A "hear" E0 (rVar 0) (rCons (rOp (kIx g.K) (rVar 1) (rC (.int 1))) (rCons (rTup (rCons (rC (.str "yours")) rNil)) rNil))))
  rNext)
  (rRet (rMeth g A "hear" E0 (rVar 0) (rCons (rOp (kIx g.K) (rVar 1) (rC (.int 1))) (rCons (rVar 2) rNil)))))))
theorem e_law_done (g : G) (A : Around) : t_law_done g A = r_law_done g A := by kernel_rfl
def t_law_due (g : G) (A : Around) : TS := (tSeq (tIfS (tTest (tOp (kEq g.K) (tOp (kIx g.K) (tVar 1) (tC (.int 0))) (tC (.str "yours"))))
  (tSeq (tAsg (tC (.str "in")) (gSub (tVar 0) (tC (.int 0)) kSet))
  (tSeq (tAsg (tC (.bl false)) (gSub (tVar 0) (tC (.int 2)) kSet))
  (tRet (tLst tNil))))
  tNext)
  (tSeq (tAsg (tCallG g A "_law_turned" E0 (tCons (tVar 3) (tCons (tOp (kIx g.K) (tVar 2) (tC (.int 1))) tNil))) (gName 5))
  (tSeq (tIfS (tTest (tOp (kEq g.K) (tOp (kIx g.K) (tVar 1) (tC (.int 0))) (tC (.str "leave"))))
  (tSeq (tAsg (tC (.str "out")) (gSub (tVar 0) (tC (.int 0)) kSet))
  (tSeq (tAsg (tC (.str "out")) (gSub (tVar 0) (tC (.int 1)) kSet))
  (tRet (tOp (kAdd g.K) (tIf (tTest (tOp kNotN (tVar 4) (tC .non))) (tLst (tCons (tTup (tCons (tVar 4) (tCons (tTup (tCons (tC (.str "done")) tNil)) tNil))) tNil)) (tLst tNil)) (tVar 5)))))
  tNext)
  (tSeq (tAsg (tOp (kIx g.K) (tVar 0) (tC (.int 1))) (gName 6))
  (C8.tCut (tIfS (tTest (tOp (kEq g.K) (tOp (kIx g.K) (tVar 1) (tC (.int 0))) (tC (.str "ask"))))
  (tSeq (tAsg (tC (.str "asking")) (gSub (tVar 0) (tC (.int 0)) kSet))
  (tAsg (tC (.str "asking")) (gSub (tVar 0) (tC (.int 1)) kSet)))
  tNext)
  (C8.tCut (tIfS (tAnd (tTest (tOp (kEq g.K) (tOp (kIx g.K) (tVar 0) (tC (.int 1))) (tC (.str "asking")))) (tTruG g.K (tOp (kIx g.K) (tVar 2) (tC (.int 0)))))
  (tAsg (tC (.str "in")) (gSub (tVar 0) (tC (.int 1)) kSet))
  tNext)
  (tSeq (tIfS (tOr (tTest (tOp (kEq g.K) (tOp (kIx g.K) (tVar 0) (tC (.int 1))) (tVar 6))) (tTest (tOp (kNe g.K) (tOp (kIx g.K) (tVar 0) (tC (.int 1))) (tC (.str "in")))))
  (tRet (tVar 5))
  tNext)
  (tSeq (tIfS (tTest (tOp kIsN (tVar 4) (tC .non)))
  (tSeq (tAsg (tC (.str "in")) (gSub (tVar 0) (tC (.int 0)) kSet))
  (tRet (tVar 5)))
  tNext)
  (tSeq (tAsg (tC (.bl true)) (gSub (tVar 0) (tC (.int 2)) kSet))
  (tRet (tOp (kAdd g.K) (tVar 5) (tLst (tCons (tTup (tCons (tVar 4) (tCons (tTup (tCons (tC (.str "please")) tNil)) tNil))) tNil)))))))))))))
def r_law_due (g : G) (A : Around) : TS := (rSeq (rIfS (rTest (rOp (kEq g.K) (rOp (kIx g.K) (rVar 1) (rC (.int 0))) (rC (.str "yours"))))
  (rSeq (rAsg (rC (.str "in")) (rGSub (rVar 0) (rC (.int 0)) kSet))
  (rSeq (rAsg (rC (.bl false)) (rGSub (rVar 0) (rC (.int 2)) kSet))
  (rRet (rLst rNil))))
  rNext)
  (rSeq (rAsg (rCall g A "_law_turned" E0 (rCons (rVar 3) (rCons (rOp (kIx g.K) (rVar 2) (rC (.int 1))) rNil))) (rName 5))
  (rSeq (rIfS (rTest (rOp (kEq g.K) (rOp (kIx g.K) (rVar 1) (rC (.int 0))) (rC (.str "leave"))))
  (rSeq (rAsg (rC (.str "out")) (rGSub (rVar 0) (rC (.int 0)) kSet))
  (rSeq (rAsg (rC (.str "out")) (rGSub (rVar 0) (rC (.int 1)) kSet))
  (rRet (rOp (kAdd g.K) (rIf (rTest (rOp kNotN (rVar 4) (rC .non))) (rLst (rCons (rTup (rCons (rVar 4) (rCons (rTup (rCons (rC (.str "done")) rNil)) rNil))) rNil)) (rLst rNil)) (rVar 5)))))
  rNext)
  (rSeq (rAsg (rOp (kIx g.K) (rVar 0) (rC (.int 1))) (rName 6))
  (rCut (rIfS (rTest (rOp (kEq g.K) (rOp (kIx g.K) (rVar 1) (rC (.int 0))) (rC (.str "ask"))))
  (rSeq (rAsg (rC (.str "asking")) (rGSub (rVar 0) (rC (.int 0)) kSet))
  (rAsg (rC (.str "asking")) (rGSub (rVar 0) (rC (.int 1)) kSet)))
  rNext)
  (rCut (rIfS (rAnd (rTest (rOp (kEq g.K) (rOp (kIx g.K) (rVar 0) (rC (.int 1))) (rC (.str "asking")))) (rTru g.K (rOp (kIx g.K) (rVar 2) (rC (.int 0)))))
  (rAsg (rC (.str "in")) (rGSub (rVar 0) (rC (.int 1)) kSet))
  rNext)
  (rSeq (rIfS (rOr (rTest (rOp (kEq g.K) (rOp (kIx g.K) (rVar 0) (rC (.int 1))) (rVar 6))) (rTest (rOp (kNe g.K) (rOp (kIx g.K) (rVar 0) (rC (.int 1))) (rC (.str "in")))))
  (rRet (rVar 5))
  rNext)
  (rSeq (rIfS (rTest (rOp kIsN (rVar 4) (rC .non)))
  (rSeq (rAsg (rC (.str "in")) (rGSub (rVar 0) (rC (.int 0)) kSet))
  (rRet (rVar 5)))
  rNext)
  (rSeq (rAsg (rC (.bl true)) (rGSub (rVar 0) (rC (.int 2)) kSet))
  (rRet (rOp (kAdd g.K) (rVar 5) (rLst (rCons (rTup (rCons (rVar 4) (rCons (rTup (rCons (rC (.str "please")) rNil)) rNil))) rNil)))))))))))))
theorem e_law_due (g : G) (A : Around) : t_law_due g A = r_law_due g A := by kernel_rfl
def t_law (g : G) (A : Around) : TS := (tSeq (tAsg (tCallG g A "_law_box" E0 (tCons (tSl (kSl g.K) (tVar 0) tNoPart (tPart (tC (.int 3)))) tNil)) (gName 1))
  (tSeq (tAsg (tOp (kAdd g.K) (tC (.int 1)) (tCallG g A "_law_pick" E0 (tCons (tVar 1) (tCons (tC (.int 6)) tNil)))) (gName 2))
  (tSeq (tAsg (tCallG g A "_law_unlike" E0 (tCons (tVar 1) (tCons (tOp (kAdd g.K) (tVar 2) (tC (.int 1))) tNil))) (gName 3))
  (tSeq (tAsg (tSl (kSl g.K) (tVar 3) tNoPart (tPart (tVar 2))) (gName 4))
  (tSeq (tAsg (tOp (kIx g.K) (tVar 4) (tCallG g A "_law_pick" E0 (tCons (tVar 1) (tCons (tVar 2) tNil)))) (gName 5))
  (tSeq (tAsg (tIf (tTest (tOp kGt (tCallG g A "_law_pick" E0 (tCons (tVar 1) (tCons (tC (.int 4)) tNil))) (tC (.int 0)))) (tOp (kIx g.K) (tVar 3) (tVar 2)) (tC .non)) (gName 6))
  (tSeq (tAsg (tCallG g A "_law_plays" E0 (tCons (tVar 1) (tCons (tVar 2) tNil))) (gName 7))
  (tSeq (tAsg (tCB (kList g.K) (tCons (tVar 4) tNil)) (gName 8))
  (tSeq (tAsg (tMakeG g A "Member" E0 (tCons (tVar 5) (tCons (tMakeG g A "Puppet" E0 (tCons (tBM g.K "list" (rIndex g.K) (tVar 4) (tCons (tVar 5) tNil)) (tCons (tVar 2) (tCons (tVar 7) tNil)))) (tCons (tVar 8) (tCons (tVar 6) tNil))))) (gName 9))
  (tSeq (tDrop (tBM0 g.K "list" rClear (tVar 8)))
  (tSeq (tAsg (tLst (tCons (tC (.str "out")) (tCons (tC (.str "out")) (tCons (tC (.bl false)) tNil)))) (gName 10))
  (tSeq (tAsg (tLst (tCons (tC (.int 0)) tNil)) (gName 11))
  (tSeq (tFor (iSeq g.K (tSl (kSl g.K) (tVar 0) (tPart (tC (.int 3))) tNoPart)) (gName 12)
  (tSeq (tAsg (tCallG g A "_law_deeds" E0 (tCons (tVar 10) (tCons (tVar 4) (tCons (tVar 6) tNil)))) (gName 13))
  (tSeq (tAsg (tOp (kIx g.K) (tVar 13) (tOp kMod (tVar 12) (tCB (kLen g.K) (tCons (tVar 13) tNil)))) (gName 14))
  (tSeq (tAsg (tTup (tCons (tC (.bl true)) (tCons (tLst tNil) tNil))) (gName 15))
  (C8.tCut (tIfS (tTest (tOp (kNe g.K) (tOp (kIx g.K) (tVar 14) (tC (.int 0))) (tC (.str "yours"))))
  (tAsg (tCallG g A "_law_play" E0 (tCons (tVar 7) (tCons (tVar 11) tNil))) (gName 15))
  tNext)
  (tSeq (tAsg (tCallG g A "_law_done" E0 (tCons (tVar 9) (tCons (tVar 14) (tCons (tTup (tCons (tC (.str "key")) (tCons (tOp kMod (tVar 12) (tOp kPow (tC (.int 10)) (tC (.int 60)))) tNil))) tNil)))) (gName 16))
  (tSeq (tIfS (tNot (tTruG g.K (tCallG g A "_law_pairs" E0 (tCons (tVar 16) (tCons (tCallG g A "_law_due" E0 (tCons (tVar 10) (tCons (tVar 14) (tCons (tVar 15) (tCons (tVar 4) (tCons (tVar 6) tNil)))))) tNil)))))
  (tRet (tC (.bl false)))
  tNext)
  (tSeq (tIfS (tOr (tTest (tOp (kNe g.K) (tFld g.K (tVar 9) "state") (tOp (kIx g.K) (tVar 10) (tC (.int 0))))) (tTest (tOp (kNe g.K) (tFld g.K (tFld g.K (tVar 9) "inner") "state") (tOp (kIx g.K) (tVar 10) (tC (.int 1))))))
  (tRet (tC (.bl false)))
  tNext)
  (tIfS (tOr (tTest (tOp (kNe g.K) (tFld g.K (tVar 9) "me") (tVar 5))) (tOr (tTest (tOp (kNe g.K) (tFld g.K (tVar 9) "porter") (tVar 6))) (tTest (tOp (kNe g.K) (tMethG g A "unplayed" E0 (tFld g.K (tVar 9) "inner") tNil) (tCB (kMax g.K) (tCons (tC (.int 0)) (tCons (tOp kSub (tCB (kLen g.K) (tCons (tVar 7) tNil)) (tOp (kIx g.K) (tVar 11) (tC (.int 0)))) tNil)))))))
  (tRet (tC (.bl false)))
  tNext)))))))))
  (tRet (tC (.bl true))))))))))))))))
@[reducible] def rb_law_0 (g : G) (A : Around) : TS := (rSeq (rAsg (rCall g A "_law_deeds" E0 (rCons (rVar 10) (rCons (rVar 4) (rCons (rVar 6) rNil)))) (rName 13))
  (rSeq (rAsg (rOp (kIx g.K) (rVar 13) (rOp kMod (rVar 12) (rCB (kLen g.K) (rCons (rVar 13) rNil)))) (rName 14))
  (rSeq (rAsg (rTup (rCons (rC (.bl true)) (rCons (rLst rNil) rNil))) (rName 15))
  (rCut (rIfS (rTest (rOp (kNe g.K) (rOp (kIx g.K) (rVar 14) (rC (.int 0))) (rC (.str "yours"))))
  (rAsg (rCall g A "_law_play" E0 (rCons (rVar 7) (rCons (rVar 11) rNil))) (rName 15))
  rNext)
  (rSeq (rAsg (rCall g A "_law_done" E0 (rCons (rVar 9) (rCons (rVar 14) (rCons (rTup (rCons (rC (.str "key")) (rCons (rOp kMod (rVar 12) (rOp kPow (rC (.int 10)) (rC (.int 60)))) rNil))) rNil)))) (rName 16))
  (rSeq (rIfS (rNot (rTru g.K (rCall g A "_law_pairs" E0 (rCons (rVar 16) (rCons (rCall g A "_law_due" E0 (rCons (rVar 10) (rCons (rVar 14) (rCons (rVar 15) (rCons (rVar 4) (rCons (rVar 6) rNil)))))) rNil)))))
  (rRet (rC (.bl false)))
  rNext)
  (rSeq (rIfS (rOr (rTest (rOp (kNe g.K) (rFld g.K (rVar 9) "state") (rOp (kIx g.K) (rVar 10) (rC (.int 0))))) (rTest (rOp (kNe g.K) (rFld g.K (rFld g.K (rVar 9) "inner") "state") (rOp (kIx g.K) (rVar 10) (rC (.int 1))))))
  (rRet (rC (.bl false)))
  rNext)
  (rIfS (rOr (rTest (rOp (kNe g.K) (rFld g.K (rVar 9) "me") (rVar 5))) (rOr (rTest (rOp (kNe g.K) (rFld g.K (rVar 9) "porter") (rVar 6))) (rTest (rOp (kNe g.K) (rMeth g A "unplayed" E0 (rFld g.K (rVar 9) "inner") rNil) (rCB (kMax g.K) (rCons (rC (.int 0)) (rCons (rOp kSub (rCB (kLen g.K) (rCons (rVar 7) rNil)) (rOp (kIx g.K) (rVar 11) (rC (.int 0)))) rNil)))))))
  (rRet (rC (.bl false)))
  rNext))))))))
def r_law (g : G) (A : Around) : TS := (rSeq (rAsg (rCall g A "_law_box" E0 (rCons (rSl (kSl g.K) (rVar 0) rNoPart (rPart (rC (.int 3)))) rNil)) (rName 1))
  (rSeq (rAsg (rOp (kAdd g.K) (rC (.int 1)) (rCall g A "_law_pick" E0 (rCons (rVar 1) (rCons (rC (.int 6)) rNil)))) (rName 2))
  (rSeq (rAsg (rCall g A "_law_unlike" E0 (rCons (rVar 1) (rCons (rOp (kAdd g.K) (rVar 2) (rC (.int 1))) rNil))) (rName 3))
  (rSeq (rAsg (rSl (kSl g.K) (rVar 3) rNoPart (rPart (rVar 2))) (rName 4))
  (rSeq (rAsg (rOp (kIx g.K) (rVar 4) (rCall g A "_law_pick" E0 (rCons (rVar 1) (rCons (rVar 2) rNil)))) (rName 5))
  (rSeq (rAsg (rIf (rTest (rOp kGt (rCall g A "_law_pick" E0 (rCons (rVar 1) (rCons (rC (.int 4)) rNil))) (rC (.int 0)))) (rOp (kIx g.K) (rVar 3) (rVar 2)) (rC .non)) (rName 6))
  (rSeq (rAsg (rCall g A "_law_plays" E0 (rCons (rVar 1) (rCons (rVar 2) rNil))) (rName 7))
  (rSeq (rAsg (rCB (kList g.K) (rCons (rVar 4) rNil)) (rName 8))
  (rSeq (rAsg (rMake g A "Member" E0 (rCons (rVar 5) (rCons (rMake g A "Puppet" E0 (rCons (rBM g.K "list" (rIndex g.K) (rVar 4) (rCons (rVar 5) rNil)) (rCons (rVar 2) (rCons (rVar 7) rNil)))) (rCons (rVar 8) (rCons (rVar 6) rNil))))) (rName 9))
  (rSeq (rDrop (rBM0 g.K "list" rClear (rVar 8)))
  (rSeq (rAsg (rLst (rCons (rC (.str "out")) (rCons (rC (.str "out")) (rCons (rC (.bl false)) rNil)))) (rName 10))
  (rSeq (rAsg (rLst (rCons (rC (.int 0)) rNil)) (rName 11))
  (rSeq (rFor (rSeqI g.K (rSl (kSl g.K) (rVar 0) (rPart (rC (.int 3))) rNoPart)) (rName 12)
  (rb_law_0 g A))
  (rRet (rC (.bl true))))))))))))))))
theorem e_law (g : G) (A : Around) : t_law g A = r_law g A := by kernel_rfl
def t_Seat_init (g : G) (A : Around) : TS := (tSeq (sFld g.K (tVar 0) (tVar 1) "me")
  (tSeq (sFld g.K (tVar 0) (tC (.str "out")) "state")
  (sFld g.K (tVar 0) (tC (.bl false)) "sits")))
def r_Seat_init (g : G) (A : Around) : TS := (rSeq (rSFld g.K (rVar 0) (rVar 1) "me")
  (rSeq (rSFld g.K (rVar 0) (rC (.str "out")) "state")
  (rSFld g.K (rVar 0) (rC (.bl false)) "sits")))
theorem e_Seat_init (g : G) (A : Around) : t_Seat_init g A = r_Seat_init g A := by kernel_rfl
def t_Seat_ask (g : G) (A : Around) : TS := (tSeq (sFld g.K (tVar 0) (tC (.str "in")) "state")
  (tRet (tLst tNil)))
def r_Seat_ask (g : G) (A : Around) : TS := (rSeq (rSFld g.K (rVar 0) (rC (.str "in")) "state")
  (rRet (rLst rNil)))
theorem e_Seat_ask (g : G) (A : Around) : t_Seat_ask g A = r_Seat_ask g A := by kernel_rfl
def t_Seat_leave (g : G) (A : Around) : TS := (tSeq (sFld g.K (tVar 0) (tC (.str "out")) "state")
  (tRet (tLst tNil)))
def r_Seat_leave (g : G) (A : Around) : TS := (rSeq (rSFld g.K (rVar 0) (rC (.str "out")) "state")
  (rRet (rLst rNil)))
theorem e_Seat_leave (g : G) (A : Around) : t_Seat_leave g A = r_Seat_leave g A := by kernel_rfl
def t_Seat_hear (g : G) (A : Around) : TS := (tRet (tLst tNil))
def r_Seat_hear (g : G) (A : Around) : TS := (rRet (rLst rNil))
theorem e_Seat_hear (g : G) (A : Around) : t_Seat_hear g A = r_Seat_hear g A := by kernel_rfl
def t_Seat_gone (g : G) (A : Around) : TS := (tRet (tLst tNil))
def r_Seat_gone (g : G) (A : Around) : TS := (rRet (rLst rNil))
theorem e_Seat_gone (g : G) (A : Around) : t_Seat_gone g A = r_Seat_gone g A := by kernel_rfl
def t_Puppet_init (g : G) (A : Around) : TS := (tSeq (tDrop (tBaseG g A "Seat" "__init__" E0 (tCons (tVar 0) (tCons (tVar 1) tNil))))
  (tSeq (tFor (iEnumG g.K (tCons (tVar 3) tNil)) (gTup g.K 2 (gCons (gName 4) (gCons (gName 5) gNil)))
  (tIfS (tNot (tTruG g.K (tCallG g A "is_play" E0 (tCons (tVar 5) (tCons (tVar 2) tNil)))))
  tNever
  tNext))
  (sFld g.K (tVar 0) (tLc (iSeq g.K (tVar 3)) (gTup g.K 2 (gCons (gName 6) (gCons (gName 7) gNil))) tYes (tTup (tCons (tVar 6) (tCons (tCB (kList g.K) (tCons (tVar 7) tNil)) tNil))) [6, 7]) "plays")))
@[reducible] def rb_Puppet_init_0 (g : G) (A : Around) : TS := (rIfS (rNot (rTru g.K (rCall g A "is_play" E0 (rCons (rVar 5) (rCons (rVar 2) rNil)))))
  tNever
  rNext)
def r_Puppet_init (g : G) (A : Around) : TS := (rSeq (rDrop (rBase g A "Seat" "__init__" E0 (rCons (rVar 0) (rCons (rVar 1) rNil))))
  (rSeq (rFor (rEnum g.K (rCons (rVar 3) rNil)) (rGTup g.K 2 (rGCons (rName 4) (rGCons (rName 5) rGNil)))
  (rb_Puppet_init_0 g A))
  (rSFld g.K (rVar 0) (rLc (rSeqI g.K (rVar 3)) (rGTup g.K 2 (rGCons (rName 6) (rGCons (rName 7) rGNil))) rYes (rTup (rCons (rVar 6) (rCons (rCB (kList g.K) (rCons (rVar 7) rNil)) rNil))) [6, 7]) "plays")))
theorem e_Puppet_init (g : G) (A : Around) : t_Puppet_init g A = r_Puppet_init g A := by kernel_rfl
def t_Puppet_unplayed (g : G) (A : Around) : TS := (tRet (tCB (kLen g.K) (tCons (tFld g.K (tVar 0) "plays") tNil)))
def r_Puppet_unplayed (g : G) (A : Around) : TS := (rRet (rCB (kLen g.K) (rCons (rFld g.K (rVar 0) "plays") rNil)))
theorem e_Puppet_unplayed (g : G) (A : Around) : t_Puppet_unplayed g A = r_Puppet_unplayed g A := by kernel_rfl
def t_Puppet_play (g : G) (A : Around) : TS := (tSeq (tIfS (tTest (tOp (kEq g.K) (tFld g.K (tVar 0) "plays") (tLst tNil)))
  (tRet (tTup (tCons (tC (.bl true)) (tCons (tLst tNil) tNil))))
  tNext)
  (tSeq (tAsg (tFld g.K (tVar 0) "plays") (gStar g.K 2 1 (gCons (gName 1) (gCons (gName 2) gNil))))
  (tSeq (sFld g.K (tVar 0) (tVar 2) "plays")
  (tRet (tVar 1)))))
def r_Puppet_play (g : G) (A : Around) : TS := (rSeq (rIfS (rTest (rOp (kEq g.K) (rFld g.K (rVar 0) "plays") (rLst rNil)))
  (rRet (rTup (rCons (rC (.bl true)) (rCons (rLst rNil) rNil))))
  rNext)
  (rSeq (rAsg (rFld g.K (rVar 0) "plays") (rGStar g.K 2 1 (rGCons (rName 1) (rGCons (rName 2) rGNil))))
  (rSeq (rSFld g.K (rVar 0) (rVar 2) "plays")
  (rRet (rVar 1)))))
theorem e_Puppet_play (g : G) (A : Around) : t_Puppet_play g A = r_Puppet_play g A := by kernel_rfl
def t_Puppet_ask (g : G) (A : Around) : TS := (tSeq (tAsg (tMethG g A "play" E0 (tVar 0) tNil) (gTup g.K 2 (gCons (gName 1) (gCons (gName 2) gNil))))
  (tSeq (sFld g.K (tVar 0) (tIf (tTruG g.K (tVar 1)) (tC (.str "in")) (tC (.str "asking"))) "state")
  (tRet (tVar 2))))
def r_Puppet_ask (g : G) (A : Around) : TS := (rSeq (rAsg (rMeth g A "play" E0 (rVar 0) rNil) (rGTup g.K 2 (rGCons (rName 1) (rGCons (rName 2) rGNil))))
  (rSeq (rSFld g.K (rVar 0) (rIf (rTru g.K (rVar 1)) (rC (.str "in")) (rC (.str "asking"))) "state")
  (rRet (rVar 2))))
theorem e_Puppet_ask (g : G) (A : Around) : t_Puppet_ask g A = r_Puppet_ask g A := by kernel_rfl
def t_Puppet_leave (g : G) (A : Around) : TS := (tSeq (tAsg (tMethG g A "play" E0 (tVar 0) tNil) (gTup g.K 2 (gCons (gName 1) (gCons (gName 2) gNil))))
  (tSeq (sFld g.K (tVar 0) (tC (.str "out")) "state")
  (tRet (tVar 2))))
def r_Puppet_leave (g : G) (A : Around) : TS := (rSeq (rAsg (rMeth g A "play" E0 (rVar 0) rNil) (rGTup g.K 2 (rGCons (rName 1) (rGCons (rName 2) rGNil))))
  (rSeq (rSFld g.K (rVar 0) (rC (.str "out")) "state")
  (rRet (rVar 2))))
theorem e_Puppet_leave (g : G) (A : Around) : t_Puppet_leave g A = r_Puppet_leave g A := by kernel_rfl
def t_Puppet_hear (g : G) (A : Around) : TS := (tSeq (tAsg (tMethG g A "play" E0 (tVar 0) tNil) (gTup g.K 2 (gCons (gName 3) (gCons (gName 4) gNil))))
  (C8.tCut (tIfS (tAnd (tTruG g.K (tVar 3)) (tTest (tOp (kEq g.K) (tFld g.K (tVar 0) "state") (tC (.str "asking")))))
  (sFld g.K (tVar 0) (tC (.str "in")) "state")
  tNext)
  (tRet (tVar 4))))
def r_Puppet_hear (g : G) (A : Around) : TS := (rSeq (rAsg (rMeth g A "play" E0 (rVar 0) rNil) (rGTup g.K 2 (rGCons (rName 3) (rGCons (rName 4) rGNil))))
  (rCut (rIfS (rAnd (rTru g.K (rVar 3)) (rTest (rOp (kEq g.K) (rFld g.K (rVar 0) "state") (rC (.str "asking")))))
  (rSFld g.K (rVar 0) (rC (.str "in")) "state")
  rNext)
  (rRet (rVar 4))))
theorem e_Puppet_hear (g : G) (A : Around) : t_Puppet_hear g A = r_Puppet_hear g A := by kernel_rfl
def t_Puppet_gone (g : G) (A : Around) : TS := (tRet (tMethG g A "hear" E0 (tVar 0) (tCons (tVar 1) (tCons (tC .non) tNil))))
def r_Puppet_gone (g : G) (A : Around) : TS := (rRet (rMeth g A "hear" E0 (rVar 0) (rCons (rVar 1) (rCons (rC .non) rNil))))
theorem e_Puppet_gone (g : G) (A : Around) : t_Puppet_gone g A = r_Puppet_gone g A := by kernel_rfl
def t_Link_init (g : G) (A : Around) : TS := (tSeq (tDrop (tBaseG g A "Seat" "__init__" E0 (tCons (tVar 0) (tCons (tVar 1) tNil))))
  (tSeq (sFld g.K (tVar 0) (tVar 2) "inner")
  (tSeq (sFld g.K (tVar 0) (tCB (kTupleG g.K) (tCons (tVar 3) tNil)) "mates")
  (tSeq (sFld g.K (tVar 0) (tVar 4) "porter")
  (sFld g.K (tVar 0) (tC (.bl false)) "passed_on")))))
def r_Link_init (g : G) (A : Around) : TS := (rSeq (rDrop (rBase g A "Seat" "__init__" E0 (rCons (rVar 0) (rCons (rVar 1) rNil))))
  (rSeq (rSFld g.K (rVar 0) (rVar 2) "inner")
  (rSeq (rSFld g.K (rVar 0) (rCB (kTupleG g.K) (rCons (rVar 3) rNil)) "mates")
  (rSeq (rSFld g.K (rVar 0) (rVar 4) "porter")
  (rSFld g.K (rVar 0) (rC (.bl false)) "passed_on")))))
theorem e_Link_init (g : G) (A : Around) : t_Link_init g A = r_Link_init g A := by kernel_rfl
def t_Link_outward (g : G) (A : Around) : TS := (tRet (tLc (iSeq g.K (tVar 1)) (gTup g.K 2 (gCons (gName 2) (gCons (gName 3) gNil))) tYes (tTup (tCons (tOp (kIx g.K) (tFld g.K (tVar 0) "mates") (tVar 2)) (tCons (tVar 3) tNil))) [2, 3]))
def r_Link_outward (g : G) (A : Around) : TS := (rRet (rLc (rSeqI g.K (rVar 1)) (rGTup g.K 2 (rGCons (rName 2) (rGCons (rName 3) rGNil))) rYes (rTup (rCons (rOp (kIx g.K) (rFld g.K (rVar 0) "mates") (rVar 2)) (rCons (rVar 3) rNil))) [2, 3]))
theorem e_Link_outward (g : G) (A : Around) : t_Link_outward g A = r_Link_outward g A := by kernel_rfl
def t_Link_inward (g : G) (A : Around) : TS := (tRet (tMethG g A "onward" E0 (tVar 0) (tCons (tMethG g A "hear" E0 (tFld g.K (tVar 0) "inner") (tCons (tBMT (kTIndex g.K) (tFld g.K (tVar 0) "mates") (tCons (tVar 1) tNil)) (tCons (tVar 2) tNil))) tNil)))
def r_Link_inward (g : G) (A : Around) : TS := (rRet (rMeth g A "onward" E0 (rVar 0) (rCons (rMeth g A "hear" E0 (rFld g.K (rVar 0) "inner") (rCons (rBMT (kTIndex g.K) (rFld g.K (rVar 0) "mates") (rCons (rVar 1) rNil)) (rCons (rVar 2) rNil))) rNil)))
theorem e_Link_inward (g : G) (A : Around) : t_Link_inward g A = r_Link_inward g A := by kernel_rfl
def t_Link_onward (g : G) (A : Around) : TS := (tSeq (tAsg (tMethG g A "outward" E0 (tVar 0) (tCons (tVar 1) tNil)) (gName 2))
  (C8.tCut (tIfS (tAnd (tTest (tOp (kEq g.K) (tFld g.K (tFld g.K (tVar 0) "inner") "state") (tC (.str "in")))) (tNot (tTruG g.K (tFld g.K (tVar 0) "passed_on"))))
  (tSeq (sFld g.K (tVar 0) (tC (.bl true)) "passed_on")
  (tDrop (tBM g.K "list" rExtend (tVar 2) (tCons (tMethG g A "risen" E0 (tVar 0) tNil) tNil))))
  tNext)
  (tRet (tVar 2))))
def r_Link_onward (g : G) (A : Around) : TS := (rSeq (rAsg (rMeth g A "outward" E0 (rVar 0) (rCons (rVar 1) rNil)) (rName 2))
  (rCut (rIfS (rAnd (rTest (rOp (kEq g.K) (rFld g.K (rFld g.K (rVar 0) "inner") "state") (rC (.str "in")))) (rNot (rTru g.K (rFld g.K (rVar 0) "passed_on"))))
  (rSeq (rSFld g.K (rVar 0) (rC (.bl true)) "passed_on")
  (rDrop (rBM g.K "list" rExtend (rVar 2) (rCons (rMeth g A "risen" E0 (rVar 0) rNil) rNil))))
  rNext)
  (rRet (rVar 2))))
theorem e_Link_onward (g : G) (A : Around) : t_Link_onward g A = r_Link_onward g A := by kernel_rfl
def t_Link_risen (g : G) (A : Around) : TS := (tSeq (tIfS (tTest (tOp kIsN (tFld g.K (tVar 0) "porter") (tC .non)))
  (tRet (tMethG g A "granted" E0 (tVar 0) tNil))
  tNext)
  (tRet (tLst (tCons (tTup (tCons (tFld g.K (tVar 0) "porter") (tCons (tTup (tCons (tC (.str "please")) tNil)) tNil))) tNil))))
def r_Link_risen (g : G) (A : Around) : TS := (rSeq (rIfS (rTest (rOp kIsN (rFld g.K (rVar 0) "porter") (rC .non)))
  (rRet (rMeth g A "granted" E0 (rVar 0) rNil))
  rNext)
  (rRet (rLst (rCons (rTup (rCons (rFld g.K (rVar 0) "porter") (rCons (rTup (rCons (rC (.str "please")) rNil)) rNil))) rNil))))
theorem e_Link_risen (g : G) (A : Around) : t_Link_risen g A = r_Link_risen g A := by kernel_rfl
def t_Link_granted (g : G) (A : Around) : TS := (tRet (tLst tNil))
def r_Link_granted (g : G) (A : Around) : TS := (rRet (rLst rNil))
theorem e_Link_granted (g : G) (A : Around) : t_Link_granted g A = r_Link_granted g A := by kernel_rfl
def t_Link_let_go (g : G) (A : Around) : TS := (tSeq (sFld g.K (tVar 0) (tC (.bl false)) "passed_on")
  (tSeq (tAsg (tLst tNil) (gName 1))
  (C8.tCut (tIfS (tTest (tOp kNotN (tFld g.K (tVar 0) "porter") (tC .non)))
  (tDrop (tBM g.K "list" rAppend (tVar 1) (tCons (tTup (tCons (tFld g.K (tVar 0) "porter") (tCons (tTup (tCons (tC (.str "done")) tNil)) tNil))) tNil)))
  tNext)
  (tSeq (tDrop (tBM g.K "list" rExtend (tVar 1) (tCons (tMethG g A "outward" E0 (tVar 0) (tCons (tMethG g A "leave" E0 (tFld g.K (tVar 0) "inner") tNil) tNil)) tNil)))
  (tRet (tVar 1))))))
def r_Link_let_go (g : G) (A : Around) : TS := (rSeq (rSFld g.K (rVar 0) (rC (.bl false)) "passed_on")
  (rSeq (rAsg (rLst rNil) (rName 1))
  (rCut (rIfS (rTest (rOp kNotN (rFld g.K (rVar 0) "porter") (rC .non)))
  (rDrop (rBM g.K "list" rAppend (rVar 1) (rCons (rTup (rCons (rFld g.K (rVar 0) "porter") (rCons (rTup (rCons (rC (.str "done")) rNil)) rNil))) rNil)))
  rNext)
  (rSeq (rDrop (rBM g.K "list" rExtend (rVar 1) (rCons (rMeth g A "outward" E0 (rVar 0) (rCons (rMeth g A "leave" E0 (rFld g.K (rVar 0) "inner") rNil) rNil)) rNil)))
  (rRet (rVar 1))))))
theorem e_Link_let_go (g : G) (A : Around) : t_Link_let_go g A = r_Link_let_go g A := by kernel_rfl
def t_Member_ask (g : G) (A : Around) : TS := (tSeq (sFld g.K (tVar 0) (tC (.str "asking")) "state")
  (tRet (tMethG g A "onward" E0 (tVar 0) (tCons (tMethG g A "ask" E0 (tFld g.K (tVar 0) "inner") tNil) tNil))))
def r_Member_ask (g : G) (A : Around) : TS := (rSeq (rSFld g.K (rVar 0) (rC (.str "asking")) "state")
  (rRet (rMeth g A "onward" E0 (rVar 0) (rCons (rMeth g A "ask" E0 (rFld g.K (rVar 0) "inner") rNil) rNil))))
theorem e_Member_ask (g : G) (A : Around) : t_Member_ask g A = r_Member_ask g A := by kernel_rfl
def t_Member_leave (g : G) (A : Around) : TS := (tSeq (sFld g.K (tVar 0) (tC (.str "out")) "state")
  (tRet (tMethG g A "let_go" E0 (tVar 0) tNil)))
def r_Member_leave (g : G) (A : Around) : TS := (rSeq (rSFld g.K (rVar 0) (rC (.str "out")) "state")
  (rRet (rMeth g A "let_go" E0 (rVar 0) rNil)))
theorem e_Member_leave (g : G) (A : Around) : t_Member_leave g A = r_Member_leave g A := by kernel_rfl
def t_Member_granted (g : G) (A : Around) : TS := (tSeq (sFld g.K (tVar 0) (tC (.str "in")) "state")
  (tRet (tLst tNil)))
def r_Member_granted (g : G) (A : Around) : TS := (rSeq (rSFld g.K (rVar 0) (rC (.str "in")) "state")
  (rRet (rLst rNil)))
theorem e_Member_granted (g : G) (A : Around) : t_Member_granted g A = r_Member_granted g A := by kernel_rfl
def t_Member_hear (g : G) (A : Around) : TS := (tSeq (tIfS (tTest (tOp (kEq g.K) (tVar 1) (tFld g.K (tVar 0) "porter")))
  (tRet (tMethG g A "granted" E0 (tVar 0) tNil))
  tNext)
  (tRet (tMethG g A "inward" E0 (tVar 0) (tCons (tVar 1) (tCons (tVar 2) tNil)))))
def r_Member_hear (g : G) (A : Around) : TS := (rSeq (rIfS (rTest (rOp (kEq g.K) (rVar 1) (rFld g.K (rVar 0) "porter")))
  (rRet (rMeth g A "granted" E0 (rVar 0) rNil))
  rNext)
  (rRet (rMeth g A "inward" E0 (rVar 0) (rCons (rVar 1) (rCons (rVar 2) rNil)))))
theorem e_Member_hear (g : G) (A : Around) : t_Member_hear g A = r_Member_hear g A := by kernel_rfl
def t_word_of (g : G) (A : Around) : TS := (tSeq (tIfS (tTest (tOp (kEq g.K) (tCB (kLen g.K) (tCons (tVar 1) tNil)) (tC (.int 0))))
  (tRet (tC (.str "empty")))
  tNext)
  (tSeq (tFor (iSeq g.K (tVar 1)) (gName 2)
  (tIfS (tOr (tTest (tOp kLt (tVar 2) (tC (.int 0)))) (tTest (tOp kGe (tVar 2) (tVar 0))))
  (tRet (tC (.str "outside")))
  tNext))
  (tSeq (tFor (iRng2 (tCons (tC (.int 1)) (tCons (tCB (kLen g.K) (tCons (tVar 1) tNil)) tNil))) (gName 3)
  (tIfS (tTest (tOp kGe (tOp (kIx g.K) (tVar 1) (tOp kSub (tVar 3) (tC (.int 1)))) (tOp (kIx g.K) (tVar 1) (tVar 3))))
  (tRet (tC (.str "order")))
  tNext))
  (tRet (tC .non)))))
@[reducible] def rb_word_of_0 (g : G) (A : Around) : TS := (rIfS (rOr (rTest (rOp kLt (rVar 2) (rC (.int 0)))) (rTest (rOp kGe (rVar 2) (rVar 0))))
  (rRet (rC (.str "outside")))
  rNext)
@[reducible] def rb_word_of_1 (g : G) (A : Around) : TS := (rIfS (rTest (rOp kGe (rOp (kIx g.K) (rVar 1) (rOp kSub (rVar 3) (rC (.int 1)))) (rOp (kIx g.K) (rVar 1) (rVar 3))))
  (rRet (rC (.str "order")))
  rNext)
def r_word_of (g : G) (A : Around) : TS := (rSeq (rIfS (rTest (rOp (kEq g.K) (rCB (kLen g.K) (rCons (rVar 1) rNil)) (rC (.int 0))))
  (rRet (rC (.str "empty")))
  rNext)
  (rSeq (rFor (rSeqI g.K (rVar 1)) (rName 2)
  (rb_word_of_0 g A))
  (rSeq (rFor (rRng2 (rCons (rC (.int 1)) (rCons (rCB (kLen g.K) (rCons (rVar 1) rNil)) rNil))) (rName 3)
  (rb_word_of_1 g A))
  (rRet (rC .non)))))
theorem e_word_of (g : G) (A : Around) : t_word_of g A = r_word_of g A := by kernel_rfl
def t_fault (g : G) (A : Around) : TS := (tSeq (tAsg tDNew (gName 2))
  (tSeq (tFor (iEnumG g.K (tCons (tVar 1) tNil)) (gTup g.K 2 (gCons (gName 3) (gCons (gName 4) gNil)))
  (tSeq (tAsg (tCallG g A "word_of" E0 (tCons (tVar 0) (tCons (tVar 4) tNil))) (gName 5))
  (C8.tCut (tIfS (tAnd (tTest (tOp kIsN (tVar 5) (tC .non))) (tTest (tOp (kIn g.K) (tVar 4) (tVar 2))))
  (tAsg (tC (.str "again")) (gName 5))
  tNext)
  (tSeq (tIfS (tTest (tOp kNotN (tVar 5) (tC .non)))
  (tRet (tTup (tCons (tVar 3) (tCons (tVar 5) tNil))))
  tNext)
  (tAsg (tC (.bl true)) (gSub (tVar 2) (tVar 4) kSet))))))
  (tRet (tC .non))))
@[reducible] def rb_fault_0 (g : G) (A : Around) : TS := (rSeq (rAsg (rCall g A "word_of" E0 (rCons (rVar 0) (rCons (rVar 4) rNil))) (rName 5))
  (rCut (rIfS (rAnd (rTest (rOp kIsN (rVar 5) (rC .non))) (rTest (rOp (kIn g.K) (rVar 4) (rVar 2))))
  (rAsg (rC (.str "again")) (rName 5))
  rNext)
  (rSeq (rIfS (rTest (rOp kNotN (rVar 5) (rC .non)))
  (rRet (rTup (rCons (rVar 3) (rCons (rVar 5) rNil))))
  rNext)
  (rAsg (rC (.bl true)) (rGSub (rVar 2) (rVar 4) kSet)))))
def r_fault (g : G) (A : Around) : TS := (rSeq (rAsg tDNew (rName 2))
  (rSeq (rFor (rEnum g.K (rCons (rVar 1) rNil)) (rGTup g.K 2 (rGCons (rName 3) (rGCons (rName 4) rGNil)))
  (rb_fault_0 g A))
  (rRet (rC .non))))
theorem e_fault (g : G) (A : Around) : t_fault g A = r_fault g A := by kernel_rfl
def t_looked (g : G) (A : Around) : TS := (tSeq (tIfS (tOr (tTest (tOp kLt (tVar 0) (tC (.int 1)))) (tTest (tOp kGt (tVar 0) (tGl g "SEATS"))))
  tNever
  tNext)
  (tSeq (tIfS (tTest (tOp kGt (tCB (kLen g.K) (tCons (tVar 1) tNil)) (tGl g "SETS")))
  tNever
  tNext)
  (tSeq (tAsg (tCallG g A "fault" E0 (tCons (tVar 0) (tCons (tVar 1) tNil))) (gName 2))
  (tIfS (tTest (tOp kNotN (tVar 2) (tC .non)))
  tNever
  tNext))))
def r_looked (g : G) (A : Around) : TS := (rSeq (rIfS (rOr (rTest (rOp kLt (rVar 0) (rC (.int 1)))) (rTest (rOp kGt (rVar 0) (rGl g "SEATS"))))
  tNever
  rNext)
  (rSeq (rIfS (rTest (rOp kGt (rCB (kLen g.K) (rCons (rVar 1) rNil)) (rGl g "SETS")))
  tNever
  rNext)
  (rSeq (rAsg (rCall g A "fault" E0 (rCons (rVar 0) (rCons (rVar 1) rNil))) (rName 2))
  (rIfS (rTest (rOp kNotN (rVar 2) (rC .non)))
  tNever
  rNext))))
theorem e_looked (g : G) (A : Around) : t_looked g A = r_looked g A := by kernel_rfl
def t_bits_of (g : G) (A : Around) : TS := (tSeq (tAsg (tC (.int 0)) (gName 1))
  (tSeq (tFor (iSeq g.K (tVar 0)) (gName 2)
  (tAug 1 (tOp kShl (tC (.int 1)) (tVar 2)) ipOrG))
  (tRet (tVar 1))))
@[reducible] def rb_bits_of_0 (g : G) (A : Around) : TS := (rAug 1 (rOp kShl (rC (.int 1)) (rVar 2)) ipOrG)
def r_bits_of (g : G) (A : Around) : TS := (rSeq (rAsg (rC (.int 0)) (rName 1))
  (rSeq (rFor (rSeqI g.K (rVar 0)) (rName 2)
  (rb_bits_of_0 g A))
  (rRet (rVar 1))))
theorem e_bits_of (g : G) (A : Around) : t_bits_of g A = r_bits_of g A := by kernel_rfl
def t_first_apart (g : G) (A : Around) : TS := (tSeq (tFor (iEnumG g.K (tCons (tVar 0) tNil)) (gTup g.K 2 (gCons (gName 1) (gCons (gName 2) gNil)))
  (tFor (iRng2 (tCons (tOp (kAdd g.K) (tVar 1) (tC (.int 1))) (tCons (tCB (kLen g.K) (tCons (tVar 0) tNil)) tNil))) (gName 3)
  (tIfS (tTest (tOp (kEq g.K) (tOp kBAnd (tVar 2) (tOp (kIx g.K) (tVar 0) (tVar 3))) (tC (.int 0))))
  (tRet (tTup (tCons (tVar 1) (tCons (tVar 3) tNil))))
  tNext)))
  (tRet (tC .non)))
@[reducible] def rb_first_apart_0 (g : G) (A : Around) : TS := (rIfS (rTest (rOp (kEq g.K) (rOp kBAnd (rVar 2) (rOp (kIx g.K) (rVar 0) (rVar 3))) (rC (.int 0))))
  (rRet (rTup (rCons (rVar 1) (rCons (rVar 3) rNil))))
  rNext)
@[reducible] def rb_first_apart_1 (g : G) (A : Around) : TS := (rFor (rRng2 (rCons (rOp (kAdd g.K) (rVar 1) (rC (.int 1))) (rCons (rCB (kLen g.K) (rCons (rVar 0) rNil)) rNil))) (rName 3)
  (rb_first_apart_0 g A))
def r_first_apart (g : G) (A : Around) : TS := (rSeq (rFor (rEnum g.K (rCons (rVar 0) rNil)) (rGTup g.K 2 (rGCons (rName 1) (rGCons (rName 2) rGNil)))
  (rb_first_apart_1 g A))
  (rRet (rC .non)))
theorem e_first_apart (g : G) (A : Around) : t_first_apart g A = r_first_apart g A := by kernel_rfl
def t_least_bit (g : G) (A : Around) : TS := (tRet (tOp kSub (tBits (tOp kBAnd (tVar 0) (tUn (rU fun i => .int (-i)) (tVar 0)))) (tC (.int 1))))
def r_least_bit (g : G) (A : Around) : TS := (rRet (rOp kSub (rUn kBits (rOp kBAnd (rVar 0) (rUn (rU fun i => .int (-i)) (rVar 0)))) (rC (.int 1))))
theorem e_least_bit (g : G) (A : Around) : t_least_bit g A = r_least_bit g A := by kernel_rfl
def t_meeting (g : G) (A : Around) : TS := (tSeq (tDrop (tCallG g A "looked" E0 (tCons (tVar 0) (tCons (tVar 1) tNil))))
  (tSeq (tAsg (tLc (iSeq g.K (tVar 1)) (gName 4) tYes (tCallG g A "bits_of" E0 (tCons (tVar 4) tNil)) [4]) (gName 2))
  (tSeq (tAsg (tCallG g A "first_apart" E0 (tCons (tVar 2) tNil)) (gName 3))
  (tSeq (tIfS (tTest (tOp kNotN (tVar 3) (tC .non)))
  (tRet (tTup (tCons (tC (.str "apart")) (tCons (tOp (kIx g.K) (tVar 3) (tC (.int 0))) (tCons (tOp (kIx g.K) (tVar 3) (tC (.int 1))) tNil)))))
  tNext)
  (tRet (tTup (tCons (tC (.str "meets")) (tCons (tLc (iEnumG g.K (tCons (tVar 2) tNil)) (gTup g.K 2 (gCons (gName 6) (gCons (gName 4) gNil))) tYes (tLc (iSeq g.K (tSl (kSl g.K) (tVar 2) tNoPart (tPart (tVar 6)))) (gName 5) tYes (tCallG g A "least_bit" E0 (tCons (tOp kBAnd (tVar 4) (tVar 5)) tNil)) [5]) [6, 4]) tNil))))))))
def r_meeting (g : G) (A : Around) : TS := (rSeq (rDrop (rCall g A "looked" E0 (rCons (rVar 0) (rCons (rVar 1) rNil))))
  (rSeq (rAsg (rLc (rSeqI g.K (rVar 1)) (rName 4) rYes (rCall g A "bits_of" E0 (rCons (rVar 4) rNil)) [4]) (rName 2))
  (rSeq (rAsg (rCall g A "first_apart" E0 (rCons (rVar 2) rNil)) (rName 3))
  (rSeq (rIfS (rTest (rOp kNotN (rVar 3) (rC .non)))
  (rRet (rTup (rCons (rC (.str "apart")) (rCons (rOp (kIx g.K) (rVar 3) (rC (.int 0))) (rCons (rOp (kIx g.K) (rVar 3) (rC (.int 1))) rNil)))))
  rNext)
  (rRet (rTup (rCons (rC (.str "meets")) (rCons (rLc (rEnum g.K (rCons (rVar 2) rNil)) (rGTup g.K 2 (rGCons (rName 6) (rGCons (rName 4) rGNil))) rYes (rLc (rSeqI g.K (rSl (kSl g.K) (rVar 2) rNoPart (rPart (rVar 6)))) (rName 5) rYes (rCall g A "least_bit" E0 (rCons (rOp kBAnd (rVar 4) (rVar 5)) rNil)) [5]) [6, 4]) rNil))))))))
theorem e_meeting (g : G) (A : Around) : t_meeting g A = r_meeting g A := by kernel_rfl
def t_set_words (g : G) (A : Around) : TS := (tSeq (tAsg (tLst tNil) (gName 1))
  (tSeq (tFor (iSeq g.K (tVar 0)) (gName 2)
  (C8.tCut (tIfS (tTruG g.K (tVar 1))
  (tDrop (tBM g.K "list" rAppend (tVar 1) (tCons (tC (.str "|")) tNil)))
  tNext)
  (tFor (iSeq g.K (tVar 2)) (gName 3)
  (tDrop (tBM g.K "list" rAppend (tVar 1) (tCons (tCB (kStr) (tCons (tVar 3) tNil)) tNil))))))
  (tRet (tVar 1))))
@[reducible] def rb_set_words_0 (g : G) (A : Around) : TS := (rDrop (rBM g.K "list" rAppend (rVar 1) (rCons (rCB (kStr) (rCons (rVar 3) rNil)) rNil)))
@[reducible] def rb_set_words_1 (g : G) (A : Around) : TS := (rCut (rIfS (rTru g.K (rVar 1))
  (rDrop (rBM g.K "list" rAppend (rVar 1) (rCons (rC (.str "|")) rNil)))
  rNext)
  (rFor (rSeqI g.K (rVar 2)) (rName 3)
  (rb_set_words_0 g A)))
def r_set_words (g : G) (A : Around) : TS := (rSeq (rAsg (rLst rNil) (rName 1))
  (rSeq (rFor (rSeqI g.K (rVar 0)) (rName 2)
  (rb_set_words_1 g A))
  (rRet (rVar 1))))
theorem e_set_words (g : G) (A : Around) : t_set_words g A = r_set_words g A := by kernel_rfl
def t_first_wrong (g : G) (A : Around) : TS := (tSeq (tIfS (tOr (tNot (tTruG g.K (tCB (kIsi g.K) (tCons (tVar 0) (tCons (tC (.ty "str")) tNil))))) (tTest (tOp (kNotIn g.K) (tVar 0) (tGl g "MANNERS"))))
  (tRet (tC (.str "manner")))
  tNext)
  (tSeq (tIfS (tOr (tNot (tTruG g.K (tVar 1))) (tNot (tTruG g.K (tCB (kAll g.K) (tCons (tLc (iSeq g.K (tVar 1)) (gName 4) tYes (tCB (kIsi g.K) (tCons (tVar 4) (tCons (tTup (tCons (tGl g "Leaf") (tCons (tGl g "Branch") tNil))) tNil))) [4]) tNil)))))
  (tRet (tC (.str "parts")))
  tNext)
  (tSeq (tIfS (tTest (tOp kGt (tCB (kSum g.K) (tCons (tLc (iSeq g.K (tVar 1)) (gName 4) tYes (tOp (kAdd g.K) (tCB (kLenO g A E0) (tCons (tVar 4) tNil)) (tMethG g A "halls" E0 (tVar 4) tNil)) [4]) tNil)) (tGl g "MOST")))
  (tRet (tC (.str "many")))
  tNext)
  (tSeq (tIfS (tTest (tOp kGe (tCB (kMax g.K) (tCons (tLc (iSeq g.K (tVar 1)) (gName 4) tYes (tMethG g A "deep" E0 (tVar 4) tNil) [4]) tNil)) (tGl g "DEEPEST")))
  (tRet (tC (.str "deep")))
  tNext)
  (tSeq (tIfS (tNot (tTruG g.K (tCallG g A "above_fits" E0 (tCons (tVar 0) (tCons (tVar 2) (tCons (tCB (kLenO g A E0) (tCons (tVar 1) tNil)) tNil))))))
  (tRet (tC (.str "above")))
  tNext)
  (tSeq (tIfS (tNot (tTruG g.K (tCallG g A "sets_fit" E0 (tCons (tVar 0) (tCons (tVar 3) (tCons (tCB (kLenO g A E0) (tCons (tVar 1) tNil)) tNil))))))
  (tRet (tC (.str "sets")))
  tNext)
  (tSeq (tIfS (tAnd (tTest (tOp (kEq g.K) (tVar 0) (tC (.str "votes")))) (tTest (tOp (kEq g.K) (tOp (kIx g.K) (tCallG g A "meeting" E0 (tCons (tCB (kLenO g A E0) (tCons (tVar 1) tNil)) (tCons (tCB (kList g.K) (tCons (tVar 3) tNil)) tNil))) (tC (.int 0))) (tC (.str "apart")))))
  (tRet (tC (.str "apart")))
  tNext)
  (tRet (tC .non)))))))))
def r_first_wrong (g : G) (A : Around) : TS := (rSeq (rIfS (rOr (rNot (rTru g.K (rCB (kIsi g.K) (rCons (rVar 0) (rCons (rC (.ty "str")) rNil))))) (rTest (rOp (kNotIn g.K) (rVar 0) (rGl g "MANNERS"))))
  (rRet (rC (.str "manner")))
  rNext)
  (rSeq (rIfS (rOr (rNot (rTru g.K (rVar 1))) (rNot (rTru g.K (rCB (kAll g.K) (rCons (rLc (rSeqI g.K (rVar 1)) (rName 4) rYes (rCB (kIsi g.K) (rCons (rVar 4) (rCons (rTup (rCons (rGl g "Leaf") (rCons (rGl g "Branch") rNil))) rNil))) [4]) rNil)))))
  (rRet (rC (.str "parts")))
  rNext)
  (rSeq (rIfS (rTest (rOp kGt (rCB (kSum g.K) (rCons (rLc (rSeqI g.K (rVar 1)) (rName 4) rYes (rOp (kAdd g.K) (rCB (kLenO g A E0) (rCons (rVar 4) rNil)) (rMeth g A "halls" E0 (rVar 4) rNil)) [4]) rNil)) (rGl g "MOST")))
  (rRet (rC (.str "many")))
  rNext)
  (rSeq (rIfS (rTest (rOp kGe (rCB (kMax g.K) (rCons (rLc (rSeqI g.K (rVar 1)) (rName 4) rYes (rMeth g A "deep" E0 (rVar 4) rNil) [4]) rNil)) (rGl g "DEEPEST")))
  (rRet (rC (.str "deep")))
  rNext)
  (rSeq (rIfS (rNot (rTru g.K (rCall g A "above_fits" E0 (rCons (rVar 0) (rCons (rVar 2) (rCons (rCB (kLenO g A E0) (rCons (rVar 1) rNil)) rNil))))))
  (rRet (rC (.str "above")))
  rNext)
  (rSeq (rIfS (rNot (rTru g.K (rCall g A "sets_fit" E0 (rCons (rVar 0) (rCons (rVar 3) (rCons (rCB (kLenO g A E0) (rCons (rVar 1) rNil)) rNil))))))
  (rRet (rC (.str "sets")))
  rNext)
  (rSeq (rIfS (rAnd (rTest (rOp (kEq g.K) (rVar 0) (rC (.str "votes")))) (rTest (rOp (kEq g.K) (rOp (kIx g.K) (rCall g A "meeting" E0 (rCons (rCB (kLenO g A E0) (rCons (rVar 1) rNil)) (rCons (rCB (kList g.K) (rCons (rVar 3) rNil)) rNil))) (rC (.int 0))) (rC (.str "apart")))))
  (rRet (rC (.str "apart")))
  rNext)
  (rRet (rC .non)))))))))
theorem e_first_wrong (g : G) (A : Around) : t_first_wrong g A = r_first_wrong g A := by kernel_rfl
def t_above_fits (g : G) (A : Around) : TS := (tSeq (tIfS (tTest (tOp (kNotIn g.K) (tVar 0) (tTup (tCons (tC (.str "tree")) (tCons (tC (.str "turning")) tNil)))))
  (tRet (tNotT g.K (tVar 1)))
  tNext)
  (tSeq (tIfS (tTest (tOp (kNe g.K) (tCB (kLen g.K) (tCons (tVar 1) tNil)) (tOp kSub (tVar 2) (tC (.int 1)))))
  (tRet (tC (.bl false)))
  tNext)
  (tSeq (tFor (iEnumS g.K 1 (tCons (tVar 1) tNil)) (gTup g.K 2 (gCons (gName 3) (gCons (gName 4) gNil)))
  (tIfS (tOr (tNot (tTruG g.K (tCB (kIsi g.K) (tCons (tVar 4) (tCons (tC (.ty "int")) tNil))))) (tOr (tTruG g.K (tCB (kIsi g.K) (tCons (tVar 4) (tCons (tC (.ty "bool")) tNil)))) (tNot (tTest (tChain kLe kLt (tC (.int 0)) (tVar 4) (tVar 3))))))
  (tRet (tC (.bl false)))
  tNext))
  (tRet (tC (.bl true))))))
@[reducible] def rb_above_fits_0 (g : G) (A : Around) : TS := (rIfS (rOr (rNot (rTru g.K (rCB (kIsi g.K) (rCons (rVar 4) (rCons (rC (.ty "int")) rNil))))) (rOr (rTru g.K (rCB (kIsi g.K) (rCons (rVar 4) (rCons (rC (.ty "bool")) rNil)))) (rNot (rTest (rChain kLe kLt (rC (.int 0)) (rVar 4) (rVar 3))))))
  (rRet (rC (.bl false)))
  rNext)
def r_above_fits (g : G) (A : Around) : TS := (rSeq (rIfS (rTest (rOp (kNotIn g.K) (rVar 0) (rTup (rCons (rC (.str "tree")) (rCons (rC (.str "turning")) rNil)))))
  (rRet (rNotT g.K (rVar 1)))
  rNext)
  (rSeq (rIfS (rTest (rOp (kNe g.K) (rCB (kLen g.K) (rCons (rVar 1) rNil)) (rOp kSub (rVar 2) (rC (.int 1)))))
  (rRet (rC (.bl false)))
  rNext)
  (rSeq (rFor (rEnumS g.K 1 (rCons (rVar 1) rNil)) (rGTup g.K 2 (rGCons (rName 3) (rGCons (rName 4) rGNil)))
  (rb_above_fits_0 g A))
  (rRet (rC (.bl true))))))
theorem e_above_fits (g : G) (A : Around) : t_above_fits g A = r_above_fits g A := by kernel_rfl
def t_sets_fit (g : G) (A : Around) : TS := (tSeq (tIfS (tTest (tOp (kNe g.K) (tVar 0) (tC (.str "votes"))))
  (tRet (tNotT g.K (tVar 1)))
  tNext)
  (tRet (tAndT g.K (tChain kLt kLe (tC (.int 0)) (tCB (kLen g.K) (tCons (tVar 1) tNil)) (tGl g "SETS")) (tOp kIsN (tCallG g A "fault" E0 (tCons (tVar 2) (tCons (tCB (kList g.K) (tCons (tVar 1) tNil)) tNil))) (tC .non)))))
def r_sets_fit (g : G) (A : Around) : TS := (rSeq (rIfS (rTest (rOp (kNe g.K) (rVar 0) (rC (.str "votes"))))
  (rRet (rNotT g.K (rVar 1)))
  rNext)
  (rRet (rAndT g.K (rChain kLt kLe (rC (.int 0)) (rCB (kLen g.K) (rCons (rVar 1) rNil)) (rGl g "SETS")) (rOp kIsN (rCall g A "fault" E0 (rCons (rVar 2) (rCons (rCB (kList g.K) (rCons (rVar 1) rNil)) rNil))) (rC .non)))))
theorem e_sets_fit (g : G) (A : Around) : t_sets_fit g A = r_sets_fit g A := by kernel_rfl
def t_law_some (g : G) (A : Around) : TS := (tSeq (tAsg (tLst tNil) (gName 2))
  (tSeq (tFor (iRng1 (tCons (tVar 1) tNil)) (gName 3)
  (C8.tCut (tIfS (tTest (tOp (kEq g.K) (tOp kMod (tVar 0) (tC (.int 2))) (tC (.int 1))))
  (tDrop (tBM g.K "list" rAppend (tVar 2) (tCons (tVar 3) tNil)))
  tNext)
  (tAsg (tOp kDiv (tVar 0) (tC (.int 2))) (gName 0))))
  (tRet (tCB (kTupleG g.K) (tCons (tVar 2) tNil)))))
@[reducible] def rb_law_some_0 (g : G) (A : Around) : TS := (rCut (rIfS (rTest (rOp (kEq g.K) (rOp kMod (rVar 0) (rC (.int 2))) (rC (.int 1))))
  (rDrop (rBM g.K "list" rAppend (rVar 2) (rCons (rVar 3) rNil)))
  rNext)
  (rAsg (rOp kDiv (rVar 0) (rC (.int 2))) (rName 0)))
def r_law_some (g : G) (A : Around) : TS := (rSeq (rAsg (rLst rNil) (rName 2))
  (rSeq (rFor (rRng1 (rCons (rVar 1) rNil)) (rName 3)
  (rb_law_some_0 g A))
  (rRet (rCB (kTupleG g.K) (rCons (rVar 2) rNil)))))
theorem e_law_some (g : G) (A : Around) : t_law_some g A = r_law_some g A := by kernel_rfl
def t_law_meet (g : G) (A : Around) : TS := (tRet (tCB (kAny g.K) (tCons (tLc (iSeq g.K (tVar 0)) (gName 2) tYes (tOp (kIn g.K) (tVar 2) (tVar 1)) [2]) tNil)))
def r_law_meet (g : G) (A : Around) : TS := (rRet (rCB (kAny g.K) (rCons (rLc (rSeqI g.K (rVar 0)) (rName 2) rYes (rOp (kIn g.K) (rVar 2) (rVar 1)) [2]) rNil)))
theorem e_law_meet (g : G) (A : Around) : t_law_meet g A = r_law_meet g A := by kernel_rfl
def t_law_sets (g : G) (A : Around) : TS := (tSeq (tAsg (tLst tNil) (gName 2))
  (tSeq (tFor (iRng1 (tCons (tOp (kIx g.K) (tLst (tCons (tC (.int 1)) (tCons (tC (.int 2)) (tCons (tC (.int 3)) (tCons (tC (.int 4)) (tCons (tC (.int 8)) (tCons (tC (.int 16)) tNil))))))) (tCallG g A "_law_pick" E0 (tCons (tVar 0) (tCons (tC (.int 6)) tNil)))) tNil)) (gName 3)
  (tSeq (tAsg (tCallG g A "_law_some" E0 (tCons (tCallG g A "_law_pick" E0 (tCons (tVar 0) (tCons (tOp kPow (tC (.int 2)) (tC (.int 60))) tNil))) (tCons (tVar 1) tNil))) (gName 4))
  (tIfS (tAnd (tTruG g.K (tVar 4)) (tAnd (tTest (tOp (kNotInG g.K) (tVar 4) (tVar 2))) (tTruG g.K (tCB (kAll g.K) (tCons (tLc (iSeq g.K (tVar 2)) (gName 5) tYes (tCallG g A "_law_meet" E0 (tCons (tVar 4) (tCons (tVar 5) tNil))) [5]) tNil)))))
  (tDrop (tBM g.K "list" rAppend (tVar 2) (tCons (tVar 4) tNil)))
  tNext)))
  (C8.tCut (tIfS (tNot (tTruG g.K (tVar 2)))
  (tDrop (tBM g.K "list" rAppend (tVar 2) (tCons (tTupRg (tRg1 (tVar 1))) tNil)))
  tNext)
  (tRet (tVar 2)))))
@[reducible] def rb_law_sets_0 (g : G) (A : Around) : TS := (rSeq (rAsg (rCall g A "_law_some" E0 (rCons (rCall g A "_law_pick" E0 (rCons (rVar 0) (rCons (rOp kPow (rC (.int 2)) (rC (.int 60))) rNil))) (rCons (rVar 1) rNil))) (rName 4))
  (rIfS (rAnd (rTru g.K (rVar 4)) (rAnd (rTest (rOp (kNotInG g.K) (rVar 4) (rVar 2))) (rTru g.K (rCB (kAll g.K) (rCons (rLc (rSeqI g.K (rVar 2)) (rName 5) rYes (rCall g A "_law_meet" E0 (rCons (rVar 4) (rCons (rVar 5) rNil))) [5]) rNil)))))
  (rDrop (rBM g.K "list" rAppend (rVar 2) (rCons (rVar 4) rNil)))
  rNext))
def r_law_sets (g : G) (A : Around) : TS := (rSeq (rAsg (rLst rNil) (rName 2))
  (rSeq (rFor (rRng1 (rCons (rOp (kIx g.K) (rLst (rCons (rC (.int 1)) (rCons (rC (.int 2)) (rCons (rC (.int 3)) (rCons (rC (.int 4)) (rCons (rC (.int 8)) (rCons (rC (.int 16)) rNil))))))) (rCall g A "_law_pick" E0 (rCons (rVar 0) (rCons (rC (.int 6)) rNil)))) rNil)) (rName 3)
  (rb_law_sets_0 g A))
  (rCut (rIfS (rNot (rTru g.K (rVar 2)))
  (rDrop (rBM g.K "list" rAppend (rVar 2) (rCons (rTrg1 (rVar 1)) rNil)))
  rNext)
  (rRet (rVar 2)))))
theorem e_law_sets (g : G) (A : Around) : t_law_sets g A = r_law_sets g A := by kernel_rfl
def t_law_rep (g : G) (A : Around) : TS := (tSeq (tAsg (tOp (kIx g.K) (tLst (tCons (tC (.str "stamps")) (tCons (tC (.str "tree")) (tCons (tC (.str "turning")) (tCons (tC (.str "votes")) (tCons (tC (.str "calls")) tNil)))))) (tCallG g A "_law_pick" E0 (tCons (tVar 0) (tCons (tC (.int 5)) tNil)))) (gName 3))
  (tSeq (tAsg (tOp (kIx g.K) (tLst (tCons (tC (.int 2)) (tCons (tC (.int 3)) (tCons (tC (.int 2)) (tCons (tC (.int 4)) (tCons (tC (.int 1)) (tCons (tC (.int 5)) tNil))))))) (tCallG g A "_law_pick" E0 (tCons (tVar 0) (tCons (tC (.int 6)) tNil)))) (gName 4))
  (C8.tCut (tIfS (tTest (tOp (kEq g.K) (tCallG g A "_law_pick" E0 (tCons (tVar 0) (tCons (tC (.int 9)) tNil))) (tC (.int 8))))
  (tAsg (tOp (kAdd g.K) (tC (.int 1)) (tCallG g A "_law_pick" E0 (tCons (tVar 0) (tCons (tC (.int 60)) tNil)))) (gName 4))
  tNext)
  (tSeq (tAsg (tLst tNil) (gName 5))
  (tSeq (tFor (iRng1 (tCons (tVar 4) tNil)) (gName 6)
  (tIfS (tTest (tOp kGt (tOp (kIx g.K) (tVar 1) (tC (.int 0))) (tC (.int 0))))
  (tSeq (tAugS (tVar 1) (tC (.int 0)) (tC (.int 1)) (kGet g.K) (ipI fun i j => i - j) kSet)
  (tIfS (tAnd (tTest (tOp kGt (tVar 2) (tC (.int 1)))) (tAnd (tTest (tOp kGt (tOp (kIx g.K) (tVar 1) (tC (.int 0))) (tC (.int 0)))) (tTest (tOp (kEq g.K) (tCallG g A "_law_pick" E0 (tCons (tVar 0) (tCons (tC (.int 3)) tNil))) (tC (.int 0))))))
  (tDrop (tBM g.K "list" rAppend (tVar 5) (tCons (tCallG g A "_law_rep" E0 (tCons (tVar 0) (tCons (tVar 1) (tCons (tOp kSub (tVar 2) (tC (.int 1))) tNil)))) tNil)))
  (tDrop (tBM g.K "list" rAppend (tVar 5) (tCons (tC (.str "o")) tNil)))))
  tNext))
  (tSeq (tAsg (tLst tNil) (gName 7))
  (tSeq (tAsg (tLst tNil) (gName 8))
  (C8.tCut (tIfS (tTest (tOp (kIn g.K) (tVar 3) (tTup (tCons (tC (.str "tree")) (tCons (tC (.str "turning")) tNil)))))
  (tAsg (tLc (iRng2 (tCons (tC (.int 1)) (tCons (tCB (kLen g.K) (tCons (tVar 5) tNil)) tNil))) (gName 9) tYes (tCallG g A "_law_pick" E0 (tCons (tVar 0) (tCons (tVar 9) tNil))) [9]) (gName 7))
  tNext)
  (C8.tCut (tIfS (tTest (tOp (kEq g.K) (tVar 3) (tC (.str "votes"))))
  (tAsg (tCallG g A "_law_sets" E0 (tCons (tVar 0) (tCons (tCB (kLen g.K) (tCons (tVar 5) tNil)) tNil))) (gName 8))
  tNext)
  (tRet (tTup (tCons (tVar 3) (tCons (tCB (kTupleG g.K) (tCons (tVar 7) tNil)) (tCons (tCB (kTupleG g.K) (tCons (tVar 8) tNil)) (tCons (tVar 5) tNil)))))))))))))))
@[reducible] def rb_law_rep_0 (g : G) (A : Around) : TS := (rIfS (rTest (rOp kGt (rOp (kIx g.K) (rVar 1) (rC (.int 0))) (rC (.int 0))))
  (rSeq (rAugS (rVar 1) (rC (.int 0)) (rC (.int 1)) (kGet g.K) (ipI fun i j => i - j) kSet)
  (rIfS (rAnd (rTest (rOp kGt (rVar 2) (rC (.int 1)))) (rAnd (rTest (rOp kGt (rOp (kIx g.K) (rVar 1) (rC (.int 0))) (rC (.int 0)))) (rTest (rOp (kEq g.K) (rCall g A "_law_pick" E0 (rCons (rVar 0) (rCons (rC (.int 3)) rNil))) (rC (.int 0))))))
  (rDrop (rBM g.K "list" rAppend (rVar 5) (rCons (rCall g A "_law_rep" E0 (rCons (rVar 0) (rCons (rVar 1) (rCons (rOp kSub (rVar 2) (rC (.int 1))) rNil)))) rNil)))
  (rDrop (rBM g.K "list" rAppend (rVar 5) (rCons (rC (.str "o")) rNil)))))
  rNext)
def r_law_rep (g : G) (A : Around) : TS := (rSeq (rAsg (rOp (kIx g.K) (rLst (rCons (rC (.str "stamps")) (rCons (rC (.str "tree")) (rCons (rC (.str "turning")) (rCons (rC (.str "votes")) (rCons (rC (.str "calls")) rNil)))))) (rCall g A "_law_pick" E0 (rCons (rVar 0) (rCons (rC (.int 5)) rNil)))) (rName 3))
  (rSeq (rAsg (rOp (kIx g.K) (rLst (rCons (rC (.int 2)) (rCons (rC (.int 3)) (rCons (rC (.int 2)) (rCons (rC (.int 4)) (rCons (rC (.int 1)) (rCons (rC (.int 5)) rNil))))))) (rCall g A "_law_pick" E0 (rCons (rVar 0) (rCons (rC (.int 6)) rNil)))) (rName 4))
  (rCut (rIfS (rTest (rOp (kEq g.K) (rCall g A "_law_pick" E0 (rCons (rVar 0) (rCons (rC (.int 9)) rNil))) (rC (.int 8))))
  (rAsg (rOp (kAdd g.K) (rC (.int 1)) (rCall g A "_law_pick" E0 (rCons (rVar 0) (rCons (rC (.int 60)) rNil)))) (rName 4))
  rNext)
  (rSeq (rAsg (rLst rNil) (rName 5))
  (rSeq (rFor (rRng1 (rCons (rVar 4) rNil)) (rName 6)
  (rb_law_rep_0 g A))
  (rSeq (rAsg (rLst rNil) (rName 7))
  (rSeq (rAsg (rLst rNil) (rName 8))
  (rCut (rIfS (rTest (rOp (kIn g.K) (rVar 3) (rTup (rCons (rC (.str "tree")) (rCons (rC (.str "turning")) rNil)))))
  (rAsg (rLc (rRng2 (rCons (rC (.int 1)) (rCons (rCB (kLen g.K) (rCons (rVar 5) rNil)) rNil))) (rName 9) rYes (rCall g A "_law_pick" E0 (rCons (rVar 0) (rCons (rVar 9) rNil))) [9]) (rName 7))
  rNext)
  (rCut (rIfS (rTest (rOp (kEq g.K) (rVar 3) (rC (.str "votes"))))
  (rAsg (rCall g A "_law_sets" E0 (rCons (rVar 0) (rCons (rCB (kLen g.K) (rCons (rVar 5) rNil)) rNil))) (rName 8))
  rNext)
  (rRet (rTup (rCons (rVar 3) (rCons (rCB (kTupleG g.K) (rCons (rVar 7) rNil)) (rCons (rCB (kTupleG g.K) (rCons (rVar 8) rNil)) (rCons (rVar 5) rNil)))))))))))))))
theorem e_law_rep (g : G) (A : Around) : t_law_rep g A = r_law_rep g A := by kernel_rfl
def t_law_words (g : G) (A : Around) : TS := (tSeq (tIfS (tTest (tOp (kEq g.K) (tVar 0) (tC (.str "o"))))
  (tRet (tLst (tCons (tC (.str "o")) tNil)))
  tNext)
  (tSeq (tAsg (tLst (tCons (tC (.str "[")) (tCons (tOp (kIx g.K) (tVar 0) (tC (.int 0))) tNil))) (gName 1))
  (tSeq (tDrop (tBM g.K "list" rExtend (tVar 1) (tCons (tLc (iSeq g.K (tOp (kIx g.K) (tVar 0) (tC (.int 1)))) (gName 5) tYes (tCB (kStr) (tCons (tVar 5) tNil)) [5]) tNil)))
  (tSeq (tFor (iEnumG g.K (tCons (tOp (kIx g.K) (tVar 0) (tC (.int 2))) tNil)) (gTup g.K 2 (gCons (gName 2) (gCons (gName 3) gNil)))
  (C8.tCut (tIfS (tTest (tOp kGt (tVar 2) (tC (.int 0))))
  (tDrop (tBM g.K "list" rAppend (tVar 1) (tCons (tC (.str "|")) tNil)))
  tNext)
  (tDrop (tBM g.K "list" rExtend (tVar 1) (tCons (tLc (iSeq g.K (tVar 3)) (gName 5) tYes (tCB (kStr) (tCons (tVar 5) tNil)) [5]) tNil)))))
  (tSeq (tDrop (tBM g.K "list" rAppend (tVar 1) (tCons (tC (.str ":")) tNil)))
  (tSeq (tFor (iSeq g.K (tOp (kIx g.K) (tVar 0) (tC (.int 3)))) (gName 4)
  (tDrop (tBM g.K "list" rExtend (tVar 1) (tCons (tCallG g A "_law_words" E0 (tCons (tVar 4) tNil)) tNil))))
  (tSeq (tDrop (tBM g.K "list" rAppend (tVar 1) (tCons (tC (.str "]")) tNil)))
  (tRet (tVar 1)))))))))
@[reducible] def rb_law_words_0 (g : G) (A : Around) : TS := (rCut (rIfS (rTest (rOp kGt (rVar 2) (rC (.int 0))))
  (rDrop (rBM g.K "list" rAppend (rVar 1) (rCons (rC (.str "|")) rNil)))
  rNext)
  (rDrop (rBM g.K "list" rExtend (rVar 1) (rCons (rLc (rSeqI g.K (rVar 3)) (rName 5) rYes (rCB (kStr) (rCons (rVar 5) rNil)) [5]) rNil))))
@[reducible] def rb_law_words_1 (g : G) (A : Around) : TS := (rDrop (rBM g.K "list" rExtend (rVar 1) (rCons (rCall g A "_law_words" E0 (rCons (rVar 4) rNil)) rNil)))
def r_law_words (g : G) (A : Around) : TS := (rSeq (rIfS (rTest (rOp (kEq g.K) (rVar 0) (rC (.str "o"))))
  (rRet (rLst (rCons (rC (.str "o")) rNil)))
  rNext)
  (rSeq (rAsg (rLst (rCons (rC (.str "[")) (rCons (rOp (kIx g.K) (rVar 0) (rC (.int 0))) rNil))) (rName 1))
  (rSeq (rDrop (rBM g.K "list" rExtend (rVar 1) (rCons (rLc (rSeqI g.K (rOp (kIx g.K) (rVar 0) (rC (.int 1)))) (rName 5) rYes (rCB (kStr) (rCons (rVar 5) rNil)) [5]) rNil)))
  (rSeq (rFor (rEnum g.K (rCons (rOp (kIx g.K) (rVar 0) (rC (.int 2))) rNil)) (rGTup g.K 2 (rGCons (rName 2) (rGCons (rName 3) rGNil)))
  (rb_law_words_0 g A))
  (rSeq (rDrop (rBM g.K "list" rAppend (rVar 1) (rCons (rC (.str ":")) rNil)))
  (rSeq (rFor (rSeqI g.K (rOp (kIx g.K) (rVar 0) (rC (.int 3)))) (rName 4)
  (rb_law_words_1 g A))
  (rSeq (rDrop (rBM g.K "list" rAppend (rVar 1) (rCons (rC (.str "]")) rNil)))
  (rRet (rVar 1)))))))))
theorem e_law_words (g : G) (A : Around) : t_law_words g A = r_law_words g A := by kernel_rfl
def t_law_made (g : G) (A : Around) : TS := (tSeq (tIfS (tTest (tOp (kEq g.K) (tVar 0) (tC (.str "o"))))
  (tRet (tMakePlain g "Leaf"))
  tNext)
  (tSeq (tAsg (tLc (iSeq g.K (tOp (kIx g.K) (tVar 0) (tC (.int 3)))) (gName 6) tYes (tCallG g A "_law_made" E0 (tCons (tVar 6) (tCons (tVar 1) tNil))) [6]) (gName 2))
  (tSeq (tAsg (tCB (kList g.K) (tCons (tOp (kIx g.K) (tVar 0) (tC (.int 1))) tNil)) (gName 3))
  (tSeq (tAsg (tCB (kList g.K) (tCons (tOp (kIx g.K) (tVar 0) (tC (.int 2))) tNil)) (gName 4))
  (C8.tCut (tIfS (tTruG g.K (tVar 1))
  (tAsg (tMakeKG g A "Branch" 2 ["sets", "above"] E0 (tCons (tOp (kIx g.K) (tVar 0) (tC (.int 0))) (tCons (tVar 2) tNil)) (tCons (tCB (kTupleG g.K) (tCons (tVar 4) tNil)) (tCons (tCB (kTupleG g.K) (tCons (tVar 3) tNil)) tNil))) (gName 5))
  (tIfS (tTest (tOp (kEq g.K) (tOp (kIx g.K) (tVar 0) (tC (.int 0))) (tC (.str "votes"))))
  (tAsg (tMakeKG g A "Branch" 2 ["sets"] E0 (tCons (tOp (kIx g.K) (tVar 0) (tC (.int 0))) (tCons (tVar 2) tNil)) (tCons (tVar 4) tNil)) (gName 5))
  (tIfS (tTruG g.K (tOp (kIx g.K) (tVar 0) (tC (.int 1))))
  (tAsg (tMakeKG g A "Branch" 2 ["above"] E0 (tCons (tOp (kIx g.K) (tVar 0) (tC (.int 0))) (tCons (tVar 2) tNil)) (tCons (tVar 3) tNil)) (gName 5))
  (tAsg (tMakeG g A "Branch" E0 (tCons (tOp (kIx g.K) (tVar 0) (tC (.int 0))) (tCons (tVar 2) tNil))) (gName 5)))))
  (tSeq (tDrop (tBM g.K "list" rAppend (tVar 2) (tCons (tMakePlain g "Leaf") tNil)))
  (tSeq (tDrop (tBM g.K "list" rAppend (tVar 3) (tCons (tC (.int 0)) tNil)))
  (tSeq (tDrop (tBM g.K "list" rAppend (tVar 4) (tCons (tTup (tCons (tC (.int 0)) tNil)) tNil)))
  (tRet (tVar 5))))))))))
def r_law_made (g : G) (A : Around) : TS := (rSeq (rIfS (rTest (rOp (kEq g.K) (rVar 0) (rC (.str "o"))))
  (rRet (rMakePlain g "Leaf"))
  rNext)
  (rSeq (rAsg (rLc (rSeqI g.K (rOp (kIx g.K) (rVar 0) (rC (.int 3)))) (rName 6) rYes (rCall g A "_law_made" E0 (rCons (rVar 6) (rCons (rVar 1) rNil))) [6]) (rName 2))
  (rSeq (rAsg (rCB (kList g.K) (rCons (rOp (kIx g.K) (rVar 0) (rC (.int 1))) rNil)) (rName 3))
  (rSeq (rAsg (rCB (kList g.K) (rCons (rOp (kIx g.K) (rVar 0) (rC (.int 2))) rNil)) (rName 4))
  (rCut (rIfS (rTru g.K (rVar 1))
  (rAsg (rMakeK g A "Branch" 2 ["sets", "above"] E0 (rCons (rOp (kIx g.K) (rVar 0) (rC (.int 0))) (rCons (rVar 2) rNil)) (rCons (rCB (kTupleG g.K) (rCons (rVar 4) rNil)) (rCons (rCB (kTupleG g.K) (rCons (rVar 3) rNil)) rNil))) (rName 5))
  (rIfS (rTest (rOp (kEq g.K) (rOp (kIx g.K) (rVar 0) (rC (.int 0))) (rC (.str "votes"))))
  (rAsg (rMakeK g A "Branch" 2 ["sets"] E0 (rCons (rOp (kIx g.K) (rVar 0) (rC (.int 0))) (rCons (rVar 2) rNil)) (rCons (rVar 4) rNil)) (rName 5))
  (rIfS (rTru g.K (rOp (kIx g.K) (rVar 0) (rC (.int 1))))
  (rAsg (rMakeK g A "Branch" 2 ["above"] E0 (rCons (rOp (kIx g.K) (rVar 0) (rC (.int 0))) (rCons (rVar 2) rNil)) (rCons (rVar 3) rNil)) (rName 5))
  (rAsg (rMake g A "Branch" E0 (rCons (rOp (kIx g.K) (rVar 0) (rC (.int 0))) (rCons (rVar 2) rNil))) (rName 5)))))
  (rSeq (rDrop (rBM g.K "list" rAppend (rVar 2) (rCons (rMakePlain g "Leaf") rNil)))
  (rSeq (rDrop (rBM g.K "list" rAppend (rVar 3) (rCons (rC (.int 0)) rNil)))
  (rSeq (rDrop (rBM g.K "list" rAppend (rVar 4) (rCons (rTup (rCons (rC (.int 0)) rNil)) rNil)))
  (rRet (rVar 5))))))))))
theorem e_law_made (g : G) (A : Around) : t_law_made g A = r_law_made g A := by kernel_rfl
def t_law_deep (g : G) (A : Around) : TS := (tSeq (tIfS (tTest (tOp (kEq g.K) (tVar 0) (tC (.str "o"))))
  (tRet (tC (.int 0)))
  tNext)
  (tRet (tOp (kAdd g.K) (tC (.int 1)) (tCB (kMax g.K) (tCons (tLc (iSeq g.K (tOp (kIx g.K) (tVar 0) (tC (.int 3)))) (gName 1) tYes (tCallG g A "_law_deep" E0 (tCons (tVar 1) tNil)) [1]) tNil)))))
def r_law_deep (g : G) (A : Around) : TS := (rSeq (rIfS (rTest (rOp (kEq g.K) (rVar 0) (rC (.str "o"))))
  (rRet (rC (.int 0)))
  rNext)
  (rRet (rOp (kAdd g.K) (rC (.int 1)) (rCB (kMax g.K) (rCons (rLc (rSeqI g.K (rOp (kIx g.K) (rVar 0) (rC (.int 3)))) (rName 1) rYes (rCall g A "_law_deep" E0 (rCons (rVar 1) rNil)) [1]) rNil)))))
theorem e_law_deep (g : G) (A : Around) : t_law_deep g A = r_law_deep g A := by kernel_rfl
def t_law_number (g : G) (A : Around) : TS := (tRet (tAndT g.K (tCB (kIsi g.K) (tCons (tVar 0) (tCons (tC (.ty "int")) tNil))) (tAndT g.K (tNotT g.K (tCB (kIsi g.K) (tCons (tVar 0) (tCons (tC (.ty "bool")) tNil)))) (tOp (kEq g.K) (tVar 0) (tVar 1)))))
def r_law_number (g : G) (A : Around) : TS := (rRet (rAndT g.K (rCB (kIsi g.K) (rCons (rVar 0) (rCons (rC (.ty "int")) rNil))) (rAndT g.K (rNotT g.K (rCB (kIsi g.K) (rCons (rVar 0) (rCons (rC (.ty "bool")) rNil)))) (rOp (kEq g.K) (rVar 0) (rVar 1)))))
theorem e_law_number (g : G) (A : Around) : t_law_number g A = r_law_number g A := by kernel_rfl
def t_law_told (g : G) (A : Around) : TS := (tSeq (tAsg (tCallG g A "_law_words" E0 (tCons (tVar 1) tNil)) (gName 2))
  (tSeq (tAsg (tBM g.K "str" (kJoin g.K) (tC (.str " ")) (tCons (tVar 2) tNil)) (gName 3))
  (tSeq (tAsg (tMethG g A "words" E0 (tVar 0) tNil) (gName 4))
  (tSeq (tAsg (tCB (kList g.K) (tCons (tVar 4) tNil)) (gName 5))
  (tSeq (tDrop (tBM g.K "list" rAppend (tVar 4) (tCons (tC (.str "o")) tNil)))
  (tSeq (tIfS (tOr (tNot (tTruG g.K (tCB (kIsi g.K) (tCons (tVar 4) (tCons (tC (.ty "list")) tNil))))) (tOr (tTest (tOp (kNe g.K) (tVar 5) (tVar 2))) (tOr (tTest (tOp (kNe g.K) (tMethG g A "words" E0 (tVar 0) tNil) (tVar 2))) (tTest (tOp (kNe g.K) (tCB (kStrO g A E0) (tCons (tVar 0) tNil)) (tVar 3))))))
  (tRet (tC (.bl false)))
  tNext)
  (tSeq (tAsg (tCB (kLenO g A E0) (tCons (tLc (iSeq g.K (tVar 2)) (gName 7) (tTest (tOp (kEq g.K) (tVar 7) (tC (.str "o")))) (tVar 7) [7]) tNil)) (gName 6))
  (tSeq (tIfS (tOr (tNot (tTruG g.K (tCallG g A "_law_number" E0 (tCons (tCB (kLenO g A E0) (tCons (tVar 0) tNil)) (tCons (tVar 6) tNil))))) (tNot (tTruG g.K (tCallG g A "_law_number" E0 (tCons (tMethG g A "deep" E0 (tVar 0) tNil) (tCons (tCallG g A "_law_deep" E0 (tCons (tVar 1) tNil)) tNil))))))
  (tRet (tC (.bl false)))
  tNext)
  (tRet (tCallG g A "_law_number" E0 (tCons (tMethG g A "halls" E0 (tVar 0) tNil) (tCons (tCB (kLenO g A E0) (tCons (tLc (iSeq g.K (tVar 2)) (gName 7) (tTest (tOp (kEq g.K) (tVar 7) (tC (.str "[")))) (tVar 7) [7]) tNil)) tNil))))))))))))
def r_law_told (g : G) (A : Around) : TS := (rSeq (rAsg (rCall g A "_law_words" E0 (rCons (rVar 1) rNil)) (rName 2))
  (rSeq (rAsg (rBM g.K "str" (kJoin g.K) (rC (.str " ")) (rCons (rVar 2) rNil)) (rName 3))
  (rSeq (rAsg (rMeth g A "words" E0 (rVar 0) rNil) (rName 4))
  (rSeq (rAsg (rCB (kList g.K) (rCons (rVar 4) rNil)) (rName 5))
  (rSeq (rDrop (rBM g.K "list" rAppend (rVar 4) (rCons (rC (.str "o")) rNil)))
  (rSeq (rIfS (rOr (rNot (rTru g.K (rCB (kIsi g.K) (rCons (rVar 4) (rCons (rC (.ty "list")) rNil))))) (rOr (rTest (rOp (kNe g.K) (rVar 5) (rVar 2))) (rOr (rTest (rOp (kNe g.K) (rMeth g A "words" E0 (rVar 0) rNil) (rVar 2))) (rTest (rOp (kNe g.K) (rCB (kStrO g A E0) (rCons (rVar 0) rNil)) (rVar 3))))))
  (rRet (rC (.bl false)))
  rNext)
  (rSeq (rAsg (rCB (kLenO g A E0) (rCons (rLc (rSeqI g.K (rVar 2)) (rName 7) (rTest (rOp (kEq g.K) (rVar 7) (rC (.str "o")))) (rVar 7) [7]) rNil)) (rName 6))
  (rSeq (rIfS (rOr (rNot (rTru g.K (rCall g A "_law_number" E0 (rCons (rCB (kLenO g A E0) (rCons (rVar 0) rNil)) (rCons (rVar 6) rNil))))) (rNot (rTru g.K (rCall g A "_law_number" E0 (rCons (rMeth g A "deep" E0 (rVar 0) rNil) (rCons (rCall g A "_law_deep" E0 (rCons (rVar 1) rNil)) rNil))))))
  (rRet (rC (.bl false)))
  rNext)
  (rRet (rCall g A "_law_number" E0 (rCons (rMeth g A "halls" E0 (rVar 0) rNil) (rCons (rCB (kLenO g A E0) (rCons (rLc (rSeqI g.K (rVar 2)) (rName 7) (rTest (rOp (kEq g.K) (rVar 7) (rC (.str "[")))) (rVar 7) [7]) rNil)) rNil))))))))))))
theorem e_law_told (g : G) (A : Around) : t_law_told g A = r_law_told g A := by kernel_rfl
def t_law_values (g : G) (A : Around) : TS := (tSeq (tIfS (tTest (tOp (kEq g.K) (tVar 1) (tC (.str "o"))))
  (tRet (tCB (kIsi g.K) (tCons (tVar 0) (tCons (tGl g "Leaf") tNil))))
  tNext)
  (tSeq (tIfS (tOr (tNot (tTruG g.K (tCB (kIsi g.K) (tCons (tVar 0) (tCons (tGl g "Branch") tNil))))) (tTest (tOp (kNe g.K) (tFld g.K (tVar 0) "manner") (tOp (kIx g.K) (tVar 1) (tC (.int 0))))))
  (tRet (tC (.bl false)))
  tNext)
  (tSeq (tIfS (tOr (tNot (tTruG g.K (tCB (kIsi g.K) (tCons (tFld g.K (tVar 0) "above") (tCons (tC (.ty "tuple")) tNil))))) (tOr (tNot (tTruG g.K (tCB (kIsi g.K) (tCons (tFld g.K (tVar 0) "sets") (tCons (tC (.ty "tuple")) tNil))))) (tNot (tTruG g.K (tCB (kIsi g.K) (tCons (tFld g.K (tVar 0) "parts") (tCons (tC (.ty "tuple")) tNil)))))))
  (tRet (tC (.bl false)))
  tNext)
  (tSeq (tIfS (tOr (tTest (tOp (kNe g.K) (tFld g.K (tVar 0) "above") (tOp (kIx g.K) (tVar 1) (tC (.int 1))))) (tOr (tTest (tOp (kNe g.K) (tFld g.K (tVar 0) "sets") (tOp (kIx g.K) (tVar 1) (tC (.int 2))))) (tTest (tOp (kNe g.K) (tCB (kLen g.K) (tCons (tFld g.K (tVar 0) "parts") tNil)) (tCB (kLen g.K) (tCons (tOp (kIx g.K) (tVar 1) (tC (.int 3))) tNil))))))
  (tRet (tC (.bl false)))
  tNext)
  (tRet (tCB (kAll g.K) (tCons (tLc (iZipG g.K (tCons (tFld g.K (tVar 0) "parts") (tCons (tOp (kIx g.K) (tVar 1) (tC (.int 3))) tNil))) (gTup g.K 2 (gCons (gName 2) (gCons (gName 3) gNil))) tYes (tCallG g A "_law_whole" E0 (tCons (tVar 2) (tCons (tVar 3) tNil))) [2, 3]) tNil)))))))
def r_law_values (g : G) (A : Around) : TS := (rSeq (rIfS (rTest (rOp (kEq g.K) (rVar 1) (rC (.str "o"))))
  (rRet (rCB (kIsi g.K) (rCons (rVar 0) (rCons (rGl g "Leaf") rNil))))
  rNext)
  (rSeq (rIfS (rOr (rNot (rTru g.K (rCB (kIsi g.K) (rCons (rVar 0) (rCons (rGl g "Branch") rNil))))) (rTest (rOp (kNe g.K) (rFld g.K (rVar 0) "manner") (rOp (kIx g.K) (rVar 1) (rC (.int 0))))))
  (rRet (rC (.bl false)))
  rNext)
  (rSeq (rIfS (rOr (rNot (rTru g.K (rCB (kIsi g.K) (rCons (rFld g.K (rVar 0) "above") (rCons (rC (.ty "tuple")) rNil))))) (rOr (rNot (rTru g.K (rCB (kIsi g.K) (rCons (rFld g.K (rVar 0) "sets") (rCons (rC (.ty "tuple")) rNil))))) (rNot (rTru g.K (rCB (kIsi g.K) (rCons (rFld g.K (rVar 0) "parts") (rCons (rC (.ty "tuple")) rNil)))))))
  (rRet (rC (.bl false)))
  rNext)
  (rSeq (rIfS (rOr (rTest (rOp (kNe g.K) (rFld g.K (rVar 0) "above") (rOp (kIx g.K) (rVar 1) (rC (.int 1))))) (rOr (rTest (rOp (kNe g.K) (rFld g.K (rVar 0) "sets") (rOp (kIx g.K) (rVar 1) (rC (.int 2))))) (rTest (rOp (kNe g.K) (rCB (kLen g.K) (rCons (rFld g.K (rVar 0) "parts") rNil)) (rCB (kLen g.K) (rCons (rOp (kIx g.K) (rVar 1) (rC (.int 3))) rNil))))))
  (rRet (rC (.bl false)))
  rNext)
  (rRet (rCB (kAll g.K) (rCons (rLc (rZipG g.K (rCons (rFld g.K (rVar 0) "parts") (rCons (rOp (kIx g.K) (rVar 1) (rC (.int 3))) rNil))) (rGTup g.K 2 (rGCons (rName 2) (rGCons (rName 3) rGNil))) rYes (rCall g A "_law_whole" E0 (rCons (rVar 2) (rCons (rVar 3) rNil))) [2, 3]) rNil)))))))
theorem e_law_values (g : G) (A : Around) : t_law_values g A = r_law_values g A := by kernel_rfl
def t_law_whole (g : G) (A : Around) : TS := (tRet (tAndT g.K (tCallG g A "_law_told" E0 (tCons (tVar 0) (tCons (tVar 1) tNil))) (tCallG g A "_law_values" E0 (tCons (tVar 0) (tCons (tVar 1) tNil)))))
def r_law_whole (g : G) (A : Around) : TS := (rRet (rAndT g.K (rCall g A "_law_told" E0 (rCons (rVar 0) (rCons (rVar 1) rNil))) (rCall g A "_law_values" E0 (rCons (rVar 0) (rCons (rVar 1) rNil)))))
theorem e_law_whole (g : G) (A : Around) : t_law_whole g A = r_law_whole g A := by kernel_rfl
def t_law_other (g : G) (A : Around) : TS := (tSeq (tAsg (tCallG g A "_law_pick" E0 (tCons (tVar 1) (tCons (tC (.int 4)) tNil))) (gName 2))
  (tSeq (tAsg (tVar 0) (gTup g.K 4 (gCons (gName 3) (gCons (gName 4) (gCons (gName 5) (gCons (gName 6) gNil))))))
  (tSeq (tIfS (tAnd (tTest (tOp (kEq g.K) (tVar 2) (tC (.int 0)))) (tTest (tOp (kIn g.K) (tVar 3) (tTup (tCons (tC (.str "stamps")) (tCons (tC (.str "calls")) tNil))))))
  (tRet (tTup (tCons (tOp (kIx g.K) (tLst (tCons (tC (.str "calls")) (tCons (tC (.str "stamps")) tNil))) (tCB (kInt) (tCons (tOp (kEq g.K) (tVar 3) (tC (.str "calls"))) tNil))) (tCons (tVar 4) (tCons (tVar 5) (tCons (tVar 6) tNil))))))
  tNext)
  (tSeq (tIfS (tAnd (tTest (tOp (kEq g.K) (tVar 2) (tC (.int 1)))) (tTest (tOp (kIn g.K) (tVar 3) (tTup (tCons (tC (.str "tree")) (tCons (tC (.str "turning")) tNil))))))
  (tRet (tTup (tCons (tOp (kIx g.K) (tLst (tCons (tC (.str "turning")) (tCons (tC (.str "tree")) tNil))) (tCB (kInt) (tCons (tOp (kEq g.K) (tVar 3) (tC (.str "turning"))) tNil))) (tCons (tVar 4) (tCons (tVar 5) (tCons (tVar 6) tNil))))))
  tNext)
  (tSeq (tIfS (tAnd (tTest (tOp (kEq g.K) (tVar 2) (tC (.int 2)))) (tTest (tOp kGt (tCB (kLen g.K) (tCons (tVar 4) tNil)) (tC (.int 1)))))
  (tRet (tTup (tCons (tVar 3) (tCons (tOp (kAdd g.K) (tSl (kSl g.K) (tVar 4) tNoPart (tPart (tUn (rU fun i => .int (-i)) (tC (.int 1))))) (tTup (tCons (tOp kMod (tOp (kAdd g.K) (tOp (kIx g.K) (tVar 4) (tUn (rU fun i => .int (-i)) (tC (.int 1)))) (tC (.int 1))) (tCB (kLen g.K) (tCons (tVar 4) tNil))) tNil))) (tCons (tVar 5) (tCons (tVar 6) tNil))))))
  tNext)
  (tSeq (tIfS (tAnd (tTest (tOp (kEq g.K) (tVar 2) (tC (.int 3)))) (tTest (tOp kGt (tCB (kLen g.K) (tCons (tVar 5) tNil)) (tC (.int 1)))))
  (tRet (tTup (tCons (tVar 3) (tCons (tVar 4) (tCons (tOp (kAdd g.K) (tTup (tCons (tOp (kIx g.K) (tVar 5) (tC (.int 1))) (tCons (tOp (kIx g.K) (tVar 5) (tC (.int 0))) tNil))) (tSl (kSl g.K) (tVar 5) (tPart (tC (.int 2))) tNoPart)) (tCons (tVar 6) tNil))))))
  tNext)
  (tSeq (tIfS (tTest (tOp (kIn g.K) (tVar 3) (tTup (tCons (tC (.str "tree")) (tCons (tC (.str "turning")) tNil)))))
  (tRet (tTup (tCons (tVar 3) (tCons (tOp (kAdd g.K) (tVar 4) (tTup (tCons (tC (.int 0)) tNil))) (tCons (tVar 5) (tCons (tOp (kAdd g.K) (tVar 6) (tLst (tCons (tC (.str "o")) tNil))) tNil))))))
  tNext)
  (tRet (tTup (tCons (tVar 3) (tCons (tVar 4) (tCons (tVar 5) (tCons (tOp (kAdd g.K) (tLst (tCons (tC (.str "o")) tNil)) (tVar 6)) tNil)))))))))))))
def r_law_other (g : G) (A : Around) : TS := (rSeq (rAsg (rCall g A "_law_pick" E0 (rCons (rVar 1) (rCons (rC (.int 4)) rNil))) (rName 2))
  (rSeq (rAsg (rVar 0) (rGTup g.K 4 (rGCons (rName 3) (rGCons (rName 4) (rGCons (rName 5) (rGCons (rName 6) rGNil))))))
  (rSeq (rIfS (rAnd (rTest (rOp (kEq g.K) (rVar 2) (rC (.int 0)))) (rTest (rOp (kIn g.K) (rVar 3) (rTup (rCons (rC (.str "stamps")) (rCons (rC (.str "calls")) rNil))))))
  (rRet (rTup (rCons (rOp (kIx g.K) (rLst (rCons (rC (.str "calls")) (rCons (rC (.str "stamps")) rNil))) (rCB (kInt) (rCons (rOp (kEq g.K) (rVar 3) (rC (.str "calls"))) rNil))) (rCons (rVar 4) (rCons (rVar 5) (rCons (rVar 6) rNil))))))
  rNext)
  (rSeq (rIfS (rAnd (rTest (rOp (kEq g.K) (rVar 2) (rC (.int 1)))) (rTest (rOp (kIn g.K) (rVar 3) (rTup (rCons (rC (.str "tree")) (rCons (rC (.str "turning")) rNil))))))
  (rRet (rTup (rCons (rOp (kIx g.K) (rLst (rCons (rC (.str "turning")) (rCons (rC (.str "tree")) rNil))) (rCB (kInt) (rCons (rOp (kEq g.K) (rVar 3) (rC (.str "turning"))) rNil))) (rCons (rVar 4) (rCons (rVar 5) (rCons (rVar 6) rNil))))))
  rNext)
  (rSeq (rIfS (rAnd (rTest (rOp (kEq g.K) (rVar 2) (rC (.int 2)))) (rTest (rOp kGt (rCB (kLen g.K) (rCons (rVar 4) rNil)) (rC (.int 1)))))
  (rRet (rTup (rCons (rVar 3) (rCons (rOp (kAdd g.K) (rSl (kSl g.K) (rVar 4) rNoPart (rPart (rUn (rU fun i => .int (-i)) (rC (.int 1))))) (rTup (rCons (rOp kMod (rOp (kAdd g.K) (rOp (kIx g.K) (rVar 4) (rUn (rU fun i => .int (-i)) (rC (.int 1)))) (rC (.int 1))) (rCB (kLen g.K) (rCons (rVar 4) rNil))) rNil))) (rCons (rVar 5) (rCons (rVar 6) rNil))))))
  rNext)
  (rSeq (rIfS (rAnd (rTest (rOp (kEq g.K) (rVar 2) (rC (.int 3)))) (rTest (rOp kGt (rCB (kLen g.K) (rCons (rVar 5) rNil)) (rC (.int 1)))))
  (rRet (rTup (rCons (rVar 3) (rCons (rVar 4) (rCons (rOp (kAdd g.K) (rTup (rCons (rOp (kIx g.K) (rVar 5) (rC (.int 1))) (rCons (rOp (kIx g.K) (rVar 5) (rC (.int 0))) rNil))) (rSl (kSl g.K) (rVar 5) (rPart (rC (.int 2))) rNoPart)) (rCons (rVar 6) rNil))))))
  rNext)
  (rSeq (rIfS (rTest (rOp (kIn g.K) (rVar 3) (rTup (rCons (rC (.str "tree")) (rCons (rC (.str "turning")) rNil)))))
  (rRet (rTup (rCons (rVar 3) (rCons (rOp (kAdd g.K) (rVar 4) (rTup (rCons (rC (.int 0)) rNil))) (rCons (rVar 5) (rCons (rOp (kAdd g.K) (rVar 6) (rLst (rCons (rC (.str "o")) rNil))) rNil))))))
  rNext)
  (rRet (rTup (rCons (rVar 3) (rCons (rVar 4) (rCons (rVar 5) (rCons (rOp (kAdd g.K) (rLst (rCons (rC (.str "o")) rNil)) (rVar 6)) rNil)))))))))))))
theorem e_law_other (g : G) (A : Around) : t_law_other g A = r_law_other g A := by kernel_rfl
def t_law_k81 (g : G) (A : Around) : TS := (tSeq (tAsg (tCallG g A "_law_box" E0 (tCons (tVar 0) tNil)) (gName 1))
  (tSeq (tAsg (tOp (kAdd g.K) (tC (.int 1)) (tCallG g A "_law_pick" E0 (tCons (tVar 1) (tCons (tC (.int 12)) tNil)))) (gName 2))
  (C8.tCut (tIfS (tTest (tOp (kEqO g A E0) (tCallG g A "_law_pick" E0 (tCons (tVar 1) (tCons (tC (.int 4)) tNil))) (tC (.int 3))))
  (tAsg (tC (.int 60)) (gName 2))
  tNext)
  (tSeq (tAsg (tCallG g A "_law_rep" E0 (tCons (tVar 1) (tCons (tLst (tCons (tVar 2) tNil)) (tCons (tOp (kAdd g.K) (tC (.int 1)) (tCallG g A "_law_pick" E0 (tCons (tVar 1) (tCons (tC (.int 6)) tNil)))) tNil)))) (gName 3))
  (tSeq (tAsg (tCallG g A "_law_made" E0 (tCons (tVar 3) (tCons (tOp (kEqO g A E0) (tCallG g A "_law_pick" E0 (tCons (tVar 1) (tCons (tC (.int 2)) tNil))) (tC (.int 1))) tNil))) (gName 4))
  (tSeq (tIfS (tOr (tNot (tTruG g.K (tCallG g A "_law_whole" E0 (tCons (tVar 4) (tCons (tVar 3) tNil))))) (tTest (tOp rNotB (tOp (kEqO g A E0) (tVar 4) (tCallG g A "_law_made" E0 (tCons (tVar 3) (tCons (tC (.bl false)) tNil)))) (tC (.bl true)))))
  (tRet (tC (.bl false)))
  tNext)
  (C8.tCut (tIfS (tTest (tOp kLt (tCB (kLen g.K) (tCons (tCallG g A "_law_words" E0 (tCons (tVar 3) tNil)) tNil)) (tC (.int 40))))
  (tSeq (tAsg (tCallG g A "_law_made" E0 (tCons (tCallG g A "_law_other" E0 (tCons (tVar 3) (tCons (tVar 1) tNil))) (tCons (tC (.bl false)) tNil))) (gName 5))
  (tIfS (tOr (tTest (tOp rNotB (tOp (kEqO g A E0) (tVar 4) (tVar 5)) (tC (.bl false)))) (tTest (tOp rNotB (tOp (kEqO g A E0) (tVar 5) (tVar 4)) (tC (.bl false)))))
  (tRet (tC (.bl false)))
  tNext))
  tNext)
  (tSeq (tAsg (tMakePlain g "Leaf") (gName 6))
  (tSeq (tIfS (tOr (tTest (tOp rNotB (tOp (kEqO g A E0) (tVar 6) (tVar 4)) (tC (.bl false)))) (tOr (tTest (tOp rNotB (tOp (kEqO g A E0) (tVar 4) (tVar 6)) (tC (.bl false)))) (tTest (tOp rNotB (tOp (kEqO g A E0) (tVar 6) (tMakePlain g "Leaf")) (tC (.bl true))))))
  (tRet (tC (.bl false)))
  tNext)
  (tRet (tAndT g.K (tOp rIsB (tOp (kEqO g A E0) (tVar 4) (tCB (kStrO g A E0) (tCons (tVar 4) tNil))) (tC (.bl false))) (tAndT g.K (tOp rIsB (tOp (kEqO g A E0) (tVar 6) (tC (.str "o"))) (tC (.bl false))) (tAndT g.K (tCallG g A "_law_whole" E0 (tCons (tVar 6) (tCons (tC (.str "o")) tNil))) (tCallG g A "_law_whole" E0 (tCons (tVar 4) (tCons (tVar 3) tNil))))))))))))))))
def r_law_k81 (g : G) (A : Around) : TS := (rSeq (rAsg (rCall g A "_law_box" E0 (rCons (rVar 0) rNil)) (rName 1))
  (rSeq (rAsg (rOp (kAdd g.K) (rC (.int 1)) (rCall g A "_law_pick" E0 (rCons (rVar 1) (rCons (rC (.int 12)) rNil)))) (rName 2))
  (rCut (rIfS (rTest (rOp (kEqO g A E0) (rCall g A "_law_pick" E0 (rCons (rVar 1) (rCons (rC (.int 4)) rNil))) (rC (.int 3))))
  (rAsg (rC (.int 60)) (rName 2))
  rNext)
  (rSeq (rAsg (rCall g A "_law_rep" E0 (rCons (rVar 1) (rCons (rLst (rCons (rVar 2) rNil)) (rCons (rOp (kAdd g.K) (rC (.int 1)) (rCall g A "_law_pick" E0 (rCons (rVar 1) (rCons (rC (.int 6)) rNil)))) rNil)))) (rName 3))
  (rSeq (rAsg (rCall g A "_law_made" E0 (rCons (rVar 3) (rCons (rOp (kEqO g A E0) (rCall g A "_law_pick" E0 (rCons (rVar 1) (rCons (rC (.int 2)) rNil))) (rC (.int 1))) rNil))) (rName 4))
  (rSeq (rIfS (rOr (rNot (rTru g.K (rCall g A "_law_whole" E0 (rCons (rVar 4) (rCons (rVar 3) rNil))))) (rTest (rOp rNotB (rOp (kEqO g A E0) (rVar 4) (rCall g A "_law_made" E0 (rCons (rVar 3) (rCons (rC (.bl false)) rNil)))) (rC (.bl true)))))
  (rRet (rC (.bl false)))
  rNext)
  (rCut (rIfS (rTest (rOp kLt (rCB (kLen g.K) (rCons (rCall g A "_law_words" E0 (rCons (rVar 3) rNil)) rNil)) (rC (.int 40))))
  (rSeq (rAsg (rCall g A "_law_made" E0 (rCons (rCall g A "_law_other" E0 (rCons (rVar 3) (rCons (rVar 1) rNil))) (rCons (rC (.bl false)) rNil))) (rName 5))
  (rIfS (rOr (rTest (rOp rNotB (rOp (kEqO g A E0) (rVar 4) (rVar 5)) (rC (.bl false)))) (rTest (rOp rNotB (rOp (kEqO g A E0) (rVar 5) (rVar 4)) (rC (.bl false)))))
  (rRet (rC (.bl false)))
  rNext))
  rNext)
  (rSeq (rAsg (rMakePlain g "Leaf") (rName 6))
  (rSeq (rIfS (rOr (rTest (rOp rNotB (rOp (kEqO g A E0) (rVar 6) (rVar 4)) (rC (.bl false)))) (rOr (rTest (rOp rNotB (rOp (kEqO g A E0) (rVar 4) (rVar 6)) (rC (.bl false)))) (rTest (rOp rNotB (rOp (kEqO g A E0) (rVar 6) (rMakePlain g "Leaf")) (rC (.bl true))))))
  (rRet (rC (.bl false)))
  rNext)
  (rRet (rAndT g.K (rOp rIsB (rOp (kEqO g A E0) (rVar 4) (rCB (kStrO g A E0) (rCons (rVar 4) rNil))) (rC (.bl false))) (rAndT g.K (rOp rIsB (rOp (kEqO g A E0) (rVar 6) (rC (.str "o"))) (rC (.bl false))) (rAndT g.K (rCall g A "_law_whole" E0 (rCons (rVar 6) (rCons (rC (.str "o")) rNil))) (rCall g A "_law_whole" E0 (rCons (rVar 4) (rCons (rVar 3) rNil))))))))))))))))
theorem e_law_k81 (g : G) (A : Around) : t_law_k81 g A = r_law_k81 g A := by kernel_rfl
def t_Part_words (g : G) (A : Around) : TS := (tRet (tLst tNil))
def r_Part_words (g : G) (A : Around) : TS := (rRet (rLst rNil))
theorem e_Part_words (g : G) (A : Around) : t_Part_words g A = r_Part_words g A := by kernel_rfl
def t_Part_halls (g : G) (A : Around) : TS := (tRet (tC (.int 0)))
def r_Part_halls (g : G) (A : Around) : TS := (rRet (rC (.int 0)))
theorem e_Part_halls (g : G) (A : Around) : t_Part_halls g A = r_Part_halls g A := by kernel_rfl
def t_Part_deep (g : G) (A : Around) : TS := (tRet (tC (.int 0)))
def r_Part_deep (g : G) (A : Around) : TS := (rRet (rC (.int 0)))
theorem e_Part_deep (g : G) (A : Around) : t_Part_deep g A = r_Part_deep g A := by kernel_rfl
def t_Leaf_words (g : G) (A : Around) : TS := (tRet (tLst (tCons (tC (.str "o")) tNil)))
def r_Leaf_words (g : G) (A : Around) : TS := (rRet (rLst (rCons (rC (.str "o")) rNil)))
theorem e_Leaf_words (g : G) (A : Around) : t_Leaf_words g A = r_Leaf_words g A := by kernel_rfl
def t_Leaf_eq (g : G) (A : Around) : TS := (tRet (tCB (kIsi g.K) (tCons (tVar 1) (tCons (tGl g "Leaf") tNil))))
def r_Leaf_eq (g : G) (A : Around) : TS := (rRet (rCB (kIsi g.K) (rCons (rVar 1) (rCons (rGl g "Leaf") rNil))))
theorem e_Leaf_eq (g : G) (A : Around) : t_Leaf_eq g A = r_Leaf_eq g A := by kernel_rfl
def t_Leaf_len (g : G) (A : Around) : TS := (tRet (tC (.int 1)))
def r_Leaf_len (g : G) (A : Around) : TS := (rRet (rC (.int 1)))
theorem e_Leaf_len (g : G) (A : Around) : t_Leaf_len g A = r_Leaf_len g A := by kernel_rfl
def t_Leaf_str (g : G) (A : Around) : TS := (tRet (tC (.str "o")))
def r_Leaf_str (g : G) (A : Around) : TS := (rRet (rC (.str "o")))
theorem e_Leaf_str (g : G) (A : Around) : t_Leaf_str g A = r_Leaf_str g A := by kernel_rfl
def t_Branch_init (g : G) (A : Around) : TS := (tSeq (tAsg (tCallG g A "first_wrong" E0 (tCons (tVar 1) (tCons (tVar 2) (tCons (tVar 3) (tCons (tVar 4) tNil))))) (gName 5))
  (tSeq (tIfS (tTest (tOp kNotN (tVar 5) (tC .non)))
  tNever
  tNext)
  (tSeq (sFld g.K (tVar 0) (tVar 1) "manner")
  (tSeq (sFld g.K (tVar 0) (tCB (kTupleG g.K) (tCons (tVar 2) tNil)) "parts")
  (tSeq (sFld g.K (tVar 0) (tCB (kTupleG g.K) (tCons (tVar 3) tNil)) "above")
  (sFld g.K (tVar 0) (tCB (kTupleG g.K) (tCons (tVar 4) tNil)) "sets"))))))
def r_Branch_init (g : G) (A : Around) : TS := (rSeq (rAsg (rCall g A "first_wrong" E0 (rCons (rVar 1) (rCons (rVar 2) (rCons (rVar 3) (rCons (rVar 4) rNil))))) (rName 5))
  (rSeq (rIfS (rTest (rOp kNotN (rVar 5) (rC .non)))
  tNever
  rNext)
  (rSeq (rSFld g.K (rVar 0) (rVar 1) "manner")
  (rSeq (rSFld g.K (rVar 0) (rCB (kTupleG g.K) (rCons (rVar 2) rNil)) "parts")
  (rSeq (rSFld g.K (rVar 0) (rCB (kTupleG g.K) (rCons (rVar 3) rNil)) "above")
  (rSFld g.K (rVar 0) (rCB (kTupleG g.K) (rCons (rVar 4) rNil)) "sets"))))))
theorem e_Branch_init (g : G) (A : Around) : t_Branch_init g A = r_Branch_init g A := by kernel_rfl
def t_Branch_words (g : G) (A : Around) : TS := (tSeq (tAsg (tLst (tCons (tC (.str "[")) (tCons (tFld g.K (tVar 0) "manner") tNil))) (gName 1))
  (tSeq (tFor (iSeq g.K (tFld g.K (tVar 0) "above")) (gName 2)
  (tDrop (tBM g.K "list" rAppend (tVar 1) (tCons (tCB (kStr) (tCons (tVar 2) tNil)) tNil))))
  (tSeq (tDrop (tBM g.K "list" rExtend (tVar 1) (tCons (tCallG g A "set_words" E0 (tCons (tFld g.K (tVar 0) "sets") tNil)) tNil)))
  (tSeq (tDrop (tBM g.K "list" rAppend (tVar 1) (tCons (tC (.str ":")) tNil)))
  (tSeq (tFor (iSeq g.K (tFld g.K (tVar 0) "parts")) (gName 3)
  (tDrop (tBM g.K "list" rExtend (tVar 1) (tCons (tMethG g A "words" E0 (tVar 3) tNil) tNil))))
  (tSeq (tDrop (tBM g.K "list" rAppend (tVar 1) (tCons (tC (.str "]")) tNil)))
  (tRet (tVar 1))))))))
@[reducible] def rb_Branch_words_0 (g : G) (A : Around) : TS := (rDrop (rBM g.K "list" rAppend (rVar 1) (rCons (rCB (kStr) (rCons (rVar 2) rNil)) rNil)))
@[reducible] def rb_Branch_words_1 (g : G) (A : Around) : TS := (rDrop (rBM g.K "list" rExtend (rVar 1) (rCons (rMeth g A "words" E0 (rVar 3) rNil) rNil)))
def r_Branch_words (g : G) (A : Around) : TS := (rSeq (rAsg (rLst (rCons (rC (.str "[")) (rCons (rFld g.K (rVar 0) "manner") rNil))) (rName 1))
  (rSeq (rFor (rSeqI g.K (rFld g.K (rVar 0) "above")) (rName 2)
  (rb_Branch_words_0 g A))
  (rSeq (rDrop (rBM g.K "list" rExtend (rVar 1) (rCons (rCall g A "set_words" E0 (rCons (rFld g.K (rVar 0) "sets") rNil)) rNil)))
  (rSeq (rDrop (rBM g.K "list" rAppend (rVar 1) (rCons (rC (.str ":")) rNil)))
  (rSeq (rFor (rSeqI g.K (rFld g.K (rVar 0) "parts")) (rName 3)
  (rb_Branch_words_1 g A))
  (rSeq (rDrop (rBM g.K "list" rAppend (rVar 1) (rCons (rC (.str "]")) rNil)))
  (rRet (rVar 1))))))))
theorem e_Branch_words (g : G) (A : Around) : t_Branch_words g A = r_Branch_words g A := by kernel_rfl
def t_Branch_halls (g : G) (A : Around) : TS := (tRet (tOp (kAdd g.K) (tC (.int 1)) (tCB (kSum g.K) (tCons (tLc (iSeq g.K (tFld g.K (tVar 0) "parts")) (gName 1) tYes (tMethG g A "halls" E0 (tVar 1) tNil) [1]) tNil))))
def r_Branch_halls (g : G) (A : Around) : TS := (rRet (rOp (kAdd g.K) (rC (.int 1)) (rCB (kSum g.K) (rCons (rLc (rSeqI g.K (rFld g.K (rVar 0) "parts")) (rName 1) rYes (rMeth g A "halls" E0 (rVar 1) rNil) [1]) rNil))))
theorem e_Branch_halls (g : G) (A : Around) : t_Branch_halls g A = r_Branch_halls g A := by kernel_rfl
def t_Branch_deep (g : G) (A : Around) : TS := (tRet (tOp (kAdd g.K) (tC (.int 1)) (tCB (kMax g.K) (tCons (tLc (iSeq g.K (tFld g.K (tVar 0) "parts")) (gName 1) tYes (tMethG g A "deep" E0 (tVar 1) tNil) [1]) tNil))))
def r_Branch_deep (g : G) (A : Around) : TS := (rRet (rOp (kAdd g.K) (rC (.int 1)) (rCB (kMax g.K) (rCons (rLc (rSeqI g.K (rFld g.K (rVar 0) "parts")) (rName 1) rYes (rMeth g A "deep" E0 (rVar 1) rNil) [1]) rNil))))
theorem e_Branch_deep (g : G) (A : Around) : t_Branch_deep g A = r_Branch_deep g A := by kernel_rfl
def t_Branch_eq (g : G) (A : Around) : TS := (tRet (tAndT g.K (tCB (kIsi g.K) (tCons (tVar 1) (tCons (tGl g "Branch") tNil))) (tOp (kEq g.K) (tMethG g A "words" E0 (tVar 0) tNil) (tMethG g A "words" E0 (tVar 1) tNil))))
def r_Branch_eq (g : G) (A : Around) : TS := (rRet (rAndT g.K (rCB (kIsi g.K) (rCons (rVar 1) (rCons (rGl g "Branch") rNil))) (rOp (kEq g.K) (rMeth g A "words" E0 (rVar 0) rNil) (rMeth g A "words" E0 (rVar 1) rNil))))
theorem e_Branch_eq (g : G) (A : Around) : t_Branch_eq g A = r_Branch_eq g A := by kernel_rfl
def t_Branch_len (g : G) (A : Around) : TS := (tRet (tCB (kLen g.K) (tCons (tLc (iSeq g.K (tMethG g A "words" E0 (tVar 0) tNil)) (gName 1) (tTest (tOp (kEq g.K) (tVar 1) (tC (.str "o")))) (tVar 1) [1]) tNil)))
def r_Branch_len (g : G) (A : Around) : TS := (rRet (rCB (kLen g.K) (rCons (rLc (rSeqI g.K (rMeth g A "words" E0 (rVar 0) rNil)) (rName 1) (rTest (rOp (kEq g.K) (rVar 1) (rC (.str "o")))) (rVar 1) [1]) rNil)))
theorem e_Branch_len (g : G) (A : Around) : t_Branch_len g A = r_Branch_len g A := by kernel_rfl
def t_Branch_str (g : G) (A : Around) : TS := (tRet (tBM g.K "str" (kJoin g.K) (tC (.str " ")) (tCons (tMethG g A "words" E0 (tVar 0) tNil) tNil)))
def r_Branch_str (g : G) (A : Around) : TS := (rRet (rBM g.K "str" (kJoin g.K) (rC (.str " ")) (rCons (rMeth g A "words" E0 (rVar 0) rNil) rNil)))
theorem e_Branch_str (g : G) (A : Around) : t_Branch_str g A = r_Branch_str g A := by kernel_rfl
def t_read_plan (g : G) (A : Around) : TS := (tSeq (tAsg (tBM0 g.K "str" kSplit0 (tVar 0)) (gName 1))
  (tSeq (tFor (iEnumG g.K (tCons (tVar 1) tNil)) (gTup g.K 2 (gCons (gName 2) (gCons (gName 3) gNil)))
  (tIfS (tNot (tTruG g.K (tCallG g A "is_word" E0 (tCons (tVar 3) tNil))))
  tNever
  tNext))
  (tSeq (tAsg (tCallG g A "read_branch" E0 (tCons (tVar 1) (tCons (tC (.int 0)) (tCons (tC (.int 0)) tNil)))) (gTup g.K 2 (gCons (gName 4) (gCons (gName 2) gNil))))
  (tSeq (tIfS (tTest (tOp kLt (tVar 2) (tCB (kLen g.K) (tCons (tVar 1) tNil))))
  tNever
  tNext)
  (tRet (tVar 4))))))
@[reducible] def rb_read_plan_0 (g : G) (A : Around) : TS := (rIfS (rNot (rTru g.K (rCall g A "is_word" E0 (rCons (rVar 3) rNil))))
  tNever
  rNext)
def r_read_plan (g : G) (A : Around) : TS := (rSeq (rAsg (rBM0 g.K "str" kSplit0 (rVar 0)) (rName 1))
  (rSeq (rFor (rEnum g.K (rCons (rVar 1) rNil)) (rGTup g.K 2 (rGCons (rName 2) (rGCons (rName 3) rGNil)))
  (rb_read_plan_0 g A))
  (rSeq (rAsg (rCall g A "read_branch" E0 (rCons (rVar 1) (rCons (rC (.int 0)) (rCons (rC (.int 0)) rNil)))) (rGTup g.K 2 (rGCons (rName 4) (rGCons (rName 2) rGNil))))
  (rSeq (rIfS (rTest (rOp kLt (rVar 2) (rCB (kLen g.K) (rCons (rVar 1) rNil))))
  tNever
  rNext)
  (rRet (rVar 4))))))
theorem e_read_plan (g : G) (A : Around) : t_read_plan g A = r_read_plan g A := by kernel_rfl
def t_is_word_k83 (g : G) (A : Around) : TS := (tRet (tOrT g.K (tOp (kIn g.K) (tVar 0) (tGl g "SIGNS")) (tOrT g.K (tOp (kIn g.K) (tVar 0) (tGl g "MANNERS")) (tCallG g A "is_number" E0 (tCons (tVar 0) tNil)))))
def r_is_word_k83 (g : G) (A : Around) : TS := (rRet (rOrT g.K (rOp (kIn g.K) (rVar 0) (rGl g "SIGNS")) (rOrT g.K (rOp (kIn g.K) (rVar 0) (rGl g "MANNERS")) (rCall g A "is_number" E0 (rCons (rVar 0) rNil)))))
theorem e_is_word_k83 (g : G) (A : Around) : t_is_word_k83 g A = r_is_word_k83 g A := by kernel_rfl
def t_is_number_k83 (g : G) (A : Around) : TS := (tSeq (tIfS (tOr (tTest (tOp kGt (tCB (kLen g.K) (tCons (tVar 0) tNil)) (tC (.int 4)))) (tNot (tTruG g.K (tCB (kAll g.K) (tCons (tLc (iSeq g.K (tVar 0)) (gName 1) tYes (tOp (kIn g.K) (tVar 1) (tC (.str "0123456789"))) [1]) tNil)))))
  (tRet (tC (.bl false)))
  tNext)
  (tRet (tOrT g.K (tOp (kEq g.K) (tVar 0) (tC (.str "0"))) (tOp (kNe g.K) (tOp (kIx g.K) (tVar 0) (tC (.int 0))) (tC (.str "0"))))))
def r_is_number_k83 (g : G) (A : Around) : TS := (rSeq (rIfS (rOr (rTest (rOp kGt (rCB (kLen g.K) (rCons (rVar 0) rNil)) (rC (.int 4)))) (rNot (rTru g.K (rCB (kAll g.K) (rCons (rLc (rSeqI g.K (rVar 0)) (rName 1) rYes (rOp (kIn g.K) (rVar 1) (rC (.str "0123456789"))) [1]) rNil)))))
  (rRet (rC (.bl false)))
  rNext)
  (rRet (rOrT g.K (rOp (kEq g.K) (rVar 0) (rC (.str "0"))) (rOp (kNe g.K) (rOp (kIx g.K) (rVar 0) (rC (.int 0))) (rC (.str "0"))))))
theorem e_is_number_k83 (g : G) (A : Around) : t_is_number_k83 g A = r_is_number_k83 g A := by kernel_rfl
def t_word_at (g : G) (A : Around) : TS := (tSeq (tIfS (tTest (tOp kLt (tVar 1) (tCB (kLen g.K) (tCons (tVar 0) tNil))))
  (tRet (tOp (kIx g.K) (tVar 0) (tVar 1)))
  tNext)
  (tRet (tC (.str ""))))
def r_word_at (g : G) (A : Around) : TS := (rSeq (rIfS (rTest (rOp kLt (rVar 1) (rCB (kLen g.K) (rCons (rVar 0) rNil))))
  (rRet (rOp (kIx g.K) (rVar 0) (rVar 1)))
  rNext)
  (rRet (rC (.str ""))))
theorem e_word_at (g : G) (A : Around) : t_word_at g A = r_word_at g A := by kernel_rfl
def t_read_branch (g : G) (A : Around) : TS := (tSeq (tIfS (tTest (tOp (kNe g.K) (tCallG g A "word_at" E0 (tCons (tVar 0) (tCons (tVar 1) tNil))) (tC (.str "["))))
  tNever
  tNext)
  (tSeq (tIfS (tTest (tOp (kEq g.K) (tVar 2) (tGl g "DEEPEST")))
  tNever
  tNext)
  (tSeq (tAsg (tCallG g A "word_at" E0 (tCons (tVar 0) (tCons (tOp (kAdd g.K) (tVar 1) (tC (.int 1))) tNil))) (gName 3))
  (tSeq (tIfS (tTest (tOp (kNotIn g.K) (tVar 3) (tGl g "MANNERS")))
  tNever
  tNext)
  (tSeq (tAsg (tCallG g A "read_head" E0 (tCons (tVar 0) (tCons (tOp (kAdd g.K) (tVar 1) (tC (.int 2))) (tCons (tVar 3) tNil)))) (gTup g.K 2 (gCons (gName 4) (gCons (gName 5) gNil))))
  (tSeq (tAsg (tCallG g A "read_parts" E0 (tCons (tVar 0) (tCons (tVar 5) (tCons (tOp (kAdd g.K) (tVar 2) (tC (.int 1))) tNil)))) (gTup g.K 2 (gCons (gName 6) (gCons (gName 5) gNil))))
  (tSeq (tPar 7 8 (tCons (tOp (kIx g.K) (tVar 4) (tC (.int 0))) (tCons (tTup tNil) tNil)))
  (C8.tCut (tIfS (tTest (tOp (kEq g.K) (tVar 3) (tC (.str "votes"))))
  (tPar 7 8 (tCons (tTup tNil) (tCons (tCB (kTupleG g.K) (tCons (tVar 4) tNil)) tNil)))
  tNext)
  (tRet (tTup (tCons (tMakeKG g A "Branch" 2 ["above", "sets"] E0 (tCons (tVar 3) (tCons (tVar 6) tNil)) (tCons (tVar 7) (tCons (tVar 8) tNil))) (tCons (tVar 5) tNil))))))))))))
def r_read_branch (g : G) (A : Around) : TS := (rSeq (rIfS (rTest (rOp (kNe g.K) (rCall g A "word_at" E0 (rCons (rVar 0) (rCons (rVar 1) rNil))) (rC (.str "["))))
  tNever
  rNext)
  (rSeq (rIfS (rTest (rOp (kEq g.K) (rVar 2) (rGl g "DEEPEST")))
  tNever
  rNext)
  (rSeq (rAsg (rCall g A "word_at" E0 (rCons (rVar 0) (rCons (rOp (kAdd g.K) (rVar 1) (rC (.int 1))) rNil))) (rName 3))
  (rSeq (rIfS (rTest (rOp (kNotIn g.K) (rVar 3) (rGl g "MANNERS")))
  tNever
  rNext)
  (rSeq (rAsg (rCall g A "read_head" E0 (rCons (rVar 0) (rCons (rOp (kAdd g.K) (rVar 1) (rC (.int 2))) (rCons (rVar 3) rNil)))) (rGTup g.K 2 (rGCons (rName 4) (rGCons (rName 5) rGNil))))
  (rSeq (rAsg (rCall g A "read_parts" E0 (rCons (rVar 0) (rCons (rVar 5) (rCons (rOp (kAdd g.K) (rVar 2) (rC (.int 1))) rNil)))) (rGTup g.K 2 (rGCons (rName 6) (rGCons (rName 5) rGNil))))
  (rSeq (rPar 7 8 (rCons (rOp (kIx g.K) (rVar 4) (rC (.int 0))) (rCons (rTup rNil) rNil)))
  (rCut (rIfS (rTest (rOp (kEq g.K) (rVar 3) (rC (.str "votes"))))
  (rPar 7 8 (rCons (rTup rNil) (rCons (rCB (kTupleG g.K) (rCons (rVar 4) rNil)) rNil)))
  rNext)
  (rRet (rTup (rCons (rMakeK g A "Branch" 2 ["above", "sets"] E0 (rCons (rVar 3) (rCons (rVar 6) rNil)) (rCons (rVar 7) (rCons (rVar 8) rNil))) (rCons (rVar 5) rNil))))))))))))
theorem e_read_branch (g : G) (A : Around) : t_read_branch g A = r_read_branch g A := by kernel_rfl
def t_read_head (g : G) (A : Around) : TS := (tSeq (tAsg (tLst (tCons (tTup tNil) tNil)) (gName 3))
  (tSeq (tWhile (tTest (tOp (kNe g.K) (tCallG g A "word_at" E0 (tCons (tVar 0) (tCons (tVar 1) tNil))) (tC (.str ":"))))
  (tSeq (tAsg (tCallG g A "word_at" E0 (tCons (tVar 0) (tCons (tVar 1) tNil))) (gName 4))
  (C8.tCut (tIfS (tAnd (tTest (tOp (kEq g.K) (tVar 4) (tC (.str "|")))) (tTest (tOp (kEq g.K) (tVar 2) (tC (.str "votes")))))
  (tDrop (tBM g.K "list" rAppend (tVar 3) (tCons (tTup tNil) tNil)))
  (tIfS (tAnd (tTruG g.K (tVar 4)) (tTruG g.K (tCallG g A "is_number" E0 (tCons (tVar 4) tNil))))
  (tAugS (tVar 3) (tOp kSub (tCB (kLen g.K) (tCons (tVar 3) tNil)) (tC (.int 1))) (tTup (tCons (tCB (kInt) (tCons (tVar 4) tNil)) tNil)) (kGet g.K) (kIpCat g.K) kSet)
  tNever))
  (tAug 1 (tC (.int 1)) (kIpCat g.K)))))
  (tRet (tTup (tCons (tVar 3) (tCons (tOp (kAdd g.K) (tVar 1) (tC (.int 1))) tNil))))))
@[reducible] def rb_read_head_0 (g : G) (A : Around) : TS := (rSeq (rAsg (rCall g A "word_at" E0 (rCons (rVar 0) (rCons (rVar 1) rNil))) (rName 4))
  (rCut (rIfS (rAnd (rTest (rOp (kEq g.K) (rVar 4) (rC (.str "|")))) (rTest (rOp (kEq g.K) (rVar 2) (rC (.str "votes")))))
  (rDrop (rBM g.K "list" rAppend (rVar 3) (rCons (rTup rNil) rNil)))
  (rIfS (rAnd (rTru g.K (rVar 4)) (rTru g.K (rCall g A "is_number" E0 (rCons (rVar 4) rNil))))
  (rAugS (rVar 3) (rOp kSub (rCB (kLen g.K) (rCons (rVar 3) rNil)) (rC (.int 1))) (rTup (rCons (rCB (kInt) (rCons (rVar 4) rNil)) rNil)) (kGet g.K) (kIpCat g.K) kSet)
  tNever))
  (rAug 1 (rC (.int 1)) (kIpCat g.K))))
def r_read_head (g : G) (A : Around) : TS := (rSeq (rAsg (rLst (rCons (rTup rNil) rNil)) (rName 3))
  (rSeq (tWhile (rTest (rOp (kNe g.K) (rCall g A "word_at" E0 (rCons (rVar 0) (rCons (rVar 1) rNil))) (rC (.str ":"))))
  (rb_read_head_0 g A))
  (rRet (rTup (rCons (rVar 3) (rCons (rOp (kAdd g.K) (rVar 1) (rC (.int 1))) rNil))))))
theorem e_read_head (g : G) (A : Around) : t_read_head g A = r_read_head g A := by kernel_rfl
def t_read_parts (g : G) (A : Around) : TS := (tSeq (tAsg (tLst tNil) (gName 3))
  (tSeq (tWhile (tTest (tOp (kNe g.K) (tCallG g A "word_at" E0 (tCons (tVar 0) (tCons (tVar 1) tNil))) (tC (.str "]"))))
  (tIfS (tTest (tOp (kEq g.K) (tCallG g A "word_at" E0 (tCons (tVar 0) (tCons (tVar 1) tNil))) (tC (.str "o"))))
  (tSeq (tDrop (tBM g.K "list" rAppend (tVar 3) (tCons (tMakePlain g "Leaf") tNil)))
  (tAug 1 (tC (.int 1)) kIpAdd))
  (tSeq (tAsg (tCallG g A "read_branch" E0 (tCons (tVar 0) (tCons (tVar 1) (tCons (tVar 2) tNil)))) (gTup g.K 2 (gCons (gName 4) (gCons (gName 1) gNil))))
  (tDrop (tBM g.K "list" rAppend (tVar 3) (tCons (tVar 4) tNil))))))
  (tRet (tTup (tCons (tVar 3) (tCons (tOp (kAdd g.K) (tVar 1) (tC (.int 1))) tNil))))))
@[reducible] def rb_read_parts_0 (g : G) (A : Around) : TS := (rIfS (rTest (rOp (kEq g.K) (rCall g A "word_at" E0 (rCons (rVar 0) (rCons (rVar 1) rNil))) (rC (.str "o"))))
  (rSeq (rDrop (rBM g.K "list" rAppend (rVar 3) (rCons (rMakePlain g "Leaf") rNil)))
  (rAug 1 (rC (.int 1)) kIpAdd))
  (rSeq (rAsg (rCall g A "read_branch" E0 (rCons (rVar 0) (rCons (rVar 1) (rCons (rVar 2) rNil)))) (rGTup g.K 2 (rGCons (rName 4) (rGCons (rName 1) rGNil))))
  (rDrop (rBM g.K "list" rAppend (rVar 3) (rCons (rVar 4) rNil)))))
def r_read_parts (g : G) (A : Around) : TS := (rSeq (rAsg (rLst rNil) (rName 3))
  (rSeq (tWhile (rTest (rOp (kNe g.K) (rCall g A "word_at" E0 (rCons (rVar 0) (rCons (rVar 1) rNil))) (rC (.str "]"))))
  (rb_read_parts_0 g A))
  (rRet (rTup (rCons (rVar 3) (rCons (rOp (kAdd g.K) (rVar 1) (rC (.int 1))) rNil))))))
theorem e_read_parts (g : G) (A : Around) : t_read_parts g A = r_read_parts g A := by kernel_rfl
def t_law_made_k83 (g : G) (A : Around) : TS := (tSeq (tIfS (tTest (tOp (kEq g.K) (tVar 0) (tC (.str "o"))))
  (tRet (tMakePlain g "Leaf"))
  tNext)
  (tSeq (tAsg (tLc (iSeq g.K (tOp (kIx g.K) (tVar 0) (tC (.int 3)))) (gName 2) tYes (tCallG g A "_law_made" E0 (tCons (tVar 2) tNil)) [2]) (gName 1))
  (tSeq (tIfS (tTest (tOp (kEq g.K) (tOp (kIx g.K) (tVar 0) (tC (.int 0))) (tC (.str "votes"))))
  (tRet (tMakeKG g A "Branch" 2 ["sets"] E0 (tCons (tOp (kIx g.K) (tVar 0) (tC (.int 0))) (tCons (tVar 1) tNil)) (tCons (tCB (kList g.K) (tCons (tOp (kIx g.K) (tVar 0) (tC (.int 2))) tNil)) tNil)))
  tNext)
  (tSeq (tIfS (tTruG g.K (tOp (kIx g.K) (tVar 0) (tC (.int 1))))
  (tRet (tMakeKG g A "Branch" 2 ["above"] E0 (tCons (tOp (kIx g.K) (tVar 0) (tC (.int 0))) (tCons (tVar 1) tNil)) (tCons (tCB (kList g.K) (tCons (tOp (kIx g.K) (tVar 0) (tC (.int 1))) tNil)) tNil)))
  tNext)
  (tRet (tMakeG g A "Branch" E0 (tCons (tOp (kIx g.K) (tVar 0) (tC (.int 0))) (tCons (tVar 1) tNil))))))))
def r_law_made_k83 (g : G) (A : Around) : TS := (rSeq (rIfS (rTest (rOp (kEq g.K) (rVar 0) (rC (.str "o"))))
  (rRet (rMakePlain g "Leaf"))
  rNext)
  (rSeq (rAsg (rLc (rSeqI g.K (rOp (kIx g.K) (rVar 0) (rC (.int 3)))) (rName 2) rYes (rCall g A "_law_made" E0 (rCons (rVar 2) rNil)) [2]) (rName 1))
  (rSeq (rIfS (rTest (rOp (kEq g.K) (rOp (kIx g.K) (rVar 0) (rC (.int 0))) (rC (.str "votes"))))
  (rRet (rMakeK g A "Branch" 2 ["sets"] E0 (rCons (rOp (kIx g.K) (rVar 0) (rC (.int 0))) (rCons (rVar 1) rNil)) (rCons (rCB (kList g.K) (rCons (rOp (kIx g.K) (rVar 0) (rC (.int 2))) rNil)) rNil)))
  rNext)
  (rSeq (rIfS (rTru g.K (rOp (kIx g.K) (rVar 0) (rC (.int 1))))
  (rRet (rMakeK g A "Branch" 2 ["above"] E0 (rCons (rOp (kIx g.K) (rVar 0) (rC (.int 0))) (rCons (rVar 1) rNil)) (rCons (rCB (kList g.K) (rCons (rOp (kIx g.K) (rVar 0) (rC (.int 1))) rNil)) rNil)))
  rNext)
  (rRet (rMake g A "Branch" E0 (rCons (rOp (kIx g.K) (rVar 0) (rC (.int 0))) (rCons (rVar 1) rNil))))))))
theorem e_law_made_k83 (g : G) (A : Around) : t_law_made_k83 g A = r_law_made_k83 g A := by kernel_rfl
def t_law_gap (g : G) (A : Around) : TS := (tSeq (tAsg (tC (.str "")) (gName 2))
  (tSeq (tFor (iRng1 (tCons (tOp (kAdd g.K) (tVar 1) (tCallG g A "_law_pick" E0 (tCons (tVar 0) (tCons (tC (.int 3)) tNil)))) tNil)) (gName 3)
  (tAsg (tOp (kAdd g.K) (tVar 2) (tOp (kIx g.K) (tLst (tCons (tC (.str " ")) (tCons (tC (.str " ")) (tCons (tC (.str "\n")) tNil)))) (tCallG g A "_law_pick" E0 (tCons (tVar 0) (tCons (tC (.int 3)) tNil))))) (gName 2)))
  (tRet (tVar 2))))
@[reducible] def rb_law_gap_0 (g : G) (A : Around) : TS := (rAsg (rOp (kAdd g.K) (rVar 2) (rOp (kIx g.K) (rLst (rCons (rC (.str " ")) (rCons (rC (.str " ")) (rCons (rC (.str "\n")) rNil)))) (rCall g A "_law_pick" E0 (rCons (rVar 0) (rCons (rC (.int 3)) rNil))))) (rName 2))
def r_law_gap (g : G) (A : Around) : TS := (rSeq (rAsg (rC (.str "")) (rName 2))
  (rSeq (rFor (rRng1 (rCons (rOp (kAdd g.K) (rVar 1) (rCall g A "_law_pick" E0 (rCons (rVar 0) (rCons (rC (.int 3)) rNil)))) rNil)) (rName 3)
  (rb_law_gap_0 g A))
  (rRet (rVar 2))))
theorem e_law_gap (g : G) (A : Around) : t_law_gap g A = r_law_gap g A := by kernel_rfl
def t_law_same (g : G) (A : Around) : TS := (tSeq (tIfS (tTest (tOp (kEq g.K) (tVar 1) (tC (.str "o"))))
  (tRet (tAndT g.K (tCB (kIsi g.K) (tCons (tVar 0) (tCons (tGl g "Leaf") tNil))) (tOp (kEq g.K) (tCB (kLenO g A E0) (tCons (tVar 0) tNil)) (tC (.int 1)))))
  tNext)
  (tSeq (tIfS (tOr (tNot (tTruG g.K (tCB (kIsi g.K) (tCons (tVar 0) (tCons (tGl g "Branch") tNil))))) (tOr (tTest (tOp (kNe g.K) (tFld g.K (tVar 0) "manner") (tOp (kIx g.K) (tVar 1) (tC (.int 0))))) (tOr (tTest (tOp (kNe g.K) (tFld g.K (tVar 0) "above") (tOp (kIx g.K) (tVar 1) (tC (.int 1))))) (tTest (tOp (kNe g.K) (tFld g.K (tVar 0) "sets") (tOp (kIx g.K) (tVar 1) (tC (.int 2))))))))
  (tRet (tC (.bl false)))
  tNext)
  (tSeq (tIfS (tOr (tNot (tTruG g.K (tCB (kIsi g.K) (tCons (tFld g.K (tVar 0) "parts") (tCons (tC (.ty "tuple")) tNil))))) (tTest (tOp (kNe g.K) (tCB (kLenO g A E0) (tCons (tFld g.K (tVar 0) "parts") tNil)) (tCB (kLenO g A E0) (tCons (tOp (kIx g.K) (tVar 1) (tC (.int 3))) tNil)))))
  (tRet (tC (.bl false)))
  tNext)
  (tRet (tCB (kAll g.K) (tCons (tLc (iZipG g.K (tCons (tFld g.K (tVar 0) "parts") (tCons (tOp (kIx g.K) (tVar 1) (tC (.int 3))) tNil))) (gTup g.K 2 (gCons (gName 2) (gCons (gName 3) gNil))) tYes (tCallG g A "_law_same" E0 (tCons (tVar 2) (tCons (tVar 3) tNil))) [2, 3]) tNil))))))
def r_law_same (g : G) (A : Around) : TS := (rSeq (rIfS (rTest (rOp (kEq g.K) (rVar 1) (rC (.str "o"))))
  (rRet (rAndT g.K (rCB (kIsi g.K) (rCons (rVar 0) (rCons (rGl g "Leaf") rNil))) (rOp (kEq g.K) (rCB (kLenO g A E0) (rCons (rVar 0) rNil)) (rC (.int 1)))))
  rNext)
  (rSeq (rIfS (rOr (rNot (rTru g.K (rCB (kIsi g.K) (rCons (rVar 0) (rCons (rGl g "Branch") rNil))))) (rOr (rTest (rOp (kNe g.K) (rFld g.K (rVar 0) "manner") (rOp (kIx g.K) (rVar 1) (rC (.int 0))))) (rOr (rTest (rOp (kNe g.K) (rFld g.K (rVar 0) "above") (rOp (kIx g.K) (rVar 1) (rC (.int 1))))) (rTest (rOp (kNe g.K) (rFld g.K (rVar 0) "sets") (rOp (kIx g.K) (rVar 1) (rC (.int 2))))))))
  (rRet (rC (.bl false)))
  rNext)
  (rSeq (rIfS (rOr (rNot (rTru g.K (rCB (kIsi g.K) (rCons (rFld g.K (rVar 0) "parts") (rCons (rC (.ty "tuple")) rNil))))) (rTest (rOp (kNe g.K) (rCB (kLenO g A E0) (rCons (rFld g.K (rVar 0) "parts") rNil)) (rCB (kLenO g A E0) (rCons (rOp (kIx g.K) (rVar 1) (rC (.int 3))) rNil)))))
  (rRet (rC (.bl false)))
  rNext)
  (rRet (rCB (kAll g.K) (rCons (rLc (rZipG g.K (rCons (rFld g.K (rVar 0) "parts") (rCons (rOp (kIx g.K) (rVar 1) (rC (.int 3))) rNil))) (rGTup g.K 2 (rGCons (rName 2) (rGCons (rName 3) rGNil))) rYes (rCall g A "_law_same" E0 (rCons (rVar 2) (rCons (rVar 3) rNil))) [2, 3]) rNil))))))
theorem e_law_same (g : G) (A : Around) : t_law_same g A = r_law_same g A := by kernel_rfl
def t_law_k83 (g : G) (A : Around) : TS := (tSeq (tAsg (tCallG g A "_law_box" E0 (tCons (tVar 0) tNil)) (gName 1))
  (tSeq (tAsg (tOp (kAdd g.K) (tC (.int 1)) (tCallG g A "_law_pick" E0 (tCons (tVar 1) (tCons (tC (.int 16)) tNil)))) (gName 2))
  (C8.tCut (tIfS (tTest (tOp (kEqO g A E0) (tCallG g A "_law_pick" E0 (tCons (tVar 1) (tCons (tC (.int 4)) tNil))) (tC (.int 3))))
  (tAsg (tC (.int 60)) (gName 2))
  tNext)
  (tSeq (tAsg (tCallG g A "_law_rep" E0 (tCons (tVar 1) (tCons (tLst (tCons (tVar 2) tNil)) (tCons (tOp (kAdd g.K) (tC (.int 1)) (tCallG g A "_law_pick" E0 (tCons (tVar 1) (tCons (tC (.int 6)) tNil)))) tNil)))) (gName 3))
  (tSeq (tAsg (tCallG g A "_law_words" E0 (tCons (tVar 3) tNil)) (gName 4))
  (tSeq (tAsg (tCallG g A "_law_gap" E0 (tCons (tVar 1) (tCons (tC (.int 0)) tNil))) (gName 5))
  (tSeq (tFor (iEnumG g.K (tCons (tVar 4) tNil)) (gTup g.K 2 (gCons (gName 6) (gCons (gName 7) gNil)))
  (C8.tCut (tIfS (tTest (tOp kGt (tVar 6) (tC (.int 0))))
  (tAsg (tOp (kAdd g.K) (tVar 5) (tCallG g A "_law_gap" E0 (tCons (tVar 1) (tCons (tC (.int 1)) tNil)))) (gName 5))
  tNext)
  (tAsg (tOp (kAdd g.K) (tVar 5) (tVar 7)) (gName 5))))
  (tSeq (tAsg (tOp (kAdd g.K) (tVar 5) (tCallG g A "_law_gap" E0 (tCons (tVar 1) (tCons (tC (.int 0)) tNil)))) (gName 5))
  (tSeq (tAsg (tCallG g A "read_plan" E0 (tCons (tVar 5) tNil)) (gName 8))
  (tSeq (tAsg (tBM g.K "str" (kJoin g.K) (tC (.str " ")) (tCons (tVar 4) tNil)) (gName 9))
  (tSeq (tIfS (tOr (tNot (tTruG g.K (tCallG g A "_law_same" E0 (tCons (tVar 8) (tCons (tVar 3) tNil))))) (tOr (tTest (tOp (kNe g.K) (tCB (kStrO g A E0) (tCons (tVar 8) tNil)) (tVar 9))) (tTest (tOp rNotB (tOp (kEqO g A E0) (tVar 8) (tCallG g A "_law_made" E0 (tCons (tVar 3) tNil))) (tC (.bl true))))))
  (tRet (tC (.bl false)))
  tNext)
  (tSeq (tAsg (tMethG g A "words" E0 (tVar 8) tNil) (gName 10))
  (tSeq (tDrop (tBM g.K "list" rAppend (tVar 10) (tCons (tC (.str "o")) tNil)))
  (tSeq (tAsg (tCallG g A "read_plan" E0 (tCons (tCB (kStrO g A E0) (tCons (tVar 8) tNil)) tNil)) (gName 11))
  (tRet (tAndT g.K (tCallG g A "_law_same" E0 (tCons (tVar 11) (tCons (tVar 3) tNil))) (tAndT g.K (tOp (kEqO g A E0) (tCB (kStrO g A E0) (tCons (tVar 11) tNil)) (tVar 9)) (tAndT g.K (tOp (kEqO g A E0) (tCB (kStrO g A E0) (tCons (tVar 8) tNil)) (tVar 9)) (tOp (kEqO g A E0) (tCB (kStrO g A E0) (tCons (tCallG g A "read_plan" E0 (tCons (tVar 5) tNil)) tNil)) (tVar 9))))))))))))))))))))
@[reducible] def rb_law_k83_0 (g : G) (A : Around) : TS := (rCut (rIfS (rTest (rOp kGt (rVar 6) (rC (.int 0))))
  (rAsg (rOp (kAdd g.K) (rVar 5) (rCall g A "_law_gap" E0 (rCons (rVar 1) (rCons (rC (.int 1)) rNil)))) (rName 5))
  rNext)
  (rAsg (rOp (kAdd g.K) (rVar 5) (rVar 7)) (rName 5)))
def r_law_k83 (g : G) (A : Around) : TS := (rSeq (rAsg (rCall g A "_law_box" E0 (rCons (rVar 0) rNil)) (rName 1))
  (rSeq (rAsg (rOp (kAdd g.K) (rC (.int 1)) (rCall g A "_law_pick" E0 (rCons (rVar 1) (rCons (rC (.int 16)) rNil)))) (rName 2))
  (rCut (rIfS (rTest (rOp (kEqO g A E0) (rCall g A "_law_pick" E0 (rCons (rVar 1) (rCons (rC (.int 4)) rNil))) (rC (.int 3))))
  (rAsg (rC (.int 60)) (rName 2))
  rNext)
  (rSeq (rAsg (rCall g A "_law_rep" E0 (rCons (rVar 1) (rCons (rLst (rCons (rVar 2) rNil)) (rCons (rOp (kAdd g.K) (rC (.int 1)) (rCall g A "_law_pick" E0 (rCons (rVar 1) (rCons (rC (.int 6)) rNil)))) rNil)))) (rName 3))
  (rSeq (rAsg (rCall g A "_law_words" E0 (rCons (rVar 3) rNil)) (rName 4))
  (rSeq (rAsg (rCall g A "_law_gap" E0 (rCons (rVar 1) (rCons (rC (.int 0)) rNil))) (rName 5))
  (rSeq (rFor (rEnum g.K (rCons (rVar 4) rNil)) (rGTup g.K 2 (rGCons (rName 6) (rGCons (rName 7) rGNil)))
  (rb_law_k83_0 g A))
  (rSeq (rAsg (rOp (kAdd g.K) (rVar 5) (rCall g A "_law_gap" E0 (rCons (rVar 1) (rCons (rC (.int 0)) rNil)))) (rName 5))
  (rSeq (rAsg (rCall g A "read_plan" E0 (rCons (rVar 5) rNil)) (rName 8))
  (rSeq (rAsg (rBM g.K "str" (kJoin g.K) (rC (.str " ")) (rCons (rVar 4) rNil)) (rName 9))
  (rSeq (rIfS (rOr (rNot (rTru g.K (rCall g A "_law_same" E0 (rCons (rVar 8) (rCons (rVar 3) rNil))))) (rOr (rTest (rOp (kNe g.K) (rCB (kStrO g A E0) (rCons (rVar 8) rNil)) (rVar 9))) (rTest (rOp rNotB (rOp (kEqO g A E0) (rVar 8) (rCall g A "_law_made" E0 (rCons (rVar 3) rNil))) (rC (.bl true))))))
  (rRet (rC (.bl false)))
  rNext)
  (rSeq (rAsg (rMeth g A "words" E0 (rVar 8) rNil) (rName 10))
  (rSeq (rDrop (rBM g.K "list" rAppend (rVar 10) (rCons (rC (.str "o")) rNil)))
  (rSeq (rAsg (rCall g A "read_plan" E0 (rCons (rCB (kStrO g A E0) (rCons (rVar 8) rNil)) rNil)) (rName 11))
  (rRet (rAndT g.K (rCall g A "_law_same" E0 (rCons (rVar 11) (rCons (rVar 3) rNil))) (rAndT g.K (rOp (kEqO g A E0) (rCB (kStrO g A E0) (rCons (rVar 11) rNil)) (rVar 9)) (rAndT g.K (rOp (kEqO g A E0) (rCB (kStrO g A E0) (rCons (rVar 8) rNil)) (rVar 9)) (rOp (kEqO g A E0) (rCB (kStrO g A E0) (rCons (rCall g A "read_plan" E0 (rCons (rVar 5) rNil)) rNil)) (rVar 9))))))))))))))))))))
theorem e_law_k83 (g : G) (A : Around) : t_law_k83 g A = r_law_k83 g A := by kernel_rfl
def t_places (g : G) (A : Around) : TS := (tSeq (tAsg (tLst tNil) (gName 1))
  (tSeq (tAsg (tLst tNil) (gName 2))
  (tSeq (tDrop (tCallG g A "gather" E0 (tCons (tVar 0) (tCons (tTup tNil) (tCons (tVar 1) (tCons (tVar 2) tNil))))))
  (tRet (tOp (kAdd g.K) (tVar 1) (tVar 2))))))
def r_places (g : G) (A : Around) : TS := (rSeq (rAsg (rLst rNil) (rName 1))
  (rSeq (rAsg (rLst rNil) (rName 2))
  (rSeq (rDrop (rCall g A "gather" E0 (rCons (rVar 0) (rCons (rTup rNil) (rCons (rVar 1) (rCons (rVar 2) rNil))))))
  (rRet (rOp (kAdd g.K) (rVar 1) (rVar 2))))))
theorem e_places (g : G) (A : Around) : t_places g A = r_places g A := by kernel_rfl
def t_gather (g : G) (A : Around) : TS := (tIfS (tTruG g.K (tCB (kIsi g.K) (tCons (tVar 0) (tCons (tGl g "Leaf") tNil))))
  (tDrop (tBM g.K "list" rAppend (tVar 2) (tCons (tVar 1) tNil)))
  (C8.tCut (tIfS (tTruG g.K (tVar 1))
  (tDrop (tBM g.K "list" rAppend (tVar 3) (tCons (tVar 1) tNil)))
  tNext)
  (tFor (iEnumG g.K (tCons (tFld g.K (tVar 0) "parts") tNil)) (gTup g.K 2 (gCons (gName 4) (gCons (gName 5) gNil)))
  (tDrop (tCallG g A "gather" E0 (tCons (tVar 5) (tCons (tOp (kAdd g.K) (tVar 1) (tTup (tCons (tVar 4) tNil))) (tCons (tVar 2) (tCons (tVar 3) tNil)))))))))
@[reducible] def rb_gather_0 (g : G) (A : Around) : TS := (rDrop (rCall g A "gather" E0 (rCons (rVar 5) (rCons (rOp (kAdd g.K) (rVar 1) (rTup (rCons (rVar 4) rNil))) (rCons (rVar 2) (rCons (rVar 3) rNil))))))
def r_gather (g : G) (A : Around) : TS := (rIfS (rTru g.K (rCB (kIsi g.K) (rCons (rVar 0) (rCons (rGl g "Leaf") rNil))))
  (rDrop (rBM g.K "list" rAppend (rVar 2) (rCons (rVar 1) rNil)))
  (rCut (rIfS (rTru g.K (rVar 1))
  (rDrop (rBM g.K "list" rAppend (rVar 3) (rCons (rVar 1) rNil)))
  rNext)
  (rFor (rEnum g.K (rCons (rFld g.K (rVar 0) "parts") rNil)) (rGTup g.K 2 (rGCons (rName 4) (rGCons (rName 5) rGNil)))
  (rb_gather_0 g A))))
theorem e_gather (g : G) (A : Around) : t_gather g A = r_gather g A := by kernel_rfl
def t_branch_atX (g : G) (A : Around) (E : XK) : TS := (tSeq (tIfS (tNot (tTruG g.K (tCB (kIsi g.K) (tCons (tVar 1) (tCons (tC (.ty "tuple")) tNil)))))
  (tRaise g A "NoPath" E (tCons (tVar 1) tNil))
  tNext)
  (tSeq (tAsg (tVar 0) (gName 2))
  (tSeq (tFor (iSeq g.K (tVar 1)) (gName 3)
  (tSeq (tIfS (tOr (tTruG g.K (tCB (kIsi g.K) (tCons (tVar 2) (tCons (tGl g "Leaf") tNil)))) (tNot (tTruG g.K (tCallG g A "is_place" E0 (tCons (tVar 3) (tCons (tCB (kLen g.K) (tCons (tFld g.K (tVar 2) "parts") tNil)) tNil))))))
  (tRaise g A "NoPath" E (tCons (tVar 1) tNil))
  tNext)
  (tAsg (tOp (kIx g.K) (tFld g.K (tVar 2) "parts") (tVar 3)) (gName 2))))
  (tSeq (tIfS (tTruG g.K (tCB (kIsi g.K) (tCons (tVar 2) (tCons (tGl g "Leaf") tNil))))
  (tRaise g A "NoPath" E (tCons (tVar 1) tNil))
  tNext)
  (tRet (tVar 2))))))
@[reducible] def rb_branch_atX_0 (g : G) (A : Around) (E : XK) : TS := (rSeq (rIfS (rOr (rTru g.K (rCB (kIsi g.K) (rCons (rVar 2) (rCons (rGl g "Leaf") rNil)))) (rNot (rTru g.K (rCall g A "is_place" E0 (rCons (rVar 3) (rCons (rCB (kLen g.K) (rCons (rFld g.K (rVar 2) "parts") rNil)) rNil))))))
  (rRaise g A "NoPath" E (rCons (rVar 1) rNil))
  rNext)
  (rAsg (rOp (kIx g.K) (rFld g.K (rVar 2) "parts") (rVar 3)) (rName 2)))
def r_branch_atX (g : G) (A : Around) (E : XK) : TS := (rSeq (rIfS (rNot (rTru g.K (rCB (kIsi g.K) (rCons (rVar 1) (rCons (rC (.ty "tuple")) rNil)))))
  (rRaise g A "NoPath" E (rCons (rVar 1) rNil))
  rNext)
  (rSeq (rAsg (rVar 0) (rName 2))
  (rSeq (rFor (rSeqI g.K (rVar 1)) (rName 3)
  (rb_branch_atX_0 g A E))
  (rSeq (rIfS (rTru g.K (rCB (kIsi g.K) (rCons (rVar 2) (rCons (rGl g "Leaf") rNil))))
  (rRaise g A "NoPath" E (rCons (rVar 1) rNil))
  rNext)
  (rRet (rVar 2))))))
theorem e_branch_atX (g : G) (A : Around) (E : XK) : t_branch_atX g A E = r_branch_atX g A E := by kernel_rfl
def t_is_place (g : G) (A : Around) : TS := (tRet (tAndT g.K (tCB (kIsi g.K) (tCons (tVar 0) (tCons (tC (.ty "int")) tNil))) (tAndT g.K (tNotT g.K (tCB (kIsi g.K) (tCons (tVar 0) (tCons (tC (.ty "bool")) tNil)))) (tChain kLe kLt (tC (.int 0)) (tVar 0) (tVar 1)))))
def r_is_place (g : G) (A : Around) : TS := (rRet (rAndT g.K (rCB (kIsi g.K) (rCons (rVar 0) (rCons (rC (.ty "int")) rNil))) (rAndT g.K (rNotT g.K (rCB (kIsi g.K) (rCons (rVar 0) (rCons (rC (.ty "bool")) rNil)))) (rChain kLe kLt (rC (.int 0)) (rVar 0) (rVar 1)))))
theorem e_is_place (g : G) (A : Around) : t_is_place g A = r_is_place g A := by kernel_rfl
def t_branch_paths (g : G) (A : Around) : TS := (tRet (tOp (kAdd g.K) (tLst (tCons (tTup tNil) tNil)) (tSl (kSl g.K) (tCallG g A "places" E0 (tCons (tVar 0) tNil)) (tPart (tCB (kLenO g A E0) (tCons (tVar 0) tNil))) tNoPart)))
def r_branch_paths (g : G) (A : Around) : TS := (rRet (rOp (kAdd g.K) (rLst (rCons (rTup rNil) rNil)) (rSl (kSl g.K) (rCall g A "places" E0 (rCons (rVar 0) rNil)) (rPart (rCB (kLenO g A E0) (rCons (rVar 0) rNil))) rNoPart)))
theorem e_branch_paths (g : G) (A : Around) : t_branch_paths g A = r_branch_paths g A := by kernel_rfl
def t_law_shared (g : G) (A : Around) : TS := (tSeq (tAsg (tBM g.K "str" (kJoin g.K) (tC (.str " ")) (tCons (tCallG g A "_law_words" E0 (tCons (tVar 0) tNil)) tNil)) (gName 2))
  (C8.tCut (tIfS (tTest (tOp (kNotIn g.K) (tVar 2) (tVar 1)))
  (tIfS (tTest (tOp (kEq g.K) (tVar 0) (tC (.str "o"))))
  (tAsg (tMakePlain g "Leaf") (gSub (tVar 1) (tVar 2) kSet))
  (tSeq (tAsg (tLc (iSeq g.K (tOp (kIx g.K) (tVar 0) (tC (.int 3)))) (gName 4) tYes (tCallG g A "_law_shared" E0 (tCons (tVar 4) (tCons (tVar 1) tNil))) [4]) (gName 3))
  (tAsg (tMakeKG g A "Branch" 2 ["above", "sets"] E0 (tCons (tOp (kIx g.K) (tVar 0) (tC (.int 0))) (tCons (tVar 3) tNil)) (tCons (tCB (kList g.K) (tCons (tOp (kIx g.K) (tVar 0) (tC (.int 1))) tNil)) (tCons (tCB (kList g.K) (tCons (tOp (kIx g.K) (tVar 0) (tC (.int 2))) tNil)) tNil))) (gSub (tVar 1) (tVar 2) kSet))))
  tNext)
  (tRet (tOp (kIx g.K) (tVar 1) (tVar 2)))))
def r_law_shared (g : G) (A : Around) : TS := (rSeq (rAsg (rBM g.K "str" (kJoin g.K) (rC (.str " ")) (rCons (rCall g A "_law_words" E0 (rCons (rVar 0) rNil)) rNil)) (rName 2))
  (rCut (rIfS (rTest (rOp (kNotIn g.K) (rVar 2) (rVar 1)))
  (rIfS (rTest (rOp (kEq g.K) (rVar 0) (rC (.str "o"))))
  (rAsg (rMakePlain g "Leaf") (rGSub (rVar 1) (rVar 2) kSet))
  (rSeq (rAsg (rLc (rSeqI g.K (rOp (kIx g.K) (rVar 0) (rC (.int 3)))) (rName 4) rYes (rCall g A "_law_shared" E0 (rCons (rVar 4) (rCons (rVar 1) rNil))) [4]) (rName 3))
  (rAsg (rMakeK g A "Branch" 2 ["above", "sets"] E0 (rCons (rOp (kIx g.K) (rVar 0) (rC (.int 0))) (rCons (rVar 3) rNil)) (rCons (rCB (kList g.K) (rCons (rOp (kIx g.K) (rVar 0) (rC (.int 1))) rNil)) (rCons (rCB (kList g.K) (rCons (rOp (kIx g.K) (rVar 0) (rC (.int 2))) rNil)) rNil))) (rGSub (rVar 1) (rVar 2) kSet))))
  rNext)
  (rRet (rOp (kIx g.K) (rVar 1) (rVar 2)))))
theorem e_law_shared (g : G) (A : Around) : t_law_shared g A = r_law_shared g A := by kernel_rfl
def t_law_walk (g : G) (A : Around) : TS := (tSeq (tIfS (tTest (tOp (kEq g.K) (tVar 0) (tC (.str "o"))))
  (tSeq (tDrop (tBM g.K "list" rAppend (tVar 2) (tCons (tVar 1) tNil)))
  (tRet (tC .non)))
  tNext)
  (tSeq (tDrop (tBM g.K "list" rAppend (tVar 3) (tCons (tTup (tCons (tVar 1) (tCons (tVar 0) tNil))) tNil)))
  (tSeq (tFor (iEnumG g.K (tCons (tOp (kIx g.K) (tVar 0) (tC (.int 3))) tNil)) (gTup g.K 2 (gCons (gName 4) (gCons (gName 5) gNil)))
  (tDrop (tCallG g A "_law_walk" E0 (tCons (tVar 5) (tCons (tOp (kAdd g.K) (tVar 1) (tTup (tCons (tVar 4) tNil))) (tCons (tVar 2) (tCons (tVar 3) tNil)))))))
  (tRet (tC .non)))))
@[reducible] def rb_law_walk_0 (g : G) (A : Around) : TS := (rDrop (rCall g A "_law_walk" E0 (rCons (rVar 5) (rCons (rOp (kAdd g.K) (rVar 1) (rTup (rCons (rVar 4) rNil))) (rCons (rVar 2) (rCons (rVar 3) rNil))))))
def r_law_walk (g : G) (A : Around) : TS := (rSeq (rIfS (rTest (rOp (kEq g.K) (rVar 0) (rC (.str "o"))))
  (rSeq (rDrop (rBM g.K "list" rAppend (rVar 2) (rCons (rVar 1) rNil)))
  (rRet (rC .non)))
  rNext)
  (rSeq (rDrop (rBM g.K "list" rAppend (rVar 3) (rCons (rTup (rCons (rVar 1) (rCons (rVar 0) rNil))) rNil)))
  (rSeq (rFor (rEnum g.K (rCons (rOp (kIx g.K) (rVar 0) (rC (.int 3))) rNil)) (rGTup g.K 2 (rGCons (rName 4) (rGCons (rName 5) rGNil)))
  (rb_law_walk_0 g A))
  (rRet (rC .non)))))
theorem e_law_walk (g : G) (A : Around) : t_law_walk g A = r_law_walk g A := by kernel_rfl
def t_law_paths (g : G) (A : Around) : TS := (tSeq (tIfS (tOr (tNot (tTruG g.K (tCB (kIsi g.K) (tCons (tVar 0) (tCons (tC (.ty "list")) tNil))))) (tTest (tOp (kNe g.K) (tCB (kLen g.K) (tCons (tVar 0) tNil)) (tCB (kLen g.K) (tCons (tVar 1) tNil)))))
  (tRet (tC (.bl false)))
  tNext)
  (tSeq (tFor (iZipG g.K (tCons (tVar 0) (tCons (tVar 1) tNil))) (gTup g.K 2 (gCons (gName 2) (gCons (gName 3) gNil)))
  (tIfS (tOr (tNot (tTruG g.K (tCB (kIsi g.K) (tCons (tVar 2) (tCons (tC (.ty "tuple")) tNil))))) (tOr (tTest (tOp (kNe g.K) (tVar 2) (tVar 3))) (tTruG g.K (tCB (kAny g.K) (tCons (tLc (iSeq g.K (tVar 2)) (gName 4) tYes (tCB (kIsi g.K) (tCons (tVar 4) (tCons (tC (.ty "bool")) tNil))) [4]) tNil)))))
  (tRet (tC (.bl false)))
  tNext))
  (tRet (tC (.bl true)))))
@[reducible] def rb_law_paths_0 (g : G) (A : Around) : TS := (rIfS (rOr (rNot (rTru g.K (rCB (kIsi g.K) (rCons (rVar 2) (rCons (rC (.ty "tuple")) rNil))))) (rOr (rTest (rOp (kNe g.K) (rVar 2) (rVar 3))) (rTru g.K (rCB (kAny g.K) (rCons (rLc (rSeqI g.K (rVar 2)) (rName 4) rYes (rCB (kIsi g.K) (rCons (rVar 4) (rCons (rC (.ty "bool")) rNil))) [4]) rNil)))))
  (rRet (rC (.bl false)))
  rNext)
def r_law_paths (g : G) (A : Around) : TS := (rSeq (rIfS (rOr (rNot (rTru g.K (rCB (kIsi g.K) (rCons (rVar 0) (rCons (rC (.ty "list")) rNil))))) (rTest (rOp (kNe g.K) (rCB (kLen g.K) (rCons (rVar 0) rNil)) (rCB (kLen g.K) (rCons (rVar 1) rNil)))))
  (rRet (rC (.bl false)))
  rNext)
  (rSeq (rFor (rZipG g.K (rCons (rVar 0) (rCons (rVar 1) rNil))) (rGTup g.K 2 (rGCons (rName 2) (rGCons (rName 3) rGNil)))
  (rb_law_paths_0 g A))
  (rRet (rC (.bl true)))))
theorem e_law_paths (g : G) (A : Around) : t_law_paths g A = r_law_paths g A := by kernel_rfl
def t_law_elsewhere (g : G) (A : Around) : TS := (tSeq (tAsg (tTup (tCons (tMakeG g A "Branch" E0 (tCons (tC (.str "calls")) (tCons (tRevL g.K (tCB (kList g.K) (tCons (tFld g.K (tVar 0) "parts") tNil))) tNil))) (tCons (tTup (tCons (tC (.str "calls")) (tCons (tTup tNil) (tCons (tTup tNil) (tCons (tRevL g.K (tOp (kIx g.K) (tVar 1) (tC (.int 3)))) tNil))))) tNil))) (gName 2))
  (tSeq (tAsg (tLc (iZipN g.K (tCons (tFld g.K (tVar 0) "parts") (tCons (tOp (kIx g.K) (tVar 1) (tC (.int 3))) tNil))) (gName 8) (tTest (tOp (kNe g.K) (tOp (kIx g.K) (tVar 8) (tC (.int 1))) (tC (.str "o")))) (tVar 8) [8]) (gName 3))
  (tSeq (tFor (iSeq g.K (tOp (kAdd g.K) (tVar 3) (tLst (tCons (tVar 2) tNil)))) (gTup g.K 2 (gCons (gName 4) (gCons (gName 5) gNil)))
  (tSeq (tAsg (tLst tNil) (gName 6))
  (tSeq (tAsg (tLst tNil) (gName 7))
  (tSeq (tDrop (tCallG g A "_law_walk" E0 (tCons (tVar 5) (tCons (tTup tNil) (tCons (tVar 6) (tCons (tVar 7) tNil))))))
  (tIfS (tNot (tTruG g.K (tCallG g A "_law_paths" E0 (tCons (tCallG g A "places" E0 (tCons (tVar 4) tNil)) (tCons (tOp (kAdd g.K) (tVar 6) (tLc (iSeq g.K (tVar 7)) (gTup g.K 2 (gCons (gName 9) (gCons (gName 10) gNil))) (tTruG g.K (tVar 9)) (tVar 9) [9, 10])) tNil)))))
  (tRet (tC (.bl false)))
  tNext)))))
  (tRet (tC (.bl true))))))
@[reducible] def rb_law_elsewhere_0 (g : G) (A : Around) : TS := (rSeq (rAsg (rLst rNil) (rName 6))
  (rSeq (rAsg (rLst rNil) (rName 7))
  (rSeq (rDrop (rCall g A "_law_walk" E0 (rCons (rVar 5) (rCons (rTup rNil) (rCons (rVar 6) (rCons (rVar 7) rNil))))))
  (rIfS (rNot (rTru g.K (rCall g A "_law_paths" E0 (rCons (rCall g A "places" E0 (rCons (rVar 4) rNil)) (rCons (rOp (kAdd g.K) (rVar 6) (rLc (rSeqI g.K (rVar 7)) (rGTup g.K 2 (rGCons (rName 9) (rGCons (rName 10) rGNil))) (rTru g.K (rVar 9)) (rVar 9) [9, 10])) rNil)))))
  (rRet (rC (.bl false)))
  rNext))))
def r_law_elsewhere (g : G) (A : Around) : TS := (rSeq (rAsg (rTup (rCons (rMake g A "Branch" E0 (rCons (rC (.str "calls")) (rCons (rRevL g.K (rCB (kList g.K) (rCons (rFld g.K (rVar 0) "parts") rNil))) rNil))) (rCons (rTup (rCons (rC (.str "calls")) (rCons (rTup rNil) (rCons (rTup rNil) (rCons (rRevL g.K (rOp (kIx g.K) (rVar 1) (rC (.int 3)))) rNil))))) rNil))) (rName 2))
  (rSeq (rAsg (rLc (rZipN g.K (rCons (rFld g.K (rVar 0) "parts") (rCons (rOp (kIx g.K) (rVar 1) (rC (.int 3))) rNil))) (rName 8) (rTest (rOp (kNe g.K) (rOp (kIx g.K) (rVar 8) (rC (.int 1))) (rC (.str "o")))) (rVar 8) [8]) (rName 3))
  (rSeq (rFor (rSeqI g.K (rOp (kAdd g.K) (rVar 3) (rLst (rCons (rVar 2) rNil)))) (rGTup g.K 2 (rGCons (rName 4) (rGCons (rName 5) rGNil)))
  (rb_law_elsewhere_0 g A))
  (rRet (rC (.bl true))))))
theorem e_law_elsewhere (g : G) (A : Around) : t_law_elsewhere g A = r_law_elsewhere g A := by kernel_rfl
def t_law_refused (g : G) (A : Around) : TS := (tSeq (tTry g.K (.ref (He.ga g.K "NoPath")) 2 (fun W => (tDrop (tCallS g A "branch_at" W (tCons (tVar 0) (tCons (tVar 1) tNil)))))
  (fun xa xc xd => (tSeq (tAsg (tAndT g.K (tCB (kIsE g.K xa xc xd) (tCons (tVar 2) (tCons (tGl g "SoleError") tNil))) (tNotT g.K (tCB (kIsE g.K xa xc xd) (tCons (tVar 2) (tCons (tGl g "NoBranch") tNil))))) (gName 3))
  (tRet (tAndT g.K (tVar 3) (tAndT g.K (tNotT g.K (tCB (kIsE g.K xa xc xd) (tCons (tVar 2) (tCons (tGl g "BadText") tNil)))) (tOp (kEqDi g.K) (tXfG g.K xa xc xd "path" (tVar 2)) (tVar 1))))))) (fun _ _ _ _ => False))
  (tRet (tC (.bl false))))
def r_law_refused (g : G) (A : Around) : TS := (rSeq (rTry g.K (.ref (He.ga g.K "NoPath")) 2 (fun W => (rDrop (rCallS g A "branch_at" W (rCons (rVar 0) (rCons (rVar 1) rNil)))))
  (fun xa xc xd => (rSeq (rAsg (rAndT g.K (rCB (kIsE g.K xa xc xd) (rCons (rVar 2) (rCons (rGl g "SoleError") rNil))) (rNotT g.K (rCB (kIsE g.K xa xc xd) (rCons (rVar 2) (rCons (rGl g "NoBranch") rNil))))) (rName 3))
  (rRet (rAndT g.K (rVar 3) (rAndT g.K (rNotT g.K (rCB (kIsE g.K xa xc xd) (rCons (rVar 2) (rCons (rGl g "BadText") rNil)))) (rOp (kEqDi g.K) (rXfG g.K xa xc xd "path" (rVar 2)) (rVar 1))))))) (fun _ _ _ _ => False))
  (rRet (rC (.bl false))))
theorem e_law_refused (g : G) (A : Around) : t_law_refused g A = r_law_refused g A := by kernel_rfl
def t_law_odd (g : G) (A : Around) : TS := (tSeq (tAsg (tOp (kIx g.K) (tOp (kIx g.K) (tVar 2) (tCallG g A "_law_pick" E0 (tCons (tVar 0) (tCons (tCB (kLen g.K) (tCons (tVar 2) tNil)) tNil)))) (tC (.int 0))) (gName 3))
  (tSeq (tAsg (tOp (kIx g.K) (tVar 1) (tCallG g A "_law_pick" E0 (tCons (tVar 0) (tCons (tCB (kLen g.K) (tCons (tVar 1) tNil)) tNil)))) (gName 4))
  (tSeq (tAsg (tCB (kLen g.K) (tCons (tOp (kIx g.K) (tOp (kIx g.K) (tCB (kDictT g.K) (tCons (tVar 2) tNil)) (tVar 3)) (tC (.int 3))) tNil)) (gName 5))
  (tSeq (tAsg (tCallG g A "_law_pick" E0 (tCons (tVar 0) (tCons (tOp kPow (tC (.int 10)) (tC (.int 18))) tNil))) (gName 6))
  (tSeq (tAsg (tLst (tCons (tCB (kList g.K) (tCons (tVar 3) tNil)) (tCons (tVar 4) (tCons (tOp (kAdd g.K) (tVar 4) (tTup (tCons (tC (.int 0)) tNil))) (tCons (tOp (kAdd g.K) (tVar 3) (tTup (tCons (tOp (kAdd g.K) (tVar 5) (tVar 6)) tNil))) (tCons (tOp (kAdd g.K) (tVar 3) (tTup (tCons (tOp kSub (tUn (rU fun i => .int (-i)) (tC (.int 1))) (tVar 6)) tNil))) (tCons (tOp (kAdd g.K) (tVar 3) (tTup (tCons (tC (.bl true)) tNil))) (tCons (tOp (kAdd g.K) (tVar 3) (tTup (tCons (tC .non) tNil))) tNil)))))))) (gName 7))
  (tSeq (tDrop (tBM g.K "list" rExtend (tVar 7) (tCons (tLst (tCons (tOp (kAdd g.K) (tVar 3) (tTup (tCons (tC (.str "0")) tNil))) (tCons (tC .non) (tCons (tC (.int 0)) (tCons (tC (.str "")) (tCons (tC (.str "()")) (tCons (tC (.bl true)) (tCons (tC (.bl false)) (tCons tDNew (tCons (tOp (kAdd g.K) (tVar 3) (tTup (tCons (tTup tNil) tNil))) (tCons (tOp (kAdd g.K) (tVar 3) (tTup (tCons (tLst tNil) tNil))) (tCons (tOp kSub (tUn (rU fun i => .int (-i)) (tC (.int 1))) (tVar 6)) tNil)))))))))))) tNil)))
  (tRet (tOp (kIx g.K) (tVar 7) (tCallG g A "_law_pick" E0 (tCons (tVar 0) (tCons (tCB (kLen g.K) (tCons (tVar 7) tNil)) tNil)))))))))))
def r_law_odd (g : G) (A : Around) : TS := (rSeq (rAsg (rOp (kIx g.K) (rOp (kIx g.K) (rVar 2) (rCall g A "_law_pick" E0 (rCons (rVar 0) (rCons (rCB (kLen g.K) (rCons (rVar 2) rNil)) rNil)))) (rC (.int 0))) (rName 3))
  (rSeq (rAsg (rOp (kIx g.K) (rVar 1) (rCall g A "_law_pick" E0 (rCons (rVar 0) (rCons (rCB (kLen g.K) (rCons (rVar 1) rNil)) rNil)))) (rName 4))
  (rSeq (rAsg (rCB (kLen g.K) (rCons (rOp (kIx g.K) (rOp (kIx g.K) (rCB (kDictT g.K) (rCons (rVar 2) rNil)) (rVar 3)) (rC (.int 3))) rNil)) (rName 5))
  (rSeq (rAsg (rCall g A "_law_pick" E0 (rCons (rVar 0) (rCons (rOp kPow (rC (.int 10)) (rC (.int 18))) rNil))) (rName 6))
  (rSeq (rAsg (rLst (rCons (rCB (kList g.K) (rCons (rVar 3) rNil)) (rCons (rVar 4) (rCons (rOp (kAdd g.K) (rVar 4) (rTup (rCons (rC (.int 0)) rNil))) (rCons (rOp (kAdd g.K) (rVar 3) (rTup (rCons (rOp (kAdd g.K) (rVar 5) (rVar 6)) rNil))) (rCons (rOp (kAdd g.K) (rVar 3) (rTup (rCons (rOp kSub (rUn (rU fun i => .int (-i)) (rC (.int 1))) (rVar 6)) rNil))) (rCons (rOp (kAdd g.K) (rVar 3) (rTup (rCons (rC (.bl true)) rNil))) (rCons (rOp (kAdd g.K) (rVar 3) (rTup (rCons (rC .non) rNil))) rNil)))))))) (rName 7))
  (rSeq (rDrop (rBM g.K "list" rExtend (rVar 7) (rCons (rLst (rCons (rOp (kAdd g.K) (rVar 3) (rTup (rCons (rC (.str "0")) rNil))) (rCons (rC .non) (rCons (rC (.int 0)) (rCons (rC (.str "")) (rCons (rC (.str "()")) (rCons (rC (.bl true)) (rCons (rC (.bl false)) (rCons tDNew (rCons (rOp (kAdd g.K) (rVar 3) (rTup (rCons (rTup rNil) rNil))) (rCons (rOp (kAdd g.K) (rVar 3) (rTup (rCons (rLst rNil) rNil))) (rCons (rOp kSub (rUn (rU fun i => .int (-i)) (rC (.int 1))) (rVar 6)) rNil)))))))))))) rNil)))
  (rRet (rOp (kIx g.K) (rVar 7) (rCall g A "_law_pick" E0 (rCons (rVar 0) (rCons (rCB (kLen g.K) (rCons (rVar 7) rNil)) rNil)))))))))))
theorem e_law_odd (g : G) (A : Around) : t_law_odd g A = r_law_odd g A := by kernel_rfl
def t_law_k85 (g : G) (A : Around) : TS := (tSeq (tAsg (tCallG g A "_law_box" E0 (tCons (tVar 0) tNil)) (gName 1))
  (tSeq (tAsg (tOp (kAdd g.K) (tC (.int 1)) (tCallG g A "_law_pick" E0 (tCons (tVar 1) (tCons (tC (.int 12)) tNil)))) (gName 2))
  (C8.tCut (tIfS (tTest (tOp (kEq g.K) (tCallG g A "_law_pick" E0 (tCons (tVar 1) (tCons (tC (.int 4)) tNil))) (tC (.int 3))))
  (tAsg (tC (.int 60)) (gName 2))
  tNext)
  (tSeq (tAsg (tCallG g A "_law_rep" E0 (tCons (tVar 1) (tCons (tLst (tCons (tVar 2) tNil)) (tCons (tOp (kAdd g.K) (tC (.int 1)) (tCallG g A "_law_pick" E0 (tCons (tVar 1) (tCons (tC (.int 6)) tNil)))) tNil)))) (gName 3))
  (tSeq (tAsg (tCallG g A "_law_made" E0 (tCons (tVar 3) tNil)) (gName 4))
  (C8.tCut (tIfS (tTest (tOp (kEq g.K) (tCallG g A "_law_pick" E0 (tCons (tVar 1) (tCons (tC (.int 2)) tNil))) (tC (.int 0))))
  (tAsg (tCallG g A "_law_shared" E0 (tCons (tVar 3) (tCons tDNew tNil))) (gName 4))
  tNext)
  (tSeq (tAsg (tLst tNil) (gName 5))
  (tSeq (tAsg (tLst tNil) (gName 6))
  (tSeq (tDrop (tCallG g A "_law_walk" E0 (tCons (tVar 3) (tCons (tTup tNil) (tCons (tVar 5) (tCons (tVar 6) tNil))))))
  (tSeq (tAsg (tLc (iSeq g.K (tVar 6)) (gTup g.K 2 (gCons (gName 10) (gCons (gName 11) gNil))) (tTruG g.K (tVar 10)) (tVar 10) [10, 11]) (gName 7))
  (tSeq (tAsg (tCallG g A "places" E0 (tCons (tVar 4) tNil)) (gName 8))
  (tSeq (tAsg (tCallG g A "branch_paths" E0 (tCons (tVar 4) tNil)) (gName 9))
  (tSeq (tIfS (tOr (tNot (tTruG g.K (tCallG g A "_law_paths" E0 (tCons (tVar 8) (tCons (tOp (kAdd g.K) (tVar 5) (tVar 7)) tNil))))) (tNot (tTruG g.K (tCallG g A "_law_paths" E0 (tCons (tVar 9) (tCons (tOp (kAdd g.K) (tLst (tCons (tTup tNil) tNil)) (tVar 7)) tNil))))))
  (tRet (tC (.bl false)))
  tNext)
  (tSeq (tDrop (tBM g.K "list" rAppend (tVar 8) (tCons (tTup (tCons (tC (.int 0)) tNil)) tNil)))
  (tSeq (tDrop (tBM g.K "list" rAppend (tVar 9) (tCons (tTup (tCons (tC (.int 0)) tNil)) tNil)))
  (tSeq (tIfS (tOr (tNot (tTruG g.K (tCallG g A "_law_elsewhere" E0 (tCons (tVar 4) (tCons (tVar 3) tNil))))) (tNot (tTruG g.K (tCallG g A "_law_paths" E0 (tCons (tCallG g A "places" E0 (tCons (tVar 4) tNil)) (tCons (tOp (kAdd g.K) (tVar 5) (tVar 7)) tNil))))))
  (tRet (tC (.bl false)))
  tNext)
  (tSeq (tIfS (tNot (tTruG g.K (tCallG g A "_law_paths" E0 (tCons (tCallG g A "branch_paths" E0 (tCons (tVar 4) tNil)) (tCons (tOp (kAdd g.K) (tLst (tCons (tTup tNil) tNil)) (tVar 7)) tNil)))))
  (tRet (tC (.bl false)))
  tNext)
  (tSeq (tFor (iSeq g.K (tVar 6)) (gTup g.K 2 (gCons (gName 10) (gCons (gName 11) gNil)))
  (tSeq (tAsg (tCallG g A "branch_at" E0 (tCons (tVar 4) (tCons (tVar 10) tNil))) (gName 12))
  (tIfS (tOr (tNot (tTruG g.K (tCB (kIsi g.K) (tCons (tVar 12) (tCons (tGl g "Branch") tNil))))) (tTest (tOp (kNe g.K) (tCB (kStrO g A E0) (tCons (tVar 12) tNil)) (tBM g.K "str" (kJoin g.K) (tC (.str " ")) (tCons (tCallG g A "_law_words" E0 (tCons (tVar 11) tNil)) tNil)))))
  (tRet (tC (.bl false)))
  tNext)))
  (tSeq (tFor (iRng1 (tCons (tC (.int 4)) tNil)) (gName 13)
  (tIfS (tNot (tTruG g.K (tCallG g A "_law_refused" E0 (tCons (tVar 4) (tCons (tCallG g A "_law_odd" E0 (tCons (tVar 1) (tCons (tVar 5) (tCons (tVar 6) tNil)))) tNil)))))
  (tRet (tC (.bl false)))
  tNext))
  (tRet (tAndT g.K (tCallG g A "_law_refused" E0 (tCons (tVar 4) (tCons (tOp (kIx g.K) (tVar 5) (tC (.int 0))) tNil))) (tNotT g.K (tCallG g A "_law_refused" E0 (tCons (tVar 4) (tCons (tTup tNil) tNil)))))))))))))))))))))))))
@[reducible] def rb_law_k85_0 (g : G) (A : Around) : TS := (rSeq (rAsg (rCall g A "branch_at" E0 (rCons (rVar 4) (rCons (rVar 10) rNil))) (rName 12))
  (rIfS (rOr (rNot (rTru g.K (rCB (kIsi g.K) (rCons (rVar 12) (rCons (rGl g "Branch") rNil))))) (rTest (rOp (kNe g.K) (rCB (kStrO g A E0) (rCons (rVar 12) rNil)) (rBM g.K "str" (kJoin g.K) (rC (.str " ")) (rCons (rCall g A "_law_words" E0 (rCons (rVar 11) rNil)) rNil)))))
  (rRet (rC (.bl false)))
  rNext))
@[reducible] def rb_law_k85_1 (g : G) (A : Around) : TS := (rIfS (rNot (rTru g.K (rCall g A "_law_refused" E0 (rCons (rVar 4) (rCons (rCall g A "_law_odd" E0 (rCons (rVar 1) (rCons (rVar 5) (rCons (rVar 6) rNil)))) rNil)))))
  (rRet (rC (.bl false)))
  rNext)
def r_law_k85 (g : G) (A : Around) : TS := (rSeq (rAsg (rCall g A "_law_box" E0 (rCons (rVar 0) rNil)) (rName 1))
  (rSeq (rAsg (rOp (kAdd g.K) (rC (.int 1)) (rCall g A "_law_pick" E0 (rCons (rVar 1) (rCons (rC (.int 12)) rNil)))) (rName 2))
  (rCut (rIfS (rTest (rOp (kEq g.K) (rCall g A "_law_pick" E0 (rCons (rVar 1) (rCons (rC (.int 4)) rNil))) (rC (.int 3))))
  (rAsg (rC (.int 60)) (rName 2))
  rNext)
  (rSeq (rAsg (rCall g A "_law_rep" E0 (rCons (rVar 1) (rCons (rLst (rCons (rVar 2) rNil)) (rCons (rOp (kAdd g.K) (rC (.int 1)) (rCall g A "_law_pick" E0 (rCons (rVar 1) (rCons (rC (.int 6)) rNil)))) rNil)))) (rName 3))
  (rSeq (rAsg (rCall g A "_law_made" E0 (rCons (rVar 3) rNil)) (rName 4))
  (rCut (rIfS (rTest (rOp (kEq g.K) (rCall g A "_law_pick" E0 (rCons (rVar 1) (rCons (rC (.int 2)) rNil))) (rC (.int 0))))
  (rAsg (rCall g A "_law_shared" E0 (rCons (rVar 3) (rCons tDNew rNil))) (rName 4))
  rNext)
  (rSeq (rAsg (rLst rNil) (rName 5))
  (rSeq (rAsg (rLst rNil) (rName 6))
  (rSeq (rDrop (rCall g A "_law_walk" E0 (rCons (rVar 3) (rCons (rTup rNil) (rCons (rVar 5) (rCons (rVar 6) rNil))))))
  (rSeq (rAsg (rLc (rSeqI g.K (rVar 6)) (rGTup g.K 2 (rGCons (rName 10) (rGCons (rName 11) rGNil))) (rTru g.K (rVar 10)) (rVar 10) [10, 11]) (rName 7))
  (rSeq (rAsg (rCall g A "places" E0 (rCons (rVar 4) rNil)) (rName 8))
  (rSeq (rAsg (rCall g A "branch_paths" E0 (rCons (rVar 4) rNil)) (rName 9))
  (rSeq (rIfS (rOr (rNot (rTru g.K (rCall g A "_law_paths" E0 (rCons (rVar 8) (rCons (rOp (kAdd g.K) (rVar 5) (rVar 7)) rNil))))) (rNot (rTru g.K (rCall g A "_law_paths" E0 (rCons (rVar 9) (rCons (rOp (kAdd g.K) (rLst (rCons (rTup rNil) rNil)) (rVar 7)) rNil))))))
  (rRet (rC (.bl false)))
  rNext)
  (rSeq (rDrop (rBM g.K "list" rAppend (rVar 8) (rCons (rTup (rCons (rC (.int 0)) rNil)) rNil)))
  (rSeq (rDrop (rBM g.K "list" rAppend (rVar 9) (rCons (rTup (rCons (rC (.int 0)) rNil)) rNil)))
  (rSeq (rIfS (rOr (rNot (rTru g.K (rCall g A "_law_elsewhere" E0 (rCons (rVar 4) (rCons (rVar 3) rNil))))) (rNot (rTru g.K (rCall g A "_law_paths" E0 (rCons (rCall g A "places" E0 (rCons (rVar 4) rNil)) (rCons (rOp (kAdd g.K) (rVar 5) (rVar 7)) rNil))))))
  (rRet (rC (.bl false)))
  rNext)
  (rSeq (rIfS (rNot (rTru g.K (rCall g A "_law_paths" E0 (rCons (rCall g A "branch_paths" E0 (rCons (rVar 4) rNil)) (rCons (rOp (kAdd g.K) (rLst (rCons (rTup rNil) rNil)) (rVar 7)) rNil)))))
  (rRet (rC (.bl false)))
  rNext)
  (rSeq (rFor (rSeqI g.K (rVar 6)) (rGTup g.K 2 (rGCons (rName 10) (rGCons (rName 11) rGNil)))
  (rb_law_k85_0 g A))
  (rSeq (rFor (rRng1 (rCons (rC (.int 4)) rNil)) (rName 13)
  (rb_law_k85_1 g A))
  (rRet (rAndT g.K (rCall g A "_law_refused" E0 (rCons (rVar 4) (rCons (rOp (kIx g.K) (rVar 5) (rC (.int 0))) rNil))) (rNotT g.K (rCall g A "_law_refused" E0 (rCons (rVar 4) (rCons (rTup rNil) rNil)))))))))))))))))))))))))
theorem e_law_k85 (g : G) (A : Around) : t_law_k85 g A = r_law_k85 g A := by kernel_rfl
def t_NoPath_init (g : G) (A : Around) : TS := (tSeq (tDrop (tVeG g "SoleError" (tCons (tVar 0) (tCons (tC (.str "no such path")) tNil))))
  (tOst g.K "path" (tVar 0) (tVar 1)))
def r_NoPath_init (g : G) (A : Around) : TS := (rSeq (rDrop (rVeG g "SoleError" (rCons (rVar 0) (rCons (rC (.str "no such path")) rNil))))
  (rOst g.K "path" (rVar 0) (rVar 1)))
theorem e_NoPath_init (g : G) (A : Around) : t_NoPath_init g A = r_NoPath_init g A := by kernel_rfl
def oddB (C : Str) (K : PySem.W.Frag) : Bool := oddT.all fun T => decide (PySem.W.kitOne K (.type T) (.ref (He.ga K C)) = some false)
theorem odd_ok {C : Str} {K : PySem.W.Frag} (h : oddB C K = true) : ∀ T ∈ oddT, PySem.W.kitOne K (.type T) (.ref (He.ga K C)) = some false := fun T hT => of_decide_eq_true (List.all_eq_true.mp h T hT)
def kitVB (C : Str) (t : Value) (b : Bool) (K : PySem.W.Frag) : Bool := decide (PySem.W.kitOne K (.ref (He.ga K C)) t = some b)
theorem kitV_ok {C : Str} {t : Value} {b : Bool} {K : PySem.W.Frag} (h : kitVB C t b K = true) : PySem.W.kitOne K (.ref (He.ga K C)) t = some b := of_decide_eq_true h
def kitCB (C D : Str) (b : Bool) (K : PySem.W.Frag) : Bool := decide (PySem.W.kitOne K (.ref (He.ga K C)) (.ref (He.ga K D)) = some b)
theorem kitC_ok {C D : Str} {b : Bool} {K : PySem.W.Frag} (h : kitCB C D b K = true) : PySem.W.kitOne K (.ref (He.ga K C)) (.ref (He.ga K D)) = some b := of_decide_eq_true h
def exmB (C D : Str) (b : Bool) (K : PySem.W.Frag) : Bool := decide (PySem.W.exmOne K (.ref (He.ga K C)) (.ref (He.ga K D)) = some b)
theorem exm_ok {C D : Str} {b : Bool} {K : PySem.W.Frag} (h : exmB C D b K = true) : PySem.W.exmOne K (.ref (He.ga K C)) (.ref (He.ga K D)) = some b := of_decide_eq_true h
def xf1B (C : Str) (K : PySem.W.Frag) : Bool := xfB K (He.ga K C)
def noatB (C f : Str) (K : PySem.W.Frag) : Bool := He.eqO (PySem.W.findIn K (.ref (He.ga K C)) f) (some none)
def top (i : Nat) : Stmt := PySem.Challenge.pw_soleseat_k85_paths.main.body.getD i (.Pass ⟨0, 0, 0, 0⟩)
structure Top (g : G) : Prop where
  b_abs : g.mg "abs" = none
  b_all : g.mg "all" = none
  b_any : g.mg "any" = none
  b_bool : g.mg "bool" = none
  b_dict : g.mg "dict" = none
  b_enumerate : g.mg "enumerate" = none
  b_int : g.mg "int" = none
  b_isinstance : g.mg "isinstance" = none
  b_len : g.mg "len" = none
  b_list : g.mg "list" = none
  b_max : g.mg "max" = none
  b_range : g.mg "range" = none
  b_str : g.mg "str" = none
  b_sum : g.mg "sum" = none
  b_tuple : g.mg "tuple" = none
  b_zip : g.mg "zip" = none
  k_BadText : Kn g "BadText"
  k_Branch : Kn g "Branch"
  k_Leaf : Kn g "Leaf"
  k_NoBranch : Kn g "NoBranch"
  k_NoPath : Kn g "NoPath"
  k_SoleError : Kn g "SoleError"
  k_law_box : Kn g "_law_box"
  k_law_elsewhere : Kn g "_law_elsewhere"
  k_law_made : Kn g "_law_made"
  k_law_meet : Kn g "_law_meet"
  k_law_odd : Kn g "_law_odd"
  k_law_paths : Kn g "_law_paths"
  k_law_pick : Kn g "_law_pick"
  k_law_refused : Kn g "_law_refused"
  k_law_rep : Kn g "_law_rep"
  k_law_sets : Kn g "_law_sets"
  k_law_shared : Kn g "_law_shared"
  k_law_some : Kn g "_law_some"
  k_law_walk : Kn g "_law_walk"
  k_law_words : Kn g "_law_words"
  k_above_fits : Kn g "above_fits"
  k_bits_of : Kn g "bits_of"
  k_branch_at : Kn g "branch_at"
  k_branch_paths : Kn g "branch_paths"
  k_fault : Kn g "fault"
  k_first_apart : Kn g "first_apart"
  k_first_wrong : Kn g "first_wrong"
  k_gather : Kn g "gather"
  k_is_place : Kn g "is_place"
  k_least_bit : Kn g "least_bit"
  k_looked : Kn g "looked"
  k_meeting : Kn g "meeting"
  k_places : Kn g "places"
  k_set_words : Kn g "set_words"
  k_sets_fit : Kn g "sets_fit"
  k_word_of : Kn g "word_of"
  v_SoleError : KnV g "SoleError"
  c_NoPath : g.mg "NoPath" = some (.ref (He.ga g.K "NoPath"))
abbrev s_word_of : Stmt := top 12
abbrev n_word_of : List Str := ["seats", "one", "seat", "k"]
theorem sc_word_of : FnScope n_word_of ["seats", "one"] (defScope s_word_of) := ⟨rfl, rfl, rfl, by decide +kernel, rfl, by decide +kernel, by decide +kernel⟩
theorem d_word_of {g : G} {f : Addr} {k : Nat} (T : Top g) : BodyOk g n_word_of "word_of" s_word_of f k t_word_of := by
  intro cdv A outer s H E hr
  have h1 := hu_of hr
  have h64 := hr.units
  have h65 := un65 hr
  have nd := sc_word_of.nd
  exact (pss_cons (ps_if (pt_cmpR (op_eqG h64) (pe_callB callLen (by rfl) T.b_len (by decide +kernel) (pa_cons (pv 1) pa_nil)) pe_int (nomark _))
  (pss_one (ps_ret pe_str))
  pss_nil)
  (pss_cons (ps_for PassesOwn.never rfl (pi_seq (pv 1)) (pg_name (i := 2) nd rfl (Or.inl rfl))
  (pss_one (ps_if (PW.pt (pw_or (pt_cmpR op_ltG (pv 2) pe_int (nomark _)) (pw_or1 (pt_cmpR op_geG (pv 2) (pv 0) (nomark _)))))
  (pss_one (ps_ret pe_str))
  pss_nil)))
  (pss_cons (ps_for PassesOwn.never rfl (pi_range2 (by rfl) T.b_range (pa_cons pe_int (pa_cons (pe_callB callLen (by rfl) T.b_len (by decide +kernel) (pa_cons (pv 1) pa_nil)) pa_nil))) (pg_name (i := 3) nd rfl (Or.inl rfl))
  (pss_one (ps_if (pt_cmpR op_geG (pe_ix (ixG h1) (pv 1) (pe_op op_subG (pv 3) pe_int) (fun _ _ => rfl)) (pe_ix (ixG h1) (pv 1) (pv 3) (fun _ _ => rfl)) (nomark _))
  (pss_one (ps_ret pe_str))
  pss_nil)))
  (pss_one (ps_ret pe_non)))))
abbrev s_fault : Stmt := top 13
abbrev n_fault : List Str := ["seats", "sets", "known", "at", "one", "word"]
theorem sc_fault : FnScope n_fault ["seats", "sets"] (defScope s_fault) := ⟨rfl, rfl, rfl, by decide +kernel, rfl, by decide +kernel, by decide +kernel⟩
theorem d_fault {g : G} {f : Addr} {k : Nat} (T : Top g) : BodyOk g n_fault "fault" s_fault f k t_fault := by
  intro cdv A outer s H E hr
  have h1 := hu_of hr
  have h64 := hr.units
  have h65 := un65 hr
  have nd := sc_fault.nd
  exact (pss_cons (ps_set (i := 2) nd rfl (Or.inl rfl) pe_dnew)
  (pss_cons (ps_for PassesOwn.never rfl (pi_enumG T.b_enumerate (pa_cons (pv 1) pa_nil)) (pg_tup (n := 2) rfl (pgs_cons (pg_name (i := 3) nd rfl (Or.inl rfl)) (pgs_cons (pg_name (i := 4) nd rfl (Or.inl rfl)) pgs_nil)))
  (pss_cons (ps_set (i := 5) nd rfl (Or.inl rfl) (pe_callG T.k_word_of passL (pa_cons (pv 0) (pa_cons (pv 4) pa_nil))))
  (C8.pss_cut (ps_if (PW.pt (pw_and (pt_cmpR op_isG (pv 5) pe_non (nomark _)) (pw_and1 (pt_cmpR (op_inG h1) (pv 4) (pv 2) (by rfl)))))
  (pss_one (ps_set (i := 5) nd rfl (Or.inl rfl) pe_str))
  pss_nil)
  (pss_cons (ps_if (pt_cmpR op_isnotG (pv 5) pe_non (nomark _))
  (pss_one (ps_ret (pe_tup (pa_cons (pv 3) (pa_cons (pv 5) pa_nil)))))
  pss_nil)
  (pss_one (ps_asg pe_bl (pg_sub (pv 2) (pv 4) (psetG h1))))))))
  (pss_one (ps_ret pe_non))))
abbrev s_looked : Stmt := top 14
abbrev n_looked : List Str := ["seats", "sets", "wrong"]
theorem sc_looked : FnScope n_looked ["seats", "sets"] (defScope s_looked) := ⟨rfl, rfl, rfl, by decide +kernel, rfl, by decide +kernel, by decide +kernel⟩
theorem d_looked {g : G} {f : Addr} {k : Nat} (T : Top g) : BodyOk g n_looked "looked" s_looked f k t_looked := by
  intro cdv A outer s H E hr
  have h1 := hu_of hr
  have h64 := hr.units
  have h65 := un65 hr
  have nd := sc_looked.nd
  exact (pss_cons (ps_if (PW.pt (pw_or (pt_cmpR op_ltG (pv 0) pe_int (nomark _)) (pw_or1 (pt_cmpR op_gtG (pv 0) pe_gl (nomark _)))))
  (pss_one ps_never)
  pss_nil)
  (pss_cons (ps_if (pt_cmpR op_gtG (pe_callB callLen (by rfl) T.b_len (by decide +kernel) (pa_cons (pv 1) pa_nil)) pe_gl (nomark _))
  (pss_one ps_never)
  pss_nil)
  (pss_cons (ps_set (i := 2) nd rfl (Or.inl rfl) (pe_callG T.k_fault passL (pa_cons (pv 0) (pa_cons (pv 1) pa_nil))))
  (pss_one (ps_if (pt_cmpR op_isnotG (pv 2) pe_non (nomark _))
  (pss_one ps_never)
  pss_nil)))))
abbrev s_bits_of : Stmt := top 15
abbrev n_bits_of : List Str := ["one", "bits", "seat"]
theorem sc_bits_of : FnScope n_bits_of ["one"] (defScope s_bits_of) := ⟨rfl, rfl, rfl, by decide +kernel, rfl, by decide +kernel, by decide +kernel⟩
theorem d_bits_of {g : G} {f : Addr} {k : Nat} (T : Top g) : BodyOk g n_bits_of "bits_of" s_bits_of f k t_bits_of := by
  intro cdv A outer s H E hr
  have h1 := hu_of hr
  have h64 := hr.units
  have h65 := un65 hr
  have nd := sc_bits_of.nd
  exact (pss_cons (ps_set (i := 1) nd rfl (Or.inl rfl) pe_int)
  (pss_cons (ps_for PassesOwn.never rfl (pi_seq (pv 0)) (pg_name (i := 2) nd rfl (Or.inl rfl))
  (pss_one (ps_aug (i := 1) nd rfl (Or.inl rfl) (pe_op op_shlG pe_int (pv 2)) ip_orG)))
  (pss_one (ps_ret (pv 1)))))
abbrev s_first_apart : Stmt := top 17
abbrev n_first_apart : List Str := ["rows", "low", "one", "high"]
theorem sc_first_apart : FnScope n_first_apart ["rows"] (defScope s_first_apart) := ⟨rfl, rfl, rfl, by decide +kernel, rfl, by decide +kernel, by decide +kernel⟩
theorem d_first_apart {g : G} {f : Addr} {k : Nat} (T : Top g) : BodyOk g n_first_apart "first_apart" s_first_apart f k t_first_apart := by
  intro cdv A outer s H E hr
  have h1 := hu_of hr
  have h64 := hr.units
  have h65 := un65 hr
  have nd := sc_first_apart.nd
  exact (pss_cons (ps_for PassesOwn.never rfl (pi_enumG T.b_enumerate (pa_cons (pv 0) pa_nil)) (pg_tup (n := 2) rfl (pgs_cons (pg_name (i := 1) nd rfl (Or.inl rfl)) (pgs_cons (pg_name (i := 2) nd rfl (Or.inl rfl)) pgs_nil)))
  (pss_one (ps_for PassesOwn.never rfl (pi_range2 (by rfl) T.b_range (pa_cons (pe_op op_addG (pv 1) pe_int) (pa_cons (pe_callB callLen (by rfl) T.b_len (by decide +kernel) (pa_cons (pv 0) pa_nil)) pa_nil))) (pg_name (i := 3) nd rfl (Or.inl rfl))
  (pss_one (ps_if (pt_cmpR (op_eqG h64) (pe_op op_bandG (pv 2) (pe_ix (ixG h1) (pv 0) (pv 3) (fun _ _ => rfl))) pe_int (nomark _))
  (pss_one (ps_ret (pe_tup (pa_cons (pv 1) (pa_cons (pv 3) pa_nil)))))
  pss_nil)))))
  (pss_one (ps_ret pe_non)))
abbrev s_least_bit : Stmt := top 18
abbrev n_least_bit : List Str := ["bits"]
theorem sc_least_bit : FnScope n_least_bit ["bits"] (defScope s_least_bit) := ⟨rfl, rfl, rfl, by decide +kernel, rfl, by decide +kernel, by decide +kernel⟩
theorem d_least_bit {g : G} {f : Addr} {k : Nat} (T : Top g) : BodyOk g n_least_bit "least_bit" s_least_bit f k t_least_bit := by
  intro cdv A outer s H E hr
  have h1 := hu_of hr
  have h64 := hr.units
  have h65 := un65 hr
  have nd := sc_least_bit.nd
  exact (pss_one (ps_ret (pe_op op_subG (pe_bits (pe_op op_bandG (pv 0) (pe_un un_neg (pv 0)))) pe_int)))
abbrev s_meeting : Stmt := top 19
abbrev n_meeting : List Str := ["seats", "sets", "rows", "pair", "one", "other", "k"]
theorem sc_meeting : FnScope n_meeting ["seats", "sets"] (defScope s_meeting) := ⟨rfl, rfl, rfl, by decide +kernel, rfl, by decide +kernel, by decide +kernel⟩
theorem d_meeting {g : G} {f : Addr} {k : Nat} (T : Top g) : BodyOk g n_meeting "meeting" s_meeting f k t_meeting := by
  intro cdv A outer s H E hr
  have h1 := hu_of hr
  have h64 := hr.units
  have h65 := un65 hr
  have nd := sc_meeting.nd
  exact (pss_cons (ps_expr (pe_callG T.k_looked passL (pa_cons (pv 0) (pa_cons (pv 1) pa_nil))))
  (pss_cons (ps_set (i := 2) nd rfl (Or.inr rfl) (pe_lc (own := [("one", 4)]) (g := (gName 4)) (tt := tYes) rfl nd (pi_seq (pv 1)) (blkOk_by (own := [("one", 4)]) (N := n_meeting) (sc := defScope s_meeting) (by decide +kernel)) (fun _ _ _ _ _ => (pg_name (i := 4) nd rfl (Or.inl rfl))) (fun _ _ _ _ _ => pts_nil) (fun _ _ _ _ _ => (pe_callG T.k_bits_of passL (pa_cons (pv 4) pa_nil)))))
  (pss_cons (ps_set (i := 3) nd rfl (Or.inl rfl) (pe_callG T.k_first_apart passL (pa_cons (pv 2) pa_nil)))
  (pss_cons (ps_if (pt_cmpR op_isnotG (pv 3) pe_non (nomark _))
  (pss_one (ps_ret (pe_tup (pa_cons pe_str (pa_cons (pe_ix (ixG h1) (pv 3) pe_int (fun _ _ => rfl)) (pa_cons (pe_ix (ixG h1) (pv 3) pe_int (fun _ _ => rfl)) pa_nil))))))
  pss_nil)
  (pss_one (ps_ret (pe_tup (pa_cons pe_str (pa_cons (pe_lc (own := [("k", 6), ("one", 4)]) (g := (gTup g.K 2 (gCons (gName 6) (gCons (gName 4) gNil)))) (tt := tYes) rfl nd (pi_enumG T.b_enumerate (pa_cons (pv 2) pa_nil)) (blkOk_by (own := [("k", 6), ("one", 4)]) (N := n_meeting) (sc := defScope s_meeting) (by decide +kernel)) (fun _ _ _ _ _ => (pg_tup (n := 2) rfl (pgs_cons (pg_name (i := 6) nd rfl (Or.inl rfl)) (pgs_cons (pg_name (i := 4) nd rfl (Or.inr rfl)) pgs_nil)))) (fun _ _ _ _ _ => pts_nil) (fun _ _ _ _ _ => (pe_lc (own := [("other", 5)]) (g := (gName 5)) (tt := tYes) rfl nd (pi_seq (pe_slice slG (pv 2) po_none (po_some (pv 6)))) (blkOk_by (own := [("other", 5)]) (N := n_meeting) (by kernel_rfl)) (fun _ _ _ _ _ => (pg_name (i := 5) nd rfl (Or.inl rfl))) (fun _ _ _ _ _ => pts_nil) (fun _ _ _ _ _ => (pe_callG T.k_least_bit passL (pa_cons (pe_op op_bandG (pv 4) (pv 5)) pa_nil)))))) pa_nil)))))))))
abbrev s_set_words : Stmt := top 27
abbrev n_set_words : List Str := ["sets", "row", "one", "number"]
theorem sc_set_words : FnScope n_set_words ["sets"] (defScope s_set_words) := ⟨rfl, rfl, rfl, by decide +kernel, rfl, by decide +kernel, by decide +kernel⟩
theorem d_set_words {g : G} {f : Addr} {k : Nat} (T : Top g) : BodyOk g n_set_words "set_words" s_set_words f k t_set_words := by
  intro cdv A outer s H E hr
  have h1 := hu_of hr
  have h64 := hr.units
  have h65 := un65 hr
  have nd := sc_set_words.nd
  exact (pss_cons (ps_set (i := 1) nd rfl (Or.inl rfl) (pe_lst pa_nil))
  (pss_cons (ps_for PassesOwn.never rfl (pi_seq (pv 0)) (pg_name (i := 2) nd rfl (Or.inl rfl))
  (C8.pss_cut (ps_if (pt_tru (pv 1))
  (pss_one (ps_expr (pe_bm PySem.F.plainAttrs_list PySem.F.slot_list_append PySem.F.type_list_append mt_append (pv 1) (pa_cons pe_str pa_nil))))
  pss_nil)
  (pss_one (ps_for PassesOwn.never rfl (pi_seq (pv 2)) (pg_name (i := 3) nd rfl (Or.inl rfl))
  (pss_one (ps_expr (pe_bm PySem.F.plainAttrs_list PySem.F.slot_list_append PySem.F.type_list_append mt_append (pv 1) (pa_cons (pe_callTy callStr (by rfl) T.b_str (by decide +kernel) (pa_cons (pv 3) pa_nil)) pa_nil))))))))
  (pss_one (ps_ret (pv 1)))))
abbrev s_first_wrong : Stmt := top 28
abbrev n_first_wrong : List Str := ["manner", "parts", "above", "sets", "part"]
theorem sc_first_wrong : FnScope n_first_wrong ["manner", "parts", "above", "sets"] (defScope s_first_wrong) := ⟨rfl, rfl, rfl, by decide +kernel, rfl, by decide +kernel, by decide +kernel⟩
theorem d_first_wrong {g : G} {f : Addr} {k : Nat} (T : Top g) : BodyOk g n_first_wrong "first_wrong" s_first_wrong f k t_first_wrong := by
  intro cdv A outer s H E hr
  have h1 := hu_of hr
  have h64 := hr.units
  have h65 := un65 hr
  have nd := sc_first_wrong.nd
  exact (pss_cons (ps_if (PW.pt (pw_or (pt_not (pt_tru (pe_callB callIsi (by rfl) T.b_isinstance (by decide +kernel) (pa_cons (pv 0) (pa_cons (pe_bltn (v := .ty "str") rfl T.b_str (by decide +kernel) rfl) pa_nil))))) (pw_or1 (pt_cmpR (op_notInG h1) (pv 0) pe_gl (by rfl)))))
  (pss_one (ps_ret pe_str))
  pss_nil)
  (pss_cons (ps_if (PW.pt (pw_or (pt_not (pt_tru (pv 1))) (pw_or1 (pt_not (pt_tru (pe_callB (callAll rfl) (by rfl) T.b_all (by decide +kernel) (pa_cons (pe_lc (own := [("part", 4)]) (g := (gName 4)) (tt := tYes) rfl nd (pi_seq (pv 1)) (blkOk_by (own := [("part", 4)]) (N := n_first_wrong) (sc := defScope s_first_wrong) (by decide +kernel)) (fun _ _ _ _ _ => (pg_name (i := 4) nd rfl (Or.inl rfl))) (fun _ _ _ _ _ => pts_nil) (fun _ _ _ _ _ => (pe_callB callIsi (by rfl) T.b_isinstance (by decide +kernel) (pa_cons (pv 4) (pa_cons (pe_tup (pa_cons pe_gl (pa_cons pe_gl pa_nil))) pa_nil))))) pa_nil)))))))
  (pss_one (ps_ret pe_str))
  pss_nil)
  (pss_cons (ps_if (pt_cmpR op_gtG (pe_callB (callSum rfl) (by rfl) T.b_sum (by decide +kernel) (pa_cons (pe_lc (own := [("part", 4)]) (g := (gName 4)) (tt := tYes) rfl nd (pi_seq (pv 1)) (blkOk_by (own := [("part", 4)]) (N := n_first_wrong) (sc := defScope s_first_wrong) (by decide +kernel)) (fun _ _ _ _ _ => (pg_name (i := 4) nd rfl (Or.inl rfl))) (fun _ _ _ _ _ => pts_nil) (fun _ _ _ _ _ => (pe_op op_addG (pe_callB (callLenO passL) (by rfl) T.b_len (by decide +kernel) (pa_cons (pv 4) pa_nil)) (pe_methG0 passL (pv 4))))) pa_nil)) pe_gl (nomark _))
  (pss_one (ps_ret pe_str))
  pss_nil)
  (pss_cons (ps_if (pt_cmpR op_geG (pe_callB (callMax rfl) (by rfl) T.b_max (by decide +kernel) (pa_cons (pe_lc (own := [("part", 4)]) (g := (gName 4)) (tt := tYes) rfl nd (pi_seq (pv 1)) (blkOk_by (own := [("part", 4)]) (N := n_first_wrong) (sc := defScope s_first_wrong) (by decide +kernel)) (fun _ _ _ _ _ => (pg_name (i := 4) nd rfl (Or.inl rfl))) (fun _ _ _ _ _ => pts_nil) (fun _ _ _ _ _ => (pe_methG0 passL (pv 4)))) pa_nil)) pe_gl (nomark _))
  (pss_one (ps_ret pe_str))
  pss_nil)
  (pss_cons (ps_if (pt_not (pt_tru (pe_callG T.k_above_fits passL (pa_cons (pv 0) (pa_cons (pv 2) (pa_cons (pe_callB (callLenO passL) (by rfl) T.b_len (by decide +kernel) (pa_cons (pv 1) pa_nil)) pa_nil))))))
  (pss_one (ps_ret pe_str))
  pss_nil)
  (pss_cons (ps_if (pt_not (pt_tru (pe_callG T.k_sets_fit passL (pa_cons (pv 0) (pa_cons (pv 3) (pa_cons (pe_callB (callLenO passL) (by rfl) T.b_len (by decide +kernel) (pa_cons (pv 1) pa_nil)) pa_nil))))))
  (pss_one (ps_ret pe_str))
  pss_nil)
  (pss_cons (ps_if (PW.pt (pw_and (pt_cmpR (op_eqG h64) (pv 0) pe_str (nomark _)) (pw_and1 (pt_cmpR (op_eqG h64) (pe_ix (ixG h1) (pe_callG T.k_meeting passL (pa_cons (pe_callB (callLenO passL) (by rfl) T.b_len (by decide +kernel) (pa_cons (pv 1) pa_nil)) (pa_cons (pe_callTy (callList rfl) (by rfl) T.b_list (by decide +kernel) (pa_cons (pv 3) pa_nil)) pa_nil))) pe_int (fun _ _ => rfl)) pe_str (nomark _)))))
  (pss_one (ps_ret pe_str))
  pss_nil)
  (pss_one (ps_ret pe_non)))))))))
abbrev s_above_fits : Stmt := top 29
abbrev n_above_fits : List Str := ["manner", "above", "many", "part", "number"]
theorem sc_above_fits : FnScope n_above_fits ["manner", "above", "many"] (defScope s_above_fits) := ⟨rfl, rfl, rfl, by decide +kernel, rfl, by decide +kernel, by decide +kernel⟩
theorem d_above_fits {g : G} {f : Addr} {k : Nat} (T : Top g) : BodyOk g n_above_fits "above_fits" s_above_fits f k t_above_fits := by
  intro cdv A outer s H E hr
  have h1 := hu_of hr
  have h64 := hr.units
  have h65 := un65 hr
  have nd := sc_above_fits.nd
  exact (pss_cons (ps_if (pt_cmpR (op_notInG h1) (pv 0) (pe_tup (pa_cons pe_str (pa_cons pe_str pa_nil))) (by rfl))
  (pss_one (ps_ret (pe_notT (pv 1))))
  pss_nil)
  (pss_cons (ps_if (pt_cmpR (op_neG h64) (pe_callB callLen (by rfl) T.b_len (by decide +kernel) (pa_cons (pv 1) pa_nil)) (pe_op op_subG (pv 2) pe_int) (nomark _))
  (pss_one (ps_ret pe_bl))
  pss_nil)
  (pss_cons (ps_for PassesOwn.never rfl (pi_enumS (c := 1) T.b_enumerate (pa_cons (pv 1) pa_nil)) (pg_tup (n := 2) rfl (pgs_cons (pg_name (i := 3) nd rfl (Or.inl rfl)) (pgs_cons (pg_name (i := 4) nd rfl (Or.inl rfl)) pgs_nil)))
  (pss_one (ps_if (PW.pt (pw_or (pt_not (pt_tru (pe_callB callIsi (by rfl) T.b_isinstance (by decide +kernel) (pa_cons (pv 4) (pa_cons (pe_bltn (v := .ty "int") rfl T.b_int (by decide +kernel) rfl) pa_nil))))) (pw_or (pt_tru (pe_callB callIsi (by rfl) T.b_isinstance (by decide +kernel) (pa_cons (pv 4) (pa_cons (pe_bltn (v := .ty "bool") rfl T.b_bool (by decide +kernel) rfl) pa_nil)))) (pw_or1 (pt_not (pt_chain op_leG op_ltG pe_int (pv 4) (pv 3)))))))
  (pss_one (ps_ret pe_bl))
  pss_nil)))
  (pss_one (ps_ret pe_bl)))))
abbrev s_sets_fit : Stmt := top 30
abbrev n_sets_fit : List Str := ["manner", "sets", "many"]
theorem sc_sets_fit : FnScope n_sets_fit ["manner", "sets", "many"] (defScope s_sets_fit) := ⟨rfl, rfl, rfl, by decide +kernel, rfl, by decide +kernel, by decide +kernel⟩
theorem d_sets_fit {g : G} {f : Addr} {k : Nat} (T : Top g) : BodyOk g n_sets_fit "sets_fit" s_sets_fit f k t_sets_fit := by
  intro cdv A outer s H E hr
  have h1 := hu_of hr
  have h64 := hr.units
  have h65 := un65 hr
  have nd := sc_sets_fit.nd
  exact (pss_cons (ps_if (pt_cmpR (op_neG h64) (pv 0) pe_str (nomark _))
  (pss_one (ps_ret (pe_notT (pv 1))))
  pss_nil)
  (pss_one (ps_ret (pe_andT (pe_chain op_ltG op_leG pe_int (pe_callB callLen (by rfl) T.b_len (by decide +kernel) (pa_cons (pv 1) pa_nil)) pe_gl) (pe_one (pe_cmpR op_isG (pe_callG T.k_fault passL (pa_cons (pv 2) (pa_cons (pe_callTy (callList rfl) (by rfl) T.b_list (by decide +kernel) (pa_cons (pv 1) pa_nil)) pa_nil))) pe_non (nomark _)))))))
abbrev s_places : Stmt := top 31
abbrev n_places : List Str := ["plan", "leaves", "porters"]
theorem sc_places : FnScope n_places ["plan"] (defScope s_places) := ⟨rfl, rfl, rfl, by decide +kernel, rfl, by decide +kernel, by decide +kernel⟩
theorem d_places {g : G} {f : Addr} {k : Nat} (T : Top g) : BodyOk g n_places "places" s_places f k t_places := by
  intro cdv A outer s H E hr
  have h1 := hu_of hr
  have h64 := hr.units
  have h65 := un65 hr
  have nd := sc_places.nd
  exact (pss_cons (ps_set (i := 1) nd rfl (Or.inl rfl) (pe_lst pa_nil))
  (pss_cons (ps_set (i := 2) nd rfl (Or.inl rfl) (pe_lst pa_nil))
  (pss_cons (ps_expr (pe_callG T.k_gather passL (pa_cons (pv 0) (pa_cons (pe_tup pa_nil) (pa_cons (pv 1) (pa_cons (pv 2) pa_nil))))))
  (pss_one (ps_ret (pe_op op_addG (pv 1) (pv 2)))))))
abbrev s_gather : Stmt := top 32
abbrev n_gather : List Str := ["part", "path", "leaves", "porters", "number", "one"]
theorem sc_gather : FnScope n_gather ["part", "path", "leaves", "porters"] (defScope s_gather) := ⟨rfl, rfl, rfl, by decide +kernel, rfl, by decide +kernel, by decide +kernel⟩
theorem d_gather {g : G} {f : Addr} {k : Nat} (T : Top g) : BodyOk g n_gather "gather" s_gather f k t_gather := by
  intro cdv A outer s H E hr
  have h1 := hu_of hr
  have h64 := hr.units
  have h65 := un65 hr
  have nd := sc_gather.nd
  exact (pss_one (ps_if (pt_tru (pe_callB callIsi (by rfl) T.b_isinstance (by decide +kernel) (pa_cons (pv 0) (pa_cons pe_gl pa_nil))))
  (pss_one (ps_expr (pe_bm PySem.F.plainAttrs_list PySem.F.slot_list_append PySem.F.type_list_append mt_append (pv 2) (pa_cons (pv 1) pa_nil))))
  (C8.pss_cut (ps_if (pt_tru (pv 1))
  (pss_one (ps_expr (pe_bm PySem.F.plainAttrs_list PySem.F.slot_list_append PySem.F.type_list_append mt_append (pv 3) (pa_cons (pv 1) pa_nil))))
  pss_nil)
  (pss_one (ps_for PassesOwn.never rfl (pi_enumG T.b_enumerate (pa_cons (pe_fld (pv 0) rfl) pa_nil)) (pg_tup (n := 2) rfl (pgs_cons (pg_name (i := 4) nd rfl (Or.inl rfl)) (pgs_cons (pg_name (i := 5) nd rfl (Or.inl rfl)) pgs_nil)))
  (pss_one (ps_expr (pe_callG T.k_gather passL (pa_cons (pv 5) (pa_cons (pe_op op_addG (pv 1) (pe_tup (pa_cons (pv 4) pa_nil))) (pa_cons (pv 2) (pa_cons (pv 3) pa_nil))))))))))))
abbrev s_branch_atX : Stmt := top 34
abbrev n_branch_atX : List Str := ["plan", "path", "part", "number"]
theorem sc_branch_atX : FnScope n_branch_atX ["plan", "path"] (defScope s_branch_atX) := ⟨rfl, rfl, rfl, by decide +kernel, rfl, by decide +kernel, by decide +kernel⟩
theorem d_branch_atX {g : G} {f : Addr} {k : Nat} (T : Top g) : BodyOkX g n_branch_atX "branch_at" s_branch_atX f k t_branch_atX := by
  intro cdv A outer s H E hr
  have tkE := takes_of (X := cxOf (L2.CX g.P g.w) g.P g.w g.K g.mg g.base n_branch_atX "branch_at" (defScope s_branch_atX) f cdv A outer s H E) rfl rfl rfl rfl
  have hxE := passes_call tkE (E := E) (fun _ _ _ _ h => h)
  have h1 := hu_of hr
  have h64 := hr.units
  have h65 := un65 hr
  have nd := sc_branch_atX.nd
  exact (pss_cons (ps_if (pt_not (pt_tru (pe_callB callIsi (by rfl) T.b_isinstance (by decide +kernel) (pa_cons (pv 1) (pa_cons (pe_bltn (v := .ty "tuple") rfl T.b_tuple (by decide +kernel) rfl) pa_nil)))))
  (pss_one (ps_raiseG rfl tkE T.k_NoPath passL (pa_cons (pv 1) pa_nil)))
  pss_nil)
  (pss_cons (ps_set (i := 2) nd rfl (Or.inl rfl) (pv 0))
  (pss_cons (ps_for (passes_of rfl) rfl (pi_seq (pv 1)) (pg_name (i := 3) nd rfl (Or.inl rfl))
  (pss_cons (ps_if (PW.pt (pw_or (pt_tru (pe_callB callIsi (by rfl) T.b_isinstance (by decide +kernel) (pa_cons (pv 2) (pa_cons pe_gl pa_nil)))) (pw_or1 (pt_not (pt_tru (pe_callG T.k_is_place passL (pa_cons (pv 3) (pa_cons (pe_callB callLen (by rfl) T.b_len (by decide +kernel) (pa_cons (pe_fld (pv 2) rfl) pa_nil)) pa_nil))))))))
  (pss_one (ps_raiseG rfl tkE T.k_NoPath passL (pa_cons (pv 1) pa_nil)))
  pss_nil)
  (pss_one (ps_set (i := 2) nd rfl (Or.inl rfl) (pe_ix (ixG h1) (pe_fld (pv 2) rfl) (pv 3) (fun _ _ => rfl))))))
  (pss_cons (ps_if (pt_tru (pe_callB callIsi (by rfl) T.b_isinstance (by decide +kernel) (pa_cons (pv 2) (pa_cons pe_gl pa_nil))))
  (pss_one (ps_raiseG rfl tkE T.k_NoPath passL (pa_cons (pv 1) pa_nil)))
  pss_nil)
  (pss_one (ps_ret (pv 2)))))))
abbrev s_is_place : Stmt := top 35
abbrev n_is_place : List Str := ["thing", "many"]
theorem sc_is_place : FnScope n_is_place ["thing", "many"] (defScope s_is_place) := ⟨rfl, rfl, rfl, by decide +kernel, rfl, by decide +kernel, by decide +kernel⟩
theorem d_is_place {g : G} {f : Addr} {k : Nat} (T : Top g) : BodyOk g n_is_place "is_place" s_is_place f k t_is_place := by
  intro cdv A outer s H E hr
  have h1 := hu_of hr
  have h64 := hr.units
  have h65 := un65 hr
  have nd := sc_is_place.nd
  exact (pss_one (ps_ret (pe_andT (pe_callB callIsi (by rfl) T.b_isinstance (by decide +kernel) (pa_cons (pv 0) (pa_cons (pe_bltn (v := .ty "int") rfl T.b_int (by decide +kernel) rfl) pa_nil))) (pe_andT (pe_notT (pe_callB callIsi (by rfl) T.b_isinstance (by decide +kernel) (pa_cons (pv 0) (pa_cons (pe_bltn (v := .ty "bool") rfl T.b_bool (by decide +kernel) rfl) pa_nil)))) (pe_one (pe_chain op_leG op_ltG pe_int (pv 0) (pv 1)))))))
abbrev s_branch_paths : Stmt := top 36
abbrev n_branch_paths : List Str := ["plan"]
theorem sc_branch_paths : FnScope n_branch_paths ["plan"] (defScope s_branch_paths) := ⟨rfl, rfl, rfl, by decide +kernel, rfl, by decide +kernel, by decide +kernel⟩
theorem d_branch_paths {g : G} {f : Addr} {k : Nat} (T : Top g) : BodyOk g n_branch_paths "branch_paths" s_branch_paths f k t_branch_paths := by
  intro cdv A outer s H E hr
  have h1 := hu_of hr
  have h64 := hr.units
  have h65 := un65 hr
  have nd := sc_branch_paths.nd
  exact (pss_one (ps_ret (pe_op op_addG (pe_lst (pa_cons (pe_tup pa_nil) pa_nil)) (pe_slice slG (pe_callG T.k_places passL (pa_cons (pv 0) pa_nil)) (po_some (pe_callB (callLenO passL) (by rfl) T.b_len (by decide +kernel) (pa_cons (pv 0) pa_nil))) po_none))))
abbrev s_law_box : Stmt := top 38
abbrev n_law_box : List Str := ["cells"]
theorem sc_law_box : FnScope n_law_box ["cells"] (defScope s_law_box) := ⟨rfl, rfl, rfl, by decide +kernel, rfl, by decide +kernel, by decide +kernel⟩
theorem d_law_box {g : G} {f : Addr} {k : Nat} (T : Top g) : BodyOk g n_law_box "_law_box" s_law_box f k t_law_box := by
  intro cdv A outer s H E hr
  have h1 := hu_of hr
  have h64 := hr.units
  have h65 := un65 hr
  have nd := sc_law_box.nd
  exact (pss_one (ps_ret (pe_lst (pa_cons (pe_callTy (callList rfl) (by rfl) T.b_list (by decide +kernel) (pa_cons (pv 0) pa_nil)) (pa_cons pe_int (pa_cons pe_int (pa_cons pe_int pa_nil)))))))
abbrev s_law_pick : Stmt := top 39
abbrev n_law_pick : List Str := ["box", "many", "cell", "told", "mixed"]
theorem sc_law_pick : FnScope n_law_pick ["box", "many"] (defScope s_law_pick) := ⟨rfl, rfl, rfl, by decide +kernel, rfl, by decide +kernel, by decide +kernel⟩
theorem d_law_pick {g : G} {f : Addr} {k : Nat} (T : Top g) : BodyOk g n_law_pick "_law_pick" s_law_pick f k t_law_pick := by
  intro cdv A outer s H E hr
  have h1 := hu_of hr
  have h64 := hr.units
  have h65 := un65 hr
  have nd := sc_law_pick.nd
  exact (pss_cons (ps_augS (pv 0) pe_int (pgetG h1) pe_int ip_addG (psetG h1))
  (C8.pss_cut (ps_if (PW.pt (pw_and (pt_cmpR (op_eqG h64) (pe_ix (ixG h1) (pv 0) pe_int (fun _ _ => rfl)) pe_int (nomark _)) (pw_and1 (pt_tru (pe_ix (ixG h1) (pv 0) pe_int (fun _ _ => rfl))))))
  (pss_cons (ps_set (i := 2) nd rfl (Or.inl rfl) (pe_callB callAbs (by rfl) T.b_abs (by decide +kernel) (pa_cons (pe_bm PySem.F.plainAttrs_list PySem.F.slot_list_pop PySem.F.type_list_pop mt_popAt (pe_ix (ixG h1) (pv 0) pe_int (fun _ _ => rfl)) (pa_cons pe_int pa_nil)) pa_nil)))
  (pss_one (ps_if (pt_cmpR op_geG (pv 2) (pe_op op_powG pe_int pe_int) (nomark _))
  (pss_one (ps_asg (pv 2) (pg_sub (pv 0) pe_int (psetG h1))))
  (pss_one (ps_asg (pe_op op_modG (pe_op op_addG (pe_op op_mulG (pe_ix (ixG h1) (pv 0) pe_int (fun _ _ => rfl)) pe_int) (pv 2)) (pe_op op_powG pe_int pe_int)) (pg_sub (pv 0) pe_int (psetG h1)))))))
  pss_nil)
  (pss_cons (ps_if (pt_cmpR op_gtG (pe_ix (ixG h1) (pv 0) pe_int (fun _ _ => rfl)) pe_int (nomark _))
  (pss_cons (ps_set (i := 3) nd rfl (Or.inl rfl) (pe_op op_modG (pe_ix (ixG h1) (pv 0) pe_int (fun _ _ => rfl)) (pv 1)))
  (pss_cons (ps_asg (pe_op op_divG (pe_ix (ixG h1) (pv 0) pe_int (fun _ _ => rfl)) (pv 1)) (pg_sub (pv 0) pe_int (psetG h1)))
  (pss_one (ps_ret (pv 3)))))
  pss_nil)
  (pss_cons (ps_set (i := 4) nd rfl (Or.inl rfl) (pe_op op_modG (pe_op op_powG (pe_op op_addG (pe_op op_addG (pe_op op_mulG (pe_ix (ixG h1) (pv 0) pe_int (fun _ _ => rfl)) (pe_op op_addG (pe_op op_mulG pe_int (pe_ix (ixG h1) (pv 0) pe_int (fun _ _ => rfl))) pe_int)) (pe_op op_mulG pe_int (pe_ix (ixG h1) (pv 0) pe_int (fun _ _ => rfl)))) pe_int) pe_int) pe_int))
  (pss_one (ps_ret (pe_op op_modG (pe_op op_divG (pv 4) pe_int) (pv 1))))))))
abbrev s_law_some : Stmt := top 40
abbrev n_law_some : List Str := ["bits", "parts", "one", "part"]
theorem sc_law_some : FnScope n_law_some ["bits", "parts"] (defScope s_law_some) := ⟨rfl, rfl, rfl, by decide +kernel, rfl, by decide +kernel, by decide +kernel⟩
theorem d_law_some {g : G} {f : Addr} {k : Nat} (T : Top g) : BodyOk g n_law_some "_law_some" s_law_some f k t_law_some := by
  intro cdv A outer s H E hr
  have h1 := hu_of hr
  have h64 := hr.units
  have h65 := un65 hr
  have nd := sc_law_some.nd
  exact (pss_cons (ps_set (i := 2) nd rfl (Or.inl rfl) (pe_lst pa_nil))
  (pss_cons (ps_for PassesOwn.never rfl (pi_range1 (by rfl) T.b_range (pa_cons (pv 1) pa_nil)) (pg_name (i := 3) nd rfl (Or.inl rfl))
  (C8.pss_cut (ps_if (pt_cmpR (op_eqG h64) (pe_op op_modG (pv 0) pe_int) pe_int (nomark _))
  (pss_one (ps_expr (pe_bm PySem.F.plainAttrs_list PySem.F.slot_list_append PySem.F.type_list_append mt_append (pv 2) (pa_cons (pv 3) pa_nil))))
  pss_nil)
  (pss_one (ps_set (i := 0) nd rfl (Or.inl rfl) (pe_op op_divG (pv 0) pe_int)))))
  (pss_one (ps_ret (pe_callTy callTupleG (by rfl) T.b_tuple (by decide +kernel) (pa_cons (pv 2) pa_nil))))))
abbrev s_law_meet : Stmt := top 41
abbrev n_law_meet : List Str := ["one", "other", "number"]
theorem sc_law_meet : FnScope n_law_meet ["one", "other"] (defScope s_law_meet) := ⟨rfl, rfl, rfl, by decide +kernel, rfl, by decide +kernel, by decide +kernel⟩
theorem d_law_meet {g : G} {f : Addr} {k : Nat} (T : Top g) : BodyOk g n_law_meet "_law_meet" s_law_meet f k t_law_meet := by
  intro cdv A outer s H E hr
  have h1 := hu_of hr
  have h64 := hr.units
  have h65 := un65 hr
  have nd := sc_law_meet.nd
  exact (pss_one (ps_ret (pe_callB (callAny rfl) (by rfl) T.b_any (by decide +kernel) (pa_cons (pe_lc (own := [("number", 2)]) (g := (gName 2)) (tt := tYes) rfl nd (pi_seq (pv 0)) (blkOk_by (own := [("number", 2)]) (N := n_law_meet) (sc := defScope s_law_meet) (by decide +kernel)) (fun _ _ _ _ _ => (pg_name (i := 2) nd rfl (Or.inl rfl))) (fun _ _ _ _ _ => pts_nil) (fun _ _ _ _ _ => (pe_cmpR (op_inG h1) (pv 2) (pv 1) (by rfl)))) pa_nil))))
abbrev s_law_sets : Stmt := top 42
abbrev n_law_sets : List Str := ["box", "parts", "kept", "k", "one", "other"]
theorem sc_law_sets : FnScope n_law_sets ["box", "parts"] (defScope s_law_sets) := ⟨rfl, rfl, rfl, by decide +kernel, rfl, by decide +kernel, by decide +kernel⟩
theorem d_law_sets {g : G} {f : Addr} {k : Nat} (T : Top g) : BodyOk g n_law_sets "_law_sets" s_law_sets f k t_law_sets := by
  intro cdv A outer s H E hr
  have h1 := hu_of hr
  have h64 := hr.units
  have h65 := un65 hr
  have nd := sc_law_sets.nd
  exact (pss_cons (ps_set (i := 2) nd rfl (Or.inl rfl) (pe_lst pa_nil))
  (pss_cons (ps_for PassesOwn.never rfl (pi_range1 (by rfl) T.b_range (pa_cons (pe_ix (ixG h1) (pe_lst (pa_cons pe_int (pa_cons pe_int (pa_cons pe_int (pa_cons pe_int (pa_cons pe_int (pa_cons pe_int pa_nil))))))) (pe_callG T.k_law_pick passL (pa_cons (pv 0) (pa_cons pe_int pa_nil))) (fun _ _ => rfl)) pa_nil)) (pg_name (i := 3) nd rfl (Or.inl rfl))
  (pss_cons (ps_set (i := 4) nd rfl (Or.inr rfl) (pe_callG T.k_law_some passL (pa_cons (pe_callG T.k_law_pick passL (pa_cons (pv 0) (pa_cons (pe_op op_powG pe_int pe_int) pa_nil))) (pa_cons (pv 1) pa_nil))))
  (pss_one (ps_if (PW.pt (pw_and (pt_tru (pv 4)) (pw_and (pt_cmpR (op_notInGD h65) (pv 4) (pv 2) (by rfl)) (pw_and1 (pt_tru (pe_callB (callAll rfl) (by rfl) T.b_all (by decide +kernel) (pa_cons (pe_lc (own := [("other", 5)]) (g := (gName 5)) (tt := tYes) rfl nd (pi_seq (pv 2)) (blkOk_by (own := [("other", 5)]) (N := n_law_sets) (sc := defScope s_law_sets) (by decide +kernel)) (fun _ _ _ _ _ => (pg_name (i := 5) nd rfl (Or.inl rfl))) (fun _ _ _ _ _ => pts_nil) (fun _ _ _ _ _ => (pe_callG T.k_law_meet passL (pa_cons (pv 4) (pa_cons (pv 5) pa_nil))))) pa_nil)))))))
  (pss_one (ps_expr (pe_bm PySem.F.plainAttrs_list PySem.F.slot_list_append PySem.F.type_list_append mt_append (pv 2) (pa_cons (pv 4) pa_nil))))
  pss_nil))))
  (C8.pss_cut (ps_if (pt_not (pt_tru (pv 2)))
  (pss_one (ps_expr (pe_bm PySem.F.plainAttrs_list PySem.F.slot_list_append PySem.F.type_list_append mt_append (pv 2) (pa_cons (pe_tupRg rfl rfl T.b_tuple (prg_1 rfl T.b_range (pv 1))) pa_nil))))
  pss_nil)
  (pss_one (ps_ret (pv 2))))))
abbrev s_law_rep : Stmt := top 43
abbrev n_law_rep : List Str := ["box", "left", "deep", "manner", "wide", "parts", "k", "ups", "fams", "part"]
theorem sc_law_rep : FnScope n_law_rep ["box", "left", "deep"] (defScope s_law_rep) := ⟨rfl, rfl, rfl, by decide +kernel, rfl, by decide +kernel, by decide +kernel⟩
theorem d_law_rep {g : G} {f : Addr} {k : Nat} (T : Top g) : BodyOk g n_law_rep "_law_rep" s_law_rep f k t_law_rep := by
  intro cdv A outer s H E hr
  have h1 := hu_of hr
  have h64 := hr.units
  have h65 := un65 hr
  have nd := sc_law_rep.nd
  exact (pss_cons (ps_set (i := 3) nd rfl (Or.inl rfl) (pe_ix (ixG h1) (pe_lst (pa_cons pe_str (pa_cons pe_str (pa_cons pe_str (pa_cons pe_str (pa_cons pe_str pa_nil)))))) (pe_callG T.k_law_pick passL (pa_cons (pv 0) (pa_cons pe_int pa_nil))) (fun _ _ => rfl)))
  (pss_cons (ps_set (i := 4) nd rfl (Or.inl rfl) (pe_ix (ixG h1) (pe_lst (pa_cons pe_int (pa_cons pe_int (pa_cons pe_int (pa_cons pe_int (pa_cons pe_int (pa_cons pe_int pa_nil))))))) (pe_callG T.k_law_pick passL (pa_cons (pv 0) (pa_cons pe_int pa_nil))) (fun _ _ => rfl)))
  (C8.pss_cut (ps_if (pt_cmpR (op_eqG h64) (pe_callG T.k_law_pick passL (pa_cons (pv 0) (pa_cons pe_int pa_nil))) pe_int (nomark _))
  (pss_one (ps_set (i := 4) nd rfl (Or.inl rfl) (pe_op op_addG pe_int (pe_callG T.k_law_pick passL (pa_cons (pv 0) (pa_cons pe_int pa_nil))))))
  pss_nil)
  (pss_cons (ps_set (i := 5) nd rfl (Or.inl rfl) (pe_lst pa_nil))
  (pss_cons (ps_for PassesOwn.never rfl (pi_range1 (by rfl) T.b_range (pa_cons (pv 4) pa_nil)) (pg_name (i := 6) nd rfl (Or.inl rfl))
  (pss_one (ps_if (pt_cmpR op_gtG (pe_ix (ixG h1) (pv 1) pe_int (fun _ _ => rfl)) pe_int (nomark _))
  (pss_cons (ps_augS (pv 1) pe_int (pgetG h1) pe_int ip_sub (psetG h1))
  (pss_one (ps_if (PW.pt (pw_and (pt_cmpR op_gtG (pv 2) pe_int (nomark _)) (pw_and (pt_cmpR op_gtG (pe_ix (ixG h1) (pv 1) pe_int (fun _ _ => rfl)) pe_int (nomark _)) (pw_and1 (pt_cmpR (op_eqG h64) (pe_callG T.k_law_pick passL (pa_cons (pv 0) (pa_cons pe_int pa_nil))) pe_int (nomark _))))))
  (pss_one (ps_expr (pe_bm PySem.F.plainAttrs_list PySem.F.slot_list_append PySem.F.type_list_append mt_append (pv 5) (pa_cons (pe_callG T.k_law_rep passL (pa_cons (pv 0) (pa_cons (pv 1) (pa_cons (pe_op op_subG (pv 2) pe_int) pa_nil)))) pa_nil))))
  (pss_one (ps_expr (pe_bm PySem.F.plainAttrs_list PySem.F.slot_list_append PySem.F.type_list_append mt_append (pv 5) (pa_cons pe_str pa_nil)))))))
  pss_nil)))
  (pss_cons (ps_set (i := 7) nd rfl (Or.inl rfl) (pe_lst pa_nil))
  (pss_cons (ps_set (i := 8) nd rfl (Or.inl rfl) (pe_lst pa_nil))
  (C8.pss_cut (ps_if (pt_cmpR (op_inG h1) (pv 3) (pe_tup (pa_cons pe_str (pa_cons pe_str pa_nil))) (by rfl))
  (pss_one (ps_setLc (i := 7) (own := [("part", 9)]) (g := (gName 9)) (tt := tYes) rfl nd rfl rfl (sw_true rfl rfl rfl (by decide +kernel)) (pi_range2 (by rfl) T.b_range (pa_cons pe_int (pa_cons (pe_callB callLen (by rfl) T.b_len (by decide +kernel) (pa_cons (pv 5) pa_nil)) pa_nil))) (blkOk_by (own := [("part", 9)]) (N := n_law_rep) (sc := defScope s_law_rep) (by decide +kernel)) (fun _ _ _ _ _ => (pg_name (i := 9) nd rfl (Or.inl rfl))) (fun _ _ _ _ _ => pts_nil) (fun _ _ _ _ _ => (pe_callG T.k_law_pick passL (pa_cons (pv 0) (pa_cons (pv 9) pa_nil))))))
  pss_nil)
  (C8.pss_cut (ps_if (pt_cmpR (op_eqG h64) (pv 3) pe_str (nomark _))
  (pss_one (ps_set (i := 8) nd rfl (Or.inl rfl) (pe_callG T.k_law_sets passL (pa_cons (pv 0) (pa_cons (pe_callB callLen (by rfl) T.b_len (by decide +kernel) (pa_cons (pv 5) pa_nil)) pa_nil)))))
  pss_nil)
  (pss_one (ps_ret (pe_tup (pa_cons (pv 3) (pa_cons (pe_callTy callTupleG (by rfl) T.b_tuple (by decide +kernel) (pa_cons (pv 7) pa_nil)) (pa_cons (pe_callTy callTupleG (by rfl) T.b_tuple (by decide +kernel) (pa_cons (pv 8) pa_nil)) (pa_cons (pv 5) pa_nil))))))))))))))))
abbrev s_law_words : Stmt := top 44
abbrev n_law_words : List Str := ["rep", "words", "k", "one", "part", "number"]
theorem sc_law_words : FnScope n_law_words ["rep"] (defScope s_law_words) := ⟨rfl, rfl, rfl, by decide +kernel, rfl, by decide +kernel, by decide +kernel⟩
theorem d_law_words {g : G} {f : Addr} {k : Nat} (T : Top g) : BodyOk g n_law_words "_law_words" s_law_words f k t_law_words := by
  intro cdv A outer s H E hr
  have h1 := hu_of hr
  have h64 := hr.units
  have h65 := un65 hr
  have nd := sc_law_words.nd
  exact (pss_cons (ps_if (pt_cmpR (op_eqG h64) (pv 0) pe_str (nomark _))
  (pss_one (ps_ret (pe_lst (pa_cons pe_str pa_nil))))
  pss_nil)
  (pss_cons (ps_set (i := 1) nd rfl (Or.inl rfl) (pe_lst (pa_cons pe_str (pa_cons (pe_ix (ixG h1) (pv 0) pe_int (fun _ _ => rfl)) pa_nil))))
  (pss_cons (ps_expr (pe_bm PySem.F.plainAttrs_list PySem.F.slot_list_extend PySem.F.type_list_extend mt_extend (pv 1) (pa_cons (pe_lc (own := [("number", 5)]) (g := (gName 5)) (tt := tYes) rfl nd (pi_seq (pe_ix (ixG h1) (pv 0) pe_int (fun _ _ => rfl))) (blkOk_by (own := [("number", 5)]) (N := n_law_words) (sc := defScope s_law_words) (by decide +kernel)) (fun _ _ _ _ _ => (pg_name (i := 5) nd rfl (Or.inl rfl))) (fun _ _ _ _ _ => pts_nil) (fun _ _ _ _ _ => (pe_callTy callStr (by rfl) T.b_str (by decide +kernel) (pa_cons (pv 5) pa_nil)))) pa_nil)))
  (pss_cons (ps_for PassesOwn.never rfl (pi_enumG T.b_enumerate (pa_cons (pe_ix (ixG h1) (pv 0) pe_int (fun _ _ => rfl)) pa_nil)) (pg_tup (n := 2) rfl (pgs_cons (pg_name (i := 2) nd rfl (Or.inl rfl)) (pgs_cons (pg_name (i := 3) nd rfl (Or.inl rfl)) pgs_nil)))
  (C8.pss_cut (ps_if (pt_cmpR op_gtG (pv 2) pe_int (nomark _))
  (pss_one (ps_expr (pe_bm PySem.F.plainAttrs_list PySem.F.slot_list_append PySem.F.type_list_append mt_append (pv 1) (pa_cons pe_str pa_nil))))
  pss_nil)
  (pss_one (ps_expr (pe_bm PySem.F.plainAttrs_list PySem.F.slot_list_extend PySem.F.type_list_extend mt_extend (pv 1) (pa_cons (pe_lc (own := [("number", 5)]) (g := (gName 5)) (tt := tYes) rfl nd (pi_seq (pv 3)) (blkOk_by (own := [("number", 5)]) (N := n_law_words) (sc := defScope s_law_words) (by decide +kernel)) (fun _ _ _ _ _ => (pg_name (i := 5) nd rfl (Or.inl rfl))) (fun _ _ _ _ _ => pts_nil) (fun _ _ _ _ _ => (pe_callTy callStr (by rfl) T.b_str (by decide +kernel) (pa_cons (pv 5) pa_nil)))) pa_nil))))))
  (pss_cons (ps_expr (pe_bm PySem.F.plainAttrs_list PySem.F.slot_list_append PySem.F.type_list_append mt_append (pv 1) (pa_cons pe_str pa_nil)))
  (pss_cons (ps_for PassesOwn.never rfl (pi_seq (pe_ix (ixG h1) (pv 0) pe_int (fun _ _ => rfl))) (pg_name (i := 4) nd rfl (Or.inl rfl))
  (pss_one (ps_expr (pe_bm PySem.F.plainAttrs_list PySem.F.slot_list_extend PySem.F.type_list_extend mt_extend (pv 1) (pa_cons (pe_callG T.k_law_words passL (pa_cons (pv 4) pa_nil)) pa_nil)))))
  (pss_cons (ps_expr (pe_bm PySem.F.plainAttrs_list PySem.F.slot_list_append PySem.F.type_list_append mt_append (pv 1) (pa_cons pe_str pa_nil)))
  (pss_one (ps_ret (pv 1))))))))))
abbrev s_law_made_k83 : Stmt := top 45
abbrev n_law_made_k83 : List Str := ["rep", "parts", "part"]
theorem sc_law_made_k83 : FnScope n_law_made_k83 ["rep"] (defScope s_law_made_k83) := ⟨rfl, rfl, rfl, by decide +kernel, rfl, by decide +kernel, by decide +kernel⟩
theorem d_law_made_k83 {g : G} {f : Addr} {k : Nat} (T : Top g) : BodyOk g n_law_made_k83 "_law_made" s_law_made_k83 f k t_law_made_k83 := by
  intro cdv A outer s H E hr
  have h1 := hu_of hr
  have h64 := hr.units
  have h65 := un65 hr
  have nd := sc_law_made_k83.nd
  exact (pss_cons (ps_if (pt_cmpR (op_eqG h64) (pv 0) pe_str (nomark _))
  (pss_one (ps_ret (pe_makePlain T.k_Leaf)))
  pss_nil)
  (pss_cons (ps_setLc (i := 1) (own := [("part", 2)]) (g := (gName 2)) (tt := tYes) rfl nd rfl rfl (sw_true rfl rfl rfl (by decide +kernel)) (pi_seq (pe_ix (ixG h1) (pv 0) pe_int (fun _ _ => rfl))) (blkOk_by (own := [("part", 2)]) (N := n_law_made_k83) (sc := defScope s_law_made_k83) (by decide +kernel)) (fun _ _ _ _ _ => (pg_name (i := 2) nd rfl (Or.inl rfl))) (fun _ _ _ _ _ => pts_nil) (fun _ _ _ _ _ => (pe_callG T.k_law_made passL (pa_cons (pv 2) pa_nil))))
  (pss_cons (ps_if (pt_cmpR (op_eqG h64) (pe_ix (ixG h1) (pv 0) pe_int (fun _ _ => rfl)) pe_str (nomark _))
  (pss_one (ps_ret (pe_makeKG (ks := ["sets"]) T.k_Branch passL (pa_cons (pe_ix (ixG h1) (pv 0) pe_int (fun _ _ => rfl)) (pa_cons (pv 1) pa_nil)) (pk_cons (pe_callTy (callList rfl) (by rfl) T.b_list (by decide +kernel) (pa_cons (pe_ix (ixG h1) (pv 0) pe_int (fun _ _ => rfl)) pa_nil)) pk_nil))))
  pss_nil)
  (pss_cons (ps_if (pt_tru (pe_ix (ixG h1) (pv 0) pe_int (fun _ _ => rfl)))
  (pss_one (ps_ret (pe_makeKG (ks := ["above"]) T.k_Branch passL (pa_cons (pe_ix (ixG h1) (pv 0) pe_int (fun _ _ => rfl)) (pa_cons (pv 1) pa_nil)) (pk_cons (pe_callTy (callList rfl) (by rfl) T.b_list (by decide +kernel) (pa_cons (pe_ix (ixG h1) (pv 0) pe_int (fun _ _ => rfl)) pa_nil)) pk_nil))))
  pss_nil)
  (pss_one (ps_ret (pe_makeG T.k_Branch passL (pa_cons (pe_ix (ixG h1) (pv 0) pe_int (fun _ _ => rfl)) (pa_cons (pv 1) pa_nil)))))))))
abbrev s_law_shared : Stmt := top 46
abbrev n_law_shared : List Str := ["rep", "named", "name", "parts", "part"]
theorem sc_law_shared : FnScope n_law_shared ["rep", "named"] (defScope s_law_shared) := ⟨rfl, rfl, rfl, by decide +kernel, rfl, by decide +kernel, by decide +kernel⟩
theorem d_law_shared {g : G} {f : Addr} {k : Nat} (T : Top g) : BodyOk g n_law_shared "_law_shared" s_law_shared f k t_law_shared := by
  intro cdv A outer s H E hr
  have h1 := hu_of hr
  have h64 := hr.units
  have h65 := un65 hr
  have nd := sc_law_shared.nd
  exact (pss_cons (ps_set (i := 2) nd rfl (Or.inl rfl) (pe_bm PySem.F.plainAttrs_str PySem.F.slot_str_join PySem.F.type_str_join mt_joinG pe_str (pa_cons (pe_callG T.k_law_words passL (pa_cons (pv 0) pa_nil)) pa_nil)))
  (C8.pss_cut (ps_if (pt_cmpR (op_notInG h1) (pv 2) (pv 1) (by rfl))
  (pss_one (ps_if (pt_cmpR (op_eqG h64) (pv 0) pe_str (nomark _))
  (pss_one (ps_asg (pe_makePlain T.k_Leaf) (pg_sub (pv 1) (pv 2) (psetG h1))))
  (pss_cons (ps_setLc (i := 3) (own := [("part", 4)]) (g := (gName 4)) (tt := tYes) rfl nd rfl rfl (sw_true rfl rfl rfl (by decide +kernel)) (pi_seq (pe_ix (ixG h1) (pv 0) pe_int (fun _ _ => rfl))) (blkOk_by (own := [("part", 4)]) (N := n_law_shared) (sc := defScope s_law_shared) (by decide +kernel)) (fun _ _ _ _ _ => (pg_name (i := 4) nd rfl (Or.inl rfl))) (fun _ _ _ _ _ => pts_nil) (fun _ _ _ _ _ => (pe_callG T.k_law_shared passL (pa_cons (pv 4) (pa_cons (pv 1) pa_nil)))))
  (pss_one (ps_asg (pe_makeKG (ks := ["above", "sets"]) T.k_Branch passL (pa_cons (pe_ix (ixG h1) (pv 0) pe_int (fun _ _ => rfl)) (pa_cons (pv 3) pa_nil)) (pk_cons (pe_callTy (callList rfl) (by rfl) T.b_list (by decide +kernel) (pa_cons (pe_ix (ixG h1) (pv 0) pe_int (fun _ _ => rfl)) pa_nil)) (pk_cons (pe_callTy (callList rfl) (by rfl) T.b_list (by decide +kernel) (pa_cons (pe_ix (ixG h1) (pv 0) pe_int (fun _ _ => rfl)) pa_nil)) pk_nil))) (pg_sub (pv 1) (pv 2) (psetG h1)))))))
  pss_nil)
  (pss_one (ps_ret (pe_ix (ixG h1) (pv 1) (pv 2) (fun _ _ => rfl))))))
abbrev s_law_walk : Stmt := top 47
abbrev n_law_walk : List Str := ["rep", "path", "leaves", "halls", "k", "part"]
theorem sc_law_walk : FnScope n_law_walk ["rep", "path", "leaves", "halls"] (defScope s_law_walk) := ⟨rfl, rfl, rfl, by decide +kernel, rfl, by decide +kernel, by decide +kernel⟩
theorem d_law_walk {g : G} {f : Addr} {k : Nat} (T : Top g) : BodyOk g n_law_walk "_law_walk" s_law_walk f k t_law_walk := by
  intro cdv A outer s H E hr
  have h1 := hu_of hr
  have h64 := hr.units
  have h65 := un65 hr
  have nd := sc_law_walk.nd
  exact (pss_cons (ps_if (pt_cmpR (op_eqG h64) (pv 0) pe_str (nomark _))
  (pss_cons (ps_expr (pe_bm PySem.F.plainAttrs_list PySem.F.slot_list_append PySem.F.type_list_append mt_append (pv 2) (pa_cons (pv 1) pa_nil)))
  (pss_one (ps_ret pe_non)))
  pss_nil)
  (pss_cons (ps_expr (pe_bm PySem.F.plainAttrs_list PySem.F.slot_list_append PySem.F.type_list_append mt_append (pv 3) (pa_cons (pe_tup (pa_cons (pv 1) (pa_cons (pv 0) pa_nil))) pa_nil)))
  (pss_cons (ps_for PassesOwn.never rfl (pi_enumG T.b_enumerate (pa_cons (pe_ix (ixG h1) (pv 0) pe_int (fun _ _ => rfl)) pa_nil)) (pg_tup (n := 2) rfl (pgs_cons (pg_name (i := 4) nd rfl (Or.inl rfl)) (pgs_cons (pg_name (i := 5) nd rfl (Or.inl rfl)) pgs_nil)))
  (pss_one (ps_expr (pe_callG T.k_law_walk passL (pa_cons (pv 5) (pa_cons (pe_op op_addG (pv 1) (pe_tup (pa_cons (pv 4) pa_nil))) (pa_cons (pv 2) (pa_cons (pv 3) pa_nil))))))))
  (pss_one (ps_ret pe_non)))))
abbrev s_law_paths : Stmt := top 48
abbrev n_law_paths : List Str := ["found", "due", "path", "one", "number"]
theorem sc_law_paths : FnScope n_law_paths ["found", "due"] (defScope s_law_paths) := ⟨rfl, rfl, rfl, by decide +kernel, rfl, by decide +kernel, by decide +kernel⟩
theorem d_law_paths {g : G} {f : Addr} {k : Nat} (T : Top g) : BodyOk g n_law_paths "_law_paths" s_law_paths f k t_law_paths := by
  intro cdv A outer s H E hr
  have h1 := hu_of hr
  have h64 := hr.units
  have h65 := un65 hr
  have nd := sc_law_paths.nd
  exact (pss_cons (ps_if (PW.pt (pw_or (pt_not (pt_tru (pe_callB callIsi (by rfl) T.b_isinstance (by decide +kernel) (pa_cons (pv 0) (pa_cons (pe_bltn (v := .ty "list") rfl T.b_list (by decide +kernel) rfl) pa_nil))))) (pw_or1 (pt_cmpR (op_neG h64) (pe_callB callLen (by rfl) T.b_len (by decide +kernel) (pa_cons (pv 0) pa_nil)) (pe_callB callLen (by rfl) T.b_len (by decide +kernel) (pa_cons (pv 1) pa_nil)) (nomark _)))))
  (pss_one (ps_ret pe_bl))
  pss_nil)
  (pss_cons (ps_for PassesOwn.never rfl (pi_zipG (by rfl) T.b_zip (pa_cons (pv 0) (pa_cons (pv 1) pa_nil))) (pg_tup (n := 2) rfl (pgs_cons (pg_name (i := 2) nd rfl (Or.inl rfl)) (pgs_cons (pg_name (i := 3) nd rfl (Or.inl rfl)) pgs_nil)))
  (pss_one (ps_if (PW.pt (pw_or (pt_not (pt_tru (pe_callB callIsi (by rfl) T.b_isinstance (by decide +kernel) (pa_cons (pv 2) (pa_cons (pe_bltn (v := .ty "tuple") rfl T.b_tuple (by decide +kernel) rfl) pa_nil))))) (pw_or (pt_cmpR (op_neG h64) (pv 2) (pv 3) (nomark _)) (pw_or1 (pt_tru (pe_callB (callAny rfl) (by rfl) T.b_any (by decide +kernel) (pa_cons (pe_lc (own := [("number", 4)]) (g := (gName 4)) (tt := tYes) rfl nd (pi_seq (pv 2)) (blkOk_by (own := [("number", 4)]) (N := n_law_paths) (sc := defScope s_law_paths) (by decide +kernel)) (fun _ _ _ _ _ => (pg_name (i := 4) nd rfl (Or.inl rfl))) (fun _ _ _ _ _ => pts_nil) (fun _ _ _ _ _ => (pe_callB callIsi (by rfl) T.b_isinstance (by decide +kernel) (pa_cons (pv 4) (pa_cons (pe_bltn (v := .ty "bool") rfl T.b_bool (by decide +kernel) rfl) pa_nil))))) pa_nil)))))))
  (pss_one (ps_ret pe_bl))
  pss_nil)))
  (pss_one (ps_ret pe_bl))))
abbrev s_law_elsewhere : Stmt := top 49
abbrev n_law_elsewhere : List Str := ["plan", "rep", "other", "pairs", "part", "one", "leaves", "halls", "pair", "path", "inner"]
theorem sc_law_elsewhere : FnScope n_law_elsewhere ["plan", "rep"] (defScope s_law_elsewhere) := ⟨rfl, rfl, rfl, by decide +kernel, rfl, by decide +kernel, by decide +kernel⟩
theorem d_law_elsewhere {g : G} {f : Addr} {k : Nat} (T : Top g) : BodyOk g n_law_elsewhere "_law_elsewhere" s_law_elsewhere f k t_law_elsewhere := by
  intro cdv A outer s H E hr
  have h1 := hu_of hr
  have h64 := hr.units
  have h65 := un65 hr
  have nd := sc_law_elsewhere.nd
  exact (pss_cons (ps_set (i := 2) nd rfl (Or.inl rfl) (pe_tup (pa_cons (pe_makeG T.k_Branch passL (pa_cons pe_str (pa_cons (pe_revL (pe_callTy (callList rfl) (by rfl) T.b_list (by decide +kernel) (pa_cons (pe_fld (pv 0) rfl) pa_nil))) pa_nil))) (pa_cons (pe_tup (pa_cons pe_str (pa_cons (pe_tup pa_nil) (pa_cons (pe_tup pa_nil) (pa_cons (pe_revL (pe_ix (ixG h1) (pv 1) pe_int (fun _ _ => rfl))) pa_nil))))) pa_nil))))
  (pss_cons (ps_setLc (i := 3) (own := [("pair", 8)]) (g := (gName 8)) (tt := (tTest (tOp (kNe g.K) (tOp (kIx g.K) (tVar 8) (tC (.int 1))) (tC (.str "o"))))) rfl nd rfl rfl (sw_true rfl rfl rfl (by decide +kernel)) (pi_zipN (by rfl) T.b_zip (pa_cons (pe_fld (pv 0) rfl) (pa_cons (pe_ix (ixG h1) (pv 1) pe_int (fun _ _ => rfl)) pa_nil))) (blkOk_by (own := [("pair", 8)]) (N := n_law_elsewhere) (sc := defScope s_law_elsewhere) (by decide +kernel)) (fun _ _ _ _ _ => (pg_name (i := 8) nd rfl (Or.inl rfl))) (fun _ _ _ _ _ => (pts_one (pt_cmpR (op_neG h64) (pe_ix (ixG h1) (pv 8) pe_int (fun _ _ => rfl)) pe_str (nomark _)))) (fun _ _ _ _ _ => (pv 8)))
  (pss_cons (ps_for PassesOwn.never rfl (pi_seq (pe_op op_addG (pv 3) (pe_lst (pa_cons (pv 2) pa_nil)))) (pg_tup (n := 2) rfl (pgs_cons (pg_name (i := 4) nd rfl (Or.inl rfl)) (pgs_cons (pg_name (i := 5) nd rfl (Or.inl rfl)) pgs_nil)))
  (pss_cons (ps_set (i := 6) nd rfl (Or.inl rfl) (pe_lst pa_nil))
  (pss_cons (ps_set (i := 7) nd rfl (Or.inl rfl) (pe_lst pa_nil))
  (pss_cons (ps_expr (pe_callG T.k_law_walk passL (pa_cons (pv 5) (pa_cons (pe_tup pa_nil) (pa_cons (pv 6) (pa_cons (pv 7) pa_nil))))))
  (pss_one (ps_if (pt_not (pt_tru (pe_callG T.k_law_paths passL (pa_cons (pe_callG T.k_places passL (pa_cons (pv 4) pa_nil)) (pa_cons (pe_op op_addG (pv 6) (pe_lc (own := [("path", 9), ("inner", 10)]) (g := (gTup g.K 2 (gCons (gName 9) (gCons (gName 10) gNil)))) (tt := (tTruG g.K (tVar 9))) rfl nd (pi_seq (pv 7)) (blkOk_by (own := [("path", 9), ("inner", 10)]) (N := n_law_elsewhere) (sc := defScope s_law_elsewhere) (by decide +kernel)) (fun _ _ _ _ _ => (pg_tup (n := 2) rfl (pgs_cons (pg_name (i := 9) nd rfl (Or.inl rfl)) (pgs_cons (pg_name (i := 10) nd rfl (Or.inl rfl)) pgs_nil)))) (fun _ _ _ _ _ => (pts_one (pt_tru (pv 9)))) (fun _ _ _ _ _ => (pv 9)))) pa_nil)))))
  (pss_one (ps_ret pe_bl))
  pss_nil))))))
  (pss_one (ps_ret pe_bl)))))
abbrev s_law_refused : Stmt := top 50
abbrev n_law_refused : List Str := ["plan", "thing", "refused", "good"]
theorem sc_law_refused : FnScope n_law_refused ["plan", "thing"] (defScope s_law_refused) := ⟨rfl, rfl, rfl, by decide +kernel, rfl, by decide +kernel, by decide +kernel⟩
theorem d_law_refused {g : G} {f : Addr} {k : Nat} (T : Top g) : BodyOk g n_law_refused "_law_refused" s_law_refused f k t_law_refused := by
  intro cdv A outer s H E hr
  have h1 := hu_of hr
  have h64 := hr.units
  have h65 := un65 hr
  have nd := sc_law_refused.nd
  exact (pss_cons (ps_tryG nd T.c_NoPath takes_false (fun W pn xe tkW po => (pss_one (ps_expr (pe_callS T.k_branch_at tkW (pa_cons (pv 0) (pa_cons (pv 1) pa_nil))))))
  (fun xa oe xc xd pn hz hf => (pss_cons (ps_set (i := 3) nd rfl (Or.inl rfl) (pe_andT (pe_callB (call_isEG hz hf) (by rfl) T.b_isinstance (by decide +kernel) (pa_cons (pv 2) (pa_cons pe_gl pa_nil))) (pe_one (pe_notT (pe_callB (call_isEG hz hf) (by rfl) T.b_isinstance (by decide +kernel) (pa_cons (pv 2) (pa_cons pe_gl pa_nil)))))))
  (pss_one (ps_ret (pe_andT (pv 3) (pe_andT (pe_notT (pe_callB (call_isEG hz hf) (by rfl) T.b_isinstance (by decide +kernel) (pa_cons (pv 2) (pa_cons pe_gl pa_nil)))) (pe_one (pe_cmpR (op_eqDi h64) (pe_xfG hz hf (pv 2)) (pv 1) (nomark _))))))))))
  (pss_one (ps_ret pe_bl)))
abbrev s_law_odd : Stmt := top 51
abbrev n_law_odd : List Str := ["box", "leaves", "halls", "path", "leaf", "parts", "far", "menu"]
theorem sc_law_odd : FnScope n_law_odd ["box", "leaves", "halls"] (defScope s_law_odd) := ⟨rfl, rfl, rfl, by decide +kernel, rfl, by decide +kernel, by decide +kernel⟩
theorem d_law_odd {g : G} {f : Addr} {k : Nat} (T : Top g) : BodyOk g n_law_odd "_law_odd" s_law_odd f k t_law_odd := by
  intro cdv A outer s H E hr
  have h1 := hu_of hr
  have h64 := hr.units
  have h65 := un65 hr
  have nd := sc_law_odd.nd
  exact (pss_cons (ps_set (i := 3) nd rfl (Or.inl rfl) (pe_ix (ixG h1) (pe_ix (ixG h1) (pv 2) (pe_callG T.k_law_pick passL (pa_cons (pv 0) (pa_cons (pe_callB callLen (by rfl) T.b_len (by decide +kernel) (pa_cons (pv 2) pa_nil)) pa_nil))) (fun _ _ => rfl)) pe_int (fun _ _ => rfl)))
  (pss_cons (ps_set (i := 4) nd rfl (Or.inl rfl) (pe_ix (ixG h1) (pv 1) (pe_callG T.k_law_pick passL (pa_cons (pv 0) (pa_cons (pe_callB callLen (by rfl) T.b_len (by decide +kernel) (pa_cons (pv 1) pa_nil)) pa_nil))) (fun _ _ => rfl)))
  (pss_cons (ps_set (i := 5) nd rfl (Or.inl rfl) (pe_callB callLen (by rfl) T.b_len (by decide +kernel) (pa_cons (pe_ix (ixG h1) (pe_ix (ixG h1) (pe_callTy (callDictT rfl (lt9 h64)) (by rfl) T.b_dict (by decide +kernel) (pa_cons (pv 2) pa_nil)) (pv 3) (fun _ _ => rfl)) pe_int (fun _ _ => rfl)) pa_nil)))
  (pss_cons (ps_set (i := 6) nd rfl (Or.inl rfl) (pe_callG T.k_law_pick passL (pa_cons (pv 0) (pa_cons (pe_op op_powG pe_int pe_int) pa_nil))))
  (pss_cons (ps_set (i := 7) nd rfl (Or.inl rfl) (pe_lst (pa_cons (pe_callTy (callList rfl) (by rfl) T.b_list (by decide +kernel) (pa_cons (pv 3) pa_nil)) (pa_cons (pv 4) (pa_cons (pe_op op_addG (pv 4) (pe_tup (pa_cons pe_int pa_nil))) (pa_cons (pe_op op_addG (pv 3) (pe_tup (pa_cons (pe_op op_addG (pv 5) (pv 6)) pa_nil))) (pa_cons (pe_op op_addG (pv 3) (pe_tup (pa_cons (pe_op op_subG (pe_un un_neg pe_int) (pv 6)) pa_nil))) (pa_cons (pe_op op_addG (pv 3) (pe_tup (pa_cons pe_bl pa_nil))) (pa_cons (pe_op op_addG (pv 3) (pe_tup (pa_cons pe_non pa_nil))) pa_nil)))))))))
  (pss_cons (ps_expr (pe_bm PySem.F.plainAttrs_list PySem.F.slot_list_extend PySem.F.type_list_extend mt_extend (pv 7) (pa_cons (pe_lst (pa_cons (pe_op op_addG (pv 3) (pe_tup (pa_cons pe_str pa_nil))) (pa_cons pe_non (pa_cons pe_int (pa_cons pe_str (pa_cons pe_str (pa_cons pe_bl (pa_cons pe_bl (pa_cons pe_dnew (pa_cons (pe_op op_addG (pv 3) (pe_tup (pa_cons (pe_tup pa_nil) pa_nil))) (pa_cons (pe_op op_addG (pv 3) (pe_tup (pa_cons (pe_lst pa_nil) pa_nil))) (pa_cons (pe_op op_subG (pe_un un_neg pe_int) (pv 6)) pa_nil)))))))))))) pa_nil)))
  (pss_one (ps_ret (pe_ix (ixG h1) (pv 7) (pe_callG T.k_law_pick passL (pa_cons (pv 0) (pa_cons (pe_callB callLen (by rfl) T.b_len (by decide +kernel) (pa_cons (pv 7) pa_nil)) pa_nil))) (fun _ _ => rfl))))))))))
abbrev s_law_k85 : Stmt := top 52
abbrev n_law_k85 : List Str := ["script", "box", "size", "rep", "plan", "leaves", "halls", "porters", "told", "also", "path", "one", "found", "k"]
theorem sc_law_k85 : FnScope n_law_k85 ["script"] (defScope s_law_k85) := ⟨rfl, rfl, rfl, by decide +kernel, rfl, by decide +kernel, by decide +kernel⟩
theorem d_law_k85 {g : G} {f : Addr} {k : Nat} (T : Top g) : BodyOk g n_law_k85 "law" s_law_k85 f k t_law_k85 := by
  intro cdv A outer s H E hr
  have h1 := hu_of hr
  have h64 := hr.units
  have h65 := un65 hr
  have nd := sc_law_k85.nd
  exact (pss_cons (ps_set (i := 1) nd rfl (Or.inl rfl) (pe_callG T.k_law_box passL (pa_cons (pv 0) pa_nil)))
  (pss_cons (ps_set (i := 2) nd rfl (Or.inl rfl) (pe_op op_addG pe_int (pe_callG T.k_law_pick passL (pa_cons (pv 1) (pa_cons pe_int pa_nil)))))
  (C8.pss_cut (ps_if (pt_cmpR (op_eqG h64) (pe_callG T.k_law_pick passL (pa_cons (pv 1) (pa_cons pe_int pa_nil))) pe_int (nomark _))
  (pss_one (ps_set (i := 2) nd rfl (Or.inl rfl) pe_int))
  pss_nil)
  (pss_cons (ps_set (i := 3) nd rfl (Or.inl rfl) (pe_callG T.k_law_rep passL (pa_cons (pv 1) (pa_cons (pe_lst (pa_cons (pv 2) pa_nil)) (pa_cons (pe_op op_addG pe_int (pe_callG T.k_law_pick passL (pa_cons (pv 1) (pa_cons pe_int pa_nil)))) pa_nil)))))
  (pss_cons (ps_set (i := 4) nd rfl (Or.inl rfl) (pe_callG T.k_law_made passL (pa_cons (pv 3) pa_nil)))
  (C8.pss_cut (ps_if (pt_cmpR (op_eqG h64) (pe_callG T.k_law_pick passL (pa_cons (pv 1) (pa_cons pe_int pa_nil))) pe_int (nomark _))
  (pss_one (ps_set (i := 4) nd rfl (Or.inl rfl) (pe_callG T.k_law_shared passL (pa_cons (pv 3) (pa_cons pe_dnew pa_nil)))))
  pss_nil)
  (pss_cons (ps_set (i := 5) nd rfl (Or.inl rfl) (pe_lst pa_nil))
  (pss_cons (ps_set (i := 6) nd rfl (Or.inl rfl) (pe_lst pa_nil))
  (pss_cons (ps_expr (pe_callG T.k_law_walk passL (pa_cons (pv 3) (pa_cons (pe_tup pa_nil) (pa_cons (pv 5) (pa_cons (pv 6) pa_nil))))))
  (pss_cons (ps_setLc (i := 7) (own := [("path", 10), ("one", 11)]) (g := (gTup g.K 2 (gCons (gName 10) (gCons (gName 11) gNil)))) (tt := (tTruG g.K (tVar 10))) rfl nd rfl rfl (sw_true rfl rfl rfl (by decide +kernel)) (pi_seq (pv 6)) (blkOk_by (own := [("path", 10), ("one", 11)]) (N := n_law_k85) (sc := defScope s_law_k85) (by decide +kernel)) (fun _ _ _ _ _ => (pg_tup (n := 2) rfl (pgs_cons (pg_name (i := 10) nd rfl (Or.inl rfl)) (pgs_cons (pg_name (i := 11) nd rfl (Or.inl rfl)) pgs_nil)))) (fun _ _ _ _ _ => (pts_one (pt_tru (pv 10)))) (fun _ _ _ _ _ => (pv 10)))
  (pss_cons (ps_set (i := 8) nd rfl (Or.inl rfl) (pe_callG T.k_places passL (pa_cons (pv 4) pa_nil)))
  (pss_cons (ps_set (i := 9) nd rfl (Or.inl rfl) (pe_callG T.k_branch_paths passL (pa_cons (pv 4) pa_nil)))
  (pss_cons (ps_if (PW.pt (pw_or (pt_not (pt_tru (pe_callG T.k_law_paths passL (pa_cons (pv 8) (pa_cons (pe_op op_addG (pv 5) (pv 7)) pa_nil))))) (pw_or1 (pt_not (pt_tru (pe_callG T.k_law_paths passL (pa_cons (pv 9) (pa_cons (pe_op op_addG (pe_lst (pa_cons (pe_tup pa_nil) pa_nil)) (pv 7)) pa_nil))))))))
  (pss_one (ps_ret pe_bl))
  pss_nil)
  (pss_cons (ps_expr (pe_bm PySem.F.plainAttrs_list PySem.F.slot_list_append PySem.F.type_list_append mt_append (pv 8) (pa_cons (pe_tup (pa_cons pe_int pa_nil)) pa_nil)))
  (pss_cons (ps_expr (pe_bm PySem.F.plainAttrs_list PySem.F.slot_list_append PySem.F.type_list_append mt_append (pv 9) (pa_cons (pe_tup (pa_cons pe_int pa_nil)) pa_nil)))
  (pss_cons (ps_if (PW.pt (pw_or (pt_not (pt_tru (pe_callG T.k_law_elsewhere passL (pa_cons (pv 4) (pa_cons (pv 3) pa_nil))))) (pw_or1 (pt_not (pt_tru (pe_callG T.k_law_paths passL (pa_cons (pe_callG T.k_places passL (pa_cons (pv 4) pa_nil)) (pa_cons (pe_op op_addG (pv 5) (pv 7)) pa_nil))))))))
  (pss_one (ps_ret pe_bl))
  pss_nil)
  (pss_cons (ps_if (pt_not (pt_tru (pe_callG T.k_law_paths passL (pa_cons (pe_callG T.k_branch_paths passL (pa_cons (pv 4) pa_nil)) (pa_cons (pe_op op_addG (pe_lst (pa_cons (pe_tup pa_nil) pa_nil)) (pv 7)) pa_nil)))))
  (pss_one (ps_ret pe_bl))
  pss_nil)
  (pss_cons (ps_for PassesOwn.never rfl (pi_seq (pv 6)) (pg_tup (n := 2) rfl (pgs_cons (pg_name (i := 10) nd rfl (Or.inl rfl)) (pgs_cons (pg_name (i := 11) nd rfl (Or.inl rfl)) pgs_nil)))
  (pss_cons (ps_set (i := 12) nd rfl (Or.inl rfl) (pe_callG T.k_branch_at passL (pa_cons (pv 4) (pa_cons (pv 10) pa_nil))))
  (pss_one (ps_if (PW.pt (pw_or (pt_not (pt_tru (pe_callB callIsi (by rfl) T.b_isinstance (by decide +kernel) (pa_cons (pv 12) (pa_cons pe_gl pa_nil))))) (pw_or1 (pt_cmpR (op_neG h64) (pe_callTy (callStrO passL) (by rfl) T.b_str (by decide +kernel) (pa_cons (pv 12) pa_nil)) (pe_bm PySem.F.plainAttrs_str PySem.F.slot_str_join PySem.F.type_str_join mt_joinG pe_str (pa_cons (pe_callG T.k_law_words passL (pa_cons (pv 11) pa_nil)) pa_nil)) (nomark _)))))
  (pss_one (ps_ret pe_bl))
  pss_nil))))
  (pss_cons (ps_for PassesOwn.never rfl (pi_range1 (by rfl) T.b_range (pa_cons pe_int pa_nil)) (pg_name (i := 13) nd rfl (Or.inl rfl))
  (pss_one (ps_if (pt_not (pt_tru (pe_callG T.k_law_refused passL (pa_cons (pv 4) (pa_cons (pe_callG T.k_law_odd passL (pa_cons (pv 1) (pa_cons (pv 5) (pa_cons (pv 6) pa_nil)))) pa_nil)))))
  (pss_one (ps_ret pe_bl))
  pss_nil)))
  (pss_one (ps_ret (pe_andT (pe_callG T.k_law_refused passL (pa_cons (pv 4) (pa_cons (pe_ix (ixG h1) (pv 5) pe_int (fun _ _ => rfl)) pa_nil))) (pe_one (pe_notT (pe_callG T.k_law_refused passL (pa_cons (pv 4) (pa_cons (pe_tup pa_nil) pa_nil)))))))))))))))))))))))))))
abbrev s_NoPath_init : Stmt := inClass (top 6) 0
abbrev n_NoPath_init : List Str := ["self", "path"]
theorem sc_NoPath_init : FnScope n_NoPath_init ["self", "path"] (defScope s_NoPath_init) := ⟨rfl, rfl, rfl, by decide +kernel, rfl, by decide +kernel, by decide +kernel⟩
theorem d_NoPath_init {g : G} {f : Addr} {k : Nat} (T : Top g) : BodyOk g n_NoPath_init "NoPath.__init__" s_NoPath_init f k t_NoPath_init := by
  intro cdv A outer s H E hr
  have h1 := hu_of hr
  have h64 := hr.units
  have h65 := un65 hr
  have nd := sc_NoPath_init.nd
  exact (pss_cons (ps_expr (pe_veG T.v_SoleError (pa_cons (pv 0) (pa_cons pe_str pa_nil))))
  (pss_one (ps_ost (pv 0) (pv 1))))
abbrev s_Part_words : Stmt := inClass (top 24) 0
abbrev n_Part_words : List Str := ["self"]
theorem sc_Part_words : FnScope n_Part_words ["self"] (defScope s_Part_words) := ⟨rfl, rfl, rfl, by decide +kernel, rfl, by decide +kernel, by decide +kernel⟩
theorem d_Part_words {g : G} {f : Addr} {k : Nat} (T : Top g) : BodyOk g n_Part_words "Part.words" s_Part_words f k t_Part_words := by
  intro cdv A outer s H E hr
  have h1 := hu_of hr
  have h64 := hr.units
  have h65 := un65 hr
  have nd := sc_Part_words.nd
  exact (pss_one (ps_ret (pe_lst pa_nil)))
abbrev s_Part_halls : Stmt := inClass (top 24) 1
abbrev n_Part_halls : List Str := ["self"]
theorem sc_Part_halls : FnScope n_Part_halls ["self"] (defScope s_Part_halls) := ⟨rfl, rfl, rfl, by decide +kernel, rfl, by decide +kernel, by decide +kernel⟩
theorem d_Part_halls {g : G} {f : Addr} {k : Nat} (T : Top g) : BodyOk g n_Part_halls "Part.halls" s_Part_halls f k t_Part_halls := by
  intro cdv A outer s H E hr
  have h1 := hu_of hr
  have h64 := hr.units
  have h65 := un65 hr
  have nd := sc_Part_halls.nd
  exact (pss_one (ps_ret pe_int))
abbrev s_Part_deep : Stmt := inClass (top 24) 2
abbrev n_Part_deep : List Str := ["self"]
theorem sc_Part_deep : FnScope n_Part_deep ["self"] (defScope s_Part_deep) := ⟨rfl, rfl, rfl, by decide +kernel, rfl, by decide +kernel, by decide +kernel⟩
theorem d_Part_deep {g : G} {f : Addr} {k : Nat} (T : Top g) : BodyOk g n_Part_deep "Part.deep" s_Part_deep f k t_Part_deep := by
  intro cdv A outer s H E hr
  have h1 := hu_of hr
  have h64 := hr.units
  have h65 := un65 hr
  have nd := sc_Part_deep.nd
  exact (pss_one (ps_ret pe_int))
abbrev s_Leaf_words : Stmt := inClass (top 25) 0
abbrev n_Leaf_words : List Str := ["self"]
theorem sc_Leaf_words : FnScope n_Leaf_words ["self"] (defScope s_Leaf_words) := ⟨rfl, rfl, rfl, by decide +kernel, rfl, by decide +kernel, by decide +kernel⟩
theorem d_Leaf_words {g : G} {f : Addr} {k : Nat} (T : Top g) : BodyOk g n_Leaf_words "Leaf.words" s_Leaf_words f k t_Leaf_words := by
  intro cdv A outer s H E hr
  have h1 := hu_of hr
  have h64 := hr.units
  have h65 := un65 hr
  have nd := sc_Leaf_words.nd
  exact (pss_one (ps_ret (pe_lst (pa_cons pe_str pa_nil))))
abbrev s_Leaf_eq : Stmt := inClass (top 25) 1
abbrev n_Leaf_eq : List Str := ["self", "other"]
theorem sc_Leaf_eq : FnScope n_Leaf_eq ["self", "other"] (defScope s_Leaf_eq) := ⟨rfl, rfl, rfl, by decide +kernel, rfl, by decide +kernel, by decide +kernel⟩
theorem d_Leaf_eq {g : G} {f : Addr} {k : Nat} (T : Top g) : BodyOk g n_Leaf_eq "Leaf.__eq__" s_Leaf_eq f k t_Leaf_eq := by
  intro cdv A outer s H E hr
  have h1 := hu_of hr
  have h64 := hr.units
  have h65 := un65 hr
  have nd := sc_Leaf_eq.nd
  exact (pss_one (ps_ret (pe_callB callIsi (by rfl) T.b_isinstance (by decide +kernel) (pa_cons (pv 1) (pa_cons pe_gl pa_nil)))))
abbrev s_Leaf_len : Stmt := inClass (top 25) 2
abbrev n_Leaf_len : List Str := ["self"]
theorem sc_Leaf_len : FnScope n_Leaf_len ["self"] (defScope s_Leaf_len) := ⟨rfl, rfl, rfl, by decide +kernel, rfl, by decide +kernel, by decide +kernel⟩
theorem d_Leaf_len {g : G} {f : Addr} {k : Nat} (T : Top g) : BodyOk g n_Leaf_len "Leaf.__len__" s_Leaf_len f k t_Leaf_len := by
  intro cdv A outer s H E hr
  have h1 := hu_of hr
  have h64 := hr.units
  have h65 := un65 hr
  have nd := sc_Leaf_len.nd
  exact (pss_one (ps_ret pe_int))
abbrev s_Leaf_str : Stmt := inClass (top 25) 3
abbrev n_Leaf_str : List Str := ["self"]
theorem sc_Leaf_str : FnScope n_Leaf_str ["self"] (defScope s_Leaf_str) := ⟨rfl, rfl, rfl, by decide +kernel, rfl, by decide +kernel, by decide +kernel⟩
theorem d_Leaf_str {g : G} {f : Addr} {k : Nat} (T : Top g) : BodyOk g n_Leaf_str "Leaf.__str__" s_Leaf_str f k t_Leaf_str := by
  intro cdv A outer s H E hr
  have h1 := hu_of hr
  have h64 := hr.units
  have h65 := un65 hr
  have nd := sc_Leaf_str.nd
  exact (pss_one (ps_ret pe_str))
abbrev s_Branch_init : Stmt := inClass (top 26) 0
abbrev n_Branch_init : List Str := ["self", "manner", "parts", "above", "sets", "wrong"]
theorem sc_Branch_init : FnScope n_Branch_init ["self", "manner", "parts", "above", "sets"] (defScope s_Branch_init) := ⟨rfl, rfl, rfl, by decide +kernel, rfl, by decide +kernel, by decide +kernel⟩
theorem d_Branch_init {g : G} {f : Addr} {k : Nat} (T : Top g) : BodyOk g n_Branch_init "Branch.__init__" s_Branch_init f k t_Branch_init := by
  intro cdv A outer s H E hr
  have h1 := hu_of hr
  have h64 := hr.units
  have h65 := un65 hr
  have nd := sc_Branch_init.nd
  exact (pss_cons (ps_set (i := 5) nd rfl (Or.inl rfl) (pe_callG T.k_first_wrong passL (pa_cons (pv 1) (pa_cons (pv 2) (pa_cons (pv 3) (pa_cons (pv 4) pa_nil))))))
  (pss_cons (ps_if (pt_cmpR op_isnotG (pv 5) pe_non (nomark _))
  (pss_one ps_never)
  pss_nil)
  (pss_cons (ps_fld (pv 0) (pv 1) rfl)
  (pss_cons (ps_fld (pv 0) (pe_callTy callTupleG (by rfl) T.b_tuple (by decide +kernel) (pa_cons (pv 2) pa_nil)) rfl)
  (pss_cons (ps_fld (pv 0) (pe_callTy callTupleG (by rfl) T.b_tuple (by decide +kernel) (pa_cons (pv 3) pa_nil)) rfl)
  (pss_one (ps_fld (pv 0) (pe_callTy callTupleG (by rfl) T.b_tuple (by decide +kernel) (pa_cons (pv 4) pa_nil)) rfl)))))))
abbrev s_Branch_words : Stmt := inClass (top 26) 1
abbrev n_Branch_words : List Str := ["self", "row", "number", "part"]
theorem sc_Branch_words : FnScope n_Branch_words ["self"] (defScope s_Branch_words) := ⟨rfl, rfl, rfl, by decide +kernel, rfl, by decide +kernel, by decide +kernel⟩
theorem d_Branch_words {g : G} {f : Addr} {k : Nat} (T : Top g) : BodyOk g n_Branch_words "Branch.words" s_Branch_words f k t_Branch_words := by
  intro cdv A outer s H E hr
  have h1 := hu_of hr
  have h64 := hr.units
  have h65 := un65 hr
  have nd := sc_Branch_words.nd
  exact (pss_cons (ps_set (i := 1) nd rfl (Or.inl rfl) (pe_lst (pa_cons pe_str (pa_cons (pe_fld (pv 0) rfl) pa_nil))))
  (pss_cons (ps_for PassesOwn.never rfl (pi_seq (pe_fld (pv 0) rfl)) (pg_name (i := 2) nd rfl (Or.inl rfl))
  (pss_one (ps_expr (pe_bm PySem.F.plainAttrs_list PySem.F.slot_list_append PySem.F.type_list_append mt_append (pv 1) (pa_cons (pe_callTy callStr (by rfl) T.b_str (by decide +kernel) (pa_cons (pv 2) pa_nil)) pa_nil)))))
  (pss_cons (ps_expr (pe_bm PySem.F.plainAttrs_list PySem.F.slot_list_extend PySem.F.type_list_extend mt_extend (pv 1) (pa_cons (pe_callG T.k_set_words passL (pa_cons (pe_fld (pv 0) rfl) pa_nil)) pa_nil)))
  (pss_cons (ps_expr (pe_bm PySem.F.plainAttrs_list PySem.F.slot_list_append PySem.F.type_list_append mt_append (pv 1) (pa_cons pe_str pa_nil)))
  (pss_cons (ps_for PassesOwn.never rfl (pi_seq (pe_fld (pv 0) rfl)) (pg_name (i := 3) nd rfl (Or.inl rfl))
  (pss_one (ps_expr (pe_bm PySem.F.plainAttrs_list PySem.F.slot_list_extend PySem.F.type_list_extend mt_extend (pv 1) (pa_cons (pe_methG0 passL (pv 3)) pa_nil)))))
  (pss_cons (ps_expr (pe_bm PySem.F.plainAttrs_list PySem.F.slot_list_append PySem.F.type_list_append mt_append (pv 1) (pa_cons pe_str pa_nil)))
  (pss_one (ps_ret (pv 1)))))))))
abbrev s_Branch_halls : Stmt := inClass (top 26) 2
abbrev n_Branch_halls : List Str := ["self", "part"]
theorem sc_Branch_halls : FnScope n_Branch_halls ["self"] (defScope s_Branch_halls) := ⟨rfl, rfl, rfl, by decide +kernel, rfl, by decide +kernel, by decide +kernel⟩
theorem d_Branch_halls {g : G} {f : Addr} {k : Nat} (T : Top g) : BodyOk g n_Branch_halls "Branch.halls" s_Branch_halls f k t_Branch_halls := by
  intro cdv A outer s H E hr
  have h1 := hu_of hr
  have h64 := hr.units
  have h65 := un65 hr
  have nd := sc_Branch_halls.nd
  exact (pss_one (ps_ret (pe_op op_addG pe_int (pe_callB (callSum rfl) (by rfl) T.b_sum (by decide +kernel) (pa_cons (pe_lc (own := [("part", 1)]) (g := (gName 1)) (tt := tYes) rfl nd (pi_seq (pe_fld (pv 0) rfl)) (blkOk_by (own := [("part", 1)]) (N := n_Branch_halls) (sc := defScope s_Branch_halls) (by decide +kernel)) (fun _ _ _ _ _ => (pg_name (i := 1) nd rfl (Or.inl rfl))) (fun _ _ _ _ _ => pts_nil) (fun _ _ _ _ _ => (pe_methG0 passL (pv 1)))) pa_nil)))))
abbrev s_Branch_deep : Stmt := inClass (top 26) 3
abbrev n_Branch_deep : List Str := ["self", "part"]
theorem sc_Branch_deep : FnScope n_Branch_deep ["self"] (defScope s_Branch_deep) := ⟨rfl, rfl, rfl, by decide +kernel, rfl, by decide +kernel, by decide +kernel⟩
theorem d_Branch_deep {g : G} {f : Addr} {k : Nat} (T : Top g) : BodyOk g n_Branch_deep "Branch.deep" s_Branch_deep f k t_Branch_deep := by
  intro cdv A outer s H E hr
  have h1 := hu_of hr
  have h64 := hr.units
  have h65 := un65 hr
  have nd := sc_Branch_deep.nd
  exact (pss_one (ps_ret (pe_op op_addG pe_int (pe_callB (callMax rfl) (by rfl) T.b_max (by decide +kernel) (pa_cons (pe_lc (own := [("part", 1)]) (g := (gName 1)) (tt := tYes) rfl nd (pi_seq (pe_fld (pv 0) rfl)) (blkOk_by (own := [("part", 1)]) (N := n_Branch_deep) (sc := defScope s_Branch_deep) (by decide +kernel)) (fun _ _ _ _ _ => (pg_name (i := 1) nd rfl (Or.inl rfl))) (fun _ _ _ _ _ => pts_nil) (fun _ _ _ _ _ => (pe_methG0 passL (pv 1)))) pa_nil)))))
abbrev s_Branch_eq : Stmt := inClass (top 26) 4
abbrev n_Branch_eq : List Str := ["self", "other"]
theorem sc_Branch_eq : FnScope n_Branch_eq ["self", "other"] (defScope s_Branch_eq) := ⟨rfl, rfl, rfl, by decide +kernel, rfl, by decide +kernel, by decide +kernel⟩
theorem d_Branch_eq {g : G} {f : Addr} {k : Nat} (T : Top g) : BodyOk g n_Branch_eq "Branch.__eq__" s_Branch_eq f k t_Branch_eq := by
  intro cdv A outer s H E hr
  have h1 := hu_of hr
  have h64 := hr.units
  have h65 := un65 hr
  have nd := sc_Branch_eq.nd
  exact (pss_one (ps_ret (pe_andT (pe_callB callIsi (by rfl) T.b_isinstance (by decide +kernel) (pa_cons (pv 1) (pa_cons pe_gl pa_nil))) (pe_one (pe_cmpR (op_eqG h64) (pe_methG0 passL (pv 0)) (pe_methG0 passL (pv 1)) (nomark _))))))
abbrev s_Branch_len : Stmt := inClass (top 26) 5
abbrev n_Branch_len : List Str := ["self", "word"]
theorem sc_Branch_len : FnScope n_Branch_len ["self"] (defScope s_Branch_len) := ⟨rfl, rfl, rfl, by decide +kernel, rfl, by decide +kernel, by decide +kernel⟩
theorem d_Branch_len {g : G} {f : Addr} {k : Nat} (T : Top g) : BodyOk g n_Branch_len "Branch.__len__" s_Branch_len f k t_Branch_len := by
  intro cdv A outer s H E hr
  have h1 := hu_of hr
  have h64 := hr.units
  have h65 := un65 hr
  have nd := sc_Branch_len.nd
  exact (pss_one (ps_ret (pe_callB callLen (by rfl) T.b_len (by decide +kernel) (pa_cons (pe_lc (own := [("word", 1)]) (g := (gName 1)) (tt := (tTest (tOp (kEq g.K) (tVar 1) (tC (.str "o"))))) rfl nd (pi_seq (pe_methG0 passL (pv 0))) (blkOk_by (own := [("word", 1)]) (N := n_Branch_len) (sc := defScope s_Branch_len) (by decide +kernel)) (fun _ _ _ _ _ => (pg_name (i := 1) nd rfl (Or.inl rfl))) (fun _ _ _ _ _ => (pts_one (pt_cmpR (op_eqG h64) (pv 1) pe_str (nomark _)))) (fun _ _ _ _ _ => (pv 1))) pa_nil))))
abbrev s_Branch_str : Stmt := inClass (top 26) 6
abbrev n_Branch_str : List Str := ["self"]
theorem sc_Branch_str : FnScope n_Branch_str ["self"] (defScope s_Branch_str) := ⟨rfl, rfl, rfl, by decide +kernel, rfl, by decide +kernel, by decide +kernel⟩
theorem d_Branch_str {g : G} {f : Addr} {k : Nat} (T : Top g) : BodyOk g n_Branch_str "Branch.__str__" s_Branch_str f k t_Branch_str := by
  intro cdv A outer s H E hr
  have h1 := hu_of hr
  have h64 := hr.units
  have h65 := un65 hr
  have nd := sc_Branch_str.nd
  exact (pss_one (ps_ret (pe_bm PySem.F.plainAttrs_str PySem.F.slot_str_join PySem.F.type_str_join mt_joinG pe_str (pa_cons (pe_methG0 passL (pv 0)) pa_nil))))
def fa_0 : List (PySem.W.Frag → Bool) := [(fun K => He.Fa.ok K (.free "abs")),
  (fun K => He.Fa.ok K (.free "all")),
  (fun K => He.Fa.ok K (.free "any")),
  (fun K => He.Fa.ok K (.free "bool")),
  (fun K => He.Fa.ok K (.free "dict")),
  (fun K => He.Fa.ok K (.free "enumerate")),
  (fun K => He.Fa.ok K (.free "int")),
  (fun K => He.Fa.ok K (.free "isinstance")),
  (fun K => He.Fa.ok K (.free "len")),
  (fun K => He.Fa.ok K (.free "list")),
  (fun K => He.Fa.ok K (.free "max")),
  (fun K => He.Fa.ok K (.free "range")),
  (fun K => He.Fa.ok K (.free "str")),
  (fun K => He.Fa.ok K (.free "sum")),
  (fun K => He.Fa.ok K (.free "tuple")),
  (fun K => He.Fa.ok K (.free "zip")),
  (fun K => He.Fa.ok K (.glo "BadText")),
  (fun K => He.Fa.ok K (.keep "BadText")),
  (fun K => He.Fa.ok K (.glo "Branch")),
  (fun K => He.Fa.ok K (.keep "Branch")),
  (fun K => He.Fa.ok K (.glo "Leaf")),
  (fun K => He.Fa.ok K (.keep "Leaf")),
  (fun K => He.Fa.ok K (.glo "NoBranch")),
  (fun K => He.Fa.ok K (.keep "NoBranch")),
  (fun K => He.Fa.ok K (.glo "NoPath")),
  (fun K => He.Fa.ok K (.keep "NoPath")),
  (fun K => He.Fa.ok K (.glo "SoleError")),
  (fun K => He.Fa.ok K (.keep "SoleError")),
  (fun K => He.Fa.ok K (.glo "_law_box")),
  (fun K => He.Fa.ok K (.keep "_law_box"))]
def fa_1 : List (PySem.W.Frag → Bool) := [(fun K => He.Fa.ok K (.glo "_law_elsewhere")),
  (fun K => He.Fa.ok K (.keep "_law_elsewhere")),
  (fun K => He.Fa.ok K (.glo "_law_made")),
  (fun K => He.Fa.ok K (.keep "_law_made")),
  (fun K => He.Fa.ok K (.glo "_law_meet")),
  (fun K => He.Fa.ok K (.keep "_law_meet")),
  (fun K => He.Fa.ok K (.glo "_law_odd")),
  (fun K => He.Fa.ok K (.keep "_law_odd")),
  (fun K => He.Fa.ok K (.glo "_law_paths")),
  (fun K => He.Fa.ok K (.keep "_law_paths")),
  (fun K => He.Fa.ok K (.glo "_law_pick")),
  (fun K => He.Fa.ok K (.keep "_law_pick")),
  (fun K => He.Fa.ok K (.glo "_law_refused")),
  (fun K => He.Fa.ok K (.keep "_law_refused")),
  (fun K => He.Fa.ok K (.glo "_law_rep")),
  (fun K => He.Fa.ok K (.keep "_law_rep")),
  (fun K => He.Fa.ok K (.glo "_law_sets")),
  (fun K => He.Fa.ok K (.keep "_law_sets")),
  (fun K => He.Fa.ok K (.glo "_law_shared")),
  (fun K => He.Fa.ok K (.keep "_law_shared")),
  (fun K => He.Fa.ok K (.glo "_law_some")),
  (fun K => He.Fa.ok K (.keep "_law_some")),
  (fun K => He.Fa.ok K (.glo "_law_walk")),
  (fun K => He.Fa.ok K (.keep "_law_walk")),
  (fun K => He.Fa.ok K (.glo "_law_words")),
  (fun K => He.Fa.ok K (.keep "_law_words")),
  (fun K => He.Fa.ok K (.glo "above_fits")),
  (fun K => He.Fa.ok K (.keep "above_fits")),
  (fun K => He.Fa.ok K (.glo "bits_of")),
  (fun K => He.Fa.ok K (.keep "bits_of"))]
def fa_2 : List (PySem.W.Frag → Bool) := [(fun K => He.Fa.ok K (.glo "branch_at")),
  (fun K => He.Fa.ok K (.keep "branch_at")),
  (fun K => He.Fa.ok K (.glo "branch_paths")),
  (fun K => He.Fa.ok K (.keep "branch_paths")),
  (fun K => He.Fa.ok K (.glo "fault")),
  (fun K => He.Fa.ok K (.keep "fault")),
  (fun K => He.Fa.ok K (.glo "first_apart")),
  (fun K => He.Fa.ok K (.keep "first_apart")),
  (fun K => He.Fa.ok K (.glo "first_wrong")),
  (fun K => He.Fa.ok K (.keep "first_wrong")),
  (fun K => He.Fa.ok K (.glo "gather")),
  (fun K => He.Fa.ok K (.keep "gather")),
  (fun K => He.Fa.ok K (.glo "is_place")),
  (fun K => He.Fa.ok K (.keep "is_place")),
  (fun K => He.Fa.ok K (.glo "least_bit")),
  (fun K => He.Fa.ok K (.keep "least_bit")),
  (fun K => He.Fa.ok K (.glo "looked")),
  (fun K => He.Fa.ok K (.keep "looked")),
  (fun K => He.Fa.ok K (.glo "meeting")),
  (fun K => He.Fa.ok K (.keep "meeting")),
  (fun K => He.Fa.ok K (.glo "places")),
  (fun K => He.Fa.ok K (.keep "places")),
  (fun K => He.Fa.ok K (.glo "set_words")),
  (fun K => He.Fa.ok K (.keep "set_words")),
  (fun K => He.Fa.ok K (.glo "sets_fit")),
  (fun K => He.Fa.ok K (.keep "sets_fit")),
  (fun K => He.Fa.ok K (.glo "word_of")),
  (fun K => He.Fa.ok K (.keep "word_of")),
  (knvB "SoleError"),
  (fun K => He.Fa.ok K (.glo "law"))]
def fa_3 : List (PySem.W.Frag → Bool) := [(fun K => He.Fa.ok K (.meth "Leaf" "words")),
  (fun K => He.Fa.ok K (.meth "Leaf" "__eq__")),
  (fun K => He.Fa.ok K (.meth "Leaf" "__len__")),
  (fun K => He.Fa.ok K (.meth "Leaf" "__str__")),
  (fun K => He.Fa.ok K (.meth "Leaf" "halls")),
  (fun K => He.Fa.ok K (.meth "Leaf" "deep")),
  (fun K => He.Fa.ok K (.mkr "Branch")),
  (fun K => He.Fa.ok K (.meth "Branch" "words")),
  (fun K => He.Fa.ok K (.meth "Branch" "halls")),
  (fun K => He.Fa.ok K (.meth "Branch" "deep")),
  (fun K => He.Fa.ok K (.meth "Branch" "__eq__")),
  (fun K => He.Fa.ok K (.meth "Branch" "__len__")),
  (fun K => He.Fa.ok K (.meth "Branch" "__str__")),
  (fun K => He.Fa.ok K (.cls "Leaf")),
  (fun K => He.Fa.ok K (.noat "Branch" "manner")),
  (fun K => He.Fa.ok K (.noat "Branch" "parts")),
  (fun K => He.Fa.ok K (.noat "Branch" "above")),
  (fun K => He.Fa.ok K (.noat "Branch" "sets")),
  (fun K => He.Fa.ok K (.cls "Branch")),
  (fun K => He.Fa.ok K (.int "SEATS" (60))),
  (fun K => He.Fa.ok K (.int "SETS" (200))),
  (fun K => He.Fa.ok K (.int "MOST" (60))),
  (fun K => He.Fa.ok K (.int "DEEPEST" (6))),
  (clTyB "Leaf"),
  (clTyB "Branch"),
  (kitB (fun K => (.ref (He.ga K "Leaf"))) "Leaf" true),
  (kitB (fun K => (.ref (He.ga K "Leaf"))) "Branch" false),
  (kitB (fun K => (.ref (He.ga K "Branch"))) "Leaf" false),
  (kitB (fun K => (.ref (He.ga K "Branch"))) "Branch" true),
  (kitB (fun K => (.type "str")) "Leaf" false)]
def fa_4 : List (PySem.W.Frag → Bool) := [(kitB (fun K => (.type "str")) "Branch" false),
  (notFirstB "Leaf" [fun K => (.ref (He.ga K "Leaf")), fun K => (.ref (He.ga K "Branch")), fun K => (.type "str")]),
  (notFirstB "Branch" [fun K => (.ref (He.ga K "Leaf")), fun K => (.ref (He.ga K "Branch")), fun K => (.type "str")]),
  (fun K => He.Fa.ok K (.glo "MANNERS")),
  (fun K => He.tupB K "MANNERS" ((["stamps", "tree", "turning", "votes", "calls"] : List Str).map He.Dv.str)),
  (empB (kwAd (fun K => (He.ma K (He.ga K "Branch") "__init__")) "above")),
  (empB (kwAd (fun K => (He.ma K (He.ga K "Branch") "__init__")) "sets")),
  (mk0B "Leaf"),
  (xmkB "NoPath"),
  (excCB "NoPath"),
  (xf1B "NoPath"),
  (noatB "NoPath" "path"),
  (exmB "NoPath" "NoPath" true),
  (kitCB "NoPath" "SoleError" true),
  (kitCB "NoPath" "NoBranch" false),
  (kitCB "NoPath" "BadText" false)]
def fa : List (PySem.W.Frag → Bool) := fa_0 ++ fa_1 ++ fa_2 ++ fa_3 ++ fa_4
def fn_0 : List (He5.DefA) := [{ at_ := fun K => (He.ga K "word_of"), name := "word_of", qual := "word_of", params := defArgs s_word_of, body := defBody s_word_of, scope := defScope s_word_of },
  { at_ := fun K => (He.ga K "fault"), name := "fault", qual := "fault", params := defArgs s_fault, body := defBody s_fault, scope := defScope s_fault },
  { at_ := fun K => (He.ga K "looked"), name := "looked", qual := "looked", params := defArgs s_looked, body := defBody s_looked, scope := defScope s_looked },
  { at_ := fun K => (He.ga K "bits_of"), name := "bits_of", qual := "bits_of", params := defArgs s_bits_of, body := defBody s_bits_of, scope := defScope s_bits_of },
  { at_ := fun K => (He.ga K "first_apart"), name := "first_apart", qual := "first_apart", params := defArgs s_first_apart, body := defBody s_first_apart, scope := defScope s_first_apart },
  { at_ := fun K => (He.ga K "least_bit"), name := "least_bit", qual := "least_bit", params := defArgs s_least_bit, body := defBody s_least_bit, scope := defScope s_least_bit },
  { at_ := fun K => (He.ga K "meeting"), name := "meeting", qual := "meeting", params := defArgs s_meeting, body := defBody s_meeting, scope := defScope s_meeting },
  { at_ := fun K => (He.ga K "set_words"), name := "set_words", qual := "set_words", params := defArgs s_set_words, body := defBody s_set_words, scope := defScope s_set_words },
  { at_ := fun K => (He.ga K "first_wrong"), name := "first_wrong", qual := "first_wrong", params := defArgs s_first_wrong, body := defBody s_first_wrong, scope := defScope s_first_wrong },
  { at_ := fun K => (He.ga K "above_fits"), name := "above_fits", qual := "above_fits", params := defArgs s_above_fits, body := defBody s_above_fits, scope := defScope s_above_fits },
  { at_ := fun K => (He.ga K "sets_fit"), name := "sets_fit", qual := "sets_fit", params := defArgs s_sets_fit, body := defBody s_sets_fit, scope := defScope s_sets_fit },
  { at_ := fun K => (He.ga K "places"), name := "places", qual := "places", params := defArgs s_places, body := defBody s_places, scope := defScope s_places },
  { at_ := fun K => (He.ga K "gather"), name := "gather", qual := "gather", params := defArgs s_gather, body := defBody s_gather, scope := defScope s_gather },
  { at_ := fun K => (He.ga K "branch_at"), name := "branch_at", qual := "branch_at", params := defArgs s_branch_atX, body := defBody s_branch_atX, scope := defScope s_branch_atX },
  { at_ := fun K => (He.ga K "is_place"), name := "is_place", qual := "is_place", params := defArgs s_is_place, body := defBody s_is_place, scope := defScope s_is_place },
  { at_ := fun K => (He.ga K "branch_paths"), name := "branch_paths", qual := "branch_paths", params := defArgs s_branch_paths, body := defBody s_branch_paths, scope := defScope s_branch_paths },
  { at_ := fun K => (He.ga K "_law_box"), name := "_law_box", qual := "_law_box", params := defArgs s_law_box, body := defBody s_law_box, scope := defScope s_law_box },
  { at_ := fun K => (He.ga K "_law_pick"), name := "_law_pick", qual := "_law_pick", params := defArgs s_law_pick, body := defBody s_law_pick, scope := defScope s_law_pick },
  { at_ := fun K => (He.ga K "_law_some"), name := "_law_some", qual := "_law_some", params := defArgs s_law_some, body := defBody s_law_some, scope := defScope s_law_some },
  { at_ := fun K => (He.ga K "_law_meet"), name := "_law_meet", qual := "_law_meet", params := defArgs s_law_meet, body := defBody s_law_meet, scope := defScope s_law_meet },
  { at_ := fun K => (He.ga K "_law_sets"), name := "_law_sets", qual := "_law_sets", params := defArgs s_law_sets, body := defBody s_law_sets, scope := defScope s_law_sets },
  { at_ := fun K => (He.ga K "_law_rep"), name := "_law_rep", qual := "_law_rep", params := defArgs s_law_rep, body := defBody s_law_rep, scope := defScope s_law_rep },
  { at_ := fun K => (He.ga K "_law_words"), name := "_law_words", qual := "_law_words", params := defArgs s_law_words, body := defBody s_law_words, scope := defScope s_law_words },
  { at_ := fun K => (He.ga K "_law_made"), name := "_law_made", qual := "_law_made", params := defArgs s_law_made_k83, body := defBody s_law_made_k83, scope := defScope s_law_made_k83 },
  { at_ := fun K => (He.ga K "_law_shared"), name := "_law_shared", qual := "_law_shared", params := defArgs s_law_shared, body := defBody s_law_shared, scope := defScope s_law_shared },
  { at_ := fun K => (He.ga K "_law_walk"), name := "_law_walk", qual := "_law_walk", params := defArgs s_law_walk, body := defBody s_law_walk, scope := defScope s_law_walk },
  { at_ := fun K => (He.ga K "_law_paths"), name := "_law_paths", qual := "_law_paths", params := defArgs s_law_paths, body := defBody s_law_paths, scope := defScope s_law_paths },
  { at_ := fun K => (He.ga K "_law_elsewhere"), name := "_law_elsewhere", qual := "_law_elsewhere", params := defArgs s_law_elsewhere, body := defBody s_law_elsewhere, scope := defScope s_law_elsewhere },
  { at_ := fun K => (He.ga K "_law_refused"), name := "_law_refused", qual := "_law_refused", params := defArgs s_law_refused, body := defBody s_law_refused, scope := defScope s_law_refused },
  { at_ := fun K => (He.ga K "_law_odd"), name := "_law_odd", qual := "_law_odd", params := defArgs s_law_odd, body := defBody s_law_odd, scope := defScope s_law_odd }]
def fn_1 : List (He5.DefA) := [{ at_ := fun K => (He.ga K "law"), name := "law", qual := "law", params := defArgs s_law_k85, body := defBody s_law_k85, scope := defScope s_law_k85 },
  { at_ := fun K => (He.ma K (He.ga K "Leaf") "words"), name := "words", qual := "Leaf.words", params := defArgs s_Leaf_words, body := defBody s_Leaf_words, scope := defScope s_Leaf_words },
  { at_ := fun K => (He.ma K (He.ga K "Leaf") "__eq__"), name := "__eq__", qual := "Leaf.__eq__", params := defArgs s_Leaf_eq, body := defBody s_Leaf_eq, scope := defScope s_Leaf_eq },
  { at_ := fun K => (He.ma K (He.ga K "Leaf") "__len__"), name := "__len__", qual := "Leaf.__len__", params := defArgs s_Leaf_len, body := defBody s_Leaf_len, scope := defScope s_Leaf_len },
  { at_ := fun K => (He.ma K (He.ga K "Leaf") "__str__"), name := "__str__", qual := "Leaf.__str__", params := defArgs s_Leaf_str, body := defBody s_Leaf_str, scope := defScope s_Leaf_str },
  { at_ := fun K => (He.ma K (He.ga K "Leaf") "halls"), name := "halls", qual := "Part.halls", params := defArgs s_Part_halls, body := defBody s_Part_halls, scope := defScope s_Part_halls },
  { at_ := fun K => (He.ma K (He.ga K "Leaf") "deep"), name := "deep", qual := "Part.deep", params := defArgs s_Part_deep, body := defBody s_Part_deep, scope := defScope s_Part_deep },
  { at_ := fun K => (He.ma K (He.ga K "Branch") "__init__"), name := "__init__", qual := "Branch.__init__", params := defArgs s_Branch_init, body := defBody s_Branch_init, scope := defScope s_Branch_init, kwd := [("above", .adr (kwAd (fun K => (He.ma K (He.ga K "Branch") "__init__")) "above")), ("sets", .adr (kwAd (fun K => (He.ma K (He.ga K "Branch") "__init__")) "sets"))] },
  { at_ := fun K => (He.ma K (He.ga K "Branch") "words"), name := "words", qual := "Branch.words", params := defArgs s_Branch_words, body := defBody s_Branch_words, scope := defScope s_Branch_words },
  { at_ := fun K => (He.ma K (He.ga K "Branch") "halls"), name := "halls", qual := "Branch.halls", params := defArgs s_Branch_halls, body := defBody s_Branch_halls, scope := defScope s_Branch_halls },
  { at_ := fun K => (He.ma K (He.ga K "Branch") "deep"), name := "deep", qual := "Branch.deep", params := defArgs s_Branch_deep, body := defBody s_Branch_deep, scope := defScope s_Branch_deep },
  { at_ := fun K => (He.ma K (He.ga K "Branch") "__eq__"), name := "__eq__", qual := "Branch.__eq__", params := defArgs s_Branch_eq, body := defBody s_Branch_eq, scope := defScope s_Branch_eq },
  { at_ := fun K => (He.ma K (He.ga K "Branch") "__len__"), name := "__len__", qual := "Branch.__len__", params := defArgs s_Branch_len, body := defBody s_Branch_len, scope := defScope s_Branch_len },
  { at_ := fun K => (He.ma K (He.ga K "Branch") "__str__"), name := "__str__", qual := "Branch.__str__", params := defArgs s_Branch_str, body := defBody s_Branch_str, scope := defScope s_Branch_str },
  { at_ := fun K => (He.ma K (He.ga K "NoPath") "__init__"), name := "__init__", qual := "NoPath.__init__", params := defArgs s_NoPath_init, body := defBody s_NoPath_init, scope := defScope s_NoPath_init }]
def fn : List (He5.DefA) := fn_0 ++ fn_1
structure Hd (g : G) : Prop where
  top : Top g
  g_word_of : g.mg "word_of" = some (.ref (He.ga g.K "word_of"))
  g_fault : g.mg "fault" = some (.ref (He.ga g.K "fault"))
  g_looked : g.mg "looked" = some (.ref (He.ga g.K "looked"))
  g_bits_of : g.mg "bits_of" = some (.ref (He.ga g.K "bits_of"))
  g_first_apart : g.mg "first_apart" = some (.ref (He.ga g.K "first_apart"))
  g_least_bit : g.mg "least_bit" = some (.ref (He.ga g.K "least_bit"))
  g_meeting : g.mg "meeting" = some (.ref (He.ga g.K "meeting"))
  g_set_words : g.mg "set_words" = some (.ref (He.ga g.K "set_words"))
  g_first_wrong : g.mg "first_wrong" = some (.ref (He.ga g.K "first_wrong"))
  g_above_fits : g.mg "above_fits" = some (.ref (He.ga g.K "above_fits"))
  g_sets_fit : g.mg "sets_fit" = some (.ref (He.ga g.K "sets_fit"))
  g_places : g.mg "places" = some (.ref (He.ga g.K "places"))
  g_gather : g.mg "gather" = some (.ref (He.ga g.K "gather"))
  g_branch_at : g.mg "branch_at" = some (.ref (He.ga g.K "branch_at"))
  g_is_place : g.mg "is_place" = some (.ref (He.ga g.K "is_place"))
  g_branch_paths : g.mg "branch_paths" = some (.ref (He.ga g.K "branch_paths"))
  g_law_box : g.mg "_law_box" = some (.ref (He.ga g.K "_law_box"))
  g_law_pick : g.mg "_law_pick" = some (.ref (He.ga g.K "_law_pick"))
  g_law_some : g.mg "_law_some" = some (.ref (He.ga g.K "_law_some"))
  g_law_meet : g.mg "_law_meet" = some (.ref (He.ga g.K "_law_meet"))
  g_law_sets : g.mg "_law_sets" = some (.ref (He.ga g.K "_law_sets"))
  g_law_rep : g.mg "_law_rep" = some (.ref (He.ga g.K "_law_rep"))
  g_law_words : g.mg "_law_words" = some (.ref (He.ga g.K "_law_words"))
  g_law_made : g.mg "_law_made" = some (.ref (He.ga g.K "_law_made"))
  g_law_shared : g.mg "_law_shared" = some (.ref (He.ga g.K "_law_shared"))
  g_law_walk : g.mg "_law_walk" = some (.ref (He.ga g.K "_law_walk"))
  g_law_paths : g.mg "_law_paths" = some (.ref (He.ga g.K "_law_paths"))
  g_law_elsewhere : g.mg "_law_elsewhere" = some (.ref (He.ga g.K "_law_elsewhere"))
  g_law_refused : g.mg "_law_refused" = some (.ref (He.ga g.K "_law_refused"))
  g_law_odd : g.mg "_law_odd" = some (.ref (He.ga g.K "_law_odd"))
  g_law : g.mg "law" = some (.ref (He.ga g.K "law"))
  g_Leaf : g.mg "Leaf" = some (.ref (He.ga g.K "Leaf"))
  g_Branch : g.mg "Branch" = some (.ref (He.ga g.K "Branch"))
  g_BadText : g.mg "BadText" = some (.ref (He.ga g.K "BadText"))
  g_NoBranch : g.mg "NoBranch" = some (.ref (He.ga g.K "NoBranch"))
  g_NoPath : g.mg "NoPath" = some (.ref (He.ga g.K "NoPath"))
  g_SoleError : g.mg "SoleError" = some (.ref (He.ga g.K "SoleError"))
  m_Leaf_words : Meth g.K (He.ga g.K "Leaf") "words" (He.ma g.K (He.ga g.K "Leaf") "words")
  m_Leaf_eq : Meth g.K (He.ga g.K "Leaf") "__eq__" (He.ma g.K (He.ga g.K "Leaf") "__eq__")
  m_Leaf_len : Meth g.K (He.ga g.K "Leaf") "__len__" (He.ma g.K (He.ga g.K "Leaf") "__len__")
  m_Leaf_str : Meth g.K (He.ga g.K "Leaf") "__str__" (He.ma g.K (He.ga g.K "Leaf") "__str__")
  m_Leaf_halls : Meth g.K (He.ga g.K "Leaf") "halls" (He.ma g.K (He.ga g.K "Leaf") "halls")
  m_Leaf_deep : Meth g.K (He.ga g.K "Leaf") "deep" (He.ma g.K (He.ga g.K "Leaf") "deep")
  i_Branch : Mk g.K (He.ga g.K "Branch") (He.ma g.K (He.ga g.K "Branch") "__init__")
  m_Branch_words : Meth g.K (He.ga g.K "Branch") "words" (He.ma g.K (He.ga g.K "Branch") "words")
  m_Branch_halls : Meth g.K (He.ga g.K "Branch") "halls" (He.ma g.K (He.ga g.K "Branch") "halls")
  m_Branch_deep : Meth g.K (He.ga g.K "Branch") "deep" (He.ma g.K (He.ga g.K "Branch") "deep")
  m_Branch_eq : Meth g.K (He.ga g.K "Branch") "__eq__" (He.ma g.K (He.ga g.K "Branch") "__eq__")
  m_Branch_len : Meth g.K (He.ga g.K "Branch") "__len__" (He.ma g.K (He.ga g.K "Branch") "__len__")
  m_Branch_str : Meth g.K (He.ga g.K "Branch") "__str__" (He.ma g.K (He.ga g.K "Branch") "__str__")
  c_Leaf : ClsF g.K (He.ga g.K "Leaf") []
  c_Branch : ClsF g.K (He.ga g.K "Branch") ["manner", "parts", "above", "sets"]
  v_SEATS : ∃ u, g.mg "SEATS" = some u ∧ RelV (.int 60) u
  v_SETS : ∃ u, g.mg "SETS" = some u ∧ RelV (.int 200) u
  v_MOST : ∃ u, g.mg "MOST" = some u ∧ RelV (.int 60) u
  v_DEEPEST : ∃ u, g.mg "DEEPEST" = some u ∧ RelV (.int 6) u
  t_Leaf : ClTy g.K (He.ga g.K "Leaf")
  t_Branch : ClTy g.K (He.ga g.K "Branch")
  k_ll : PySem.W.kitOne g.K (.ref (He.ga g.K "Leaf")) (.ref (He.ga g.K "Leaf")) = some true
  k_lb : PySem.W.kitOne g.K (.ref (He.ga g.K "Leaf")) (.ref (He.ga g.K "Branch")) = some false
  k_bl : PySem.W.kitOne g.K (.ref (He.ga g.K "Branch")) (.ref (He.ga g.K "Leaf")) = some false
  k_bb : PySem.W.kitOne g.K (.ref (He.ga g.K "Branch")) (.ref (He.ga g.K "Branch")) = some true
  k_sl : PySem.W.kitOne g.K (.type "str") (.ref (He.ga g.K "Leaf")) = some false
  k_sb : PySem.W.kitOne g.K (.type "str") (.ref (He.ga g.K "Branch")) = some false
  f_Leaf : ∀ t, t = .ref (He.ga g.K "Leaf") ∨ t = .ref (He.ga g.K "Branch") ∨ t = .type "str" → PySem.W.notFirst g.K (He.ga g.K "Leaf") t = true
  f_Branch : ∀ t, t = .ref (He.ga g.K "Leaf") ∨ t = .ref (He.ga g.K "Branch") ∨ t = .type "str" → PySem.W.notFirst g.K (He.ga g.K "Branch") t = true
  v_MANNERS : ∃ a, g.mg "MANNERS" = some (.ref a) ∧ ∀ H, SqT g.K H a ((["stamps", "tree", "turning", "votes", "calls"] : List Str).map V.str)
  e_above : ∀ H, SqT g.K H (kwAd (fun K => (He.ma K (He.ga K "Branch") "__init__")) "above" g.K) []
  e_sets : ∀ H, SqT g.K H (kwAd (fun K => (He.ma K (He.ga K "Branch") "__init__")) "sets" g.K) []
  z_Leaf : Mk0 g.K (He.ga g.K "Leaf")
  x_NoPath : XMk g.K (He.ga g.K "NoPath") (He.ma g.K (He.ga g.K "NoPath") "__init__")
  xc_NoPath : ExcC g.K (He.ga g.K "NoPath")
  xf_NoPath : XfC g.K (He.ga g.K "NoPath")
  xn_NoPath : PySem.W.findIn g.K (.ref (He.ga g.K "NoPath")) "path" = some none
  xe_NoPath : PySem.W.exmOne g.K (.ref (He.ga g.K "NoPath")) (.ref (He.ga g.K "NoPath")) = some true
  kc_NoPath_SoleError : PySem.W.kitOne g.K (.ref (He.ga g.K "NoPath")) (.ref (He.ga g.K "SoleError")) = some true
  kc_NoPath_NoBranch : PySem.W.kitOne g.K (.ref (He.ga g.K "NoPath")) (.ref (He.ga g.K "NoBranch")) = some false
  kc_NoPath_BadText : PySem.W.kitOne g.K (.ref (He.ga g.K "NoPath")) (.ref (He.ga g.K "BadText")) = some false
  p_word_of : Pt g "word_of" s_word_of (He.ga g.K "word_of") n_word_of ["seats", "one"] t_word_of
  p_fault : Pt g "fault" s_fault (He.ga g.K "fault") n_fault ["seats", "sets"] t_fault
  p_looked : Pt g "looked" s_looked (He.ga g.K "looked") n_looked ["seats", "sets"] t_looked
  p_bits_of : Pt g "bits_of" s_bits_of (He.ga g.K "bits_of") n_bits_of ["one"] t_bits_of
  p_first_apart : Pt g "first_apart" s_first_apart (He.ga g.K "first_apart") n_first_apart ["rows"] t_first_apart
  p_least_bit : Pt g "least_bit" s_least_bit (He.ga g.K "least_bit") n_least_bit ["bits"] t_least_bit
  p_meeting : Pt g "meeting" s_meeting (He.ga g.K "meeting") n_meeting ["seats", "sets"] t_meeting
  p_set_words : Pt g "set_words" s_set_words (He.ga g.K "set_words") n_set_words ["sets"] t_set_words
  p_first_wrong : Pt g "first_wrong" s_first_wrong (He.ga g.K "first_wrong") n_first_wrong ["manner", "parts", "above", "sets"] t_first_wrong
  p_above_fits : Pt g "above_fits" s_above_fits (He.ga g.K "above_fits") n_above_fits ["manner", "above", "many"] t_above_fits
  p_sets_fit : Pt g "sets_fit" s_sets_fit (He.ga g.K "sets_fit") n_sets_fit ["manner", "sets", "many"] t_sets_fit
  p_places : Pt g "places" s_places (He.ga g.K "places") n_places ["plan"] t_places
  p_gather : Pt g "gather" s_gather (He.ga g.K "gather") n_gather ["part", "path", "leaves", "porters"] t_gather
  p_branch_at : PtX g "branch_at" s_branch_atX (He.ga g.K "branch_at") n_branch_atX ["plan", "path"] t_branch_atX
  p_is_place : Pt g "is_place" s_is_place (He.ga g.K "is_place") n_is_place ["thing", "many"] t_is_place
  p_branch_paths : Pt g "branch_paths" s_branch_paths (He.ga g.K "branch_paths") n_branch_paths ["plan"] t_branch_paths
  p_law_box : Pt g "_law_box" s_law_box (He.ga g.K "_law_box") n_law_box ["cells"] t_law_box
  p_law_pick : Pt g "_law_pick" s_law_pick (He.ga g.K "_law_pick") n_law_pick ["box", "many"] t_law_pick
  p_law_some : Pt g "_law_some" s_law_some (He.ga g.K "_law_some") n_law_some ["bits", "parts"] t_law_some
  p_law_meet : Pt g "_law_meet" s_law_meet (He.ga g.K "_law_meet") n_law_meet ["one", "other"] t_law_meet
  p_law_sets : Pt g "_law_sets" s_law_sets (He.ga g.K "_law_sets") n_law_sets ["box", "parts"] t_law_sets
  p_law_rep : Pt g "_law_rep" s_law_rep (He.ga g.K "_law_rep") n_law_rep ["box", "left", "deep"] t_law_rep
  p_law_words : Pt g "_law_words" s_law_words (He.ga g.K "_law_words") n_law_words ["rep"] t_law_words
  p_law_made : Pt g "_law_made" s_law_made_k83 (He.ga g.K "_law_made") n_law_made_k83 ["rep"] t_law_made_k83
  p_law_shared : Pt g "_law_shared" s_law_shared (He.ga g.K "_law_shared") n_law_shared ["rep", "named"] t_law_shared
  p_law_walk : Pt g "_law_walk" s_law_walk (He.ga g.K "_law_walk") n_law_walk ["rep", "path", "leaves", "halls"] t_law_walk
  p_law_paths : Pt g "_law_paths" s_law_paths (He.ga g.K "_law_paths") n_law_paths ["found", "due"] t_law_paths
  p_law_elsewhere : Pt g "_law_elsewhere" s_law_elsewhere (He.ga g.K "_law_elsewhere") n_law_elsewhere ["plan", "rep"] t_law_elsewhere
  p_law_refused : Pt g "_law_refused" s_law_refused (He.ga g.K "_law_refused") n_law_refused ["plan", "thing"] t_law_refused
  p_law_odd : Pt g "_law_odd" s_law_odd (He.ga g.K "_law_odd") n_law_odd ["box", "leaves", "halls"] t_law_odd
  p_law : Pt g "law" s_law_k85 (He.ga g.K "law") n_law_k85 ["script"] t_law_k85
  p_Leaf_words : Pt g "Leaf.words" s_Leaf_words (He.ma g.K (He.ga g.K "Leaf") "words") n_Leaf_words ["self"] t_Leaf_words
  p_Leaf_eq : Pt g "Leaf.__eq__" s_Leaf_eq (He.ma g.K (He.ga g.K "Leaf") "__eq__") n_Leaf_eq ["self", "other"] t_Leaf_eq
  p_Leaf_len : Pt g "Leaf.__len__" s_Leaf_len (He.ma g.K (He.ga g.K "Leaf") "__len__") n_Leaf_len ["self"] t_Leaf_len
  p_Leaf_str : Pt g "Leaf.__str__" s_Leaf_str (He.ma g.K (He.ga g.K "Leaf") "__str__") n_Leaf_str ["self"] t_Leaf_str
  p_Leaf_halls : Pt g "Part.halls" s_Part_halls (He.ma g.K (He.ga g.K "Leaf") "halls") n_Part_halls ["self"] t_Part_halls
  p_Leaf_deep : Pt g "Part.deep" s_Part_deep (He.ma g.K (He.ga g.K "Leaf") "deep") n_Part_deep ["self"] t_Part_deep
  p_Branch_init : PtB g "Branch.__init__" s_Branch_init (He.ma g.K (He.ga g.K "Branch") "__init__") n_Branch_init ["self", "manner", "parts", "above", "sets"] "above" "sets" (kwAd (fun K => (He.ma K (He.ga K "Branch") "__init__")) "above" g.K) (kwAd (fun K => (He.ma K (He.ga K "Branch") "__init__")) "sets" g.K) t_Branch_init
  p_Branch_words : Pt g "Branch.words" s_Branch_words (He.ma g.K (He.ga g.K "Branch") "words") n_Branch_words ["self"] t_Branch_words
  p_Branch_halls : Pt g "Branch.halls" s_Branch_halls (He.ma g.K (He.ga g.K "Branch") "halls") n_Branch_halls ["self"] t_Branch_halls
  p_Branch_deep : Pt g "Branch.deep" s_Branch_deep (He.ma g.K (He.ga g.K "Branch") "deep") n_Branch_deep ["self"] t_Branch_deep
  p_Branch_eq : Pt g "Branch.__eq__" s_Branch_eq (He.ma g.K (He.ga g.K "Branch") "__eq__") n_Branch_eq ["self", "other"] t_Branch_eq
  p_Branch_len : Pt g "Branch.__len__" s_Branch_len (He.ma g.K (He.ga g.K "Branch") "__len__") n_Branch_len ["self"] t_Branch_len
  p_Branch_str : Pt g "Branch.__str__" s_Branch_str (He.ma g.K (He.ga g.K "Branch") "__str__") n_Branch_str ["self"] t_Branch_str
  p_NoPath_init : Pt g "NoPath.__init__" s_NoPath_init (He.ma g.K (He.ga g.K "NoPath") "__init__") n_NoPath_init ["self", "path"] t_NoPath_init
theorem hd_of {P : Program} {w : World} {K : PySem.W.Frag} {h base : Heap} {mg : Str → Option Value} (X : K.In h) (N : h.Ns mainGlobals mg) (c : SaysL fa fn K) : Hd ⟨P, w, K, mg, base⟩ := by
  have T : Top ⟨P, w, K, mg, base⟩ := { b_abs := He.free_ok X N (c.fact 0 rfl), b_all := He.free_ok X N (c.fact 1 rfl), b_any := He.free_ok X N (c.fact 2 rfl), b_bool := He.free_ok X N (c.fact 3 rfl), b_dict := He.free_ok X N (c.fact 4 rfl), b_enumerate := He.free_ok X N (c.fact 5 rfl), b_int := He.free_ok X N (c.fact 6 rfl), b_isinstance := He.free_ok X N (c.fact 7 rfl), b_len := He.free_ok X N (c.fact 8 rfl), b_list := He.free_ok X N (c.fact 9 rfl), b_max := He.free_ok X N (c.fact 10 rfl), b_range := He.free_ok X N (c.fact 11 rfl), b_str := He.free_ok X N (c.fact 12 rfl), b_sum := He.free_ok X N (c.fact 13 rfl), b_tuple := He.free_ok X N (c.fact 14 rfl), b_zip := He.free_ok X N (c.fact 15 rfl), k_BadText := ⟨_, He.glo_ok X N (c.fact 16 rfl), He.keep_ok (c.fact 17 rfl)⟩, k_Branch := ⟨_, He.glo_ok X N (c.fact 18 rfl), He.keep_ok (c.fact 19 rfl)⟩, k_Leaf := ⟨_, He.glo_ok X N (c.fact 20 rfl), He.keep_ok (c.fact 21 rfl)⟩, k_NoBranch := ⟨_, He.glo_ok X N (c.fact 22 rfl), He.keep_ok (c.fact 23 rfl)⟩, k_NoPath := ⟨_, He.glo_ok X N (c.fact 24 rfl), He.keep_ok (c.fact 25 rfl)⟩, k_SoleError := ⟨_, He.glo_ok X N (c.fact 26 rfl), He.keep_ok (c.fact 27 rfl)⟩, k_law_box := ⟨_, He.glo_ok X N (c.fact 28 rfl), He.keep_ok (c.fact 29 rfl)⟩, k_law_elsewhere := ⟨_, He.glo_ok X N (c.fact 30 rfl), He.keep_ok (c.fact 31 rfl)⟩, k_law_made := ⟨_, He.glo_ok X N (c.fact 32 rfl), He.keep_ok (c.fact 33 rfl)⟩, k_law_meet := ⟨_, He.glo_ok X N (c.fact 34 rfl), He.keep_ok (c.fact 35 rfl)⟩, k_law_odd := ⟨_, He.glo_ok X N (c.fact 36 rfl), He.keep_ok (c.fact 37 rfl)⟩, k_law_paths := ⟨_, He.glo_ok X N (c.fact 38 rfl), He.keep_ok (c.fact 39 rfl)⟩, k_law_pick := ⟨_, He.glo_ok X N (c.fact 40 rfl), He.keep_ok (c.fact 41 rfl)⟩, k_law_refused := ⟨_, He.glo_ok X N (c.fact 42 rfl), He.keep_ok (c.fact 43 rfl)⟩, k_law_rep := ⟨_, He.glo_ok X N (c.fact 44 rfl), He.keep_ok (c.fact 45 rfl)⟩, k_law_sets := ⟨_, He.glo_ok X N (c.fact 46 rfl), He.keep_ok (c.fact 47 rfl)⟩, k_law_shared := ⟨_, He.glo_ok X N (c.fact 48 rfl), He.keep_ok (c.fact 49 rfl)⟩, k_law_some := ⟨_, He.glo_ok X N (c.fact 50 rfl), He.keep_ok (c.fact 51 rfl)⟩, k_law_walk := ⟨_, He.glo_ok X N (c.fact 52 rfl), He.keep_ok (c.fact 53 rfl)⟩, k_law_words := ⟨_, He.glo_ok X N (c.fact 54 rfl), He.keep_ok (c.fact 55 rfl)⟩, k_above_fits := ⟨_, He.glo_ok X N (c.fact 56 rfl), He.keep_ok (c.fact 57 rfl)⟩, k_bits_of := ⟨_, He.glo_ok X N (c.fact 58 rfl), He.keep_ok (c.fact 59 rfl)⟩, k_branch_at := ⟨_, He.glo_ok X N (c.fact 60 rfl), He.keep_ok (c.fact 61 rfl)⟩, k_branch_paths := ⟨_, He.glo_ok X N (c.fact 62 rfl), He.keep_ok (c.fact 63 rfl)⟩, k_fault := ⟨_, He.glo_ok X N (c.fact 64 rfl), He.keep_ok (c.fact 65 rfl)⟩, k_first_apart := ⟨_, He.glo_ok X N (c.fact 66 rfl), He.keep_ok (c.fact 67 rfl)⟩, k_first_wrong := ⟨_, He.glo_ok X N (c.fact 68 rfl), He.keep_ok (c.fact 69 rfl)⟩, k_gather := ⟨_, He.glo_ok X N (c.fact 70 rfl), He.keep_ok (c.fact 71 rfl)⟩, k_is_place := ⟨_, He.glo_ok X N (c.fact 72 rfl), He.keep_ok (c.fact 73 rfl)⟩, k_least_bit := ⟨_, He.glo_ok X N (c.fact 74 rfl), He.keep_ok (c.fact 75 rfl)⟩, k_looked := ⟨_, He.glo_ok X N (c.fact 76 rfl), He.keep_ok (c.fact 77 rfl)⟩, k_meeting := ⟨_, He.glo_ok X N (c.fact 78 rfl), He.keep_ok (c.fact 79 rfl)⟩, k_places := ⟨_, He.glo_ok X N (c.fact 80 rfl), He.keep_ok (c.fact 81 rfl)⟩, k_set_words := ⟨_, He.glo_ok X N (c.fact 82 rfl), He.keep_ok (c.fact 83 rfl)⟩, k_sets_fit := ⟨_, He.glo_ok X N (c.fact 84 rfl), He.keep_ok (c.fact 85 rfl)⟩, k_word_of := ⟨_, He.glo_ok X N (c.fact 86 rfl), He.keep_ok (c.fact 87 rfl)⟩, v_SoleError := knv_ok (g := ⟨P, w, K, mg, base⟩) (He.glo_ok X N (c.fact 26 rfl)) (c.fact 88 rfl), c_NoPath := He.glo_ok X N (c.fact 24 rfl) }
  exact {
    top := T,
    g_word_of := He.glo_ok X N (c.fact 86 rfl),
    g_fault := He.glo_ok X N (c.fact 64 rfl),
    g_looked := He.glo_ok X N (c.fact 76 rfl),
    g_bits_of := He.glo_ok X N (c.fact 58 rfl),
    g_first_apart := He.glo_ok X N (c.fact 66 rfl),
    g_least_bit := He.glo_ok X N (c.fact 74 rfl),
    g_meeting := He.glo_ok X N (c.fact 78 rfl),
    g_set_words := He.glo_ok X N (c.fact 82 rfl),
    g_first_wrong := He.glo_ok X N (c.fact 68 rfl),
    g_above_fits := He.glo_ok X N (c.fact 56 rfl),
    g_sets_fit := He.glo_ok X N (c.fact 84 rfl),
    g_places := He.glo_ok X N (c.fact 80 rfl),
    g_gather := He.glo_ok X N (c.fact 70 rfl),
    g_branch_at := He.glo_ok X N (c.fact 60 rfl),
    g_is_place := He.glo_ok X N (c.fact 72 rfl),
    g_branch_paths := He.glo_ok X N (c.fact 62 rfl),
    g_law_box := He.glo_ok X N (c.fact 28 rfl),
    g_law_pick := He.glo_ok X N (c.fact 40 rfl),
    g_law_some := He.glo_ok X N (c.fact 50 rfl),
    g_law_meet := He.glo_ok X N (c.fact 34 rfl),
    g_law_sets := He.glo_ok X N (c.fact 46 rfl),
    g_law_rep := He.glo_ok X N (c.fact 44 rfl),
    g_law_words := He.glo_ok X N (c.fact 54 rfl),
    g_law_made := He.glo_ok X N (c.fact 32 rfl),
    g_law_shared := He.glo_ok X N (c.fact 48 rfl),
    g_law_walk := He.glo_ok X N (c.fact 52 rfl),
    g_law_paths := He.glo_ok X N (c.fact 38 rfl),
    g_law_elsewhere := He.glo_ok X N (c.fact 30 rfl),
    g_law_refused := He.glo_ok X N (c.fact 42 rfl),
    g_law_odd := He.glo_ok X N (c.fact 36 rfl),
    g_law := He.glo_ok X N (c.fact 89 rfl),
    g_Leaf := He.glo_ok X N (c.fact 20 rfl),
    g_Branch := He.glo_ok X N (c.fact 18 rfl),
    g_BadText := He.glo_ok X N (c.fact 16 rfl),
    g_NoBranch := He.glo_ok X N (c.fact 22 rfl),
    g_NoPath := He.glo_ok X N (c.fact 24 rfl),
    g_SoleError := He.glo_ok X N (c.fact 26 rfl),
    m_Leaf_words := He.meth_ok (c.fact 90 rfl),
    m_Leaf_eq := He.meth_ok (c.fact 91 rfl),
    m_Leaf_len := He.meth_ok (c.fact 92 rfl),
    m_Leaf_str := He.meth_ok (c.fact 93 rfl),
    m_Leaf_halls := He.meth_ok (c.fact 94 rfl),
    m_Leaf_deep := He.meth_ok (c.fact 95 rfl),
    i_Branch := He.mkr_ok (c.fact 96 rfl),
    m_Branch_words := He.meth_ok (c.fact 97 rfl),
    m_Branch_halls := He.meth_ok (c.fact 98 rfl),
    m_Branch_deep := He.meth_ok (c.fact 99 rfl),
    m_Branch_eq := He.meth_ok (c.fact 100 rfl),
    m_Branch_len := He.meth_ok (c.fact 101 rfl),
    m_Branch_str := He.meth_ok (c.fact 102 rfl),
    c_Leaf := ⟨He.cls_ok (c.fact 103 rfl), fun _ h => (List.not_mem_nil h).elim⟩,
    c_Branch := ⟨He.cls_ok (c.fact 108 rfl), mem_cons' (He.noat_ok (c.fact 104 rfl)) (mem_cons' (He.noat_ok (c.fact 105 rfl)) (mem_cons' (He.noat_ok (c.fact 106 rfl)) (mem_cons' (He.noat_ok (c.fact 107 rfl)) (fun _ h => (List.not_mem_nil h).elim))))⟩,
    v_SEATS := let ⟨t, h⟩ := He.int_ok X N (c.fact 109 rfl); ⟨_, h, t, rfl⟩,
    v_SETS := let ⟨t, h⟩ := He.int_ok X N (c.fact 110 rfl); ⟨_, h, t, rfl⟩,
    v_MOST := let ⟨t, h⟩ := He.int_ok X N (c.fact 111 rfl); ⟨_, h, t, rfl⟩,
    v_DEEPEST := let ⟨t, h⟩ := He.int_ok X N (c.fact 112 rfl); ⟨_, h, t, rfl⟩,
    t_Leaf := clTy_ok (c.fact 113 rfl),
    t_Branch := clTy_ok (c.fact 114 rfl),
    k_ll := kit_ok (c.fact 115 rfl),
    k_lb := kit_ok (c.fact 116 rfl),
    k_bl := kit_ok (c.fact 117 rfl),
    k_bb := kit_ok (c.fact 118 rfl),
    k_sl := kit_ok (c.fact 119 rfl),
    k_sb := kit_ok (c.fact 120 rfl),
    f_Leaf := fun t ht => notFirst_ok (c.fact 121 rfl) t (by rcases ht with rfl | rfl | rfl <;> simp),
    f_Branch := fun t ht => notFirst_ok (c.fact 122 rfl) t (by rcases ht with rfl | rfl | rfl <;> simp),
    v_MANNERS := ⟨_, He.glo_ok X N (c.fact 123 rfl), fun H => He.tupB_ok (c.fact 124 rfl) H⟩,
    e_above := fun H => empB_ok (c.fact 125 rfl) H,
    e_sets := fun H => empB_ok (c.fact 126 rfl) H,
    z_Leaf := mk0_ok (c.fact 127 rfl),
    x_NoPath := xmk_ok (c.fact 128 rfl),
    xc_NoPath := excC_ok (c.fact 129 rfl),
    xf_NoPath := xfB_ok (c.fact 130 rfl),
    xn_NoPath := He.eqO_ok (c.fact 131 rfl),
    xe_NoPath := exm_ok (c.fact 132 rfl),
    kc_NoPath_SoleError := kitC_ok (c.fact 133 rfl),
    kc_NoPath_NoBranch := kitC_ok (c.fact 134 rfl),
    kc_NoPath_BadText := kitC_ok (c.fact 135 rfl),
    p_word_of := ⟨let ⟨fd, F⟩ := c.def_ 0 rfl; ⟨_, fd, F, FunD.bindsN F fun _ _ _ _ _ _ us hl => match us, hl with | [_, _], _ => rfl⟩, sc_word_of, fun k => d_word_of T⟩,
    p_fault := ⟨let ⟨fd, F⟩ := c.def_ 1 rfl; ⟨_, fd, F, FunD.bindsN F fun _ _ _ _ _ _ us hl => match us, hl with | [_, _], _ => rfl⟩, sc_fault, fun k => d_fault T⟩,
    p_looked := ⟨let ⟨fd, F⟩ := c.def_ 2 rfl; ⟨_, fd, F, FunD.bindsN F fun _ _ _ _ _ _ us hl => match us, hl with | [_, _], _ => rfl⟩, sc_looked, fun k => d_looked T⟩,
    p_bits_of := ⟨let ⟨fd, F⟩ := c.def_ 3 rfl; ⟨_, fd, F, FunD.bindsN F fun _ _ _ _ _ _ us hl => match us, hl with | [_], _ => rfl⟩, sc_bits_of, fun k => d_bits_of T⟩,
    p_first_apart := ⟨let ⟨fd, F⟩ := c.def_ 4 rfl; ⟨_, fd, F, FunD.bindsN F fun _ _ _ _ _ _ us hl => match us, hl with | [_], _ => rfl⟩, sc_first_apart, fun k => d_first_apart T⟩,
    p_least_bit := ⟨let ⟨fd, F⟩ := c.def_ 5 rfl; ⟨_, fd, F, FunD.bindsN F fun _ _ _ _ _ _ us hl => match us, hl with | [_], _ => rfl⟩, sc_least_bit, fun k => d_least_bit T⟩,
    p_meeting := ⟨let ⟨fd, F⟩ := c.def_ 6 rfl; ⟨_, fd, F, FunD.bindsN F fun _ _ _ _ _ _ us hl => match us, hl with | [_, _], _ => rfl⟩, sc_meeting, fun k => d_meeting T⟩,
    p_set_words := ⟨let ⟨fd, F⟩ := c.def_ 7 rfl; ⟨_, fd, F, FunD.bindsN F fun _ _ _ _ _ _ us hl => match us, hl with | [_], _ => rfl⟩, sc_set_words, fun k => d_set_words T⟩,
    p_first_wrong := ⟨let ⟨fd, F⟩ := c.def_ 8 rfl; ⟨_, fd, F, FunD.bindsN F fun _ _ _ _ _ _ us hl => match us, hl with | [_, _, _, _], _ => rfl⟩, sc_first_wrong, fun k => d_first_wrong T⟩,
    p_above_fits := ⟨let ⟨fd, F⟩ := c.def_ 9 rfl; ⟨_, fd, F, FunD.bindsN F fun _ _ _ _ _ _ us hl => match us, hl with | [_, _, _], _ => rfl⟩, sc_above_fits, fun k => d_above_fits T⟩,
    p_sets_fit := ⟨let ⟨fd, F⟩ := c.def_ 10 rfl; ⟨_, fd, F, FunD.bindsN F fun _ _ _ _ _ _ us hl => match us, hl with | [_, _, _], _ => rfl⟩, sc_sets_fit, fun k => d_sets_fit T⟩,
    p_places := ⟨let ⟨fd, F⟩ := c.def_ 11 rfl; ⟨_, fd, F, FunD.bindsN F fun _ _ _ _ _ _ us hl => match us, hl with | [_], _ => rfl⟩, sc_places, fun k => d_places T⟩,
    p_gather := ⟨let ⟨fd, F⟩ := c.def_ 12 rfl; ⟨_, fd, F, FunD.bindsN F fun _ _ _ _ _ _ us hl => match us, hl with | [_, _, _, _], _ => rfl⟩, sc_gather, fun k => d_gather T⟩,
    p_branch_at := ⟨let ⟨fd, F⟩ := c.def_ 13 rfl; ⟨_, fd, F, FunD.bindsN F fun _ _ _ _ _ _ us hl => match us, hl with | [_, _], _ => rfl⟩, sc_branch_atX, fun k => d_branch_atX T⟩,
    p_is_place := ⟨let ⟨fd, F⟩ := c.def_ 14 rfl; ⟨_, fd, F, FunD.bindsN F fun _ _ _ _ _ _ us hl => match us, hl with | [_, _], _ => rfl⟩, sc_is_place, fun k => d_is_place T⟩,
    p_branch_paths := ⟨let ⟨fd, F⟩ := c.def_ 15 rfl; ⟨_, fd, F, FunD.bindsN F fun _ _ _ _ _ _ us hl => match us, hl with | [_], _ => rfl⟩, sc_branch_paths, fun k => d_branch_paths T⟩,
    p_law_box := ⟨let ⟨fd, F⟩ := c.def_ 16 rfl; ⟨_, fd, F, FunD.bindsN F fun _ _ _ _ _ _ us hl => match us, hl with | [_], _ => rfl⟩, sc_law_box, fun k => d_law_box T⟩,
    p_law_pick := ⟨let ⟨fd, F⟩ := c.def_ 17 rfl; ⟨_, fd, F, FunD.bindsN F fun _ _ _ _ _ _ us hl => match us, hl with | [_, _], _ => rfl⟩, sc_law_pick, fun k => d_law_pick T⟩,
    p_law_some := ⟨let ⟨fd, F⟩ := c.def_ 18 rfl; ⟨_, fd, F, FunD.bindsN F fun _ _ _ _ _ _ us hl => match us, hl with | [_, _], _ => rfl⟩, sc_law_some, fun k => d_law_some T⟩,
    p_law_meet := ⟨let ⟨fd, F⟩ := c.def_ 19 rfl; ⟨_, fd, F, FunD.bindsN F fun _ _ _ _ _ _ us hl => match us, hl with | [_, _], _ => rfl⟩, sc_law_meet, fun k => d_law_meet T⟩,
    p_law_sets := ⟨let ⟨fd, F⟩ := c.def_ 20 rfl; ⟨_, fd, F, FunD.bindsN F fun _ _ _ _ _ _ us hl => match us, hl with | [_, _], _ => rfl⟩, sc_law_sets, fun k => d_law_sets T⟩,
    p_law_rep := ⟨let ⟨fd, F⟩ := c.def_ 21 rfl; ⟨_, fd, F, FunD.bindsN F fun _ _ _ _ _ _ us hl => match us, hl with | [_, _, _], _ => rfl⟩, sc_law_rep, fun k => d_law_rep T⟩,
    p_law_words := ⟨let ⟨fd, F⟩ := c.def_ 22 rfl; ⟨_, fd, F, FunD.bindsN F fun _ _ _ _ _ _ us hl => match us, hl with | [_], _ => rfl⟩, sc_law_words, fun k => d_law_words T⟩,
    p_law_made := ⟨let ⟨fd, F⟩ := c.def_ 23 rfl; ⟨_, fd, F, FunD.bindsN F fun _ _ _ _ _ _ us hl => match us, hl with | [_], _ => rfl⟩, sc_law_made_k83, fun k => d_law_made_k83 T⟩,
    p_law_shared := ⟨let ⟨fd, F⟩ := c.def_ 24 rfl; ⟨_, fd, F, FunD.bindsN F fun _ _ _ _ _ _ us hl => match us, hl with | [_, _], _ => rfl⟩, sc_law_shared, fun k => d_law_shared T⟩,
    p_law_walk := ⟨let ⟨fd, F⟩ := c.def_ 25 rfl; ⟨_, fd, F, FunD.bindsN F fun _ _ _ _ _ _ us hl => match us, hl with | [_, _, _, _], _ => rfl⟩, sc_law_walk, fun k => d_law_walk T⟩,
    p_law_paths := ⟨let ⟨fd, F⟩ := c.def_ 26 rfl; ⟨_, fd, F, FunD.bindsN F fun _ _ _ _ _ _ us hl => match us, hl with | [_, _], _ => rfl⟩, sc_law_paths, fun k => d_law_paths T⟩,
    p_law_elsewhere := ⟨let ⟨fd, F⟩ := c.def_ 27 rfl; ⟨_, fd, F, FunD.bindsN F fun _ _ _ _ _ _ us hl => match us, hl with | [_, _], _ => rfl⟩, sc_law_elsewhere, fun k => d_law_elsewhere T⟩,
    p_law_refused := ⟨let ⟨fd, F⟩ := c.def_ 28 rfl; ⟨_, fd, F, FunD.bindsN F fun _ _ _ _ _ _ us hl => match us, hl with | [_, _], _ => rfl⟩, sc_law_refused, fun k => d_law_refused T⟩,
    p_law_odd := ⟨let ⟨fd, F⟩ := c.def_ 29 rfl; ⟨_, fd, F, FunD.bindsN F fun _ _ _ _ _ _ us hl => match us, hl with | [_, _, _], _ => rfl⟩, sc_law_odd, fun k => d_law_odd T⟩,
    p_law := ⟨let ⟨fd, F⟩ := c.def_ 30 rfl; ⟨_, fd, F, FunD.bindsN F fun _ _ _ _ _ _ us hl => match us, hl with | [_], _ => rfl⟩, sc_law_k85, fun k => d_law_k85 T⟩,
    p_Leaf_words := ⟨let ⟨fd, F⟩ := c.def_ 31 rfl; ⟨_, fd, F, FunD.bindsN F fun _ _ _ _ _ _ us hl => match us, hl with | [_], _ => rfl⟩, sc_Leaf_words, fun k => d_Leaf_words T⟩,
    p_Leaf_eq := ⟨let ⟨fd, F⟩ := c.def_ 32 rfl; ⟨_, fd, F, FunD.bindsN F fun _ _ _ _ _ _ us hl => match us, hl with | [_, _], _ => rfl⟩, sc_Leaf_eq, fun k => d_Leaf_eq T⟩,
    p_Leaf_len := ⟨let ⟨fd, F⟩ := c.def_ 33 rfl; ⟨_, fd, F, FunD.bindsN F fun _ _ _ _ _ _ us hl => match us, hl with | [_], _ => rfl⟩, sc_Leaf_len, fun k => d_Leaf_len T⟩,
    p_Leaf_str := ⟨let ⟨fd, F⟩ := c.def_ 34 rfl; ⟨_, fd, F, FunD.bindsN F fun _ _ _ _ _ _ us hl => match us, hl with | [_], _ => rfl⟩, sc_Leaf_str, fun k => d_Leaf_str T⟩,
    p_Leaf_halls := ⟨let ⟨fd, F⟩ := c.def_ 35 rfl; ⟨_, fd, F, FunD.bindsN F fun _ _ _ _ _ _ us hl => match us, hl with | [_], _ => rfl⟩, sc_Part_halls, fun k => d_Part_halls T⟩,
    p_Leaf_deep := ⟨let ⟨fd, F⟩ := c.def_ 36 rfl; ⟨_, fd, F, FunD.bindsN F fun _ _ _ _ _ _ us hl => match us, hl with | [_], _ => rfl⟩, sc_Part_deep, fun k => d_Part_deep T⟩,
    p_Branch_init := let ⟨fd, F⟩ := c.def_ 37 rfl; PtB.of F rfl (fun _ _ _ _ _ _ _ _ _ _ _ => ⟨_, _, _, _, _, _, rfl, rfl, ⟨_, _, _, _, _, _, rfl, rfl, rfl⟩⟩) (fun _ _ _ _ _ _ _ _ _ _ _ => rfl) (fun _ _ _ _ _ _ _ _ _ _ _ => ⟨_, _, _, _, _, _, rfl, rfl, rfl⟩) (fun _ _ _ _ _ _ _ _ _ _ _ => ⟨_, _, _, _, _, _, rfl, rfl, rfl⟩) (fun _ _ _ _ _ _ _ _ _ _ _ => rfl) sc_Branch_init (fun k => d_Branch_init T),
    p_Branch_words := ⟨let ⟨fd, F⟩ := c.def_ 38 rfl; ⟨_, fd, F, FunD.bindsN F fun _ _ _ _ _ _ us hl => match us, hl with | [_], _ => rfl⟩, sc_Branch_words, fun k => d_Branch_words T⟩,
    p_Branch_halls := ⟨let ⟨fd, F⟩ := c.def_ 39 rfl; ⟨_, fd, F, FunD.bindsN F fun _ _ _ _ _ _ us hl => match us, hl with | [_], _ => rfl⟩, sc_Branch_halls, fun k => d_Branch_halls T⟩,
    p_Branch_deep := ⟨let ⟨fd, F⟩ := c.def_ 40 rfl; ⟨_, fd, F, FunD.bindsN F fun _ _ _ _ _ _ us hl => match us, hl with | [_], _ => rfl⟩, sc_Branch_deep, fun k => d_Branch_deep T⟩,
    p_Branch_eq := ⟨let ⟨fd, F⟩ := c.def_ 41 rfl; ⟨_, fd, F, FunD.bindsN F fun _ _ _ _ _ _ us hl => match us, hl with | [_, _], _ => rfl⟩, sc_Branch_eq, fun k => d_Branch_eq T⟩,
    p_Branch_len := ⟨let ⟨fd, F⟩ := c.def_ 42 rfl; ⟨_, fd, F, FunD.bindsN F fun _ _ _ _ _ _ us hl => match us, hl with | [_], _ => rfl⟩, sc_Branch_len, fun k => d_Branch_len T⟩,
    p_Branch_str := ⟨let ⟨fd, F⟩ := c.def_ 43 rfl; ⟨_, fd, F, FunD.bindsN F fun _ _ _ _ _ _ us hl => match us, hl with | [_], _ => rfl⟩, sc_Branch_str, fun k => d_Branch_str T⟩,
    p_NoPath_init := ⟨let ⟨fd, F⟩ := c.def_ 44 rfl; ⟨_, fd, F, FunD.bindsN F fun _ _ _ _ _ _ us hl => match us, hl with | [_, _], _ => rfl⟩, sc_NoPath_init, fun k => d_NoPath_init T⟩ }
local macro_rules | `(tactic| walk_at "mem") => `(tactic| first
  | with_reducible assumption
  | with_reducible exact List.mem_cons_self
  | with_reducible exact List.mem_cons_of_mem _ List.mem_cons_self
  | with_reducible exact List.mem_cons_of_mem _ (List.mem_cons_of_mem _ List.mem_cons_self)
  | with_reducible exact List.mem_cons_of_mem _ (List.mem_cons_of_mem _ (List.mem_cons_of_mem _ List.mem_cons_self))
  | with_reducible exact List.mem_cons_of_mem _ (List.mem_cons_of_mem _ (List.mem_cons_of_mem _ (List.mem_cons_of_mem _ List.mem_cons_self)))
  | (with_reducible refine List.mem_cons_of_mem _ (List.mem_cons_of_mem _ (List.mem_cons_of_mem _ (List.mem_cons_of_mem _ (List.mem_cons_of_mem _ ?_)))); walk_at "mem")
  | with_reducible exact List.mem_cons_of_mem _ (by with_reducible assumption)
  | with_reducible exact List.mem_cons_of_mem _ (List.mem_cons_of_mem _ (by with_reducible assumption))
  | with_reducible exact List.mem_cons_of_mem _ (List.mem_cons_of_mem _ (List.mem_cons_of_mem _ (by with_reducible assumption)))
  | with_reducible exact List.mem_cons_of_mem _ (List.mem_cons_of_mem _ (List.mem_cons_of_mem _ (List.mem_cons_of_mem _ (by with_reducible assumption)))))
local macro_rules | `(tactic| walk_at "lk") => `(tactic| (simp (disch := decide +kernel) only [lk_eq, lk_ne]; exact rfl))
local macro_rules | `(tactic| walk_at "lkn") => `(tactic| (simp (disch := decide +kernel) only [lk_nil, lk_ne]))
local macro_rules | `(tactic| walk_at "pf") => `(tactic| (simp (disch := decide +kernel) only [pf_eq, pf_ne, pf_nil]; exact rfl))
local macro_rules | `(tactic| walk_at "ati") => `(tactic| first
  | with_reducible exact at0
  | with_reducible exact at1
  | with_reducible exact at2
  | with_reducible exact at3
  | with_reducible exact at4
  | with_unfolding_all exact rfl)
local macro_rules | `(tactic| walk_at "sz") => `(tactic| (refine sl_of ?_; simp only [List.length_cons, List.length_nil]; omega))
local macro_rules | `(tactic| walk_at "set") => `(tactic| (simp only [wipe, List.foldl_cons, List.foldl_nil, List.set]; exact rfl))
local macro_rules | `(tactic| walk_at "norm") => `(tactic| with_reducible conv => whnf)
set_option hygiene false
local macro_rules | `(tactic| walk_at "spm") => `(tactic| first
  | with_reducible exact spR
  | (with_reducible refine sp0 ?_; walk_at "spm")
  | (with_reducible refine sp1 ?_; walk_at "spm")
  | (with_reducible refine sp2 ?_; walk_at "spm")
  | (with_reducible refine sp3 ?_; walk_at "spm")
  | (with_reducible refine sp4 ?_; walk_at "spm")
  | (with_reducible refine sp5 ?_; walk_at "spm")
  | (with_reducible refine sp6 ?_; walk_at "spm")
  | (with_reducible refine sp7 ?_; walk_at "spm")
  | (with_reducible refine spS ?_; walk_at "spm"))
local macro_rules | `(tactic| walk_at "spm9") => `(tactic| first
  | exact spR
  | exact spN
  | (refine sp0 ?_; walk_at "spm9")
  | (refine sp1 ?_; walk_at "spm9")
  | (refine sp2 ?_; walk_at "spm9")
  | (refine sp3 ?_; walk_at "spm9")
  | (refine sp4 ?_; walk_at "spm9")
  | (refine sp5 ?_; walk_at "spm9")
  | (refine sp6 ?_; walk_at "spm9")
  | (refine sp7 ?_; walk_at "spm9")
  | (refine spS ?_; walk_at "spm9"))
local macro_rules | `(tactic| walk_at "sub") => `(tactic| first
  | with_reducible exact fsR
  | with_reducible assumption
  | (with_reducible refine fsT ?_; walk_at "sub")
  | (with_reducible refine fsC (by walk_at "mem") ?_; walk_at "sub")
  | with_reducible exact fsN)
local macro_rules | `(tactic| walk_at "wd") => `(tactic| exact W.arr (by walk_at "spm") (by walk_at "sub"))
local macro_rules | `(tactic| walk_at "fr") => `(tactic| first
  | with_reducible exact W
  | with_reducible exact W.mv1
  | with_reducible exact W.mv2
  | with_reducible exact W.mv3
  | with_reducible exact W.mv4
  | with_reducible exact W.mv5
  | with_reducible exact W.mv6)
local macro_rules | `(tactic| walk_at "app") => `(tactic| (with_reducible refine k_app (by walk_at "fr") (sl_lt (by first | omega | (simp only [List.length_append, List.length_cons, List.length_nil, List.length_map]; omega))) ?_; clear W; (try clear H); intro H W))
local macro_rules | `(tactic| walk_at "st") => `(tactic| first
  | with_reducible refine k_var (by with_unfolding_all exact rfl) ?_
  | with_reducible refine k_store (by walk_at "set") ?_
  | with_reducible refine k_B ?_
  | (with_reducible refine g_kIf ?_; first
    | with_reducible refine k_ift ?_
    | with_reducible refine k_iff ?_
    | with_reducible refine k_nft ?_
    | with_reducible refine k_nff ?_
    | with_reducible refine k_ifT (by decide +kernel) ?_
    | with_reducible refine k_ifF (by decide +kernel) ?_)
  | (with_reducible refine g_kIx ?_; first
    | with_reducible refine k_ix_l W (by walk_at "mem") (by walk_at "ati") ?_
    | with_reducible refine k_ix_Tm W (by walk_at "mem") (by walk_at "ati") ?_
    | with_reducible refine k_ix_t W (by walk_at "mem") (by walk_at "ati") ?_
    | with_reducible refine k_ix_Lm W (by walk_at "mem") (by walk_at "ati") ?_)
  | (with_reducible refine g_kFld ?_; first
    | with_reducible refine k_fldC W (by walk_at "mem") (by with_reducible assumption) (by walk_at "lk") (by walk_at "mem") ?_
    | with_reducible refine k_fldI W (by walk_at "mem") (by with_reducible assumption) (by walk_at "lk") (by walk_at "mem") ?_)
  | (with_reducible refine g_kSetF ?_; with_reducible refine k_setFC (by walk_at "fr") (by with_reducible assumption) (by walk_at "pf") (by simp) (by walk_at "mem") ?_; clear W; (try clear H); intro H W)
  | (with_reducible refine g_kEq ?_; first
    | with_reducible refine k_eq_ii ?_
    | with_reducible refine k_eq_ss ?_)
  | (with_reducible refine g_kNe ?_; first
    | with_reducible refine k_ne_ii ?_
    | with_reducible refine k_ne_ss ?_)
  | (with_reducible refine g_kIsi ?_; first
    | with_reducible refine k_isi_int (b := true) (by decide +kernel) ?_
    | with_reducible refine k_isi_int (b := false) (by decide +kernel) ?_
    | with_reducible refine k_isi_Tm (b := true) W (by walk_at "mem") (by decide +kernel) ?_
    | with_reducible refine k_isi_Tm (b := false) W (by walk_at "mem") (by decide +kernel) ?_
    | with_reducible refine k_isi_Lm (b := true) W (by walk_at "mem") (by decide +kernel) ?_
    | with_reducible refine k_isi_Lm (b := false) W (by walk_at "mem") (by decide +kernel) ?_
    | with_reducible refine k_isi_l (b := true) W (by walk_at "mem") (by decide +kernel) ?_
    | with_reducible refine k_isi_l (b := false) W (by walk_at "mem") (by decide +kernel) ?_
    | with_reducible refine k_isi_t (b := true) W (by walk_at "mem") (by decide +kernel) ?_
    | with_reducible refine k_isi_t (b := false) W (by walk_at "mem") (by decide +kernel) ?_
    | with_reducible refine k_isi_bl (b := true) (by decide +kernel) ?_
    | with_reducible refine k_isi_bl (b := false) (by decide +kernel) ?_
    | with_reducible refine k_isi_str (b := true) (by decide +kernel) ?_
    | with_reducible refine k_isi_str (b := false) (by decide +kernel) ?_
    | with_reducible refine k_isi_non (b := true) (by decide +kernel) ?_
    | with_reducible refine k_isi_non (b := false) (by decide +kernel) ?_)
  | (with_reducible refine g_kTru ?_; first
    | with_reducible refine k_tru_bl ?_
    | with_reducible refine k_tru_int ?_
    | with_reducible refine k_tru_non ?_
    | with_reducible refine k_tru_l W (by walk_at "mem") ?_)
  | (with_reducible refine g_kLen ?_; first
    | with_reducible refine k_len_Tm W (by walk_at "mem") ?_
    | with_reducible refine k_len_Lm W (by walk_at "mem") ?_
    | with_reducible refine k_len_l W (by walk_at "mem") ?_
    | with_reducible refine k_len_t W (by walk_at "mem") ?_)
  | (with_reducible refine g_kGet ?_; with_reducible refine k_get_l W (by walk_at "mem") (by walk_at "ati") ?_)
  | (with_reducible refine g_kSet ?_; (first
    | with_reducible refine k_set0 (by walk_at "fr") ?_
    | with_reducible refine k_set1 (by walk_at "fr") ?_
    | with_reducible refine k_set2 (by walk_at "fr") ?_
    | with_reducible refine k_set3 (by walk_at "fr") ?_
    | with_reducible refine k_set4 (by walk_at "fr") ?_); clear W; (try clear H); intro H W)
  | with_reducible refine k_add_ii ?_
  | with_reducible refine k_sub ?_
  | with_reducible refine k_chain ?_
  | with_reducible refine k_lt ?_
  | with_reducible refine k_le ?_
  | with_reducible refine k_gt ?_
  | with_reducible refine k_ge ?_
  | (with_reducible refine g_kNotV ?_; with_reducible refine k_notV_bl ?_)
  | (with_reducible refine g_kAndV ?_; with_reducible refine k_andV_bl ?_)
  | (with_reducible refine g_kOrV ?_; with_reducible refine k_orV_bl ?_)
  | (with_reducible refine g_kUnp ?_; first
    | with_reducible refine k_unp_Tm W (by walk_at "mem") (by with_unfolding_all exact rfl) ?_
    | with_reducible refine k_unp (W.st (by walk_at "mem")) (by with_unfolding_all exact rfl) ?_)
  | with_reducible refine k_gcons ?_
  | with_reducible refine k_gnil ?_
  | with_reducible refine k_isN ?_
  | with_reducible refine k_notN ?_
  | with_reducible refine k_ipadd ?_
  | with_reducible refine k_part ?_
  | (with_reducible refine g_kBM ?_; with_reducible refine k_bm_l W (by walk_at "mem") ?_)
  | (with_reducible refine g_kLst ?_; with_reducible refine k_lst W (by walk_at "sz") ?_; clear W; (try clear H); intro _ H W)
  | (with_reducible refine g_kTup ?_; with_reducible refine k_tup W (by walk_at "sz") ?_; clear W; (try clear H); intro _ H W)
  | (with_reducible refine g_kIter ?_; first
    | with_reducible refine k_iter_Tm W (by walk_at "mem") ?_
    | with_reducible refine k_iter_Lm W (by walk_at "mem") ?_
    | with_reducible refine k_iter_l W (by walk_at "mem") ?_
    | with_reducible refine k_iter_S ?_)
  | with_reducible refine k_I ?_
  | with_reducible refine k_abs ?_
  | with_reducible refine k_max2 ?_
  | (with_reducible refine k_pop0 (by walk_at "fr") ?_; clear W; (try clear H); intro H W)
  | with_reducible refine k_ipsub ?_
  | with_reducible refine k_var1 (by with_unfolding_all exact rfl) ?_
  | with_reducible refine k_par (by walk_at "set") ?_
  | with_reducible refine k_isB ?_
  | with_reducible refine k_isNB ?_
  | with_reducible refine k_band ?_
  | with_reducible refine k_ipor ?_
  | with_reducible refine k_bits ?_
  | (with_reducible refine g_kLenO ?_; first
    | with_reducible refine k_lenO (k_len_Tm W (by walk_at "mem") ?_)
    | with_reducible refine k_lenO (k_len_Lm W (by walk_at "mem") ?_)
    | with_reducible refine k_lenO (k_len_l W (by walk_at "mem") ?_)
    | with_reducible refine k_lenO (k_len_t W (by walk_at "mem") ?_)))
set_option hygiene true
local macro_rules | `(tactic| walk_at "rd") => `(tactic| (walk_at "norm"; repeat (walk_at "st"; walk_at "norm")))
structure BxOk (cells : List Int) (b1 b2 b3 n : Int) : Prop where
  cells : ∀ c ∈ cells, c.natAbs < 2 ^ 1048576
  p1 : 0 ≤ b1
  p2 : 0 ≤ b2
  l2 : b2 ≤ n
  p3 : 0 ≤ b3
  l3 : b3 < 10 ^ 18
abbrev bxO (cl : Addr) (b1 b2 b3 : Int) : HO := .lst [.ref cl, .int b1, .int b2, .int b3]
abbrev clO (cells : List Int) : HO := .lst (cells.map V.int)
def spPick : Sp := fun vs H Q _ => ∃ (bx cl : Addr) (cells : List Int) (b1 b2 b3 m n : Int) (L : Ow) (D : List Fct), vs = [.ref bx, .int m] ∧ 0 < m ∧ m < 2 ^ 64 ∧ BxOk cells b1 b2 b3 n ∧ n < 2 ^ 60 ∧ Wd ((bx, bxO cl b1 b2 b3) :: (cl, clO cells) :: L) D H ∧
  ∀ (r : Int) (cells : List Int) (b1 b2 b3 : Int) H', 0 ≤ r → r < m → BxOk cells b1 b2 b3 (n + 1) → Wd ((bx, bxO cl b1 b2 b3) :: (cl, clO cells) :: L) D H' → Q (.int r) H'
theorem pow_lt {i j : Int} (h0 : 0 ≤ i) (h : i ≤ j) {n : Nat} (hj : j.natAbs < 2 ^ n) : i.natAbs < 2 ^ n := by omega
theorem natAbs_lt_of {i : Int} {n : Nat} (h0 : 0 ≤ i) (h : i < 2 ^ n) : i.natAbs < 2 ^ n := by
  have e : ((2 ^ n : Nat) : Int) = (2 : Int) ^ n := by simp
  omega
theorem bits_le {i : Int} {n : Nat} (h : i.natAbs < 2 ^ n) : Builtin.Int.intBits i ≤ n := by
  unfold Builtin.Int.intBits
  split
  · omega
  · rename_i h0
    have : i.natAbs ≠ 0 := by simpa using h0
    exact Nat.lt_iff_add_one_le.mp ((Nat.log2_lt this).mpr h)
theorem ten18 : ((10 : Int) ^ (18 : Int).toNat) = 1000000000000000000 := by decide +kernel
theorem cpow_10_18 : CPowW 10 18 := ⟨by decide, by decide +kernel⟩
theorem lg {a : Nat} {n : Nat} (h : a < 2 ^ n) (h0 : 0 < n) : a.log2 < n := by
  by_cases e : a = 0
  · subst e
    simpa using h0
  · exact (Nat.log2_lt e).mpr h
theorem bx_pow {a b : Int} (h0 : 0 ≤ a) (h1 : a < 10 ^ 18) (h2 : 0 ≤ b) (h3 : b < 2 ^ 61) : CPowW (a * (2 * b + 3) + 104729 * b + 17) 3 := by
  have e1 : (a * (2 * b + 3)).natAbs < 2 ^ (60 + 63) := wide_lt (natAbs_lt_of h0 (by omega)) (natAbs_lt_of (by omega) (by omega))
  have e2 : (a * (2 * b + 3) + 104729 * b + 17).natAbs < 2 ^ 124 := by omega
  have e3 := bits_le e2
  exact ⟨by decide, by omega⟩
theorem w_pick {g : G} {A : Around} {vs : List V} {H : Hp} {Q : VK} {E : XK} (h : spPick vs H Q E) : t_law_pick g A { nx := fun _ H' => Q .non H', rt := Q } (start ["box", "many", "cell", "told", "mixed"] vs) H := by
  obtain ⟨bx, cl, cells, b1, b2, b3, m, n, L, D, rfl, h0, hm, ⟨oc, o1, o2, o3, o4, o5⟩, hn, W, k⟩ := h
  rw [e_law_pick]
  show r_law_pick g A _ [some (.ref bx), some (.int m), none, none, none] H
  unfold r_law_pick
  walk_at "rd"
  refine k_cut (fun σ H => ∃ (c : Option V) (cells : List Int) (b1 b2 b3 : Int), σ = [some (.ref bx), some (.int m), c, none, none] ∧ BxOk cells b1 b2 b3 (n + 1) ∧ Wd ((bx, bxO cl b1 b2 b3) :: (cl, clO cells) :: L) D H) ?_ ?_
  · walk_at "rd"
    refine k_ifd (fun hb => ?_) (fun hb => ?_)
    · walk_at "rd"
      cases cells with
      | nil => exact k_iff ⟨none, [], b1, b2 + 1, b3, rfl, ⟨oc, o1, by omega, by omega, o4, o5⟩, W⟩
      | cons c r =>
        refine k_ift ?_
        have oc1 := oc c List.mem_cons_self
        rw [clO, List.map_cons] at W
        walk_at "rd"
        refine k_pow cpow_10_18 ?_
        rw [ten18]
        walk_at "rd"
        refine k_ifd (fun hc => ?_) (fun hc => ?_)
        · walk_at "rd"
          refine ⟨_, r, _, _, _, rfl, ⟨fun x hx => oc x (List.mem_cons_of_mem _ hx), ?_, by omega, by omega, o4, o5⟩, W⟩
          split <;> omega
        · walk_at "rd"
          refine k_mul (wide_mul (a := 64) (b := 6) (natAbs_lt_of o4 (by omega)) (by decide) (by decide) (by decide) (by decide)) ?_
          walk_at "rd"
          refine k_pow cpow_10_18 ?_
          rw [ten18]
          refine k_mod (by decide) ?_
          walk_at "rd"
          exact ⟨_, r, _, _, _, rfl, ⟨fun x hx => oc x (List.mem_cons_of_mem _ hx), o1, by omega, by omega, Int.emod_nonneg _ (by decide), Int.emod_lt_of_pos _ (by decide)⟩, W⟩
    · walk_at "rd"
      exact ⟨none, cells, b1, b2 + 1, b3, rfl, ⟨oc, o1, by omega, by omega, o4, o5⟩, W⟩
  · rintro σ H ⟨c, cells, b1, b2, b3, rfl, ⟨oc, o1, o2, o3, o4, o5⟩, W⟩
    walk_at "rd"
    refine k_ifd (fun hb => ?_) (fun hb => ?_)
    · walk_at "rd"
      refine k_mod h0 ?_
      walk_at "rd"
      refine k_div (wide_div (b := 64) h0 (natAbs_lt_of (Int.le_of_lt h0) hm) (by decide) (by decide)) ?_
      walk_at "rd"
      exact k _ cells _ b2 b3 _ (Int.emod_nonneg _ (by omega)) (Int.emod_lt_of_pos _ h0) ⟨oc, Int.ediv_nonneg o1 (Int.le_of_lt h0), o2, o3, o4, o5⟩ W
    · walk_at "rd"
      refine k_mul (wide_mul (a := 2) (b := 64) (by decide) (natAbs_lt_of o2 (by omega)) (by decide) (by decide) (by decide)) ?_
      walk_at "rd"
      refine k_mul (wide_mul (a := 64) (b := 70) (natAbs_lt_of o4 (by omega)) (natAbs_lt_of (by omega) (by omega)) (by decide) (by decide) (by decide)) ?_
      walk_at "rd"
      refine k_mul (wide_mul (a := 20) (b := 64) (by decide) (natAbs_lt_of o2 (by omega)) (by decide) (by decide) (by decide)) ?_
      walk_at "rd"
      refine k_pow (bx_pow o4 o5 o2 (by omega)) ?_
      walk_at "rd"
      refine k_mod (by decide) ?_
      walk_at "rd"
      refine k_div ⟨by decide, by decide +kernel⟩ ?_
      walk_at "rd"
      refine k_mod h0 ?_
      walk_at "rd"
      exact k _ cells b1 b2 b3 _ (Int.emod_nonneg _ (by omega)) (Int.emod_lt_of_pos _ h0) ⟨oc, o1, o2, o3, o4, o5⟩ W
def optS : Option Str → V
  | none => .non
  | some w => .str w
theorem at_nat {xs : List V} {i : Nat} {v : V} (h : xs[i]? = some v) : atI xs (i : Int) = some v := by
  have hi := (List.getElem?_eq_some_iff.mp h).1
  unfold atI ixN
  rw [if_pos (Int.natCast_nonneg i), if_pos (by omega)]
  simpa using h
theorem rising_iff : ∀ {s : List Int}, risingB s = true ↔ ∀ (i : Nat) (a b : Int), s[i]? = some a → s[i + 1]? = some b → a < b
  | [] => by simp [risingB]
  | [a] => by simp [risingB]
  | a :: b :: r => by
    have ih := rising_iff (s := b :: r)
    unfold risingB
    rw [Bool.and_eq_true, ih]
    constructor
    · rintro ⟨h1, h2⟩ i x y hx hy
      cases i with
      | zero =>
        simp at hx hy
        subst hx hy
        simpa using h1
      | succ i => exact h2 i x y (by simpa using hx) (by simpa using hy)
    · intro h
      exact ⟨by simpa using h 0 a b rfl rfl, fun i x y hx hy => h (i + 1) x y (by simpa using hx) (by simpa using hy)⟩
def spWordOf (g : G) : Sp := fun vs H Q _ => ∃ n a s L D, vs = [.int n, .ref a] ∧ isT g.K a (s.map V.int) ∈ D ∧ s.length ≤ 1000000 ∧ Wd L D H ∧ ∀ H', Wd L D H' → Q (optS (wordOf n s)) H'
theorem w_word_of {g : G} {A : Around} {vs : List V} {H : Hp} {Q : VK} {E : XK} (h : spWordOf g vs H Q E) : t_word_of g A { nx := fun _ H' => Q .non H', rt := Q } (start ["seats", "one", "seat", "k"] vs) H := by
  obtain ⟨n, a, s, L, D, rfl, hs, hl, W, k⟩ := h
  have kk : ∀ (w : Option Str), wordOf n s = w → ∀ H', Wd L D H' → Q (optS w) H' := fun w e H' W' => by
    subst e
    exact k H' W'
  rw [e_word_of]
  show r_word_of g A _ [some (.int n), some (.ref a), none, none] H
  unfold r_word_of
  walk_at "rd"
  rw [List.length_map]
  refine k_ifd (fun h0 => ?_) (fun h0 => ?_)
  · walk_at "rd"
    have e : s = [] := List.length_eq_zero_iff.mp (by omega)
    exact kk (some "empty") (by unfold wordOf; rw [if_pos e]) _ W
  · have e : s ≠ [] := fun e => h0 (by rw [e]; rfl)
    walk_at "rd"
    refine k_for walk_tup (fun i σ H => (∃ x y, σ = [some (.int n), some (.ref a), x, y]) ∧ (∀ x ∈ s.take i, 0 ≤ x ∧ x < n) ∧ Wd L D H) ⟨⟨_, _, rfl⟩, by simp, W⟩ (fun i σ H _ h => h.2.2.tupl hs) ?_ ?_
    · clear W
      rintro i x σ H H' hi ⟨⟨x2, x3, rfl⟩, hb, W⟩ ⟨rfl, hx⟩
      rw [List.getElem?_map] at hx
      obtain ⟨c, hc, rfl⟩ := Option.map_eq_some_iff.mp hx
      walk_at "rd"
      have bad : ¬ (0 ≤ c ∧ c < n) → wordOf n s = some ("outside" : Str) := fun h => by
        unfold wordOf
        rw [if_neg e, if_pos]
        exact List.all_eq_false.mpr ⟨c, List.mem_of_getElem? hc, fun e => h (of_decide_eq_true e)⟩
      refine k_ifd (fun h1 => ?_) (fun h1 => ?_)
      · walk_at "rd"
        exact kk (some "outside") (bad (by omega)) _ W
      · walk_at "rd"
        refine k_ifd (fun h2 => ?_) (fun h2 => ?_)
        · walk_at "rd"
          exact kk (some "outside") (bad (by omega)) _ W
        · walk_at "rd"
          refine ⟨⟨_, _, rfl⟩, fun x hx => ?_, W⟩
          rw [List.take_add_one, hc] at hx
          rcases List.mem_append.mp hx with hx | hx
          · exact hb x hx
          · have : x = c := by simpa using hx
            omega
    · clear W
      rintro σ H ⟨⟨x2, x3, rfl⟩, hb, W⟩
      rw [List.length_map, List.take_length] at hb
      have hall : ¬ ((s.all fun s => decide (0 ≤ s ∧ s < n)) = false) := fun e => by
        rw [show (s.all fun s => decide (0 ≤ s ∧ s < n)) = true from List.all_eq_true.mpr fun x hx => by simpa using hb x hx] at e
        cases e
      walk_at "rd"
      rw [List.length_map]
      refine k_rng2 (by decide) (by decide) (by omega) (by omega) ?_
      refine k_for walk_range (fun i σ H => (∃ x y, σ = [some (.int n), some (.ref a), x, y]) ∧ (∀ (j : Nat) (x y : Int), j < i → s[j]? = some x → s[j + 1]? = some y → x < y) ∧ Wd L D H) ⟨⟨_, _, rfl⟩, fun _ _ _ h => by omega, W⟩ (fun _ _ _ _ _ => trivial) ?_ ?_
      · clear W
        rintro i x σ H H' hi ⟨⟨x2, x3, rfl⟩, hr, W⟩ ⟨rfl, rfl⟩
        have hi1 : i + 1 < s.length := by omega
        walk_at "rd"
        refine k_ix_Tm W hs (by rw [show (1 + (i : Int) - 1) = ((i : Nat) : Int) from by omega]; exact at_nat (by rw [List.getElem?_map, List.getElem?_eq_getElem (show i < s.length by omega)]; rfl)) ?_
        walk_at "rd"
        refine k_ix_Tm W hs (by rw [show (1 + (i : Int)) = ((i + 1 : Nat) : Int) from by omega]; exact at_nat (by rw [List.getElem?_map, List.getElem?_eq_getElem hi1]; rfl)) ?_
        walk_at "rd"
        refine k_ifd (fun h1 => ?_) (fun h1 => ?_)
        · walk_at "rd"
          refine kk (some "order") ?_ _ W
          unfold wordOf
          rw [if_neg e, if_neg hall, if_neg]
          intro hr
          have := rising_iff.mp hr i _ _ (List.getElem?_eq_getElem (show i < s.length by omega)) (List.getElem?_eq_getElem hi1)
          omega
        · walk_at "rd"
          refine ⟨⟨_, _, rfl⟩, fun j x y hj hx hy => ?_, W⟩
          rcases Nat.lt_or_ge j i with hj2 | hj2
          · exact hr j x y hj2 hx hy
          · have : j = i := by omega
            subst this
            rw [List.getElem?_eq_getElem (show j < s.length by omega)] at hx
            rw [List.getElem?_eq_getElem hi1] at hy
            cases hx
            cases hy
            omega
      · clear W
        rintro σ H ⟨⟨x2, x3, rfl⟩, hr, W⟩
        walk_at "rd"
        refine kk none ?_ _ W
        unfold wordOf
        rw [if_neg e, if_neg hall, if_pos]
        refine rising_iff.mpr fun i x y hx hy => hr i x y ?_ hx hy
        have := (List.getElem?_eq_some_iff.mp hy).1
        omega
theorem valV_keys {ss : List (List Int)} {s : List Int} : (valV (ss.map fun t => (keyI t, V.bl true)) (keyI s)).isSome = decide (s ∈ ss) := by
  induction ss with
  | nil => rfl
  | cons t r ih =>
    unfold valV at ih ⊢
    rw [List.map_cons, List.find?_cons]
    by_cases e : t = s
    · subst e
      simp
    · have e2 : ¬ keyI t = keyI s := fun h => e (keyI_inj h)
      have e3 : ¬ s = t := fun h => e h.symm
      rw [show (decide (((keyI t, V.bl true) : List Key × V).1 = keyI s)) = false from decide_eq_false e2]
      simp only [List.mem_cons, e3, false_or]
      exact ih
theorem put_keys {ss : List (List Int)} {s : List Int} (h : s ∉ ss) : putK (ss.map fun t => (keyI t, V.bl true)) (keyI s) (V.bl true) = (ss ++ [s]).map fun t => (keyI t, V.bl true) := by
  unfold putK
  rw [if_neg, List.map_append]
  · rfl
  · intro e
    obtain ⟨x, hx, e⟩ := List.any_eq_true.mp e
    obtain ⟨t, ht, rfl⟩ := List.mem_map.mp hx
    exact h (by rw [← keyI_inj (of_decide_eq_true e)]; exact ht)
def spFault81 (g : G) : Sp := fun vs H Q _ => ∃ n a svs ss L D, vs = [.int n, .ref a] ∧ (a, HO.lst svs) ∈ L ∧ isSs svs ss ∈ D ∧ ss.length ≤ 1000000 ∧ (∀ s ∈ ss, s.length ≤ 1000000) ∧ Wd L D H ∧
  ∀ v H', (faultF n ss = none → v = .non) → (faultF n ss ≠ none → v ≠ .non) → Wd L D H' → Q v H'
theorem w_fault81 {g : G} {A : Around} {vs : List V} {H : Hp} {Q : VK} {E : XK} {k1 : Nat} (hr1 : Room k1 A) (f1 : GF g k1 "word_of" (spWordOf g)) (h : spFault81 g vs H Q E) : t_fault g A { nx := fun _ H' => Q .non H', rt := Q } (start ["seats", "sets", "known", "at", "one", "word"] vs) H := by
  obtain ⟨n, a, svs, ss, L, D, rfl, ha, hss, hl, hl2, W, k⟩ := h
  have hlen := W.lenSs hss
  rw [e_fault]
  show r_fault g A _ [some (.int n), some (.ref a), none, none, none, none] H
  unfold r_fault
  walk_at "rd"
  refine k_dnewT W ?_
  clear W H
  intro d H W
  walk_at "rd"
  refine k_enum_L (W.sq (List.mem_cons_of_mem _ ha)) ?_
  refine k_for walk_enum (fun i σ H => (∃ x y z, σ = [some (.int n), some (.ref a), some (.ref d), x, y, z]) ∧ faultF n ss = faultGo n i (ss.take i) (ss.drop i) ∧ Wd ((d, .dT ((ss.take i).map fun t => (keyI t, V.bl true))) :: L) D H)
    ⟨⟨_, _, _, rfl⟩, rfl, W⟩ (fun i σ H _ h => h.2.2.sq (List.mem_cons_of_mem _ ha)) ?_ ?_
  · clear W H
    rintro i x σ H H' hi ⟨⟨x3, x4, x5, rfl⟩, hf, W⟩ ⟨T, y, z, rfl, hT, rfl, ey, ez⟩
    cases ey
    obtain ⟨e, s, rfl, hs, W0⟩ := W.itemS hss ez
    have W1 := W0.itT (K := g.K) List.mem_cons_self
    have hT2 : H T = none := hT
    have W2 := W1.new hT (.tup [.int (i : Nat), .ref e])
    have hss2 : ss.drop i = s :: ss.drop (i + 1) := by
      have := (List.getElem?_eq_some_iff.mp hs).1
      rw [List.drop_eq_getElem_cons this]
      congr 1
      rw [List.getElem?_eq_getElem this] at hs
      exact Option.some.inj hs
    have htk : ss.take (i + 1) = ss.take i ++ [s] := by rw [List.take_add_one, hs]; rfl
    rw [hss2, faultGo] at hf
    clear W W0 W1 hT hT2
    have W := W2
    clear W2
    walk_at "rd"
    refine k_call f1 hr1 ⟨n, e, s, _, _, rfl, by walk_at "mem", hl2 s (List.mem_of_getElem? hs), W, ?_⟩
    clear W
    intro H W
    walk_at "rd"
    refine k_cut (fun σ H => ∃ w, σ = [some (.int n), some (.ref a), some (.ref d), some (.int (i : Nat)), some (.ref e), some (optS w)] ∧ (w = none → wordOf n s = none ∧ s ∉ ss.take i) ∧ (w ≠ none → faultF n ss ≠ none) ∧ Wd ((d, .dT ((ss.take i).map fun t => (keyI t, V.bl true))) :: L) (isI e (.tup (s.map V.int)) :: D) H) ?_ ?_
    · walk_at "rd"
      cases hw : wordOf n s with
      | some w =>
        rw [hw] at hf
        refine k_ifn (by simp [optS]) ?_
        walk_at "rd"
        exact ⟨some w, rfl, (fun h => (by cases h)), fun _ => by rw [hf]; simp, W.dO.arr (by walk_at "spm") (by walk_at "sub")⟩
      | none =>
        rw [hw] at hf
        refine k_ifp rfl ?_
        walk_at "rd"
        refine k_in_dT W (by walk_at "mem") (List.mem_cons_of_mem _ List.mem_cons_self) ?_
        walk_at "rd"
        rw [valV_keys]
        refine k_ifd (fun hk => ?_) (fun hk => ?_)
        · walk_at "rd"
          rw [if_pos hk] at hf
          exact ⟨some "again", rfl, (fun h => (by cases h)), fun _ => by rw [hf]; simp, W.dO.arr (by walk_at "spm") (by walk_at "sub")⟩
        · walk_at "rd"
          exact ⟨none, rfl, fun _ => ⟨rfl, hk⟩, fun h => absurd rfl h, W.dO.arr (by walk_at "spm") (by walk_at "sub")⟩
    · clear W H
      rintro σ H ⟨w, rfl, h1, h2, W⟩
      walk_at "rd"
      cases w with
      | some w =>
        refine k_ifnn (by simp [optS]) ?_
        walk_at "rd"
        exact k _ _ (fun h => absurd h (h2 (by simp))) (fun _ => by simp) (W.arr (by walk_at "spm") (by walk_at "sub"))
      | none =>
        refine k_ifnp rfl ?_
        obtain ⟨h3, h4⟩ := h1 rfl
        rw [h3] at hf
        simp only [] at hf
        rw [if_neg h4] at hf
        walk_at "rd"
        refine k_set_dT (by walk_at "fr") List.mem_cons_self (sl_lt (by rw [List.length_map, List.length_take]; omega)) ?_
        clear W H
        intro H W
        rw [put_keys h4, ← htk] at W
        exact ⟨⟨_, _, _, rfl⟩, by rw [hf, htk], W.dF⟩
  · clear W H
    rintro σ H ⟨⟨x3, x4, x5, rfl⟩, hf, W⟩
    rw [hlen, List.drop_length] at hf
    walk_at "rd"
    exact k _ _ (fun _ => rfl) (fun h => absurd hf h) W.dO
structure Cst (g : G) : Prop where
  seats : ∃ u, g.mg "SEATS" = some u ∧ RelV (.int 60) u
  sets : ∃ u, g.mg "SETS" = some u ∧ RelV (.int 200) u
  most : ∃ u, g.mg "MOST" = some u ∧ RelV (.int 60) u
  deepest : ∃ u, g.mg "DEEPEST" = some u ∧ RelV (.int 6) u
  manners : ∃ a, g.mg "MANNERS" = some (.ref a) ∧ ∀ H, SqT g.K H a (manners.map V.str)
def spLooked (g : G) : Sp := fun vs H Q _ => ∃ n : Nat, ∃ a svs ss L D, vs = [.int n, .ref a] ∧ 1 ≤ n ∧ n ≤ 60 ∧ (a, HO.lst svs) ∈ L ∧ isSs svs ss ∈ D ∧ ss.length ≤ 200 ∧ (∀ s ∈ ss, s.length ≤ 1000000) ∧ faultF n ss = none ∧ Wd L D H ∧ ∀ H', Wd L D H' → Q .non H'
theorem w_looked {g : G} {A : Around} {vs : List V} {H : Hp} {Q : VK} {E : XK} {k1 : Nat} (hr1 : Room k1 A) (C : Cst g) (f1 : GF g k1 "fault" (spFault81 g)) (h : spLooked g vs H Q E) : t_looked g A { nx := fun _ H' => Q .non H', rt := Q } (start ["seats", "sets", "wrong"] vs) H := by
  obtain ⟨n, a, svs, ss, L, D, rfl, h1, h2, ha, hss, hl, hl2, hf, W, k⟩ := h
  have hlen := W.lenSs hss
  rw [e_looked]
  show r_looked g A _ [some (.int n), some (.ref a), none] H
  unfold r_looked
  walk_at "rd"
  refine k_ifn (by omega) ?_
  walk_at "rd"
  refine k_gl C.seats ?_
  walk_at "rd"
  refine k_ifn (by omega) ?_
  walk_at "rd"
  refine k_gl C.sets ?_
  walk_at "rd"
  refine k_ifn (by omega) ?_
  walk_at "rd"
  refine k_call f1 hr1 ⟨n, a, svs, ss, L, D, rfl, ha, hss, by omega, hl2, W, ?_⟩
  clear W H
  intro v H hv _ W
  walk_at "rd"
  have := hv hf
  subst this
  refine k_ifnp rfl ?_
  walk_at "rd"
  exact k H W
theorem bits_step {b : Nat} {x : Int} (h0 : 0 ≤ x) : Builtin.bitOr (b : Int) ((1 : Int) * (2 : Int) ^ x.toNat) = ((b ||| 1 <<< x.toNat : Nat) : Int) := by
  have e : ((1 : Int) * (2 : Int) ^ x.toNat) = ((2 ^ x.toNat : Nat) : Int) := by
    rw [Int.one_mul]
    simp
  rw [e, bitOr_nn (Int.natCast_nonneg _) (Int.natCast_nonneg _), Int.toNat_natCast, Int.toNat_natCast, Nat.one_shiftLeft]
def spBitsOf (g : G) : Sp := fun vs H Q _ => ∃ a s L D, vs = [.ref a] ∧ isT g.K a (s.map V.int) ∈ D ∧ (∀ x ∈ s, 0 ≤ x ∧ x < 1000) ∧ Wd L D H ∧ ∀ H', Wd L D H' → Q (.int (bitsN s : Nat)) H'
theorem w_bits_of {g : G} {A : Around} {vs : List V} {H : Hp} {Q : VK} {E : XK} (h : spBitsOf g vs H Q E) : t_bits_of g A { nx := fun _ H' => Q .non H', rt := Q } (start ["one", "bits", "seat"] vs) H := by
  obtain ⟨a, s, L, D, rfl, hs, hb, W, k⟩ := h
  rw [e_bits_of]
  show r_bits_of g A _ [some (.ref a), none, none] H
  unfold r_bits_of
  walk_at "rd"
  refine k_for walk_tup (fun i σ H => (∃ x, σ = [some (.ref a), some (.int (((s.take i).foldl (fun b x => b ||| 1 <<< x.toNat) 0 : Nat) : Int)), x]) ∧ Wd L D H) ⟨⟨_, rfl⟩, W⟩ (fun i σ H _ h => h.2.tupl hs) ?_ ?_
  · clear W H
    rintro i x σ H H' hi ⟨⟨x2, rfl⟩, W⟩ ⟨rfl, hx⟩
    rw [List.getElem?_map] at hx
    obtain ⟨c, hc, rfl⟩ := Option.map_eq_some_iff.mp hx
    have hc2 := hb c (List.mem_of_getElem? hc)
    obtain ⟨j, hj⟩ : ∃ j : Nat, c = j := ⟨c.toNat, by omega⟩
    walk_at "rd"
    rw [hj]
    refine k_shl ⟨Int.natCast_nonneg _, by rw [show Builtin.Int.intBits 1 = 1 from by decide +kernel]; omega⟩ ?_
    walk_at "rd"
    refine ⟨⟨some (.int (j : Nat)), ?_⟩, W⟩
    have : (1 : Int) * (2 : Int) ^ j = (1 : Int) * (2 : Int) ^ c.toNat := by rw [hj]; simp
    rw [this, bits_step (by omega), List.take_add_one, hc]
    simp only [Option.toList_some, List.foldl_append, List.foldl_cons, List.foldl_nil, hj]
  · clear W H
    rintro σ H ⟨⟨x2, rfl⟩, W⟩
    walk_at "rd"
    rw [List.length_map, List.take_length]
    exact k H W
def spLeastBit : Sp := fun vs H Q _ => ∃ (b : Int) (L : Ow) (D : List Fct), vs = [.int b] ∧ Wd L D H ∧ ∀ r H', Wd L D H' → Q (.int r) H'
theorem w_least_bit {g : G} {A : Around} {vs : List V} {H : Hp} {Q : VK} {E : XK} (h : spLeastBit vs H Q E) : t_least_bit g A { nx := fun _ H' => Q .non H', rt := Q } (start ["bits"] vs) H := by
  obtain ⟨b, L, D, rfl, W, k⟩ := h
  rw [e_least_bit]
  show r_least_bit g A _ [some (.int b)] H
  unfold r_least_bit
  walk_at "rd"
  refine ⟨b, rfl, ?_⟩
  walk_at "rd"
  exact k _ _ W
def pairsB : List Nat → Bool
  | [] => true
  | x :: r => (r.all fun y => decide (x &&& y ≠ 0)) && pairsB r
theorem pairsB_iff : ∀ {rs : List Nat}, pairsB rs = true ↔ ∀ (i j : Nat) (x y : Nat), i < j → rs[i]? = some x → rs[j]? = some y → x &&& y ≠ 0
  | [] => by simp [pairsB]
  | a :: r => by
    have ih := pairsB_iff (rs := r)
    unfold pairsB
    rw [Bool.and_eq_true, ih, List.all_eq_true]
    constructor
    · rintro ⟨h1, h2⟩ i j x y hij hx hy
      cases j with
      | zero => omega
      | succ j =>
        have hy : r[j]? = some y := by simpa using hy
        cases i with
        | zero =>
          have hx : a = x := by simpa using hx
          subst hx
          simpa using h1 y (List.mem_of_getElem? hy)
        | succ i => exact h2 i j x y (by omega) (by simpa using hx) hy
    · intro h
      refine ⟨fun y hy => ?_, fun i j x y hij hx hy => h (i + 1) (j + 1) x y (by omega) (by simpa using hx) (by simpa using hy)⟩
      obtain ⟨j, hj⟩ := List.mem_iff_getElem?.mp hy
      simpa using h 0 (j + 1) a y (by omega) rfl (by simpa using hj)
theorem pairsB_meets : ∀ {ss : List (List Int)}, (∀ s ∈ ss, ∀ x ∈ s, 0 ≤ x) → pairsB (ss.map bitsN) = meets ss
  | [], _ => rfl
  | s :: r, h => by
    rw [List.map_cons, pairsB, meets, pairsB_meets (fun t ht => h t (List.mem_cons_of_mem _ ht))]
    congr 1
    have key : ∀ t ∈ r, decide (bitsN s &&& bitsN t ≠ 0) = meetS s t := fun t ht => by
      have := bits_apart (h s List.mem_cons_self) (h t (List.mem_cons_of_mem _ ht))
      cases hm : meetS s t with
      | false => simpa using this.mpr hm
      | true => exact decide_eq_true fun e => by rw [this.mp e] at hm; cases hm
    rw [List.all_map]
    apply Bool.eq_iff_iff.mpr
    rw [List.all_eq_true, List.all_eq_true]
    exact ⟨fun h t ht => (key t ht).symm.trans (h t ht), fun h t ht => (key t ht).trans (h t ht)⟩
def spFirstApart (g : G) : Sp := fun vs H Q _ => ∃ (a : Addr) (rs : List Nat) (L : Ow) (D : List Fct), vs = [.ref a] ∧ (a, HO.lst (rs.map fun (n : Nat) => V.int (n : Int))) ∈ L ∧ rs.length ≤ 1000 ∧ Wd L D H ∧
  (pairsB rs = true → ∀ H', Wd L D H' → Q .non H') ∧ (pairsB rs = false → ∀ p i j H', Wd L (isT g.K p [.int i, .int j] :: D) H' → Q (.ref p) H')
theorem w_first_apart {g : G} {A : Around} {vs : List V} {H : Hp} {Q : VK} {E : XK} (h : spFirstApart g vs H Q E) : t_first_apart g A { nx := fun _ H' => Q .non H', rt := Q } (start ["rows", "low", "one", "high"] vs) H := by
  obtain ⟨a, rs, L, D, rfl, ha, hl, W, kt, kf⟩ := h
  rw [e_first_apart]
  show r_first_apart g A _ [some (.ref a), none, none, none] H
  unfold r_first_apart
  walk_at "rd"
  refine k_enum_L (W.sq ha) ?_
  refine k_for walk_enum (fun i σ H => (∃ x y z, σ = [some (.ref a), x, y, z]) ∧ (∀ (j k x y : Nat), j < i → j < k → rs[j]? = some x → rs[k]? = some y → x &&& y ≠ 0) ∧ Wd L D H)
    ⟨⟨_, _, _, rfl⟩, fun _ _ _ _ h => by omega, W⟩ (fun i σ H _ h => h.2.2.sq ha) ?_ ?_
  · clear W H
    rintro i x σ H H' hi ⟨⟨x1, x2, x3, rfl⟩, hp, W⟩ ⟨T, y, z, rfl, hT, rfl, ey, ez⟩
    cases ey
    rw [List.length_map] at hi
    have ez : (rs.map fun (n : Nat) => V.int (n : Int))[i]? = some z := ez
    rw [List.getElem?_map] at ez
    obtain ⟨n, hn, rfl⟩ := Option.map_eq_some_iff.mp ez
    have W := W.new hT (.tup [.int (i : Nat), .int (n : Int)])
    walk_at "rd"
    rw [List.length_map]
    refine k_rng2 (by omega) (by omega) (by omega) (by omega) ?_
    refine k_for walk_range (fun k σ H => (∃ z, σ = [some (.ref a), some (.int (i : Nat)), some (.int (n : Int)), z]) ∧ (∀ (j y : Nat), j < k → rs[i + 1 + j]? = some y → n &&& y ≠ 0) ∧ Wd L D H)
      ⟨⟨_, rfl⟩, fun _ _ h => by omega, W.dO⟩ (fun _ _ _ _ _ => trivial) ?_ ?_
    · clear W
      rintro k x σ H H' hk ⟨⟨x3, rfl⟩, hq, W⟩ ⟨rfl, rfl⟩
      have hk2 : i + 1 + k < rs.length := by omega
      walk_at "rd"
      refine k_ix_l W ha (by rw [show ((i : Nat) : Int) + 1 + (k : Int) = ((i + 1 + k : Nat) : Int) from by omega]; exact at_nat (by rw [List.getElem?_map, List.getElem?_eq_getElem hk2]; rfl)) ?_
      walk_at "rd"
      rw [band_nn (Int.natCast_nonneg _) (Int.natCast_nonneg _), Int.toNat_natCast, Int.toNat_natCast]
      refine k_ifd (fun h0 => ?_) (fun h0 => ?_)
      · walk_at "rd"
        refine kf ?_ _ _ _ _ ((W.frz isT_stab fun B _ e => SqT.of e))
        rw [← Bool.not_eq_true]
        intro h
        exact pairsB_iff.mp h i (i + 1 + k) n _ (by omega) hn (List.getElem?_eq_getElem hk2) (by omega)
      · walk_at "rd"
        refine ⟨⟨_, rfl⟩, fun j y hj hy => ?_, W⟩
        rcases Nat.lt_or_ge j k with hj2 | hj2
        · exact hq j y hj2 hy
        · have : j = k := by omega
          subst this
          rw [List.getElem?_eq_getElem hk2] at hy
          cases hy
          omega
    · clear W
      rintro σ H ⟨⟨x3, rfl⟩, hq, W⟩
      refine ⟨⟨_, _, _, rfl⟩, fun j k x y hj hjk hx hy => ?_, W⟩
      rcases Nat.lt_or_ge j i with hj2 | hj2
      · exact hp j k x y hj2 hjk hx hy
      · have : j = i := by omega
        subst this
        rw [hn] at hx
        cases hx
        have hy2 := (List.getElem?_eq_some_iff.mp hy).1
        refine hq (k - (j + 1)) y (by omega) ?_
        rw [show j + 1 + (k - (j + 1)) = k from by omega]
        exact hy
  · clear W H
    rintro σ H ⟨⟨x1, x2, x3, rfl⟩, hp, W⟩
    walk_at "rd"
    refine kt (pairsB_iff.mpr fun i j x y hij hx hy => hp i j x y ?_ hij hx hy) _ W
    rw [List.length_map]
    exact (List.getElem?_eq_some_iff.mp hx).1
def spMeeting (g : G) : Sp := fun vs H Q _ => ∃ n : Nat, ∃ a svs ss L D, vs = [.int n, .ref a] ∧ 1 ≤ n ∧ n ≤ 60 ∧ (a, HO.lst svs) ∈ L ∧ isSs svs ss ∈ D ∧ ss.length ≤ 200 ∧ FamOk n ss ∧ Wd L D H ∧
  ∀ p xs H', Wd L (isT g.K p (.str (if meets ss then "meets" else "apart") :: xs) :: D) H' → Q (.ref p) H'
theorem SetOk.ge {n : Int} {s : List Int} (h : SetOk n s) : ∀ (i : Nat) (x : Int), s[i]? = some x → (i : Int) ≤ x
  | 0, x, hx => (h.bd x (List.mem_of_getElem? hx)).1
  | i + 1, x, hx => by
    have hi : i < s.length := by
      have := (List.getElem?_eq_some_iff.mp hx).1
      omega
    have h1 := h.ge i _ (List.getElem?_eq_getElem hi)
    have h2 := rising_iff.mp h.up i _ _ (List.getElem?_eq_getElem hi) hx
    omega
theorem SetOk.len {n : Nat} {s : List Int} (h : SetOk n s) : s.length ≤ n := by
  cases e : s.length with
  | zero => omega
  | succ k =>
    have hk : k < s.length := by omega
    have h1 := h.ge k _ (List.getElem?_eq_getElem hk)
    have h2 := h.bd _ (List.getElem_mem hk)
    omega
theorem w_meeting {g : G} {A : Around} {vs : List V} {H : Hp} {Q : VK} {E : XK} {k1 : Nat} (hr : Room k1 A) (f1 : GF g k1 "looked" (spLooked g)) (f2 : GF g k1 "bits_of" (spBitsOf g)) (f3 : GF g k1 "first_apart" (spFirstApart g)) (f4 : GF g k1 "least_bit" spLeastBit) (h : spMeeting g vs H Q E) :
    t_meeting g A { nx := fun _ H' => Q .non H', rt := Q } (start ["seats", "sets", "rows", "pair", "one", "other", "k"] vs) H := by
  obtain ⟨n, a, svs, ss, L, D, rfl, h1, h2, ha, hss, hl, hf, W, k⟩ := h
  have hlen := W.lenSs hss
  rw [e_meeting]
  show r_meeting g A _ [some (.int n), some (.ref a), none, none, none, none, none] H
  unfold r_meeting
  walk_at "rd"
  refine k_call f1 hr ⟨n, a, svs, ss, L, D, rfl, h1, h2, ha, hss, hl, fun s hs => ?_, faultF_none.mpr hf, W, ?_⟩
  · have := (hf.ok s hs).len
    omega
  clear W H
  intro H W
  walk_at "rd"
  refine k_lcM (ss.map bitsN) (fun (n : Nat) => V.int (n : Int)) (Walk.mono (walk_list (xs := svs)) (fun _ h => h) (fun _ _ _ _ _ _ h => h) |> (fun w => by rw [List.length_map, ← hlen]; exact w)) W (sl_of (by rw [List.length_map]; omega)) (fun p acc H W => W.sq (List.mem_cons_of_mem _ ha)) ?_ ?_
  · rintro p i x H H' acc e N Z he W ⟨rfl, hx⟩ hN
    obtain ⟨b, s, rfl, hs, W0⟩ := W.itemS hss hx
    have W1 := W0.itT (K := g.K) List.mem_cons_self
    rw [List.getElem?_map, hs] at he
    cases he
    walk_at "rd"
    refine ⟨rfl, ?_⟩
    walk_at "rd"
    refine k_call f2 hr ⟨b, s, _, _, rfl, List.mem_cons_self, fun x hx => ?_, W1, fun H W => hN H W.dF.dF⟩
    have := (hf.ok s (List.mem_of_getElem? hs)).bd x hx
    omega
  clear W H
  intro rw H W
  walk_at "rd"
  refine k_call f3 hr ⟨rw, ss.map bitsN, _, _, rfl, List.mem_cons_self, by rw [List.length_map]; omega, W, fun hp => ?_, fun hp => ?_⟩
  · clear W H
    intro H W
    have hm : meets ss = true := by
      rw [← pairsB_meets (fun s hs x hx => ((hf.ok s hs).bd x hx).1)]
      exact hp
    rw [hm] at k
    walk_at "rd"
    refine k_enum_L (W.sq List.mem_cons_self) ?_
    refine k_lcN walk_enum W (sl_of (by rw [List.length_map, List.length_map]; omega)) (fun p acc H W => W.sq (List.mem_cons_of_mem _ List.mem_cons_self)) ?_ ?_
    · rintro p i x H H' acc N Z hi W ⟨T, y, z, rfl, hT, rfl, ey, ez⟩ hN
      cases ey
      have ez : ((ss.map bitsN).map fun (n : Nat) => V.int (n : Int))[i]? = some z := ez
      rw [List.getElem?_map] at ez
      obtain ⟨n1, hn, rfl⟩ := Option.map_eq_some_iff.mp ez
      have W := W.new hT (.tup [.int (i : Nat), .int (n1 : Int)])
      walk_at "rd"
      refine ⟨rfl, ?_⟩
      walk_at "rd"
      refine k_sl_L W (W.sq (by walk_at "mem")) ?_
      clear W
      intro q H W
      walk_at "rd"
      refine k_lcN walk_list W (sl_of ?_) (fun p acc H W => W.sq (List.mem_cons_of_mem _ List.mem_cons_self)) ?_ ?_
      · have := cutV_length ((ss.map bitsN).map fun (n : Nat) => V.int (n : Int)) none (some (i : Int))
        rw [List.length_map, List.length_map] at this
        omega
      · rintro p2 i2 x H H' acc2 N2 Z2 hi2 W ⟨rfl, hx⟩ hN2
        obtain ⟨n2, hn2⟩ : ∃ n2 : Nat, x = .int (n2 : Int) := by
          have := List.mem_of_mem_drop (List.mem_of_mem_take (List.mem_of_getElem? hx))
          obtain ⟨m, _, e⟩ := List.mem_map.mp this
          exact ⟨m, e.symm⟩
        subst hn2
        walk_at "rd"
        refine ⟨rfl, ?_⟩
        walk_at "rd"
        exact k_call f4 hr ⟨_, _, _, rfl, W, fun r H W => hN2 _ _ W⟩
      · intro p2 acc2 H _ W
        exact hN _ _ (W.arr (by walk_at "spm") fsR)
    · intro p acc H _ W
      walk_at "rd"
      exact k _ _ _ ((W.frz isT_stab fun B _ e => SqT.of e).arr (L' := L) (by walk_at "spm") fsR)
  · clear W H
    intro p i j H W
    have hm : meets ss = false := by
      rw [← pairsB_meets (fun s hs x hx => ((hf.ok s hs).bd x hx).1)]
      exact hp
    rw [hm] at k
    walk_at "rd"
    refine k_ifnn (by simp) ?_
    walk_at "rd"
    exact k _ _ _ ((W.frz isT_stab fun B _ e => SqT.of e).arr (L' := L) (by walk_at "spm") (fsC List.mem_cons_self (fsT (fsT fsR))))
theorem log_lt {a : Nat} {n : Nat} (h : a < 2 ^ n) (h0 : 0 < n) : a.log2 < n := by
  by_cases e : a = 0
  · subst e
    simpa using h0
  · exact (Nat.log2_lt e).mpr h
theorem toS_log {i : Int} (h0 : 0 ≤ i) (h1 : i < 1000) : i.natAbs.log2 < 1920 := by
  have : i.natAbs < 2 ^ 10 := by omega
  have := log_lt this (by decide)
  omega
def spSetWords (g : G) : Sp := fun vs H Q _ => ∃ a svs ss L D, vs = [.ref a] ∧ isT g.K a svs ∈ D ∧ isSs svs ss ∈ D ∧ (∀ s ∈ ss, s ≠ [] ∧ s.length ≤ 1000 ∧ ∀ x ∈ s, 0 ≤ x ∧ x < 1000) ∧ ss.length ≤ 500 ∧ Wd L D H ∧ ∀ q H', Wd ((q, .lst ((setWs ss).map V.str)) :: L) D H' → Q (.ref q) H'
theorem setWs_snoc {ss : List (List Int)} {i : Nat} {s : List Int} (h : ss[i]? = some s) : setWs (ss.take (i + 1)) = setWs (ss.take i) ++ (if i = 0 then [] else (["|"] : List Str)) ++ s.map toS := by
  rw [List.take_add_one, h]
  cases i with
  | zero => simp [setWs, setTail]
  | succ i =>
    have hi := (List.getElem?_eq_some_iff.mp h).1
    have ne : ss.take (i + 1) ≠ [] := fun e => by
      have := congrArg List.length e
      rw [List.length_take, List.length_nil] at this
      omega
    rw [setWs_app ne, if_neg (by omega)]
    simp [setTail]
theorem setWs_ne {ss : List (List Int)} {i : Nat} (h : ∀ s ∈ ss, s ≠ []) (h0 : 0 < i) (hi : i ≤ ss.length) : setWs (ss.take i) ≠ [] := by
  cases ss with
  | nil => simp at hi; omega
  | cons s r =>
    cases i with
    | zero => omega
    | succ i =>
      have := h s List.mem_cons_self
      rw [List.take_succ_cons, setWs]
      intro e
      have e := List.append_eq_nil_iff.mp e
      exact this (List.map_eq_nil_iff.mp e.1)
theorem setWs_len2 {ss : List (List Int)} (h : ∀ s ∈ ss, s.length ≤ 1000) : (setWs ss).length ≤ ss.length * 1001 := by
  have tl : ∀ {ss : List (List Int)}, (∀ s ∈ ss, s.length ≤ 1000) → (setTail ss).length ≤ ss.length * 1001 := by
    intro ss
    induction ss with
    | nil => simp [setTail]
    | cons s r ih =>
      intro h
      have := ih fun t ht => h t (List.mem_cons_of_mem _ ht)
      have h1 := h s List.mem_cons_self
      have e : setTail (s :: r) = ("|" : Str) :: s.map toS ++ setTail r := by simp [setTail]
      rw [e, List.length_append, List.length_cons, List.length_map, List.length_cons]
      omega
  cases ss with
  | nil => simp [setWs]
  | cons s r =>
    have := tl (ss := r) fun t ht => h t (List.mem_cons_of_mem _ ht)
    have h1 := h s List.mem_cons_self
    rw [setWs, List.length_append, List.length_map, List.length_cons]
    omega
theorem snocS {X : List Str} {l : List Int} {c : Int} : (X ++ (l ++ (some c).toList).map toS).map V.str = (X ++ l.map toS).map V.str ++ [V.str (toS c)] := by simp
theorem w_set_words {g : G} {A : Around} {vs : List V} {H : Hp} {Q : VK} {E : XK} (h : spSetWords g vs H Q E) : t_set_words g A { nx := fun _ H' => Q .non H', rt := Q } (start ["sets", "row", "one", "number"] vs) H := by
  obtain ⟨a, svs, ss, L, D, rfl, ha, hss, hs, hl, W, k⟩ := h
  have hlen := W.lenSs hss
  rw [e_set_words]
  show r_set_words g A _ [some (.ref a), none, none, none] H
  unfold r_set_words
  walk_at "rd"
  rename_i q
  refine k_for walk_tup (fun i σ H => (∃ x y, σ = [some (.ref a), some (.ref q), x, y]) ∧ Wd ((q, .lst ((setWs (ss.take i)).map V.str)) :: L) D H) ⟨⟨_, _, rfl⟩, W⟩ (fun i σ H _ h => h.2.tupl ha) ?_ ?_
  · clear W H
    rintro i x σ H H' hi ⟨⟨x2, x3, rfl⟩, W⟩ ⟨rfl, hx⟩
    obtain ⟨e, s, rfl, hsi, W0⟩ := W.itemS hss hx
    have W1 := W0.itT (K := g.K) List.mem_cons_self
    obtain ⟨s1, s2, s3⟩ := hs s (List.mem_of_getElem? hsi)
    have hb : (setWs (ss.take i)).length ≤ i * 1001 := by
      have := setWs_len2 (ss := ss.take i) fun t ht => (hs t (List.mem_of_mem_take ht)).2.1
      rw [List.length_take] at this
      have h2 : min i ss.length = i := by omega
      rwa [h2] at this
    clear W W0
    have W := W1
    clear W1
    walk_at "rd"
    refine k_cut (fun σ H => (∃ y, σ = [some (.ref a), some (.ref q), some (.ref e), y]) ∧ Wd ((q, .lst ((setWs (ss.take i) ++ (if i = 0 then [] else (["|"] : List Str))).map V.str)) :: L) (isT g.K e (s.map V.int) :: isI e (.tup (s.map V.int)) :: D) H) ?_ ?_
    · walk_at "rd"
      by_cases h0 : i = 0
      · subst h0
        refine k_ifF (by rfl) ?_
        walk_at "rd"
        exact ⟨⟨_, rfl⟩, by simpa using W⟩
      · have ne := setWs_ne (fun t ht => (hs t ht).1) (Nat.pos_of_ne_zero h0) (show i ≤ ss.length by omega)
        refine k_ifT (by
          cases e2 : setWs (ss.take i) with
          | nil => exact absurd e2 ne
          | cons _ _ => rfl) ?_
        walk_at "rd"
        walk_at "app"
        refine ⟨⟨_, rfl⟩, ?_⟩
        rw [if_neg h0, List.map_append]
        exact W
    · clear W
      rintro σ H ⟨⟨x3, rfl⟩, W⟩
      walk_at "rd"
      refine k_for walk_tup (fun j σ H => (∃ y, σ = [some (.ref a), some (.ref q), some (.ref e), y]) ∧ Wd ((q, .lst ((setWs (ss.take i) ++ (if i = 0 then [] else (["|"] : List Str)) ++ (s.take j).map toS).map V.str)) :: L) (isT g.K e (s.map V.int) :: isI e (.tup (s.map V.int)) :: D) H)
        ⟨⟨_, rfl⟩, by simpa using W⟩ (fun i σ H _ h => h.2.tupl List.mem_cons_self) ?_ ?_
      · clear W H
        rintro j x σ H H' hj ⟨⟨x3, rfl⟩, W⟩ ⟨rfl, hx⟩
        rw [List.getElem?_map] at hx
        obtain ⟨c, hc, rfl⟩ := Option.map_eq_some_iff.mp hx
        rw [List.length_map] at hj
        have hc2 := s3 c (List.mem_of_getElem? hc)
        walk_at "rd"
        refine k_strI (toS_log hc2.1 hc2.2) ?_
        walk_at "rd"
        refine k_app W (sl_lt ?_) ?_
        · rw [List.length_map, List.length_append, List.length_append, List.length_map, List.length_take]
          have : (if i = 0 then [] else (["|"] : List Str)).length ≤ 1 := by split <;> simp
          omega
        clear W
        intro H W
        walk_at "rd"
        refine ⟨⟨_, rfl⟩, ?_⟩
        rw [List.take_add_one, hc, snocS]
        exact W
      · clear W H
        rintro σ H ⟨⟨x3, rfl⟩, W⟩
        rw [List.length_map, List.take_length] at W
        refine ⟨⟨_, _, rfl⟩, ?_⟩
        rw [setWs_snoc hsi]
        exact W.dF.dF
  · clear W H
    rintro σ H ⟨⟨x2, x3, rfl⟩, W⟩
    rw [hlen, List.take_length] at W
    walk_at "rd"
    exact k q H W
def numOk (d : PyData) (i : Nat) : Bool := match d with
  | .int x => decide (0 ≤ x) && decide (x < 1 + (i : Int))
  | _ => false
def aboveB (m : Str) (ds : List PyData) (n : Nat) : Bool := if isTr m then decide (ds.length + 1 = n) && (List.range ds.length).all fun i => match ds[i]? with | some d => numOk d i | none => false else ds.isEmpty
theorem aboveB_ints {m : Str} {ab : List Int} {n : Nat} (h : aboveOk m ab n) : aboveB m (ab.map PyData.int) n = true := by
  unfold aboveOk at h
  unfold aboveB
  split at h
  · rename_i hm
    rw [if_pos hm, List.length_map, Bool.and_eq_true, List.all_eq_true]
    refine ⟨decide_eq_true h.1, fun i hi => ?_⟩
    have hi : i < ab.length := List.mem_range.mp hi
    have h2 := h.2 i _ (List.getElem?_eq_getElem hi)
    rw [List.getElem?_map, List.getElem?_eq_getElem hi]
    show (decide (0 ≤ ab[i]) && decide (ab[i] < 1 + (i : Int))) = true
    rw [Bool.and_eq_true, decide_eq_true_iff, decide_eq_true_iff]
    omega
  · rename_i hm
    rw [if_neg hm, h]
    rfl
theorem tr_in {m : Str} : decide (m ∈ (["tree", "turning"] : List Str)) = isTr m := by
  unfold isTr
  rw [← Bool.decide_or]
  exact decide_eq_decide.mpr (by simp)
def spAboveFits (g : G) : Sp := fun vs H Q _ => ∃ m a b xs ds, ∃ n : Nat, ∃ L D, vs = [.str m, .ref a, .int n] ∧ InB g.K b L D a xs ∧ isDs g.K xs ds ∈ D ∧ 1 ≤ n ∧ Wd L D H ∧ ∀ H', Wd L D H' → Q (.bl (aboveB m ds n)) H'
theorem w_above_fits {g : G} {A : Around} {vs : List V} {H : Hp} {Q : VK} {E : XK} (h : spAboveFits g vs H Q E) : t_above_fits g A { nx := fun _ H' => Q .non H', rt := Q } (start ["manner", "above", "many", "part", "number"] vs) H := by
  obtain ⟨m, a, b, xs, ds, n, L, D, rfl, ha, hds, hn, W, k⟩ := h
  have hlen := W.lenL hds
  rw [e_above_fits]
  show r_above_fits g A _ [some (.str m), some (.ref a), some (.int n), none, none] H
  unfold r_above_fits
  walk_at "rd"
  refine k_notIn_strs (ws := ["tree", "turning"]) (.inr (W.st List.mem_cons_self)) ?_
  replace W := W.dO
  walk_at "rd"
  rw [tr_in]
  have kk : ∀ c, aboveB m ds n = c → ∀ H', Wd L D H' → Q (.bl c) H' := fun c e H' W' => by
    subst e
    exact k H' W'
  cases hm : isTr m with
  | false =>
    refine k_ift ?_
    walk_at "rd"
    refine k_notV_B (W.sqB ha) ?_
    refine kk _ ?_ _ W
    unfold aboveB
    rw [if_neg (by rw [hm]; decide), Bool.not_not]
    cases xs <;> cases ds <;> simp_all
  | true =>
    refine k_iff ?_
    walk_at "rd"
    refine k_len_B (W.sqB ha) ?_
    walk_at "rd"
    refine k_ifnd (fun h1 => ?_) (fun h1 => ?_)
    · walk_at "rd"
      refine kk _ ?_ _ W
      unfold aboveB
      rw [if_pos hm, decide_eq_false (by omega)]
      rfl
    · walk_at "rd"
      have bad : ∀ i d, ds[i]? = some d → numOk d i = false → aboveB m ds n = false := fun i d hd hb => by
        unfold aboveB
        rw [if_pos hm, Bool.and_eq_false_iff]
        refine .inr (List.all_eq_false.mpr ⟨i, List.mem_range.mpr (List.getElem?_eq_some_iff.mp hd).1, ?_⟩)
        rw [hd]
        simp [hb]
      refine k_enumS_B (W.sqB ha) ?_
      refine k_for walk_enumSB (fun i σ H => (∃ x y, σ = [some (.str m), some (.ref a), some (.int n), x, y]) ∧ (∀ j d, j < i → ds[j]? = some d → numOk d j = true) ∧ Wd L D H)
        ⟨⟨_, _, rfl⟩, fun _ _ h => by omega, W⟩ (fun i σ H _ h => h.2.2.sqB ha) ?_ ?_
      · clear W H
        rintro i x σ H H' hi ⟨⟨x3, x4, rfl⟩, hp, W⟩ ⟨T, y, z, rfl, hT, rfl, ey, ez⟩
        cases ey
        obtain ⟨d, hd, W1⟩ := W.itemV (hasAll_mem hds) ez
        have nxt : numOk d i = true → ∀ j d', j < i + 1 → ds[j]? = some d' → numOk d' j = true := fun h j d' hj hd' => by
          rcases Nat.lt_or_ge j i with hj2 | hj2
          · exact hp j d' hj2 hd'
          · have : j = i := by omega
            subst this
            rw [hd] at hd'
            cases hd'
            exact h
        have W := W1.new hT (.tup [.int (1 + (i : Int)), z])
        walk_at "rd"
        have hz := W.fact (F := isD g.K z d) List.mem_cons_self
        cases hz with
        | non =>
          walk_at "rd"
          exact kk _ (bad i _ hd rfl) _ W.dO.dF
        | bl b =>
          walk_at "rd"
          exact kk _ (bad i _ hd rfl) _ W.dO.dF
        | str s =>
          walk_at "rd"
          exact kk _ (bad i _ hd rfl) _ W.dO.dF
        | int x =>
          walk_at "rd"
          refine k_ifd (fun h1 => ?_) (fun h1 => ?_)
          · walk_at "rd"
            refine k_if (fun h2 => ?_) (fun h2 => ?_)
            · walk_at "rd"
              refine kk _ (bad i _ hd ?_) _ W.dO.dF
              have h2 : ¬ x < 1 + (i : Int) := by simpa using h2
              show (decide (0 ≤ x) && decide (x < 1 + (i : Int))) = false
              rw [decide_eq_false h2, Bool.and_false]
            · walk_at "rd"
              have h2 : x < 1 + (i : Int) := by simpa using h2
              refine ⟨⟨_, _, rfl⟩, nxt ?_, W.dO.dF⟩
              show (decide (0 ≤ x) && decide (x < 1 + (i : Int))) = true
              rw [decide_eq_true h1, decide_eq_true h2]
              rfl
          · walk_at "rd"
            refine kk _ (bad i _ hd ?_) _ W.dO.dF
            show (decide (0 ≤ x) && decide (x < 1 + (i : Int))) = false
            rw [decide_eq_false h1, Bool.false_and]
        | lst hq hr =>
          refine k_isi_ty (b := false) (ty_L hq) (by decide +kernel) ?_
          walk_at "rd"
          exact kk _ (bad i _ hd rfl) _ W.dO.dF
        | tup hq hr =>
          refine k_isi_ty (b := false) (ty_T hq) (by decide +kernel) ?_
          walk_at "rd"
          exact kk _ (bad i _ hd rfl) _ W.dO.dF
      · clear W H
        rintro σ H ⟨⟨x3, x4, rfl⟩, hp, W⟩
        walk_at "rd"
        refine kk _ ?_ _ W
        unfold aboveB
        rw [if_pos hm, Bool.and_eq_true, List.all_eq_true]
        refine ⟨decide_eq_true (by omega), fun i hi => ?_⟩
        have hi : i < ds.length := List.mem_range.mp hi
        rw [List.getElem?_eq_getElem hi]
        exact hp i _ (by omega) (List.getElem?_eq_getElem hi)
def setsB (m : Str) (ss : List (List Int)) (n : Nat) : Bool := if m = "votes" then decide (ss ≠ [] ∧ ss.length ≤ 200 ∧ faultF n ss = none) else ss.isEmpty
def spSetsFit (g : G) : Sp := fun vs H Q _ => ∃ m a b svs ss, ∃ n : Nat, ∃ L D, vs = [.str m, .ref a, .int n] ∧ InB g.K b L D a svs ∧ isSs svs ss ∈ D ∧ ss.length ≤ 1000000 ∧ (∀ s ∈ ss, s.length ≤ 1000000) ∧ Wd L D H ∧ ∀ H', Wd L D H' → Q (.bl (setsB m ss n)) H'
theorem w_sets_fit {g : G} {A : Around} {vs : List V} {H : Hp} {Q : VK} {E : XK} {k1 : Nat} (hr1 : Room k1 A) (C : Cst g) (f1 : GF g k1 "fault" (spFault81 g)) (h : spSetsFit g vs H Q E) : t_sets_fit g A { nx := fun _ H' => Q .non H', rt := Q } (start ["manner", "sets", "many"] vs) H := by
  obtain ⟨m, a, b, svs, ss, n, L, D, rfl, ha, hss, hl, hl2, W, k⟩ := h
  have hlen := W.lenSs hss
  rw [e_sets_fit]
  show r_sets_fit g A _ [some (.str m), some (.ref a), some (.int n)] H
  unfold r_sets_fit
  walk_at "rd"
  have kk : ∀ c, setsB m ss n = c → ∀ H', Wd L D H' → Q (.bl c) H' := fun c e H' W' => by
    subst e
    exact k H' W'
  refine k_ifnd (fun h1 => ?_) (fun h1 => ?_)
  · walk_at "rd"
    refine k_notV_B (W.sqB ha) ?_
    refine kk _ ?_ _ W
    unfold setsB
    rw [if_neg h1, Bool.not_not]
    cases svs <;> cases ss <;> simp_all
  · walk_at "rd"
    refine k_len_B (W.sqB ha) ?_
    walk_at "rd"
    refine k_ifd (fun h2 => ?_) (fun h2 => ?_)
    · walk_at "rd"
      refine k_gl C.sets ?_
      walk_at "rd"
      refine k_ifd (fun h3 => ?_) (fun h3 => ?_)
      · walk_at "rd"
        refine k_list_B W (W.sqB ha) ?_
        clear W H
        intro q H W
        walk_at "rd"
        refine k_call f1 hr1 ⟨n, q, svs, ss, _, D, rfl, List.mem_cons_self, hss, hl, hl2, W, ?_⟩
        clear W H
        intro v H v1 v2 W
        walk_at "rd"
        refine kk _ ?_ _ W.dO
        unfold setsB
        rw [if_pos h1]
        by_cases hf : faultF n ss = none
        · rw [v1 hf]
          exact decide_eq_decide.mpr ⟨fun _ => rfl, fun _ => ⟨fun e => (by
            have : ss.length = 0 := by rw [e]; rfl
            omega), by omega, hf⟩⟩
        · exact decide_eq_decide.mpr ⟨fun h => absurd h.2.2 hf, fun h => absurd h (v2 hf)⟩
      · walk_at "rd"
        refine kk _ ?_ _ W
        unfold setsB
        rw [if_pos h1]
        exact (decide_eq_false (p := ss ≠ [] ∧ ss.length ≤ 200 ∧ faultF n ss = none) fun h => absurd h.2.1 (by omega)).trans (decide_eq_false h3).symm
    · walk_at "rd"
      refine kk _ ?_ _ W
      unfold setsB
      rw [if_pos h1]
      exact decide_eq_false fun h => h.1 (List.length_eq_zero_iff.mp (by omega))
abbrev brF : List Str := ["manner", "parts", "above", "sets", "words", "halls", "deep"]
structure Cls2 (g : G) (CL CB : Addr) : Prop where
  lf : ClsF g.K CL []
  br : ClsF g.K CB ["manner", "parts", "above", "sets"]
  tl : ClTy g.K CL
  tb : ClTy g.K CB
  nL : g.mg "Leaf" = some (.ref CL)
  nB : g.mg "Branch" = some (.ref CB)
  ll : PySem.W.kitOne g.K (.ref CL) (.ref CL) = some true
  lb : PySem.W.kitOne g.K (.ref CL) (.ref CB) = some false
  bl : PySem.W.kitOne g.K (.ref CB) (.ref CL) = some false
  bb : PySem.W.kitOne g.K (.ref CB) (.ref CB) = some true
  sl : PySem.W.kitOne g.K (.type "str") (.ref CL) = some false
  sb : PySem.W.kitOne g.K (.type "str") (.ref CB) = some false
  fl : ∀ t, t = .ref CL ∨ t = .ref CB ∨ t = .type "str" → PySem.W.notFirst g.K CL t = true
  fb : ∀ t, t = .ref CL ∨ t = .ref CB ∨ t = .type "str" → PySem.W.notFirst g.K CB t = true
structure PM (g : G) (k : Nat) (CL CB : Addr) (m : Str) (sp : Pn → Sp) : Prop where
  lf : MF g k CL m (sp .leaf)
  br : MF g k CB m fun vs H Q E => ∃ n ab ss ps, sp (.br n ab ss ps) vs H Q E
theorem PM.up {g : G} {j k : Nat} {CL CB : Addr} {m : Str} {sp : Pn → Sp} (F : PM g j CL CB m sp) (h : j ≤ k) : PM g k CL CB m sp := by
  obtain ⟨⟨f, a, b⟩, ⟨f', a', b'⟩⟩ := F
  obtain ⟨fd, ps, ds, dvs, sp0, p1, p2, p3, p4, p5⟩ := b
  obtain ⟨fd', ps', ds', dvs', sp0', q1, q2, q3, q4, q5⟩ := b'
  exact ⟨⟨f, a, fd, ps, ds, dvs, sp0, p1, p2.mono h, p3, p4, p5⟩, ⟨f', a', fd', ps', ds', dvs', sp0', q1, q2.mono h, q3, q4, q5⟩⟩
section
variable {g : G} {A : Around} {E : XK} {CL CB : Addr} {L : Ow} {D : List Fct} {H : Hp} {Q : VK} {v : V} {t : Pn} {m : Str} {k : Nat} {sp : Pn → Sp}
theorem k_pm (C : Cls2 g CL CB) (W : Wd L D H) (h : isP g.K CL CB v t ∈ D) (F : PM g k CL CB m sp) (hr : Room k A) (hm : ([("manner", V.non), ("parts", V.non), ("above", V.non), ("sets", V.non)] : List (Str × V)).lookup m = none) (q : sp t [v] H Q E) :
    kRecv g m v H fun D => kMeth g A D m E [v] H Q := by
  cases t with
  | leaf =>
    obtain ⟨a, dx, rfl, W1⟩ := W.opLf h
    obtain ⟨f, hf, _⟩ := F.lf
    exact k_recv (W1.atI List.mem_cons_self) C.lf.cl rfl ⟨f, hf⟩ (k_meth F.lf hr q)
  | br n ab ss ps =>
    obtain ⟨a, dx, pa, au, sa, pvs, svs, rfl, _, _, W1⟩ := W.opBr h
    obtain ⟨f, hf, _⟩ := F.br
    refine k_recv (W1.atI List.mem_cons_self) C.br.cl ?_ ⟨f, hf⟩ (k_meth F.br hr ⟨_, _, _, _, q⟩)
    have ne : ∀ {f m : Str} {v w : V} {r r' : List (Str × V)}, List.lookup m ((f, v) :: r) = none → (List.lookup m r = none → List.lookup m r' = none) → List.lookup m ((f, w) :: r') = none := by
      intro f m v w r r' h1 h2
      rw [List.lookup_cons] at h1 ⊢
      cases e : m == f with
      | true => rw [e] at h1; cases h1
      | false => rw [e] at h1; exact h2 h1
    exact ne hm fun h => ne h fun h => ne h fun h => ne h fun _ => rfl
theorem k_ownP (W : Wd L D H) (h : isP g.K CL CB v t ∈ D) (F : PM g k CL CB m sp) (hr : Room (k + 4) A) {vs : List V} (q : sp t (v :: vs) H Q E) : kOwn g A m E v vs H Q := by
  cases t with
  | leaf =>
    obtain ⟨a, dx, rfl, W1⟩ := W.opLf h
    exact k_own (W1.atI List.mem_cons_self) F.lf hr q
  | br n ab ss ps =>
    obtain ⟨a, dx, pa, au, sa, pvs, svs, rfl, _, _, W1⟩ := W.opBr h
    exact k_own (W1.atI List.mem_cons_self) F.br hr ⟨_, _, _, _, q⟩
end
def spWds (g : G) (CL CB : Addr) (d : Nat) (t : Pn) : Sp := fun vs H Q _ => ∃ v L D, vs = [v] ∧ isP g.K CL CB v t ∈ D ∧ t.ok ∧ t.deep ≤ d ∧ Wd L D H ∧ ∀ q H', Wd ((q, .lst (t.words.map V.str)) :: L) D H' → Q (.ref q) H'
def spNum (g : G) (CL CB : Addr) (f : Pn → Nat) (d : Nat) (t : Pn) : Sp := fun vs H Q _ => ∃ v L D, vs = [v] ∧ isP g.K CL CB v t ∈ D ∧ t.ok ∧ t.deep ≤ d ∧ Wd L D H ∧ ∀ H', Wd L D H' → Q (.int (f t : Nat)) H'
def spTxt (g : G) (CL CB : Addr) (d : Nat) (t : Pn) : Sp := fun vs H Q _ => ∃ v L D, vs = [v] ∧ isP g.K CL CB v t ∈ D ∧ t.ok ∧ t.deep ≤ d ∧ Wd L D H ∧ ∀ H', Wd L D H' → Q (.str (Txt.join " " t.words)) H'
theorem w_lf_words {g : G} {CL CB : Addr} {d : Nat} {A : Around} {vs : List V} {H : Hp} {Q : VK} {E : XK} (h : spWds g CL CB d .leaf vs H Q E) : t_Leaf_words g A { nx := fun _ H' => Q .non H', rt := Q } (start ["self"] vs) H := by
  obtain ⟨v, L, D, rfl, hv, ok, hd, W, k⟩ := h
  rw [e_Leaf_words]
  show r_Leaf_words g A _ [some v] H
  unfold r_Leaf_words
  walk_at "rd"
  exact k _ _ W
theorem w_lf_halls {g : G} {CL CB : Addr} {d : Nat} {A : Around} {vs : List V} {H : Hp} {Q : VK} {E : XK} (h : spNum g CL CB Pn.halls d .leaf vs H Q E) : t_Part_halls g A { nx := fun _ H' => Q .non H', rt := Q } (start ["self"] vs) H := by
  obtain ⟨v, L, D, rfl, hv, ok, hd, W, k⟩ := h
  rw [e_Part_halls]
  exact k _ W
theorem w_lf_deep {g : G} {CL CB : Addr} {d : Nat} {A : Around} {vs : List V} {H : Hp} {Q : VK} {E : XK} (h : spNum g CL CB Pn.deep d .leaf vs H Q E) : t_Part_deep g A { nx := fun _ H' => Q .non H', rt := Q } (start ["self"] vs) H := by
  obtain ⟨v, L, D, rfl, hv, ok, hd, W, k⟩ := h
  rw [e_Part_deep]
  exact k _ W
theorem w_lf_len {g : G} {CL CB : Addr} {d : Nat} {A : Around} {vs : List V} {H : Hp} {Q : VK} {E : XK} (h : spNum g CL CB Pn.leaves d .leaf vs H Q E) : t_Leaf_len g A { nx := fun _ H' => Q .non H', rt := Q } (start ["self"] vs) H := by
  obtain ⟨v, L, D, rfl, hv, ok, hd, W, k⟩ := h
  rw [e_Leaf_len]
  exact k _ W
theorem w_lf_str {g : G} {CL CB : Addr} {d : Nat} {A : Around} {vs : List V} {H : Hp} {Q : VK} {E : XK} (h : spTxt g CL CB d .leaf vs H Q E) : t_Leaf_str g A { nx := fun _ H' => Q .non H', rt := Q } (start ["self"] vs) H := by
  obtain ⟨v, L, D, rfl, hv, ok, hd, W, k⟩ := h
  rw [e_Leaf_str]
  have e : Txt.join " " Pn.leaf.words = "o" := by decide +kernel
  rw [e] at k
  exact k _ W
theorem okL_get {ps : List Pn} {i : Nat} {t : Pn} (h : okL ps) (hi : ps[i]? = some t) : t.ok := okL_iff.mp h t (List.mem_of_getElem? hi)
theorem deepL_get {ps : List Pn} {i d : Nat} {t : Pn} (h : deepL ps ≤ d) (hi : ps[i]? = some t) : t.deep ≤ d := deepL_le.mp h t (List.mem_of_getElem? hi)
theorem wordsL_snoc {ps : List Pn} {i : Nat} {t : Pn} (h : ps[i]? = some t) : wordsL (ps.take (i + 1)) = wordsL (ps.take i) ++ t.words := by
  rw [List.take_add_one, h, wordsL_app]
  simp [wordsL]
theorem wordsL_part {ps : List Pn} (h : okL ps) (i : Nat) (hs : leavesL ps + hallsL ps ≤ 60) : (wordsL (ps.take i)).length ≤ 744000 := by
  have h1 : okL (ps.take i) := okL_iff.mpr fun p hp => okL_iff.mp h p (List.mem_of_mem_take hp)
  have h2 := wordsL_len _ h1
  have h3 : leavesL (ps.take i) + hallsL (ps.take i) ≤ leavesL ps + hallsL ps := by
    have e1 : leavesL ps = leavesL (ps.take i) + leavesL (ps.drop i) := by
      rw [leavesL_eq, leavesL_eq, leavesL_eq, ← List.sum_append, ← List.map_append, List.take_append_drop]
    have e2 : hallsL ps = hallsL (ps.take i) + hallsL (ps.drop i) := by
      rw [hallsL_eq, hallsL_eq, hallsL_eq, ← List.sum_append, ← List.map_append, List.take_append_drop]
    omega
  omega
theorem w_br_words {g : G} {CL CB : Addr} {d : Nat} {A : Around} {vs : List V} {H : Hp} {Q : VK} {E : XK} {k1 : Nat} (hr : Room k1 A) (C : Cls2 g CL CB) (f1 : GF g k1 "set_words" (spSetWords g)) (f2 : PM g k1 CL CB "words" (spWds g CL CB d)) (h : ∃ n ab ss ps, spWds g CL CB (d + 1) (.br n ab ss ps) vs H Q E) :
    t_Branch_words g A { nx := fun _ H' => Q .non H', rt := Q } (start ["self", "row", "number", "part"] vs) H := by
  obtain ⟨n, ab, ss, ps, v, L, D, rfl, hv, ok, hd, W, k⟩ := h
  obtain ⟨F, okl⟩ := ok
  obtain ⟨a, dx, pa, au, sa, pvs, svs, rfl, lp, ls, W1⟩ := W.opBr hv
  have hC := C.br
  have fm := F.abd
  have ff := F.fam
  have fl := F.len
  have fs := F.sets_len
  have hpp : isPs g.K CL CB pvs ps ∈ isI a (.ins CB dx [("manner", .str n), ("parts", .ref pa), ("above", .ref au), ("sets", .ref sa)]) :: isT g.K pa pvs :: isPs g.K CL CB pvs ps :: isT g.K au (ab.map V.int) :: isT g.K sa svs :: isSs svs ss :: D := by walk_at "mem"
  clear W
  have W := W1
  clear W1
  rw [e_Branch_words]
  show r_Branch_words g A _ [some (.ref a), none, none, none] H
  unfold r_Branch_words
  walk_at "rd"
  rename_i q
  refine k_for walk_tup (fun i σ H => (∃ x, σ = [some (.ref a), some (.ref q), x, none]) ∧ Wd ((q, .lst ((([("[" : Str), n] : List Str) ++ (ab.take i).map toS).map V.str)) :: L) (isI a (.ins CB dx [("manner", .str n), ("parts", .ref pa), ("above", .ref au), ("sets", .ref sa)]) :: isT g.K pa pvs :: isPs g.K CL CB pvs ps :: isT g.K au (ab.map V.int) :: isT g.K sa svs :: isSs svs ss :: D) H)
    ⟨⟨_, rfl⟩, W⟩ (fun i σ H _ h => h.2.tupl (by walk_at "mem")) ?_ ?_
  · clear W H
    rintro i x σ H H' hi ⟨⟨x2, rfl⟩, W⟩ ⟨rfl, hx⟩
    rw [List.getElem?_map] at hx
    obtain ⟨c, hc, rfl⟩ := Option.map_eq_some_iff.mp hx
    have hc2 := fm.2 c (List.mem_of_getElem? hc)
    walk_at "rd"
    refine k_strI (toS_log hc2.1 (by omega)) ?_
    walk_at "rd"
    refine k_app W (sl_lt ?_) ?_
    · rw [List.length_map, List.length_append, List.length_map, List.length_take, List.length_cons, List.length_cons, List.length_nil]
      omega
    clear W
    intro H W
    walk_at "rd"
    refine ⟨⟨_, rfl⟩, ?_⟩
    rw [List.take_add_one, hc, snocS]
    exact W
  clear W H
  rintro σ H ⟨⟨x2, rfl⟩, W⟩
  rw [List.length_map, List.take_length] at W
  walk_at "rd"
  refine k_call f1 hr ⟨sa, svs, ss, _, _, rfl, by walk_at "mem", by walk_at "mem", fun s hs => ?_, by omega, W, ?_⟩
  · have h1 := ff.2.ok s hs
    have h2 := h1.len
    refine ⟨h1.ne, by omega, fun x hx => ?_⟩
    have := h1.bd x hx
    omega
  clear W H
  intro q2 H W
  walk_at "rd"
  refine k_ext (q := q2) (by walk_at "fr") (List.mem_cons_self) (sl_of ?_) ?_
  · rw [List.length_map, List.length_map, List.length_append, List.length_map, List.length_cons, List.length_cons, List.length_nil]
    omega
  clear W H
  intro H W
  rw [← List.map_append] at W
  replace W := W.mv1.dO
  walk_at "rd"
  refine k_app W (sl_lt ?_) ?_
  · rw [List.length_map, List.length_append, List.length_append, List.length_map, List.length_cons, List.length_cons, List.length_nil]
    omega
  clear W H
  intro H W
  rw [show ∀ (X : List Str), X.map V.str ++ [V.str ":"] = (X ++ ([":"] : List Str)).map V.str from fun X => by simp] at W
  walk_at "rd"
  refine k_for walk_tup (fun i σ H => (∃ x y, σ = [some (.ref a), some (.ref q), x, y]) ∧ Wd ((q, .lst ((([("[" : Str), n] : List Str) ++ ab.map toS ++ setWs ss ++ ([":"] : List Str) ++ wordsL (ps.take i)).map V.str)) :: L) (isI a (.ins CB dx [("manner", .str n), ("parts", .ref pa), ("above", .ref au), ("sets", .ref sa)]) :: isT g.K pa pvs :: isPs g.K CL CB pvs ps :: isT g.K au (ab.map V.int) :: isT g.K sa svs :: isSs svs ss :: D) H)
    ⟨⟨_, _, rfl⟩, by rw [List.take_zero, wordsL, List.append_nil]; exact W⟩ (fun i σ H _ h => h.2.tupl (by walk_at "mem")) ?_ ?_
  · clear W H
    rintro i x σ H H' hi ⟨⟨x2, x3, rfl⟩, W⟩ ⟨rfl, hx⟩
    obtain ⟨t, ht, W1⟩ := W.itemP hpp hx
    replace W := W1
    clear W1
    have hd2 : deepL ps ≤ d := by simp only [Pn.deep] at hd; omega
    walk_at "rd"
    refine k_pm C W List.mem_cons_self f2 hr rfl ⟨x, _, _, rfl, List.mem_cons_self, okL_get okl ht, deepL_get hd2 ht, W, ?_⟩
    clear W
    intro q3 H W
    walk_at "rd"
    refine k_ext (q := q3) (by walk_at "fr") (List.mem_cons_self) (sl_of ?_) ?_
    · have h1 := words_max (okL_get okl ht)
      have h2 := wordsL_part okl i F.hs
      have h3 := wordsL_part okl (i + 1) F.hs
      rw [wordsL_snoc ht, List.length_append] at h3
      simp only [List.length_map, List.length_append, List.length_cons, List.length_nil]
      omega
    clear W H
    intro H W
    rw [← List.map_append] at W
    refine ⟨⟨_, _, rfl⟩, ?_⟩
    rw [wordsL_snoc ht, ← List.append_assoc]
    exact W.mv1.dO.dF
  clear W H
  rintro σ H ⟨⟨x2, x3, rfl⟩, W⟩
  rw [lp, List.take_length] at W
  walk_at "rd"
  refine k_app W (sl_lt ?_) ?_
  · have h3 := wordsL_part okl ps.length F.hs
    rw [List.take_length] at h3
    simp only [List.length_map, List.length_append, List.length_cons, List.length_nil]
    omega
  clear W H
  intro H W
  rw [show ∀ (X : List Str), X.map V.str ++ [V.str "]"] = (X ++ (["]"] : List Str)).map V.str from fun X => by simp] at W
  walk_at "rd"
  exact k _ _ (W.arr spR (by walk_at "sub"))
theorem eqvAll_strs : ∀ {a b : List Str}, PyData.eqvAll (a.map PyData.str) (b.map PyData.str) = decide (a = b)
  | [], [] => by simp [PyData.eqvAll]
  | [], _ :: _ => by simp [PyData.eqvAll]
  | _ :: _, [] => by simp [PyData.eqvAll]
  | x :: a, y :: b => by
    have ih := eqvAll_strs (a := a) (b := b)
    simp only [List.map_cons, PyData.eqvAll, PyData.eqv, ih]
    by_cases h : x = y
    · subst h
      simp
    · have : ¬ (x :: a = y :: b) := fun e => h (List.cons.inj e).1
      simp [h]
theorem eqv_strs {a b : List Str} : PyData.eqv (.list (a.map PyData.str)) (.list (b.map PyData.str)) = decide (a = b) := by
  rw [PyData.eqv, eqvAll_strs]
theorem shp_strs {a : List Str} (h : ∀ w ∈ a, PyData.strOk w = true) : Shp 1 (.list (a.map PyData.str)) := shp_list (mem_map fun w hw => shp_str (h w hw))
theorem hasAll_strs {K : PySem.W.Frag} {D : List Fct} (a : List Str) : HasAll K D (a.map V.str) (a.map PyData.str) := fun B _ => by
  induction a with
  | nil => exact .nil
  | cons x r ih => exact .cons (.str x) ih
section
variable {g : G} {CL CB : Addr} {d : Nat} {A : Around} {vs : List V} {H : Hp} {Q : VK} {E : XK} {k1 : Nat}
theorem w_br_halls (hr : Room k1 A) (C : Cls2 g CL CB) (f2 : PM g k1 CL CB "halls" (spNum g CL CB Pn.halls d)) (h : ∃ n ab ss ps, spNum g CL CB Pn.halls (d + 1) (.br n ab ss ps) vs H Q E) :
    t_Branch_halls g A { nx := fun _ H' => Q .non H', rt := Q } (start ["self", "part"] vs) H := by
  obtain ⟨n, ab, ss, ps, v, L, D, rfl, hv, ok, hd, W, k⟩ := h
  obtain ⟨F, okl⟩ := ok
  obtain ⟨a, dx, pa, au, sa, pvs, svs, rfl, lp, ls, W1⟩ := W.opBr hv
  have hC := C.br
  have fl := F.len
  have hd2 : deepL ps ≤ d := by simp only [Pn.deep] at hd; omega
  have hpp : isPs g.K CL CB pvs ps ∈ isI a (.ins CB dx [("manner", .str n), ("parts", .ref pa), ("above", .ref au), ("sets", .ref sa)]) :: isT g.K pa pvs :: isPs g.K CL CB pvs ps :: isT g.K au (ab.map V.int) :: isT g.K sa svs :: isSs svs ss :: D := by walk_at "mem"
  replace W := W1
  clear W1
  rw [e_Branch_halls]
  show r_Branch_halls g A _ [some (.ref a), none] H
  unfold r_Branch_halls
  walk_at "rd"
  refine k_lcM ps (fun t => V.int ((t.halls : Nat) : Int)) (lp ▸ walk_tup) W (sl_of (by omega)) (fun p acc H W => W.tupl (by walk_at "mem")) ?_ ?_
  · rintro p i x H H' acc e N Z he W ⟨rfl, hx⟩ hN
    obtain ⟨t, ht, W1⟩ := W.itemP hpp hx
    rw [ht] at he
    cases he
    replace W := W1
    clear W1
    walk_at "rd"
    refine ⟨rfl, ?_⟩
    walk_at "rd"
    exact k_pm C W List.mem_cons_self f2 hr rfl ⟨x, _, _, rfl, List.mem_cons_self, okL_get okl ht, deepL_get hd2 ht, W, fun H' W' => hN _ W'.dF⟩
  · clear W H
    intro p H W
    walk_at "rd"
    refine k_sum (ns := ps.map fun t => ((t.halls : Nat) : Int)) (by rw [List.map_map]; exact W.sq List.mem_cons_self) ?_
    walk_at "rd"
    have e : 1 + (ps.map fun t => ((t.halls : Nat) : Int)).sum = (((Pn.br n ab ss ps).halls : Nat) : Int) := by
      rw [Pn.halls, hallsL_eq]
      have : ∀ l : List Pn, (l.map fun t => ((t.halls : Nat) : Int)).sum = (((l.map Pn.halls).sum : Nat) : Int) := by
        intro l
        induction l with
        | nil => rfl
        | cons x r ih => simp [ih]
      rw [this]
      simp
    rw [e]
    exact k _ (W.dO.arr spR (by walk_at "sub"))
theorem deepL_max : ∀ {ps : List Pn} {m : Int}, m ∈ ps.map (fun t => ((t.deep : Nat) : Int)) → (∀ y ∈ ps.map (fun t => ((t.deep : Nat) : Int)), y ≤ m) → m = ((deepL ps : Nat) : Int) := by
  intro ps m h1 h2
  obtain ⟨t, ht, rfl⟩ := List.mem_map.mp h1
  have a1 : deepL ps ≤ t.deep := deepL_le.mpr fun p hp => by
    have := h2 _ (List.mem_map.mpr ⟨p, hp, rfl⟩)
    omega
  have a2 : t.deep ≤ deepL ps := deepL_le.mp (Nat.le_refl _) t ht
  omega
theorem w_br_deep (hr : Room k1 A) (C : Cls2 g CL CB) (f2 : PM g k1 CL CB "deep" (spNum g CL CB Pn.deep d)) (h : ∃ n ab ss ps, spNum g CL CB Pn.deep (d + 1) (.br n ab ss ps) vs H Q E) :
    t_Branch_deep g A { nx := fun _ H' => Q .non H', rt := Q } (start ["self", "part"] vs) H := by
  obtain ⟨n, ab, ss, ps, v, L, D, rfl, hv, ok, hd, W, k⟩ := h
  obtain ⟨F, okl⟩ := ok
  obtain ⟨a, dx, pa, au, sa, pvs, svs, rfl, lp, ls, W1⟩ := W.opBr hv
  have hC := C.br
  have fl := F.len
  have hd2 : deepL ps ≤ d := by simp only [Pn.deep] at hd; omega
  have hpp : isPs g.K CL CB pvs ps ∈ isI a (.ins CB dx [("manner", .str n), ("parts", .ref pa), ("above", .ref au), ("sets", .ref sa)]) :: isT g.K pa pvs :: isPs g.K CL CB pvs ps :: isT g.K au (ab.map V.int) :: isT g.K sa svs :: isSs svs ss :: D := by walk_at "mem"
  replace W := W1
  clear W1
  rw [e_Branch_deep]
  show r_Branch_deep g A _ [some (.ref a), none] H
  unfold r_Branch_deep
  walk_at "rd"
  refine k_lcM ps (fun t => V.int ((t.deep : Nat) : Int)) (lp ▸ walk_tup) W (sl_of (by omega)) (fun p acc H W => W.tupl (by walk_at "mem")) ?_ ?_
  · rintro p i x H H' acc e N Z he W ⟨rfl, hx⟩ hN
    obtain ⟨t, ht, W1⟩ := W.itemP hpp hx
    rw [ht] at he
    cases he
    replace W := W1
    clear W1
    walk_at "rd"
    refine ⟨rfl, ?_⟩
    walk_at "rd"
    exact k_pm C W List.mem_cons_self f2 hr rfl ⟨x, _, _, rfl, List.mem_cons_self, okL_get okl ht, deepL_get hd2 ht, W, fun H' W' => hN _ W'.dF⟩
  · clear W H
    intro p H W
    walk_at "rd"
    have hne : 0 < ps.length := List.length_pos_iff.mpr F.hp
    refine k_maxL (ns := ps.map fun t => ((t.deep : Nat) : Int)) (by rw [List.map_map]; exact W.sq List.mem_cons_self) (by rw [List.length_map]; exact hne) ?_
    intro m h1 h2
    rw [deepL_max h1 h2]
    walk_at "rd"
    have e : 1 + ((deepL ps : Nat) : Int) = (((Pn.br n ab ss ps).deep : Nat) : Int) := by
      rw [Pn.deep]
      simp
    rw [e]
    exact k _ (W.dO.arr spR (by walk_at "sub"))
theorem fil_snoc {ws : List Str} {i : Nat} {w x : Str} (h : ws[i]? = some w) : (ws.take (i + 1)).filter (fun w => decide (w = x)) = (ws.take i).filter (fun w => decide (w = x)) ++ if w = x then [w] else [] := by
  rw [List.take_add_one, h, List.filter_append]
  congr 1
  by_cases e : w = x
  · simp [e]
  · simp [e]
theorem w_br_len (hr : Room k1 A) (C : Cls2 g CL CB) (f2 : PM g k1 CL CB "words" (spWds g CL CB d)) (h : ∃ n ab ss ps, spNum g CL CB Pn.leaves d (.br n ab ss ps) vs H Q E) :
    t_Branch_len g A { nx := fun _ H' => Q .non H', rt := Q } (start ["self", "word"] vs) H := by
  obtain ⟨n, ab, ss, ps, v, L, D, rfl, hv, ok, hd, W, k⟩ := h
  rw [e_Branch_len]
  show r_Branch_len g A _ [some v, none] H
  unfold r_Branch_len
  walk_at "rd"
  refine k_pm C W hv f2 hr rfl ⟨v, _, _, rfl, hv, ok, hd, W, ?_⟩
  clear W H
  intro q H W
  walk_at "rd"
  obtain ⟨ws, hws⟩ : ∃ ws, (Pn.br n ab ss ps).words = ws := ⟨_, rfl⟩
  have hlen := words_max ok
  have hcnt := cnt_o _ ok
  rw [hws] at W hlen hcnt
  refine k_lc walk_list W (fun p i H => Wd ((p, .lst (((ws.take i).filter fun w : Str => decide (w = "o")).map V.str)) :: (q, .lst (ws.map V.str)) :: L) D H) (fun p H' W => W) (fun p i H _ W => W.sq (List.mem_cons_of_mem _ List.mem_cons_self)) ?_ ?_
  · rintro p i x H H' hi W ⟨rfl, hx⟩
    rw [List.getElem?_map] at hx
    obtain ⟨w, hw, rfl⟩ := Option.map_eq_some_iff.mp hx
    rw [List.length_map] at hi
    walk_at "rd"
    refine ⟨rfl, ?_⟩
    walk_at "rd"
    refine k_ifd (fun h => ?_) (fun h => ?_)
    · walk_at "rd"
      refine k_push W (sl_lt ?_) ?_
      · rw [List.length_map]
        have := List.length_filter_le (fun w : Str => decide (w = "o")) (ws.take i)
        rw [List.length_take] at this
        omega
      · intro H W
        rw [fil_snoc hw, if_pos h, List.map_append]
        exact W
    · rw [fil_snoc hw, if_neg h, List.append_nil]
      exact W
  · clear W H
    intro p H W
    rw [List.length_map, List.take_length] at W
    walk_at "rd"
    rw [List.length_map]
    rw [show ((ws.filter fun w : Str => decide (w = "o")).length : Int) = ((cnt "o" ws : Nat) : Int) from rfl, hcnt]
    exact k _ W.dO.dO
theorem w_br_str (hr : Room k1 A) (C : Cls2 g CL CB) (f2 : PM g k1 CL CB "words" (spWds g CL CB d)) (h : ∃ n ab ss ps, spTxt g CL CB d (.br n ab ss ps) vs H Q E) :
    t_Branch_str g A { nx := fun _ H' => Q .non H', rt := Q } (start ["self"] vs) H := by
  obtain ⟨n, ab, ss, ps, v, L, D, rfl, hv, ok, hd, W, k⟩ := h
  rw [e_Branch_str]
  show r_Branch_str g A _ [some v] H
  unfold r_Branch_str
  walk_at "rd"
  refine ⟨rfl, ?_⟩
  walk_at "rd"
  refine k_pm C W hv f2 hr rfl ⟨v, _, _, rfl, hv, ok, hd, W, ?_⟩
  clear W H
  intro q H W
  walk_at "rd"
  exact k_join (W.sq List.mem_cons_self) (words_join ok) (k _ W.dO)
def eqP (t : Pn) : Option Pn → Bool
  | some u => (match t, u with
    | .leaf, .leaf => true
    | .br a b c d, .br a' b' c' d' => decide ((Pn.br a b c d).words = (Pn.br a' b' c' d').words)
    | _, _ => false)
  | none => false
def spEqP (g : G) (CL CB : Addr) (d : Nat) (t : Pn) : Sp := fun vs H Q _ => ∃ v w o L D, vs = [v, w] ∧ isP g.K CL CB v t ∈ D ∧ t.ok ∧ t.deep ≤ d ∧ (match o with | some u => isP g.K CL CB w u ∈ D ∧ u.ok ∧ u.deep ≤ d | none => ∃ z, w = .str z) ∧ Wd L D H ∧ ∀ H', Wd L D H' → Q (.bl (eqP t o)) H'
theorem tyP (C : Cls2 g CL CB) {L : Ow} {D : List Fct} {v : V} {t : Pn} (W : Wd L D H) (h : isP g.K CL CB v t ∈ D) : TyX g.K H v (.ref (match t with | .leaf => CL | _ => CB)) := by
  cases t with
  | leaf =>
    obtain ⟨a, dx, rfl, W1⟩ := W.opLf h
    exact .base (.ins (W1.atI List.mem_cons_self) C.lf.cl C.tl.ha C.tl.hn C.tl.htk C.tl.hm)
  | br n ab ss ps =>
    obtain ⟨a, dx, pa, au, sa, pvs, svs, rfl, lp, ls, W1⟩ := W.opBr h
    exact .base (.ins (W1.atI List.mem_cons_self) C.br.cl C.tb.ha C.tb.hn C.tb.htk C.tb.hm)
theorem w_lf_eq (C : Cls2 g CL CB) (h : spEqP g CL CB d .leaf vs H Q E) : t_Leaf_eq g A { nx := fun _ H' => Q .non H', rt := Q } (start ["self", "other"] vs) H := by
  obtain ⟨v, w, o, L, D, rfl, hv, ok, hd, ho, W, k⟩ := h
  rw [e_Leaf_eq]
  show r_Leaf_eq g A _ [some v, some w] H
  unfold r_Leaf_eq
  walk_at "rd"
  refine k_gl (v := .ref CL) ⟨_, C.nL, rfl⟩ ?_
  walk_at "rd"
  cases o with
  | none =>
    obtain ⟨z, rfl⟩ := ho
    exact k_isi (.own CL) (.base (.str z)) C.sl (k _ W)
  | some u =>
    have ty := tyP C W ho.1
    cases u with
    | leaf => exact k_isi (.own CL) ty C.ll (k _ W)
    | br _ _ _ _ => exact k_isi (.own CL) ty C.bl (k _ W)
theorem w_br_eq (hr : Room k1 A) (C : Cls2 g CL CB) (f2 : PM g k1 CL CB "words" (spWds g CL CB d)) (h : ∃ n ab ss ps, spEqP g CL CB d (.br n ab ss ps) vs H Q E) : t_Branch_eq g A { nx := fun _ H' => Q .non H', rt := Q } (start ["self", "other"] vs) H := by
  obtain ⟨n, ab, ss, ps, v, w, o, L, D, rfl, hv, ok, hd, ho, W, k⟩ := h
  rw [e_Branch_eq]
  show r_Branch_eq g A _ [some v, some w] H
  unfold r_Branch_eq
  walk_at "rd"
  refine k_gl (v := .ref CB) ⟨_, C.nB, rfl⟩ ?_
  walk_at "rd"
  cases o with
  | none =>
    obtain ⟨z, rfl⟩ := ho
    refine k_isi (.own CB) (.base (.str z)) C.sb ?_
    walk_at "rd"
    exact k _ W
  | some u =>
    have ty := tyP C W ho.1
    obtain ⟨ho1, ho2, ho3⟩ := ho
    cases u with
    | leaf =>
      refine k_isi (.own CB) ty C.lb ?_
      walk_at "rd"
      exact k _ W
    | br n' ab' ss' ps' =>
      refine k_isi (.own CB) ty C.bb ?_
      walk_at "rd"
      refine k_pm C W hv f2 hr rfl ⟨v, _, _, rfl, hv, ok, hd, W, ?_⟩
      clear W H ty
      intro q H W
      walk_at "rd"
      refine k_pm C W ho1 f2 hr rfl ⟨w, _, _, rfl, ho1, ho2, ho3, W, ?_⟩
      clear W H
      intro q2 H W
      walk_at "rd"
      have W1 := W.frzL (K := g.K) (hasAll_strs _)
      have W2 := W1.frzL (K := g.K) (hasAll_strs _)
      refine k_eq_D W2 (has_mem List.mem_cons_self) (has_mem (List.mem_cons_of_mem _ List.mem_cons_self)) (shp_strs fun w hw => (words_small ok w hw).2).ok (shp_strs fun w hw => (words_small ho2 w hw).2).ok ?_
      rw [eqv_strs]
      exact k _ W2.dF.dF
end
def firstWrong (m : Str) (ds : List PyData) (ss : List (List Int)) (ps : List Pn) : Option Str :=
  if m ∉ manners then some "manner" else if ps = [] then some "parts" else if ¬ (leavesL ps + hallsL ps ≤ 60) then some "many" else if ¬ (deepL ps ≤ 5) then some "deep"
  else if aboveB m ds ps.length = false then some "above" else if setsB m ss ps.length = false then some "sets" else if m = "votes" ∧ meets ss = false then some "apart" else none
theorem Fits.none {m : Str} {ab : List Int} {ss : List (List Int)} {ps : List Pn} (F : Fits m ab ss ps) : firstWrong m (ab.map PyData.int) ss ps = none := by
  have hf := F.hf
  have ha := aboveB_ints F.ha
  have hs : setsB m ss ps.length = true := by
    unfold famOk at hf
    unfold setsB
    split at hf
    · rename_i h
      rw [if_pos h]
      exact decide_eq_true ⟨hf.1, hf.2.1, faultF_none.mpr hf.2.2.1⟩
    · rename_i h
      rw [if_neg h, hf]
      rfl
  unfold firstWrong
  rw [if_neg (fun h => h F.hm), if_neg F.hp, if_neg (fun h => h F.hs), if_neg (fun h => h F.hd), if_neg (by rw [ha]; decide), if_neg (by rw [hs]; decide), if_neg]
  rintro ⟨h1, h2⟩
  unfold famOk at hf
  rw [if_pos h1] at hf
  rw [hf.2.2.2] at h2
  cases h2
structure PMs (g : G) (k : Nat) (CL CB : Addr) (d : Nat) : Prop where
  words : PM g k CL CB "words" (spWds g CL CB d)
  halls : PM g k CL CB "halls" (spNum g CL CB Pn.halls d)
  deep : PM g k CL CB "deep" (spNum g CL CB Pn.deep d)
  len : PM g k CL CB "__len__" (spNum g CL CB Pn.leaves d)
structure PMs2 (g : G) (k : Nat) (CL CB : Addr) (d : Nat) : Prop where
  toPMs : PMs g k CL CB d
  str : PM g k CL CB "__str__" (spTxt g CL CB d)
  eq : PM g k CL CB "__eq__" (spEqP g CL CB d)
def spFw (g : G) (CL CB : Addr) (d : Nat) : Sp := fun vs H Q _ => ∃ m pa b1 pvs ps au b2 aus ds sa b3 svs ss L D, vs = [.str m, .ref pa, .ref au, .ref sa] ∧ InB g.K b1 L D pa pvs ∧ isPs g.K CL CB pvs ps ∈ D ∧ InB g.K b2 L D au aus ∧ isDs g.K aus ds ∈ D ∧ InB g.K b3 L D sa svs ∧ isSs svs ss ∈ D ∧
  ss.length ≤ 1000000 ∧ (∀ s ∈ ss, s.length ≤ 1000000) ∧ ps.length ≤ 1000000 ∧ okL ps ∧ deepL ps ≤ d ∧ Wd L D H ∧ ∀ H', Wd L D H' → Q (optS (firstWrong m ds ss ps)) H'
theorem w_first_wrong {g : G} {CL CB : Addr} {d : Nat} {A : Around} {vs : List V} {H : Hp} {Q : VK} {E : XK} {k1 : Nat} (hr : Room (k1 + 4) A) (C : Cls2 g CL CB) (c : Cst g) (M : PMs g k1 CL CB d) (f1 : GF g k1 "above_fits" (spAboveFits g)) (f2 : GF g k1 "sets_fit" (spSetsFit g)) (f3 : GF g k1 "meeting" (spMeeting g))
    (h : spFw g CL CB d vs H Q E) : t_first_wrong g A { nx := fun _ H' => Q .non H', rt := Q } (start ["manner", "parts", "above", "sets", "part"] vs) H := by
  obtain ⟨m, pa, b1, pvs, ps, au, b2, aus, ds, sa, b3, svs, ss, L, D, rfl, hpa, hps, hau, hds, hsa, hss, hl1, hl2, hl3, okl, hd, W, k⟩ := h
  have hr1 : Room k1 A := hr.mono (by omega)
  have lp := W.lenPs hps
  have la := W.lenL hds
  have lss := W.lenSs hss
  have kk : ∀ o, firstWrong m ds ss ps = o → ∀ H', Wd L D H' → Q (optS o) H' := fun o e H' W' => by
    subst e
    exact k H' W'
  rw [e_first_wrong]
  show r_first_wrong g A _ [some (.str m), some (.ref pa), some (.ref au), some (.ref sa), none] H
  unfold r_first_wrong
  walk_at "rd"
  obtain ⟨ma, hma, hmq⟩ := c.manners
  refine k_gl (v := .ref ma) ⟨_, hma, rfl⟩ ?_
  walk_at "rd"
  refine k_notIn_strs (.inr (hmq H)) ?_
  walk_at "rd"
  refine k_ifnd (fun h1 => ?_) (fun h1 => ?_)
  · walk_at "rd"
    exact kk (some "manner") (by unfold firstWrong; rw [if_pos h1]) _ W
  walk_at "rd"
  refine k_tru_B (W.sqB hpa) ?_
  walk_at "rd"
  have n1 : ¬ m ∉ manners := fun h => h h1
  by_cases h2 : ps = []
  · have e : pvs = [] := List.length_eq_zero_iff.mp (by rw [lp, h2]; rfl)
    subst e
    refine k_ifT (by rfl) ?_
    walk_at "rd"
    exact kk (some "parts") (by unfold firstWrong; rw [if_neg n1, if_pos h2]) _ W
  have hne : 0 < ps.length := List.length_pos_iff.mpr h2
  refine k_ifF (by
    cases pvs with
    | nil => simp at lp; omega
    | cons _ _ => rfl) ?_
  walk_at "rd"
  refine k_iter_B (W.sqB hpa) ?_
  refine k_lcM ps (fun _ => V.bl true) (lp ▸ walk_B) W (sl_of (by omega)) (fun p acc H W => W.sqB (hpa.mono (fun _ h => List.mem_cons_of_mem _ h) (fun _ h => h))) ?_ ?_
  · rintro p i x H H' acc e N Z he W ⟨rfl, hx⟩ hN
    obtain ⟨t, ht, W1⟩ := W.itemP hps hx
    replace W := W1
    clear W1
    walk_at "rd"
    refine ⟨rfl, ?_⟩
    walk_at "rd"
    refine k_gl (v := .ref CL) ⟨_, C.nL, rfl⟩ ?_
    walk_at "rd"
    refine k_gl (v := .ref CB) ⟨_, C.nB, rfl⟩ ?_
    walk_at "rd"
    have ty := tyP C W (List.mem_cons_self)
    refine .inr ⟨x, _, _, _, [.ref CL, .ref CB], true, rfl, W.at_ List.mem_cons_self, .cons (.own CL) (.cons (.own CB) .nil), ty, ?_, hN _ W.dO.dF⟩
    cases t with
    | leaf =>
      show (match PySem.W.kitOne g.K (.ref CL) (.ref CL) with | some true => some true | some false => _ | none => none) = some true
      rw [C.ll]
    | br _ _ _ _ =>
      show (match PySem.W.kitOne g.K (.ref CB) (.ref CL) with | some true => some true | some false => (match PySem.W.kitOne g.K (.ref CB) (.ref CB) with | some true => some true | some false => _ | none => none) | none => none) = some true
      rw [C.bl, C.bb]
  clear W H
  intro q H W
  walk_at "rd"
  refine k_all (bs := ps.map fun _ => true) (by rw [List.map_map]; exact W.sq List.mem_cons_self) ?_
  rw [show (ps.map fun _ => true).all id = true from by simp]
  replace W := W.dO
  walk_at "rd"
  refine k_iter_B (W.sqB hpa) ?_
  refine k_lcM ps (fun t => V.int (((t.leaves + t.halls : Nat)) : Int)) (lp ▸ walk_B) W (sl_of (by omega)) (fun p acc H W => W.sqB (hpa.mono (fun _ h => List.mem_cons_of_mem _ h) (fun _ h => h))) ?_ ?_
  · rintro p i x H H' acc e N Z he W ⟨rfl, hx⟩ hN
    obtain ⟨t, ht, W1⟩ := W.itemP hps hx
    rw [ht] at he
    cases he
    replace W := W1
    clear W1
    walk_at "rd"
    refine ⟨rfl, ?_⟩
    walk_at "rd"
    refine .inr ⟨x, rfl, k_ownP W List.mem_cons_self M.len hr ⟨x, _, _, rfl, List.mem_cons_self, okL_get okl ht, deepL_get hd ht, W, ?_⟩⟩
    clear W
    intro H W
    have s1 := size_le (okL_get okl ht)
    refine ⟨_, rfl, by omega, ?_⟩
    walk_at "rd"
    refine k_pm C W List.mem_cons_self M.halls hr1 rfl ⟨x, _, _, rfl, List.mem_cons_self, okL_get okl ht, deepL_get hd ht, W, ?_⟩
    clear W
    intro H W
    walk_at "rd"
    exact hN _ W.dF
  clear W H
  intro q H W
  walk_at "rd"
  refine k_sum (ns := ps.map fun t => (((t.leaves + t.halls : Nat)) : Int)) (by rw [List.map_map]; exact W.sq List.mem_cons_self) ?_
  replace W := W.dO
  have esum : (ps.map fun t => (((t.leaves + t.halls : Nat)) : Int)).sum = (((leavesL ps + hallsL ps : Nat)) : Int) := by
    rw [leavesL_eq, hallsL_eq]
    have : ∀ l : List Pn, (l.map fun t => (((t.leaves + t.halls : Nat)) : Int)).sum = ((((l.map Pn.leaves).sum + (l.map Pn.halls).sum : Nat)) : Int) := by
      intro l
      induction l with
      | nil => rfl
      | cons x r ih =>
        rw [List.map_cons, List.sum_cons, ih, List.map_cons, List.map_cons, List.sum_cons, List.sum_cons]
        omega
    exact this ps
  rw [esum]
  walk_at "rd"
  refine k_gl c.most ?_
  walk_at "rd"
  refine k_ifd (fun h3 => ?_) (fun h3 => ?_)
  · walk_at "rd"
    exact kk (some "many") (by unfold firstWrong; rw [if_neg n1, if_neg h2, if_pos (by omega)]) _ W
  have n3 : ¬ ¬ (leavesL ps + hallsL ps ≤ 60) := by omega
  walk_at "rd"
  refine k_iter_B (W.sqB hpa) ?_
  refine k_lcM ps (fun t => V.int ((t.deep : Nat) : Int)) (lp ▸ walk_B) W (sl_of (by omega)) (fun p acc H W => W.sqB (hpa.mono (fun _ h => List.mem_cons_of_mem _ h) (fun _ h => h))) ?_ ?_
  · rintro p i x H H' acc e N Z he W ⟨rfl, hx⟩ hN
    obtain ⟨t, ht, W1⟩ := W.itemP hps hx
    rw [ht] at he
    cases he
    replace W := W1
    clear W1
    walk_at "rd"
    refine ⟨rfl, ?_⟩
    walk_at "rd"
    exact k_pm C W List.mem_cons_self M.deep hr1 rfl ⟨x, _, _, rfl, List.mem_cons_self, okL_get okl ht, deepL_get hd ht, W, fun H' W' => hN _ W'.dF⟩
  clear W H
  intro q H W
  walk_at "rd"
  refine k_maxL (ns := ps.map fun t => ((t.deep : Nat) : Int)) (by rw [List.map_map]; exact W.sq List.mem_cons_self) (by rw [List.length_map]; exact hne) ?_
  intro mx m1 m2
  rw [deepL_max m1 m2]
  replace W := W.dO
  walk_at "rd"
  refine k_gl c.deepest ?_
  walk_at "rd"
  refine k_ifd (fun h4 => ?_) (fun h4 => ?_)
  · walk_at "rd"
    exact kk (some "deep") (by unfold firstWrong; rw [if_neg n1, if_neg h2, if_neg n3, if_pos (by omega)]) _ W
  have n4 : ¬ ¬ (deepL ps ≤ 5) := by omega
  walk_at "rd"
  refine k_lenO (k_len_B (W.sqB hpa) ?_)
  rw [lp]
  walk_at "rd"
  refine k_call f1 hr1 ⟨m, au, b2, aus, ds, ps.length, L, D, rfl, hau, hds, by omega, W, ?_⟩
  clear W H
  intro H W
  walk_at "rd"
  cases h5 : aboveB m ds ps.length with
  | false =>
    walk_at "rd"
    exact kk (some "above") (by unfold firstWrong; rw [if_neg n1, if_neg h2, if_neg n3, if_neg n4, if_pos h5]) _ W
  | true =>
  have n5 : ¬ aboveB m ds ps.length = false := by rw [h5]; decide
  walk_at "rd"
  refine k_lenO (k_len_B (W.sqB hpa) ?_)
  rw [lp]
  walk_at "rd"
  refine k_call f2 hr1 ⟨m, sa, b3, svs, ss, ps.length, L, D, rfl, hsa, hss, hl1, hl2, W, ?_⟩
  clear W H
  intro H W
  walk_at "rd"
  cases h6 : setsB m ss ps.length with
  | false =>
    walk_at "rd"
    exact kk (some "sets") (by unfold firstWrong; rw [if_neg n1, if_neg h2, if_neg n3, if_neg n4, if_neg n5, if_pos h6]) _ W
  | true =>
  have n6 : ¬ setsB m ss ps.length = false := by rw [h6]; decide
  walk_at "rd"
  refine k_ifd (fun h7 => ?_) (fun h7 => ?_)
  · walk_at "rd"
    refine k_lenO (k_len_B (W.sqB hpa) ?_)
    rw [lp]
    walk_at "rd"
    refine k_list_B W (W.sqB hsa) ?_
    clear W H
    intro q H W
    have hfam : ss.length ≤ 200 ∧ FamOk ps.length ss := by
      unfold setsB at h6
      rw [if_pos h7] at h6
      have := of_decide_eq_true h6
      exact ⟨this.2.1, faultF_none.mp this.2.2⟩
    have := len_le_size ps
    walk_at "rd"
    refine k_call f3 hr1 ⟨ps.length, q, svs, ss, _, D, rfl, by omega, by omega, List.mem_cons_self, hss, hfam.1, hfam.2, W, ?_⟩
    clear W H
    intro p xs H W
    walk_at "rd"
    cases h8 : meets ss with
    | false =>
      refine k_ifT (by rfl) ?_
      walk_at "rd"
      exact kk (some "apart") (by unfold firstWrong; rw [if_neg n1, if_neg h2, if_neg n3, if_neg n4, if_neg n5, if_neg n6, if_pos ⟨h7, h8⟩]) _ W.dF.dO
    | true =>
      refine k_ifF (by decide +kernel) ?_
      walk_at "rd"
      exact kk none (by unfold firstWrong; rw [if_neg n1, if_neg h2, if_neg n3, if_neg n4, if_neg n5, if_neg n6, if_neg (fun h => by rw [h8] at h; cases h.2)]) _ W.dF.dO
  · walk_at "rd"
    exact kk none (by unfold firstWrong; rw [if_neg n1, if_neg h2, if_neg n3, if_neg n4, if_neg n5, if_neg n6, if_neg (fun h => h7 h.1)]) _ W
def spBrInit (g : G) (CL CB : Addr) : Sp := fun vs H Q _ => ∃ p dx m pa b1 pvs ps au b2 ab sa b3 svs ss L D, vs = [.ref p, .str m, .ref pa, .ref au, .ref sa] ∧ InB g.K b1 L D pa pvs ∧ isPs g.K CL CB pvs ps ∈ D ∧ InB g.K b2 L D au (ab.map V.int) ∧ InB g.K b3 L D sa svs ∧ isSs svs ss ∈ D ∧
  Fits m ab ss ps ∧ okL ps ∧ Wd ((p, .ins CB dx []) :: L) D H ∧ ∀ H', Wd L (isP g.K CL CB (.ref p) (.br m ab ss ps) :: D) H' → Q .non H'
theorem w_br_init {g : G} {CL CB : Addr} {A : Around} {vs : List V} {H : Hp} {Q : VK} {E : XK} {k1 : Nat} (hr : Room k1 A) (C : Cls2 g CL CB) (f1 : GF g k1 "first_wrong" (spFw g CL CB 6)) (h : spBrInit g CL CB vs H Q E) :
    t_Branch_init g A { nx := fun _ H' => Q .non H', rt := Q } (start ["self", "manner", "parts", "above", "sets", "wrong"] vs) H := by
  obtain ⟨p, dx, m, pa, b1, pvs, ps, au, b2, ab, sa, b3, svs, ss, L, D, rfl, hpa, hps, hau, hsa, hss, F, okl, W, k⟩ := h
  have hC := C.br
  have fl := F.len
  have ff := F.fam
  rw [e_Branch_init]
  show r_Branch_init g A _ [some (.ref p), some (.str m), some (.ref pa), some (.ref au), some (.ref sa), none] H
  unfold r_Branch_init
  walk_at "rd"
  have W1 := W.addDs (K := g.K) (hasAll_ints ab)
  have up : ∀ {b : Bool} {a : Addr} {xs : List V}, InB g.K b L D a xs → InB g.K b ((p, .ins CB dx []) :: L) (isDs g.K (ab.map V.int) (ab.map PyData.int) :: D) a xs := fun h => h.mono (fun _ h => List.mem_cons_of_mem _ h) (fun _ h => List.mem_cons_of_mem _ h)
  refine k_call f1 hr ⟨m, pa, b1, pvs, ps, au, b2, ab.map V.int, ab.map PyData.int, sa, b3, svs, ss, _, _, rfl, up hpa, List.mem_cons_of_mem _ hps, up hau, List.mem_cons_self, up hsa, List.mem_cons_of_mem _ hss, by omega, fun s hs => ?_, by omega, okl, by have := F.hd; omega, W1, ?_⟩
  · have := (ff.2.ok s hs).len
    omega
  clear W W1 H
  intro H W
  replace W := W.dF
  rw [F.none]
  walk_at "rd"
  have up2 : ∀ {b : Bool} {a : Addr} {xs : List V} {o : HO} {D' : List Fct}, InB g.K b L D a xs → D ⊆ D' → InB g.K b ((p, o) :: L) D' a xs := fun h s => h.mono (fun _ h => List.mem_cons_of_mem _ h) s
  refine k_tuple_B W (up2 hpa fsR) ?_
  clear W H
  intro pt H W
  walk_at "rd"
  refine k_tuple_B W (up2 hau (fsT fsR)) ?_
  clear W H
  intro at_ H W
  walk_at "rd"
  refine k_tuple_B W (up2 hsa (fsT (fsT fsR))) ?_
  clear W H
  intro st H W
  walk_at "rd"
  have W1 := W.frzI
  have W2 := W1.der (F := isP g.K CL CB (.ref p) (.br m ab ss ps)) isP_stab fun B b => .br (b _ List.mem_cons_self) (b (isT g.K pt pvs) (by walk_at "mem")) (b _ (List.mem_cons_of_mem _ (List.mem_cons_of_mem _ (List.mem_cons_of_mem _ (List.mem_cons_of_mem _ hps))))) (b (isT g.K at_ (ab.map V.int)) (by walk_at "mem")) (b (isT g.K st svs) (by walk_at "mem")) (b _ (List.mem_cons_of_mem _ (List.mem_cons_of_mem _ (List.mem_cons_of_mem _ (List.mem_cons_of_mem _ hss)))))
  exact k _ (W2.arr spR (fsC List.mem_cons_self (fsT (fsT (fsT (fsT (fsT fsR)))))))
def spBoxF (g : G) : Sp := fun vs H Q _ => ∃ p cells L D, vs = [.ref p] ∧ isL g.K p (cells.map V.int) ∈ D ∧ Wd L D H ∧ ∀ bx cl H', Wd ((bx, bxO cl 0 0 5) :: (cl, clO cells) :: L) D H' → Q (.ref bx) H'
theorem w_boxF {g : G} {A : Around} {vs : List V} {H : Hp} {Q : VK} {E : XK} (h : spBoxF g vs H Q E) : t_law_box g A { nx := fun _ H' => Q .non H', rt := Q } (start ["cells"] vs) H := by
  obtain ⟨p, cells, L, D, rfl, hp, W, k⟩ := h
  rw [e_law_box]
  show r_law_box g A _ [some (.ref p)] H
  unfold r_law_box
  walk_at "rd"
  refine k_list_L W (W.list hp) ?_
  clear W H
  intro r H W
  walk_at "rd"
  exact k _ _ _ W
structure SetLo (n : Int) (s : List Int) : Prop where
  bd : ∀ x ∈ s, 0 ≤ x ∧ x < n
  up : risingB s = true
theorem rising_snoc : ∀ {s : List Int} {x : Int}, risingB s = true → (∀ y ∈ s, y < x) → risingB (s ++ [x]) = true
  | [], x, _, _ => rfl
  | [a], x, _, h => by
    show (decide (a < x) && true) = true
    rw [decide_eq_true (h a List.mem_cons_self)]
    rfl
  | a :: b :: r, x, h, hb => by
    unfold risingB at h
    have h := Bool.and_eq_true_iff.mp h
    show (decide (a < b) && risingB ((b :: r) ++ [x])) = true
    rw [h.1, rising_snoc h.2 fun y hy => hb y (List.mem_cons_of_mem _ hy)]
    rfl
def spSome (g : G) : Sp := fun vs H Q _ => ∃ b : Int, ∃ n : Nat, ∃ L D, vs = [.int b, .int n] ∧ n ≤ 1000 ∧ Wd L D H ∧ ∀ a s H', SetLo n s → s.length ≤ n → Wd L (isI a (.tup (s.map V.int)) :: D) H' → Q (.ref a) H'
theorem w_some {g : G} {A : Around} {vs : List V} {H : Hp} {Q : VK} {E : XK} (h : spSome g vs H Q E) : t_law_some g A { nx := fun _ H' => Q .non H', rt := Q } (start ["bits", "parts", "one", "part"] vs) H := by
  obtain ⟨b, n, L, D, rfl, hn, W, k⟩ := h
  rw [e_law_some]
  show r_law_some g A _ [some (.int b), some (.int n), none, none] H
  unfold r_law_some
  walk_at "rd"
  rename_i q
  refine k_rng1 (by omega) (by omega) ?_
  refine k_for walk_range (fun i σ H => ∃ b x s, σ = [some (.int b), some (.int n), some (.ref q), x] ∧ SetLo i s ∧ s.length ≤ i ∧ Wd ((q, .lst (s.map V.int)) :: L) D H) ⟨b, _, [], rfl, ⟨by simp, rfl⟩, by simp, W⟩ (fun _ _ _ _ _ => trivial) ?_ ?_
  · clear W H
    rintro i x σ H H' hi ⟨b, x3, s, rfl, ⟨s1, s2⟩, sl, W⟩ ⟨rfl, rfl⟩
    walk_at "rd"
    refine k_cut (fun σ H => ∃ s, σ = [some (.int b), some (.int n), some (.ref q), some (.int (0 + (i : Int)))] ∧ SetLo (i + 1 : Nat) s ∧ s.length ≤ i + 1 ∧ Wd ((q, .lst (s.map V.int)) :: L) D H) ?_ ?_
    · walk_at "rd"
      refine k_mod (by decide) ?_
      walk_at "rd"
      refine k_ifd (fun h => ?_) (fun h => ?_)
      · walk_at "rd"
        refine k_app W (sl_lt (by rw [List.length_map]; omega)) ?_
        clear W
        intro H W
        refine ⟨s ++ [0 + (i : Int)], rfl, ⟨fun x hx => ?_, rising_snoc s2 fun y hy => ?_⟩, by simp [sl], by rw [List.map_append]; exact W⟩
        · rcases List.mem_append.mp hx with hx | hx
          · have := s1 x hx
            omega
          · have := List.mem_singleton.mp hx
            omega
        · have := s1 y hy
          omega
      · walk_at "rd"
        exact ⟨s, rfl, ⟨fun x hx => by have := s1 x hx; omega, s2⟩, by omega, W⟩
    · clear W
      rintro σ H ⟨s, rfl, s1, sl, W⟩
      walk_at "rd"
      refine k_div ⟨by decide, by decide +kernel⟩ ?_
      walk_at "rd"
      exact ⟨_, _, s, rfl, s1, sl, W⟩
  · clear W H
    rintro σ H ⟨b, x3, s, rfl, s1, sl, W⟩
    rw [show ((n : Int).toNat) = n from by omega] at s1 sl
    walk_at "rd"
    refine .inl ⟨q, _, rfl, .inl ⟨W.sq List.mem_cons_self, fun r hr => ?_⟩⟩
    have W1 := W.new hr (.tup (s.map V.int))
    exact k r s _ s1 sl (W1.frzI.dO)
def spMeet (g : G) : Sp := fun vs H Q _ => ∃ a b s t L D, vs = [.ref a, .ref b] ∧ isT g.K a (s.map V.int) ∈ D ∧ isT g.K b (t.map V.int) ∈ D ∧ s.length ≤ 1000000 ∧ Wd L D H ∧ ∀ H', Wd L D H' → Q (.bl (meetS s t)) H'
theorem w_meet {g : G} {A : Around} {vs : List V} {H : Hp} {Q : VK} {E : XK} (h : spMeet g vs H Q E) : t_law_meet g A { nx := fun _ H' => Q .non H', rt := Q } (start ["one", "other", "number"] vs) H := by
  obtain ⟨a, b, s, t, L, D, rfl, ha, hb, hl, W, k⟩ := h
  rw [e_law_meet]
  show r_law_meet g A _ [some (.ref a), some (.ref b), none] H
  unfold r_law_meet
  walk_at "rd"
  refine k_lcM s (fun x => V.bl (decide (x ∈ t))) ((List.length_map V.int (as := s)) ▸ walk_tup) W (sl_of (by omega)) (fun p acc H W => W.tupl ha) ?_ ?_
  · rintro p i x H H' acc e N Z he W ⟨rfl, hx⟩ hN
    rw [List.getElem?_map, he] at hx
    cases hx
    walk_at "rd"
    refine ⟨rfl, ?_⟩
    walk_at "rd"
    exact k_in_ints (.inr (W.tupl hb)) (hN _ W)
  · clear W H
    intro p H W
    walk_at "rd"
    refine k_any (bs := s.map fun x => decide (x ∈ t)) (by rw [List.map_map]; exact W.sq List.mem_cons_self) ?_
    rw [List.any_map]
    exact k _ W.dO
theorem meetS_comm {s t : List Int} : meetS s t = meetS t s := by
  unfold meetS
  apply Bool.eq_iff_iff.mpr
  rw [List.any_eq_true, List.any_eq_true]
  constructor
  · rintro ⟨x, h1, h2⟩
    exact ⟨x, of_decide_eq_true h2, decide_eq_true h1⟩
  · rintro ⟨x, h1, h2⟩
    exact ⟨x, of_decide_eq_true h2, decide_eq_true h1⟩
theorem meets_snoc : ∀ {ss : List (List Int)} {s : List Int}, meets ss = true → (∀ t ∈ ss, meetS s t = true) → meets (ss ++ [s]) = true
  | [], s, _, _ => rfl
  | a :: r, s, h, hm => by
    unfold meets at h
    have h := Bool.and_eq_true_iff.mp h
    show (((r ++ [s]).all fun t => meetS a t) && meets (r ++ [s])) = true
    rw [List.all_append, h.1, meets_snoc h.2 fun t ht => hm t (List.mem_cons_of_mem _ ht)]
    rw [List.all_cons, List.all_nil, meetS_comm (s := a) (t := s), hm a List.mem_cons_self]
    rfl
theorem rg_nat (n : Nat) : rgV 0 (n : Int) = ((List.range n).map Int.ofNat).map V.int := by
  unfold rgV
  simp only [List.map_map]
  rw [show ((n : Int) - 0).toNat = n from by omega]
  exact List.map_congr_left fun i _ => by simp
theorem eqv_int {a b : Int} : PyData.eqv (.int a) (.int b) = decide (a = b) := by
  rw [PyData.eqv]
  rfl
theorem eqvAll_ints : ∀ {a b : List Int}, PyData.eqvAll (a.map PyData.int) (b.map PyData.int) = decide (a = b)
  | [], [] => by simp [PyData.eqvAll]
  | [], _ :: _ => by simp [PyData.eqvAll]
  | _ :: _, [] => by simp [PyData.eqvAll]
  | x :: a, y :: b => by
    have ih := eqvAll_ints (a := a) (b := b)
    simp only [List.map_cons, PyData.eqvAll, PyData.eqv, ih]
    by_cases h : x = y
    · subst h
      simp
    · simp [h]
theorem eqv_set {s t : List Int} : PyData.eqv (setD s) (setD t) = decide (s = t) := by
  rw [PyData.eqv, eqvAll_ints]
theorem any_sets {ss : List (List Int)} {s : List Int} : ((ss.map setD).any fun z => PyData.eqv z (setD s)) = decide (s ∈ ss) := by
  apply Bool.eq_iff_iff.mpr
  rw [List.any_eq_true, decide_eq_true_iff]
  constructor
  · rintro ⟨z, hz, e⟩
    obtain ⟨t, ht, rfl⟩ := List.mem_map.mp hz
    rw [eqv_set] at e
    rw [← of_decide_eq_true e]
    exact ht
  · intro h
    exact ⟨_, List.mem_map.mpr ⟨s, h, rfl⟩, by rw [eqv_set]; exact decide_eq_true rfl⟩
structure FamLo (n : Nat) (ss : List (List Int)) : Prop where
  fam : FamOk n ss
  me : meets ss = true
def spSets (g : G) : Sp := fun vs H Q _ => ∃ bx cl cells b1 b2 b3, ∃ n : Nat, ∃ L D, vs = [.ref bx, .int n] ∧ 1 ≤ n ∧ n ≤ 60 ∧ BxOk cells b1 b2 b3 b2 ∧ b2 < 2 ^ 59 ∧ Wd ((bx, bxO cl b1 b2 b3) :: (cl, clO cells) :: L) D H ∧
  ∀ q svs ss cells b1 b2' b3 H', FamLo n ss → ss ≠ [] → ss.length ≤ 17 → BxOk cells b1 b2' b3 b2' → b2' ≤ b2 + 20 → Wd ((q, .lst svs) :: (bx, bxO cl b1 b2' b3) :: (cl, clO cells) :: L) (isSs svs ss :: D) H' → Q (.ref q) H'
theorem BxOk.tight {cells : List Int} {b1 b2 b3 n : Int} (h : BxOk cells b1 b2 b3 n) : BxOk cells b1 b2 b3 b2 := ⟨h.cells, h.p1, h.p2, Int.le_refl _, h.p3, h.l3⟩
theorem pow_2_60 : ((2 : Int) ^ (60 : Int).toNat) = 1152921504606846976 := by decide +kernel
theorem cpow_2_60 : CPowW 2 60 := ⟨by decide, by decide +kernel⟩
theorem w_sets {g : G} {A : Around} {vs : List V} {H : Hp} {Q : VK} {E : XK} {k1 : Nat} (hr : Room k1 A) (f1 : GF g k1 "_law_pick" spPick) (f2 : GF g k1 "_law_some" (spSome g)) (f3 : GF g k1 "_law_meet" (spMeet g)) (h : spSets g vs H Q E) :
    t_law_sets g A { nx := fun _ H' => Q .non H', rt := Q } (start ["box", "parts", "kept", "k", "one", "other"] vs) H := by
  obtain ⟨bx, cl, cells, b1, b2, b3, n, L, D, rfl, hn1, hn2, ob, hb, W, k⟩ := h
  rw [e_law_sets]
  show r_law_sets g A _ [some (.ref bx), some (.int n), none, none, none, none] H
  unfold r_law_sets
  walk_at "rd"
  rename_i q lst
  refine k_call f1 hr ⟨bx, cl, cells, b1, b2, b3, 6, b2, _, D, rfl, by decide, by decide, ob, by omega, W.ord (L' := (bx, _) :: (cl, _) :: (lst, .lst _) :: (q, .lst []) :: L) (by walk_at "spm"), ?_⟩
  clear W H
  intro r cells b1 b2' b3 H r0 r1 ob' W
  obtain ⟨m, hm, hm2⟩ : ∃ m : Nat, atI [V.int 1, .int 2, .int 3, .int 4, .int 8, .int 16] r = some (.int m) ∧ m ≤ 16 := by
    have : r = 0 ∨ r = 1 ∨ r = 2 ∨ r = 3 ∨ r = 4 ∨ r = 5 := by omega
    rcases this with rfl | rfl | rfl | rfl | rfl | rfl
    · exact ⟨1, rfl, by decide⟩
    · exact ⟨2, rfl, by decide⟩
    · exact ⟨3, rfl, by decide⟩
    · exact ⟨4, rfl, by decide⟩
    · exact ⟨8, rfl, by decide⟩
    · exact ⟨16, rfl, by decide⟩
  refine k_ix_l W (by walk_at "mem") hm ?_
  walk_at "rd"
  have hb2 := ob'.l2
  have hb0 := ob'.p2
  refine k_rng1 (by omega) (by omega) ?_
  refine k_for walk_range (fun i σ H => ∃ svs ss cells b1 b2'' b3 x y, σ = [some (.ref bx), some (.int n), some (.ref q), x, y, none] ∧ FamLo n ss ∧ ss.length ≤ i ∧ BxOk cells b1 b2'' b3 b2'' ∧ b2'' ≤ b2 + 1 + i ∧ Wd ((q, .lst svs) :: (bx, bxO cl b1 b2'' b3) :: (cl, clO cells) :: L) (isSs svs ss :: D) H)
    ⟨[], [], cells, b1, b2', b3, _, _, rfl, ⟨⟨by simp, List.nodup_nil⟩, rfl⟩, by simp, ob'.tight, by omega, ?_⟩ (fun _ _ _ _ _ => trivial) ?_ ?_
  · exact (W.ord (L' := (q, .lst []) :: (bx, _) :: (cl, _) :: L) (by walk_at "spm")).der (F := isSs [] []) isSs_stab fun _ _ => .nil
  · clear W H ob'
    rintro i x σ H H' hi ⟨svs, ss, cells, b1, b2'', b3, x3, x4, rfl, fam, sl, ob, hb3, W⟩ ⟨rfl, rfl⟩
    have lss := W.lenSs List.mem_cons_self
    walk_at "rd"
    refine k_pow cpow_2_60 ?_
    rw [pow_2_60]
    walk_at "rd"
    refine k_call f1 hr ⟨bx, cl, cells, b1, b2'', b3, _, b2'', _, _, rfl, by decide, by decide, ob, by omega, W.ord (L' := (bx, _) :: (cl, _) :: (q, .lst svs) :: L) (by walk_at "spm"), ?_⟩
    clear W ob
    intro r cells b1 b4 b3 H r0 r1 ob W
    have hb4 := ob.l2
    walk_at "rd"
    refine k_call f2 hr ⟨r, n, _, _, rfl, by omega, W, ?_⟩
    clear W
    intro a s H sLo s_len W
    have W1 := W.itT (K := g.K) List.mem_cons_self
    replace W := W1
    clear W1
    walk_at "rd"
    refine k_tru_T (W.tupl (by walk_at "mem")) ?_
    by_cases hs0 : s = []
    · subst hs0
      refine k_iff ?_
      walk_at "rd"
      exact ⟨svs, ss, cells, b1, b4, b3, _, _, rfl, fam, by omega, ob.tight, by omega, W.arr (by walk_at "spm") (fsC (by walk_at "mem") (by walk_at "sub"))⟩
    refine k_ifT (by cases s <;> simp_all) ?_
    walk_at "rd"
    have W2 := W.addD (v := .ref a) (d := setD s) (K := g.K) (fun B b => .tup (b (isT g.K a (s.map V.int)) (by walk_at "mem")) (dpAll_ints s))
    have hds : HasAll g.K (isD g.K (.ref a) (setD s) :: isT g.K a (s.map V.int) :: isI a (.tup (s.map V.int)) :: isSs svs ss :: D) svs (ss.map setD) := fun B b => (b (isSs svs ss) (by walk_at "mem") : SsAt B svs ss).dp
    refine .inr ⟨setD s, ss.map setD, W2.has (has_mem List.mem_cons_self), .lst (W2.sq (by walk_at "mem")) (W2.hasAll hds), shp_set (k := 0) |>.ok, (shp_list (k := 1) (mem_map fun _ _ => shp_set)).ok, ?_⟩
    rw [any_sets]
    clear hds
    replace W := W2
    clear W2
    walk_at "rd"
    refine k_ifnd (fun hk => ?_) (fun hk => ?_)
    · walk_at "rd"
      refine k_lcM ss (fun t => V.bl (meetS s t)) (lss ▸ walk_list) W (sl_of (by omega)) (fun p acc H W => W.sq (by walk_at "mem")) ?_ ?_
      · rintro p j x H H' acc e N Z he W ⟨rfl, hx⟩ hN
        obtain ⟨b, t, rfl, ht, W1⟩ := W.itemS (by walk_at "mem") hx
        rw [he] at ht
        cases ht
        have W2 := W1.itT (K := g.K) List.mem_cons_self
        replace W := W2
        clear W1 W2
        walk_at "rd"
        refine ⟨rfl, ?_⟩
        walk_at "rd"
        exact k_call f3 hr ⟨a, b, s, e, _, _, rfl, by walk_at "mem", by walk_at "mem", by omega, W, fun H W => hN _ W.dF.dF⟩
      · clear W
        intro p H W
        walk_at "rd"
        refine k_all (bs := ss.map fun t => meetS s t) (by rw [List.map_map]; exact W.sq List.mem_cons_self) ?_
        walk_at "rd"
        cases hall : (ss.map fun t => meetS s t).all id with
        | false =>
          refine k_iff ?_
          walk_at "rd"
          exact ⟨svs, ss, cells, b1, b4, b3, _, _, rfl, fam, by omega, ob.tight, by omega, W.arr (by walk_at "spm") (fsC (by walk_at "mem") (by walk_at "sub"))⟩
        | true =>
          refine k_ift ?_
          have W1 := W.dO
          replace W := W1.ord (L' := (q, .lst svs) :: (bx, bxO cl b1 b4 b3) :: (cl, clO cells) :: L) (by walk_at "spm")
          clear W1
          walk_at "rd"
          refine k_app W (sl_lt (by omega)) ?_
          clear W
          intro H W
          rw [List.all_map] at hall
          have hall := List.all_eq_true.mp hall
          have so : SetOk n s := ⟨hs0, sLo.bd, sLo.up⟩
          have W3 := W.der (F := isSs (svs ++ [.ref a]) (ss ++ [s])) isSs_stab fun B b => SsAt.app (b (isSs svs ss) (by walk_at "mem")) (.cons (b (isI a (.tup (s.map V.int))) (by walk_at "mem")) .nil)
          refine ⟨svs ++ [.ref a], ss ++ [s], cells, b1, b4, b3, _, _, rfl, ⟨⟨fun t ht => ?_, ?_⟩, meets_snoc fam.me fun t ht => hall t ht⟩, by simp; omega, ob.tight, by omega, W3.arr spR (fsC List.mem_cons_self (by walk_at "sub"))⟩
          · rcases List.mem_append.mp ht with ht | ht
            · exact fam.fam.ok t ht
            · rw [List.mem_singleton.mp ht]
              exact so
          · exact List.nodup_append.mpr ⟨fam.fam.nd, by simp, fun x hx y hy e => hk (by rw [← List.mem_singleton.mp hy, ← e]; exact hx)⟩
    · walk_at "rd"
      exact ⟨svs, ss, cells, b1, b4, b3, _, _, rfl, fam, by omega, ob.tight, by omega, W.arr (by walk_at "spm") (fsC (by walk_at "mem") (by walk_at "sub"))⟩
  · clear W H ob'
    rintro σ H ⟨svs, ss, cells, b1, b2'', b3, x3, x4, rfl, fam, sl, ob, hb3, W⟩
    have lss := W.lenSs List.mem_cons_self
    rw [show ((m : Int).toNat) = m from by omega] at sl hb3
    walk_at "rd"
    refine k_cut (fun σ H => ∃ svs ss x y, σ = [some (.ref bx), some (.int n), some (.ref q), x, y, none] ∧ FamLo n ss ∧ ss ≠ [] ∧ ss.length ≤ 17 ∧ Wd ((q, .lst svs) :: (bx, bxO cl b1 b2'' b3) :: (cl, clO cells) :: L) (isSs svs ss :: D) H) ?_ ?_
    · walk_at "rd"
      by_cases hs : ss = []
      · subst hs
        have : svs = [] := List.length_eq_zero_iff.mp lss
        subst this
        refine k_ifT (by rfl) ?_
        walk_at "rd"
        refine ⟨⟨by decide, by decide, by omega, by omega, by omega⟩, fun tp htp => ?_⟩
        have W1 := W.new htp (.tup (rgV 0 n))
        have W2 := W1.frzI
        replace W := W2
        clear W1 W2
        walk_at "rd"
        walk_at "app"
        have e : rgV 0 (n : Int) = ((List.range n).map Int.ofNat).map V.int := rg_nat n
        rw [e, List.nil_append] at W
        have W3 := W.der (F := isSs [.ref tp] [(List.range n).map Int.ofNat]) isSs_stab fun B b => .cons (b (isI tp (.tup (((List.range n).map Int.ofNat).map V.int))) (by walk_at "mem")) .nil
        have so : SetOk n ((List.range n).map Int.ofNat) := by
          refine ⟨fun e => ?_, fun x hx => ?_, ?_⟩
          · have := congrArg List.length e
            simp at this
            omega
          · obtain ⟨k, hk, rfl⟩ := List.mem_map.mp hx
            have := List.mem_range.mp hk
            exact ⟨Int.natCast_nonneg k, by show (k : Int) < n; omega⟩
          · refine rising_iff.mpr fun i a b ha hb => ?_
            rw [List.getElem?_map] at ha hb
            obtain ⟨u, hu, rfl⟩ := Option.map_eq_some_iff.mp ha
            obtain ⟨v, hv, rfl⟩ := Option.map_eq_some_iff.mp hb
            have h1 := (List.getElem?_eq_some_iff.mp hu)
            have h2 := (List.getElem?_eq_some_iff.mp hv)
            obtain ⟨_, h1⟩ := h1
            obtain ⟨_, h2⟩ := h2
            rw [List.getElem_range] at h1 h2
            show (u : Int) < v
            omega
        exact ⟨_, [_], _, _, rfl, ⟨⟨mem1 so, by simp⟩, rfl⟩, by simp, by simp, W3.arr spR (fsC List.mem_cons_self (by walk_at "sub"))⟩
      · refine k_ifF (by
          cases svs with
          | nil => exact absurd (List.length_eq_zero_iff.mp lss.symm) hs
          | cons _ _ => rfl) ?_
        walk_at "rd"
        exact ⟨svs, ss, _, _, rfl, fam, hs, by omega, W⟩
    · clear W H
      rintro σ H ⟨svs, ss, x3, x4, rfl, fam, hs, sl, W⟩
      walk_at "rd"
      exact k q svs ss cells b1 b2'' b3 H fam hs sl ob (by omega) W
def Pn.size (t : Pn) : Nat := t.leaves + t.halls
def spRep (g : G) (dp : Nat) : Sp := fun vs H Q _ => ∃ bx cl cells b1 b2 b3 lf, ∃ n d : Nat, ∃ L D, vs = [.ref bx, .ref lf, .int d] ∧ 1 ≤ d ∧ d ≤ dp ∧ dp ≤ 6 ∧ 1 ≤ n ∧ n ≤ 60 ∧ BxOk cells b1 b2 b3 b2 ∧ b2 + 400 * (n + 1) < 2 ^ 59 ∧ Wd ((bx, bxO cl b1 b2 b3) :: (cl, clO cells) :: (lf, .lst [.int n]) :: L) D H ∧
  ∀ v t (n' : Nat) cells b1 b2' b3 H', t.isBr = true → t.ok → t.deep ≤ d → n' + t.size = n + 1 → BxOk cells b1 b2' b3 b2' → b2' + 400 * n' ≤ b2 + 400 * n + 390 → Wd ((bx, bxO cl b1 b2' b3) :: (cl, clO cells) :: (lf, .lst [.int n']) :: L) (isR g.K v t :: D) H' → Q v H'
theorem manner_at {r : Int} (h0 : 0 ≤ r) (h1 : r < 5) : ∃ m, atI [V.str "stamps", .str "tree", .str "turning", .str "votes", .str "calls"] r = some (.str m) ∧ m ∈ manners := by
  have : r = 0 ∨ r = 1 ∨ r = 2 ∨ r = 3 ∨ r = 4 := by omega
  rcases this with rfl | rfl | rfl | rfl | rfl
  · exact ⟨"stamps", rfl, by decide +kernel⟩
  · exact ⟨"tree", rfl, by decide +kernel⟩
  · exact ⟨"turning", rfl, by decide +kernel⟩
  · exact ⟨"votes", rfl, by decide +kernel⟩
  · exact ⟨"calls", rfl, by decide +kernel⟩
theorem wide_at {r : Int} (h0 : 0 ≤ r) (h1 : r < 6) : ∃ m : Nat, atI [V.int 2, .int 3, .int 2, .int 4, .int 1, .int 5] r = some (.int m) ∧ 1 ≤ m ∧ m ≤ 60 := by
  have : r = 0 ∨ r = 1 ∨ r = 2 ∨ r = 3 ∨ r = 4 ∨ r = 5 := by omega
  rcases this with rfl | rfl | rfl | rfl | rfl | rfl
  · exact ⟨2, rfl, by decide, by decide⟩
  · exact ⟨3, rfl, by decide, by decide⟩
  · exact ⟨2, rfl, by decide, by decide⟩
  · exact ⟨4, rfl, by decide, by decide⟩
  · exact ⟨1, rfl, by decide, by decide⟩
  · exact ⟨5, rfl, by decide, by decide⟩
theorem sizeL_app {ps : List Pn} {t : Pn} : leavesL (ps ++ [t]) + hallsL (ps ++ [t]) = leavesL ps + hallsL ps + t.size := by
  unfold Pn.size
  rw [leavesL_eq, leavesL_eq, hallsL_eq, hallsL_eq, List.map_append, List.map_append, List.sum_append, List.sum_append]
  simp
  omega
theorem deepL_app {ps : List Pn} {t : Pn} {d : Nat} (h : deepL ps ≤ d) (ht : t.deep ≤ d) : deepL (ps ++ [t]) ≤ d := deepL_le.mpr fun p hp => by
  rcases List.mem_append.mp hp with hp | hp
  · exact deepL_le.mp h p hp
  · rw [List.mem_singleton.mp hp]
    exact ht
theorem okL_app {ps : List Pn} {t : Pn} (h : okL ps) (ht : t.ok) : okL (ps ++ [t]) := okL_iff.mpr fun p hp => by
  rcases List.mem_append.mp hp with hp | hp
  · exact okL_iff.mp h p hp
  · rw [List.mem_singleton.mp hp]
    exact ht
def repInv (g : G) (bx cl lf pq : Addr) (d wd n : Nat) (m : Str) (b2 : Int) (L : Ow) (D : List Fct) (i : Nat) (σ : L2.St) (H : Hp) : Prop := ∃ pvs ps, ∃ n' : Nat, ∃ cells b1 c b3 x, σ = [some (.ref bx), some (.ref lf), some (.int d), some (.str m), some (.int wd), some (.ref pq), x, none, none, none] ∧ okL ps ∧ deepL ps + 1 ≤ d ∧ n' + (leavesL ps + hallsL ps) = n ∧ (1 ≤ i → ps ≠ []) ∧ ps.length ≤ i ∧ BxOk cells b1 c b3 c ∧ c + 400 * n' ≤ b2 + 4 + 400 * n ∧ Wd ((pq, .lst pvs) :: (bx, bxO cl b1 c b3) :: (cl, clO cells) :: (lf, .lst [.int n']) :: L) (isRs g.K pvs ps :: D) H
theorem w_rep {g : G} {A : Around} {vs : List V} {H : Hp} {Q : VK} {E : XK} {k1 : Nat} {dp : Nat} (hr : Room k1 A) (f1 : GF g k1 "_law_pick" spPick) (f2 : GF g k1 "_law_sets" (spSets g)) (f3 : GF g k1 "_law_rep" (spRep g dp)) (h : spRep g (dp + 1) vs H Q E) :
    t_law_rep g A { nx := fun _ H' => Q .non H', rt := Q } (start ["box", "left", "deep", "manner", "wide", "parts", "k", "ups", "fams", "part"] vs) H := by
  obtain ⟨bx, cl, cells, b1, b2, b3, lf, n, d, L, D, rfl, hd1, hd2, hd3, hn1, hn2, ob, hb, W, k⟩ := h
  have hb0 := ob.p2
  rw [e_law_rep]
  show r_law_rep g A _ [some (.ref bx), some (.ref lf), some (.int d), none, none, none, none, none, none, none] H
  unfold r_law_rep
  walk_at "rd"
  rename_i lst
  refine k_call f1 hr ⟨bx, cl, cells, b1, b2, b3, 5, b2, _, D, rfl, by decide, by decide, ob, by omega, W.ord (L' := (bx, _) :: (cl, _) :: (lst, .lst _) :: (lf, .lst [.int n]) :: L) (by walk_at "spm"), ?_⟩
  clear W H ob
  intro r cells b1 c1 b3 H r0 r1 ob W
  obtain ⟨m, hm, hmm⟩ := manner_at r0 r1
  refine k_ix_l W (by walk_at "mem") hm ?_
  replace W := W.ord (L' := (bx, bxO cl b1 c1 b3) :: (cl, clO cells) :: (lf, .lst [.int n]) :: L) (by walk_at "spm")
  have hc1 := ob.l2
  walk_at "rd"
  rename_i lst
  refine k_call f1 hr ⟨bx, cl, cells, b1, c1, b3, 6, c1, _, D, rfl, by decide, by decide, ob.tight, by omega, W.ord (L' := (bx, _) :: (cl, _) :: (lst, .lst _) :: (lf, .lst [.int n]) :: L) (by walk_at "spm"), ?_⟩
  clear W H ob
  intro r cells b1 c2 b3 H r0 r1 ob W
  obtain ⟨w0, hw, hw1, hw2⟩ := wide_at r0 r1
  refine k_ix_l W (by walk_at "mem") hw ?_
  replace W := W.ord (L' := (bx, bxO cl b1 c2 b3) :: (cl, clO cells) :: (lf, .lst [.int n]) :: L) (by walk_at "spm")
  have hc2 := ob.l2
  walk_at "rd"
  refine k_cut (fun σ H => ∃ (wd : Nat) (cells : List Int) (b1 c4 b3 : Int), σ = [some (.ref bx), some (.ref lf), some (.int d), some (.str m), some (.int wd), none, none, none, none, none] ∧ 1 ≤ wd ∧ wd ≤ 60 ∧ BxOk cells b1 c4 b3 c4 ∧ c4 ≤ b2 + 4 ∧ Wd ((bx, bxO cl b1 c4 b3) :: (cl, clO cells) :: (lf, .lst [.int n]) :: L) D H) ?_ ?_
  · walk_at "rd"
    refine k_call f1 hr ⟨bx, cl, cells, b1, c2, b3, 9, c2, _, D, rfl, by decide, by decide, ob.tight, by omega, W, ?_⟩
    clear W H ob
    intro r cells b1 c3 b3 H r0 r1 ob W
    have hc3 := ob.l2
    walk_at "rd"
    refine k_ifd (fun h9 => ?_) (fun h9 => ?_)
    · walk_at "rd"
      refine k_call f1 hr ⟨bx, cl, cells, b1, c3, b3, 60, c3, _, D, rfl, by decide, by decide, ob.tight, by omega, W, ?_⟩
      clear W H ob
      intro r cells b1 c4 b3 H r0 r1 ob W
      have hc4 := ob.l2
      walk_at "rd"
      refine ⟨(1 + r).toNat, cells, b1, c4, b3, ?_, by omega, by omega, ob.tight, by omega, W⟩
      rw [show (((1 + r).toNat : Nat) : Int) = 1 + r from by omega]
    · walk_at "rd"
      exact ⟨w0, cells, b1, c3, b3, rfl, hw1, hw2, ob.tight, by omega, W⟩
  clear W H ob
  rintro σ H ⟨wd, cells, b1, c4, b3, rfl, wd1, wd2, ob, hc4, W⟩
  walk_at "rd"
  rename_i pq
  refine k_rng1 (by omega) (by omega) ?_
  refine k_for walk_range (repInv g bx cl lf pq d wd n m b2 L D)
    ⟨[], [], n, cells, b1, c4, b3, _, rfl, trivial, by simp [deepL]; omega, by simp [leavesL, hallsL], by omega, by simp, ob, by omega, W.der (F := isRs g.K [] []) isRs_stab fun _ _ => .nil⟩ (fun _ _ _ _ _ => trivial) ?_ ?_
  · clear W H ob
    rintro i x σ H H' hi ⟨pvs, ps, n', cells, b1, c, b3, x6, rfl, okl, dl, sz, ne, pl, ob, hc, W⟩ ⟨rfl, rfl⟩
    have lps := W.lenR List.mem_cons_self
    have hob0 := ob.p2
    walk_at "rd"
    refine k_ifd (fun h0 => ?_) (fun h0 => ?_)
    · walk_at "rd"
      replace W := W.ord (L' := (pq, .lst pvs) :: (bx, bxO cl b1 c b3) :: (cl, clO cells) :: (lf, .lst [.int ((n' : Int) - 1)]) :: L) (by walk_at "spm")
      obtain ⟨u, rfl⟩ : ∃ u, n' = u + 1 := ⟨n' - 1, by omega⟩
      rw [show ((u + 1 : Nat) : Int) - 1 = (u : Int) from by omega] at W
      have leafCase : ∀ (De : Ends), De.nx = repInv g bx cl lf pq d wd n m b2 L D (i + 1) → ∀ cells b1 c' b3 H, BxOk cells b1 c' b3 c' → c' + 400 * u ≤ b2 + 4 + 400 * n → Wd ((pq, .lst pvs) :: (bx, bxO cl b1 c' b3) :: (cl, clO cells) :: (lf, .lst [.int u]) :: L) (isRs g.K pvs ps :: D) H →
          rDrop (rBM g.K "list" rAppend (rVar 5) (rCons (rC (.str "o")) rNil)) De [some (.ref bx), some (.ref lf), some (.int d), some (.str m), some (.int wd), some (.ref pq), some (.int (0 + (i : Int))), none, none, none] H := by
        intro De eD
        intro cells b1 c' b3 H ob hc' W
        walk_at "rd"
        refine k_app W (sl_lt (by omega)) ?_
        clear W
        intro H W
        have W2 := W.der (F := isRs g.K (pvs ++ [.str "o"]) (ps ++ [.leaf])) isRs_stab fun B b => RepsAt.app (b (isRs g.K pvs ps) (by walk_at "mem")) (.cons .leaf .nil)
        rw [eD]
        refine ⟨_, ps ++ [.leaf], u, cells, b1, c', b3, _, rfl, okL_app okl (show Pn.ok .leaf from trivial), ?_, ?_, by simp, by simp; omega, ob, hc', W2.arr spR (fsC List.mem_cons_self (by walk_at "sub"))⟩
        · have := deepL_app (ps := ps) (t := .leaf) (d := d - 1) (by omega) (by simp [Pn.deep])
          omega
        · rw [sizeL_app]
          simp [Pn.size, Pn.leaves, Pn.halls]
          omega
      refine k_ifd (fun h1 => ?_) (fun h1 => ?_)
      · walk_at "rd"
        refine k_ifd (fun h2 => ?_) (fun h2 => ?_)
        · walk_at "rd"
          refine k_call f1 hr ⟨bx, cl, cells, b1, c, b3, 3, c, _, _, rfl, by decide, by decide, ob.tight, by omega, W.ord (L' := (bx, _) :: (cl, _) :: (pq, .lst pvs) :: (lf, .lst [.int u]) :: L) (by walk_at "spm"), ?_⟩
          clear W ob
          intro r cells b1 c' b3 H r0 r1 ob W
          have hc' := ob.l2
          have hc0 := ob.p2
          walk_at "rd"
          refine k_ifd (fun h3 => ?_) (fun h3 => ?_)
          · walk_at "rd"
            refine k_call f3 hr ⟨bx, cl, cells, b1, c', b3, lf, u, d - 1, (pq, .lst pvs) :: L, _, by rw [show ((d - 1 : Nat) : Int) = (d : Int) - 1 from by omega], by omega, by omega, by omega, by omega, by omega, ob.tight, by omega, W.ord (L' := (bx, _) :: (cl, _) :: (lf, .lst [.int u]) :: (pq, .lst pvs) :: L) (by walk_at "spm"), ?_⟩
            clear W ob
            intro v t n2 cells b1 c2 b3 H tb tok td ts ob hc2 W
            replace W := W.ord (L' := (pq, .lst pvs) :: (bx, bxO cl b1 c2 b3) :: (cl, clO cells) :: (lf, .lst [.int n2]) :: L) (by walk_at "spm")
            walk_at "rd"
            refine k_app W (sl_lt (by omega)) ?_
            clear W
            intro H W
            have W2 := W.der (F := isRs g.K (pvs ++ [v]) (ps ++ [t])) isRs_stab fun B b => RepsAt.app (b (isRs g.K pvs ps) (by walk_at "mem")) (.cons (b (isR g.K v t) (by walk_at "mem")) .nil)
            refine ⟨_, ps ++ [t], n2, cells, b1, c2, b3, _, rfl, okL_app okl tok, ?_, ?_, by simp, by simp; omega, ob, by omega, W2.arr spR (fsC List.mem_cons_self (by walk_at "sub"))⟩
            · have := deepL_app (ps := ps) (t := t) (d := d - 1) (by omega) td
              omega
            · rw [sizeL_app]
              omega
          · exact leafCase _ rfl cells b1 c' b3 H ob.tight (by omega) (W.ord (by walk_at "spm"))
        · exact leafCase _ rfl cells b1 c b3 _ ob (by omega) W
      · exact leafCase _ rfl cells b1 c b3 _ ob (by omega) W
    · walk_at "rd"
      refine ⟨pvs, ps, n', cells, b1, c, b3, _, rfl, okl, dl, sz, fun _ => ?_, by omega, ob, hc, W⟩
      intro e
      subst e
      simp [leavesL, hallsL] at sz
      omega
  clear W H ob
  rintro σ H ⟨pvs, ps, n', cells, b1, c, b3, x6, rfl, okl, dl, sz, ne, pl, ob, hc, W⟩
  have lps := W.lenR List.mem_cons_self
  have hne := ne (by omega)
  have hpos : 1 ≤ ps.length := List.length_pos_iff.mpr hne
  have hps60 := len_le_size ps
  walk_at "rd"
  rename_i uq fq
  refine k_cut (fun σ H => ∃ ab cells b1 c' b3 z, σ = [some (.ref bx), some (.ref lf), some (.int d), some (.str m), some (.int wd), some (.ref pq), x6, some (.ref z), some (.ref fq), none] ∧ aboveOk m ab ps.length ∧ BxOk cells b1 c' b3 c' ∧ c' ≤ c + 60 ∧
    Wd ((z, .lst (ab.map V.int)) :: (fq, .lst []) :: (pq, .lst pvs) :: (bx, bxO cl b1 c' b3) :: (cl, clO cells) :: (lf, .lst [.int n']) :: L) (isRs g.K pvs ps :: D) H) ?_ ?_
  · walk_at "rd"
    rename_i tq
    refine k_in_strs (ws := ["tree", "turning"]) (.inr (W.st List.mem_cons_self)) ?_
    replace W := W.dO
    walk_at "rd"
    rw [tr_in]
    cases hm2 : isTr m with
    | false =>
      refine k_iff ?_
      walk_at "rd"
      refine ⟨[], cells, b1, c, b3, uq, rfl, ?_, ob, by omega, W.ord (by walk_at "spm9")⟩
      unfold aboveOk
      rw [if_neg (by rw [hm2]; decide)]
    | true =>
      refine k_ift ?_
      walk_at "rd"
      refine k_rng2 (by decide) (by decide) (by omega) (by omega) ?_
      refine k_lc walk_range W (fun p i H => ∃ ab cells b1 c' b3, ab.length = i ∧ (∀ (j : Nat) (x : Int), ab[j]? = some x → 0 ≤ x ∧ x ≤ (j : Int)) ∧ BxOk cells b1 c' b3 c' ∧ c' ≤ c + i ∧
        Wd ((p, .lst (ab.map V.int)) :: (fq, .lst []) :: (uq, .lst []) :: (pq, .lst pvs) :: (bx, bxO cl b1 c' b3) :: (cl, clO cells) :: (lf, .lst [.int n']) :: L) (isRs g.K pvs ps :: D) H)
        (fun p H' W => ⟨[], cells, b1, c, b3, rfl, by simp, ob, by omega, W⟩) (fun _ _ _ _ _ => trivial) ?_ ?_
      · rintro p i x H H' hi ⟨ab, cells, b1, c', b3, la, hab, ob, hc', W⟩ ⟨rfl, rfl⟩
        have hob0 := ob.p2
        walk_at "rd"
        refine ⟨rfl, ?_⟩
        walk_at "rd"
        refine k_call f1 hr ⟨bx, cl, cells, b1, c', b3, _, c', _, _, rfl, by omega, by omega, ob, by omega, W.ord (L' := (bx, _) :: (cl, _) :: (p, .lst (ab.map V.int)) :: (fq, .lst []) :: (uq, .lst []) :: (pq, .lst pvs) :: (lf, .lst [.int n']) :: L) (by walk_at "spm"), ?_⟩
        clear W ob
        intro r cells b1 c2 b3 H r0 r1 ob W
        have hc2 := ob.l2
        refine k_push (W.ord (L' := (p, .lst (ab.map V.int)) :: (fq, .lst []) :: (uq, .lst []) :: (pq, .lst pvs) :: (bx, bxO cl b1 c2 b3) :: (cl, clO cells) :: (lf, .lst [.int n']) :: L) (by walk_at "spm")) (sl_lt (by rw [List.length_map]; omega)) ?_
        intro H W
        refine ⟨ab ++ [r], cells, b1, c2, b3, by simp [la], fun j x hx => ?_, ob.tight, by omega, by rw [List.map_append]; exact W⟩
        rw [List.getElem?_append] at hx
        split at hx
        · exact hab j x hx
        · have hj : j = ab.length := by
            have := (List.getElem?_eq_some_iff.mp hx).1
            simp at this
            omega
          subst hj
          simp at hx
          omega
      · rintro p H ⟨ab, cells, b1, c', b3, la, hab, ob, hc', W⟩
        walk_at "rd"
        refine ⟨ab, cells, b1, c', b3, p, rfl, ?_, ob, by omega, W.ord (by walk_at "spm")⟩
        unfold aboveOk
        rw [if_pos hm2]
        exact ⟨by omega, hab⟩
  clear W H ob
  rintro σ H ⟨ab, cells, b1, c2, b3, uq, rfl, hab, ob, hc2, W⟩
  have hob0 := ob.p2
  walk_at "rd"
  refine k_cut (fun σ H => ∃ svs ss cells b1 c' b3 z, σ = [some (.ref bx), some (.ref lf), some (.int d), some (.str m), some (.int wd), some (.ref pq), x6, some (.ref uq), some (.ref z), none] ∧ famOk m ss ps.length ∧ BxOk cells b1 c' b3 c' ∧ c' ≤ c2 + 20 ∧
    Wd ((z, .lst svs) :: (uq, .lst (ab.map V.int)) :: (pq, .lst pvs) :: (bx, bxO cl b1 c' b3) :: (cl, clO cells) :: (lf, .lst [.int n']) :: L) (isSs svs ss :: isRs g.K pvs ps :: D) H) ?_ ?_
  · walk_at "rd"
    refine k_ifd (fun h4 => ?_) (fun h4 => ?_)
    · walk_at "rd"
      rw [lps]
      refine k_call f2 hr ⟨bx, cl, cells, b1, c2, b3, ps.length, (uq, .lst (ab.map V.int)) :: (pq, .lst pvs) :: (lf, .lst [.int n']) :: L, _, rfl, hpos, by omega, ob, by omega, W.ord (by walk_at "spm"), ?_⟩
      clear W H ob
      intro q svs ss cells b1 c3 b3 H fam hs sl ob hc3 W
      walk_at "rd"
      refine ⟨svs, ss, cells, b1, c3, b3, q, rfl, ?_, ob, hc3, W.ord (by walk_at "spm")⟩
      unfold famOk
      rw [if_pos h4]
      exact ⟨hs, by omega, fam.fam, fam.me⟩
    · walk_at "rd"
      refine ⟨[], [], cells, b1, c2, b3, fq, rfl, ?_, ob, by omega, (W.ord (by walk_at "spm")).der (F := isSs [] []) isSs_stab fun _ _ => .nil⟩
      unfold famOk
      rw [if_neg h4]
  clear W H ob
  rintro σ H ⟨svs, ss, cells, b1, c3, b3, fq, rfl, hfam, ob, hc3, W⟩
  walk_at "rd"
  refine k_tuple_B (b := true) W (.inl (by walk_at "mem")) ?_
  clear W H
  intro ut H W
  walk_at "rd"
  refine k_tuple_B (b := true) W (.inl (by walk_at "mem")) ?_
  clear W H
  intro ft H W
  walk_at "rd"
  rename_i tp
  have W1 := W.frzI
  have W2 := (W1.ord (L' := (pq, .lst pvs) :: (bx, bxO cl b1 c3 b3) :: (cl, clO cells) :: (lf, .lst [.int n']) :: L) (by walk_at "spm")).frzI
  have W3 := W2.der (F := isR g.K (.ref tp) (.br m ab ss ps)) isR_stab fun B b => .br (b (isI tp (.tup [.str m, .ref ut, .ref ft, .ref pq])) (by walk_at "mem")) (b (isT g.K ut (ab.map V.int)) (by walk_at "mem")) (b (isT g.K ft svs) (by walk_at "mem")) (b (isSs svs ss) (by walk_at "mem")) (b (isI pq (.lst pvs)) (by walk_at "mem")) (b (isRs g.K pvs ps) (by walk_at "mem"))
  refine k (.ref tp) (.br m ab ss ps) n' cells b1 c3 b3 H rfl ⟨⟨hmm, hne, by omega, by omega, hab, hfam⟩, okl⟩ ?_ ?_ ob (by omega) (W3.arr spR (fsC List.mem_cons_self (by walk_at "sub")))
  · simp only [Pn.deep]
    omega
  · simp only [Pn.size, Pn.leaves, Pn.halls]
    omega
theorem eqv_o {t : Pn} : PyData.eqv (repD t) (.str "o") = decide (t.isBr = false) := by
  cases t with
  | leaf =>
    rw [repD]
    decide +kernel
  | br m ab ss ps =>
    rw [repD]
    rfl
theorem k_eqR {K : PySem.W.Frag} {L : Ow} {D : List Fct} {H : Hp} {Q : VK} {v : V} {t : Pn} (W : Wd L D H) (h : isR K v t ∈ D) (ok : t.ok) (hd : t.deep ≤ 20) (k : Q (.bl (decide (t.isBr = false))) H) : kEq K v (.str "o") H Q := by
  refine k_eq_D W (has_R h) (has_fl (.str "o")) ((repD_shp t ok).ok (by omega)) (by decide +kernel) ?_
  rw [eqv_o]
  exact k
def spLWords (g : G) (d : Nat) : Sp := fun vs H Q _ => ∃ v t L D, vs = [v] ∧ isR g.K v t ∈ D ∧ t.ok ∧ t.deep ≤ d ∧ d ≤ 20 ∧ Wd L D H ∧ ∀ q H', Wd ((q, .lst (t.words.map V.str)) :: L) D H' → Q (.ref q) H'
theorem w_lwords {g : G} {A : Around} {vs : List V} {H : Hp} {Q : VK} {E : XK} {k1 : Nat} {d : Nat} (hr : Room k1 A) (f1 : ∀ e, e + 1 = d → GF g k1 "_law_words" (spLWords g e)) (h : spLWords g d vs H Q E) :
    t_law_words g A { nx := fun _ H' => Q .non H', rt := Q } (start ["rep", "words", "k", "one", "part", "number"] vs) H := by
  obtain ⟨v, t, L, D, rfl, hv, ok, hd, hd20, W, k⟩ := h
  rw [e_law_words]
  show r_law_words g A _ [some v, none, none, none, none, none] H
  unfold r_law_words
  walk_at "rd"
  refine k_eqR W hv ok (by omega) ?_
  walk_at "rd"
  cases t with
  | leaf =>
    walk_at "rd"
    exact k _ _ W
  | br m ab ss ps =>
  obtain ⟨F, okl⟩ := ok
  obtain ⟨a, ua, fa, pa, pvs, svs, rfl, lp, ls, W1⟩ := W.opR hv
  have fm := F.abd
  have ff := F.fam
  have fl := F.len
  have fs := F.sets_len
  simp only [Pn.deep] at hd
  obtain ⟨e, rfl⟩ : ∃ e, d = e + 1 := ⟨d - 1, by omega⟩
  have f1 := f1 e rfl
  replace W := W1
  clear W1
  have hss : isSs svs ss ∈ isI a (.tup [.str m, .ref ua, .ref fa, .ref pa]) :: isT g.K a [.str m, .ref ua, .ref fa, .ref pa] :: isT g.K ua (ab.map V.int) :: isT g.K fa svs :: isSs svs ss :: isI pa (.lst pvs) :: isL g.K pa pvs :: isRs g.K pvs ps :: D := by walk_at "mem"
  have hfa : isT g.K fa svs ∈ isI a (.tup [.str m, .ref ua, .ref fa, .ref pa]) :: isT g.K a [.str m, .ref ua, .ref fa, .ref pa] :: isT g.K ua (ab.map V.int) :: isT g.K fa svs :: isSs svs ss :: isI pa (.lst pvs) :: isL g.K pa pvs :: isRs g.K pvs ps :: D := by walk_at "mem"
  have hpa : isL g.K pa pvs ∈ isI a (.tup [.str m, .ref ua, .ref fa, .ref pa]) :: isT g.K a [.str m, .ref ua, .ref fa, .ref pa] :: isT g.K ua (ab.map V.int) :: isT g.K fa svs :: isSs svs ss :: isI pa (.lst pvs) :: isL g.K pa pvs :: isRs g.K pvs ps :: D := by walk_at "mem"
  have hrs : isRs g.K pvs ps ∈ isI a (.tup [.str m, .ref ua, .ref fa, .ref pa]) :: isT g.K a [.str m, .ref ua, .ref fa, .ref pa] :: isT g.K ua (ab.map V.int) :: isT g.K fa svs :: isSs svs ss :: isI pa (.lst pvs) :: isL g.K pa pvs :: isRs g.K pvs ps :: D := by walk_at "mem"
  refine k_ifF (by rfl) ?_
  walk_at "rd"
  rename_i q
  refine k_lcM ab (fun x => V.str (toS x)) ((List.length_map V.int (as := ab)) ▸ walk_tup) W (sl_of (by omega)) (fun p acc H W => W.tupl (by walk_at "mem")) ?_ ?_
  · rintro p i x H H' acc e N Z he W ⟨rfl, hx⟩ hN
    rw [List.getElem?_map, he] at hx
    cases hx
    have := fm.2 e (List.mem_of_getElem? he)
    walk_at "rd"
    refine ⟨rfl, ?_⟩
    walk_at "rd"
    exact k_strI (toS_log this.1 (by omega)) (hN _ W)
  clear W H
  intro q2 H W
  walk_at "rd"
  refine k_ext (q := q2) (W.mv1) (List.mem_cons_self) (sl_of (by simp; omega)) ?_
  clear W H
  intro H W
  replace W := W.mv1.dO
  rw [show [V.str "[", V.str m] ++ ab.map (fun x => V.str (toS x)) = ((([("[" : Str), m] : List Str) ++ ab.map toS)).map V.str from by simp] at W
  walk_at "rd"
  refine k_enum_T (W.tupl hfa) ?_
  refine k_for walk_enumT (fun i σ H => (∃ x y, σ = [some (.ref a), some (.ref q), x, y, none, none]) ∧ Wd ((q, .lst ((([("[" : Str), m] : List Str) ++ ab.map toS ++ setWs (ss.take i)).map V.str)) :: L) (isI a (.tup [.str m, .ref ua, .ref fa, .ref pa]) :: isT g.K a [.str m, .ref ua, .ref fa, .ref pa] :: isT g.K ua (ab.map V.int) :: isT g.K fa svs :: isSs svs ss :: isI pa (.lst pvs) :: isL g.K pa pvs :: isRs g.K pvs ps :: D) H)
    ⟨⟨_, _, rfl⟩, by rw [List.take_zero, setWs, List.append_nil]; exact W⟩ (fun i σ H _ h => h.2.tupl hfa) ?_ ?_
  · clear W H
    rintro i x σ H H' hi ⟨⟨x2, x3, rfl⟩, W⟩ ⟨T, y, z, rfl, hT, rfl, ey, ez⟩
    cases ey
    obtain ⟨b, s, rfl, hs, W0⟩ := W.itemS hss ez
    have W1 := W0.itT (K := g.K) List.mem_cons_self
    have W2 := W1.new hT (.tup [.int (0 + (i : Int)), .ref b])
    have so := ff.2.ok s (List.mem_of_getElem? hs)
    have sol := so.len
    have hb : (setWs (ss.take i)).length ≤ 12200 := by
      have h1 := setWs_len (ss := ss.take i) (n := ps.length) fun t ht => ff.2.ok t (List.mem_of_mem_take ht)
      have h2 : (ss.take i).length ≤ 200 := by rw [List.length_take]; omega
      have h3 : (ss.take i).length * (ps.length + 1) ≤ 200 * 61 := Nat.mul_le_mul h2 (by omega)
      omega
    clear W W0 W1
    have W := W2
    clear W2
    walk_at "rd"
    refine k_cut (fun σ H => σ = [some (.ref a), some (.ref q), some (.int (0 + (i : Int))), some (.ref b), none, none] ∧ Wd ((q, .lst ((([("[" : Str), m] : List Str) ++ ab.map toS ++ (setWs (ss.take i) ++ (if i = 0 then [] else (["|"] : List Str)))).map V.str)) :: L)
      (isT g.K b (s.map V.int) :: isI b (.tup (s.map V.int)) :: isI a (.tup [.str m, .ref ua, .ref fa, .ref pa]) :: isT g.K a [.str m, .ref ua, .ref fa, .ref pa] :: isT g.K ua (ab.map V.int) :: isT g.K fa svs :: isSs svs ss :: isI pa (.lst pvs) :: isL g.K pa pvs :: isRs g.K pvs ps :: D) H) ?_ ?_
    · walk_at "rd"
      refine k_ifd (fun h0 => ?_) (fun h0 => ?_)
      · walk_at "rd"
        refine k_app (p := q) (by walk_at "fr") (sl_lt (by simp only [List.length_map, List.length_append, List.length_cons, List.length_nil]; omega)) ?_
        clear W
        intro H W
        refine ⟨rfl, ?_⟩
        rw [if_neg (by omega), ← List.append_assoc, List.map_append (l₂ := (["|"] : List Str))]
        exact W.mv1.dO
      · walk_at "rd"
        refine ⟨rfl, ?_⟩
        rw [if_pos (by omega), List.append_nil]
        exact W.dO
    · clear W hT
      rintro σ H ⟨rfl, W⟩
      walk_at "rd"
      refine k_lcM s (fun x => V.str (toS x)) ((List.length_map V.int (as := s)) ▸ walk_tup) W (sl_of (by omega)) (fun p acc H W => W.tupl (by walk_at "mem")) ?_ ?_
      · rintro p j x H H' acc e N Z he W ⟨rfl, hx⟩ hN
        rw [List.getElem?_map, he] at hx
        cases hx
        have := so.bd e (List.mem_of_getElem? he)
        walk_at "rd"
        refine ⟨rfl, ?_⟩
        walk_at "rd"
        exact k_strI (toS_log this.1 (by omega)) (hN _ W)
      clear W H
      intro q2 H W
      walk_at "rd"
      refine k_ext (q := q2) (W.mv1) (List.mem_cons_self) (sl_of ?_) ?_
      · have : (if i = 0 then [] else (["|"] : List Str)).length ≤ 1 := by split <;> simp
        simp only [List.length_map, List.length_append, List.length_cons, List.length_nil]
        omega
      clear W H
      intro H W
      refine ⟨⟨_, _, rfl⟩, ?_⟩
      rw [setWs_snoc hs, show ∀ X Y : List Str, (X ++ (Y ++ s.map toS)).map V.str = (X ++ Y).map V.str ++ s.map (fun x => V.str (toS x)) from fun X Y => by simp]
      exact W.mv1.dO.dF.dF
  clear W H
  rintro σ H ⟨⟨x2, x3, rfl⟩, W⟩
  rw [ls, List.take_length] at W
  walk_at "rd"
  refine k_app W (sl_lt (by simp only [List.length_map, List.length_append, List.length_cons, List.length_nil]; omega)) ?_
  clear W H
  intro H W
  rw [show ∀ (X : List Str), X.map V.str ++ [V.str ":"] = (X ++ ([":"] : List Str)).map V.str from fun X => by simp] at W
  walk_at "rd"
  refine k_for walk_list (fun i σ H => (∃ x y z, σ = [some (.ref a), some (.ref q), x, y, z, none]) ∧ Wd ((q, .lst ((([("[" : Str), m] : List Str) ++ ab.map toS ++ setWs ss ++ ([":"] : List Str) ++ wordsL (ps.take i)).map V.str)) :: L) (isI a (.tup [.str m, .ref ua, .ref fa, .ref pa]) :: isT g.K a [.str m, .ref ua, .ref fa, .ref pa] :: isT g.K ua (ab.map V.int) :: isT g.K fa svs :: isSs svs ss :: isI pa (.lst pvs) :: isL g.K pa pvs :: isRs g.K pvs ps :: D) H)
    ⟨⟨_, _, _, rfl⟩, by rw [List.take_zero, wordsL, List.append_nil]; exact W⟩ (fun i σ H _ h => h.2.list hpa) ?_ ?_
  · clear W H
    rintro i x σ H H' hi ⟨⟨x2, x3, x4, rfl⟩, W⟩ ⟨rfl, hx⟩
    obtain ⟨t, ht, W1⟩ := W.itemR hrs hx
    replace W := W1
    clear W1
    walk_at "rd"
    refine k_call f1 hr ⟨x, t, _, _, rfl, List.mem_cons_self, okL_get okl ht, deepL_get (by omega) ht, by omega, W, ?_⟩
    clear W
    intro q3 H W
    walk_at "rd"
    refine k_ext (q := q3) (W.mv1) (List.mem_cons_self) (sl_of ?_) ?_
    · have h1 := words_max (okL_get okl ht)
      have h2 := wordsL_part okl i F.hs
      simp only [List.length_map, List.length_append, List.length_cons, List.length_nil]
      have h3 := wordsL_part okl (i + 1) F.hs
      rw [wordsL_snoc ht, List.length_append] at h3
      omega
    clear W H
    intro H W
    rw [← List.map_append] at W
    refine ⟨⟨_, _, _, rfl⟩, ?_⟩
    rw [wordsL_snoc ht, ← List.append_assoc]
    exact W.mv1.dO.dF
  clear W H
  rintro σ H ⟨⟨x2, x3, x4, rfl⟩, W⟩
  rw [lp, List.take_length] at W
  walk_at "rd"
  refine k_app W (sl_lt ?_) ?_
  · have h3 := wordsL_part okl ps.length F.hs
    rw [List.take_length] at h3
    simp only [List.length_map, List.length_append, List.length_cons, List.length_nil]
    omega
  clear W H
  intro H W
  rw [show ∀ (X : List Str), X.map V.str ++ [V.str "]"] = (X ++ (["]"] : List Str)).map V.str from fun X => by simp] at W
  walk_at "rd"
  exact k _ _ (W.arr spR (by walk_at "sub"))
def spLDeep (g : G) (d : Nat) : Sp := fun vs H Q _ => ∃ v t L D, vs = [v] ∧ isR g.K v t ∈ D ∧ t.ok ∧ t.deep ≤ d ∧ d ≤ 20 ∧ Wd L D H ∧ ∀ H', Wd L D H' → Q (.int (t.deep : Nat)) H'
theorem w_ldeep {g : G} {A : Around} {vs : List V} {H : Hp} {Q : VK} {E : XK} {k1 : Nat} {d : Nat} (hr : Room k1 A) (f1 : ∀ e, e + 1 = d → GF g k1 "_law_deep" (spLDeep g e)) (h : spLDeep g d vs H Q E) :
    t_law_deep g A { nx := fun _ H' => Q .non H', rt := Q } (start ["rep", "part"] vs) H := by
  obtain ⟨v, t, L, D, rfl, hv, ok, hd, hd20, W, k⟩ := h
  rw [e_law_deep]
  show r_law_deep g A _ [some v, none] H
  unfold r_law_deep
  walk_at "rd"
  refine k_eqR W hv ok (by omega) ?_
  walk_at "rd"
  cases t with
  | leaf =>
    walk_at "rd"
    exact k _ W
  | br m ab ss ps =>
  obtain ⟨F, okl⟩ := ok
  obtain ⟨a, ua, fa, pa, pvs, svs, rfl, lp, ls, W1⟩ := W.opR hv
  have fl := F.len
  simp only [Pn.deep] at hd
  obtain ⟨lv, rfl⟩ : ∃ e, d = e + 1 := ⟨d - 1, by omega⟩
  have f1 := f1 lv rfl
  have hrs : isRs g.K pvs ps ∈ isI a (.tup [.str m, .ref ua, .ref fa, .ref pa]) :: isT g.K a [.str m, .ref ua, .ref fa, .ref pa] :: isT g.K ua (ab.map V.int) :: isT g.K fa svs :: isSs svs ss :: isI pa (.lst pvs) :: isL g.K pa pvs :: isRs g.K pvs ps :: D := by walk_at "mem"
  replace W := W1
  clear W1
  refine k_ifF (by rfl) ?_
  walk_at "rd"
  refine k_lcM ps (fun t => V.int ((t.deep : Nat) : Int)) (lp ▸ walk_list) W (sl_of (by omega)) (fun p acc H W => W.list (by walk_at "mem")) ?_ ?_
  · rintro p i x H H' acc e N Z he W ⟨rfl, hx⟩ hN
    obtain ⟨t, ht, W1⟩ := W.itemR hrs hx
    rw [ht] at he
    cases he
    replace W := W1
    clear W1
    walk_at "rd"
    refine ⟨rfl, ?_⟩
    walk_at "rd"
    exact k_call f1 hr ⟨x, _, _, _, rfl, List.mem_cons_self, okL_get okl ht, deepL_get (show deepL ps ≤ lv by omega) ht, by omega, W, fun H W => hN _ W.dF⟩
  · clear W H
    intro p H W
    walk_at "rd"
    have hne : 0 < ps.length := List.length_pos_iff.mpr F.hp
    refine k_maxL (ns := ps.map fun t => ((t.deep : Nat) : Int)) (by rw [List.map_map]; exact W.sq List.mem_cons_self) (by rw [List.length_map]; exact hne) ?_
    intro mx h1 h2
    rw [deepL_max h1 h2]
    walk_at "rd"
    have e : 1 + ((deepL ps : Nat) : Int) = (((Pn.br m ab ss ps).deep : Nat) : Int) := by
      rw [Pn.deep]
      simp
    rw [e]
    exact k _ (W.dO.arr spR (by walk_at "sub"))
def spLNum : Sp := fun vs H Q _ => ∃ (x y : Int) (L : Ow) (D : List Fct), vs = [.int x, .int y] ∧ Wd L D H ∧ ∀ H', Wd L D H' → Q (.bl (decide (x = y))) H'
theorem w_lnum {g : G} {A : Around} {vs : List V} {H : Hp} {Q : VK} {E : XK} (h : spLNum vs H Q E) : t_law_number g A { nx := fun _ H' => Q .non H', rt := Q } (start ["thing", "due"] vs) H := by
  obtain ⟨x, y, L, D, rfl, W, k⟩ := h
  rw [e_law_number]
  show r_law_number g A _ [some (.int x), some (.int y)] H
  unfold r_law_number
  walk_at "rd"
  exact k _ W
def Emp (g : G) (e : Addr) : Prop := ∀ B, SqT g.K B e []
def spBrSA (g : G) (CL CB : Addr) : Sp := fun vs H Q E => ∃ p m pa sa au, vs = [p, m, pa, sa, au] ∧ spBrInit g CL CB [p, m, pa, au, sa] H Q E
def spBrS (g : G) (CL CB : Addr) : Sp := fun vs H Q E => ∃ p m pa sa, vs = [p, m, pa, sa] ∧ ∀ e, Emp g e → spBrInit g CL CB [p, m, pa, .ref e, sa] H Q E
def spBrA (g : G) (CL CB : Addr) : Sp := fun vs H Q E => ∃ p m pa au, vs = [p, m, pa, au] ∧ ∀ e, Emp g e → spBrInit g CL CB [p, m, pa, au, .ref e] H Q E
def spBr0 (g : G) (CL CB : Addr) : Sp := fun vs H Q E => ∃ p m pa, vs = [p, m, pa] ∧ ∀ e1 e2, Emp g e1 → Emp g e2 → spBrInit g CL CB [p, m, pa, .ref e1, .ref e2] H Q E
structure Mks (g : G) (k : Nat) (CL CB : Addr) : Prop where
  leaf : Mk0 g.K CL
  sa : IK g k CB 2 ["sets", "above"] (spBrSA g CL CB)
  s : IK g k CB 2 ["sets"] (spBrS g CL CB)
  a : IK g k CB 2 ["above"] (spBrA g CL CB)
  z : IF g k CB (spBr0 g CL CB)
theorem Wd.emp {g : G} {L : Ow} {D : List Fct} {H : Hp} {e : Addr} (W : Wd L D H) (h : Emp g e) : Wd L (isT g.K e [] :: D) H := W.der isT_stab fun B _ => h B
theorem Wd.ss0 {L : Ow} {D : List Fct} {H : Hp} (W : Wd L D H) : Wd L (isSs [] [] :: D) H := W.der isSs_stab fun _ _ => .nil
theorem psT_snoc {ps : List Pn} {i : Nat} {t : Pn} (h : ps[i]? = some t) : ps.take (i + 1) = ps.take i ++ [t] := by rw [List.take_add_one, h]; rfl
def spMade (g : G) (CL CB : Addr) (d : Nat) : Sp := fun vs H Q _ => ∃ v tn t L D, vs = [v, .bl tn] ∧ isR g.K v t ∈ D ∧ t.ok ∧ t.deep ≤ d ∧ d ≤ 6 ∧ Wd L D H ∧ ∀ p H', Wd L (isP g.K CL CB p t :: D) H' → Q p H'
theorem k_leaf {g : G} {CL CB : Addr} {H : Hp} {Q : VK} {L : Ow} {D : List Fct} (C : Cls2 g CL CB) (M : Mk0 g.K CL) (W : Wd L D H) (k : ∀ p H', Wd L (isP g.K CL CB (.ref p) .leaf :: D) H' → Q (.ref p) H') : kMakeP g "Leaf" H Q := by
  refine k_makeP C.nL M W ?_
  intro p dx H W
  have W1 := W.frzI.dO
  have W2 := W1.der (F := isP g.K CL CB (.ref p) .leaf) isP_stab fun B b => .leaf (b (isI p (.ins CL dx [])) (by walk_at "mem"))
  exact k _ _ (W2.arr spR (fsC List.mem_cons_self (fsT (fsT fsR))))
theorem w_made {g : G} {CL CB : Addr} {A : Around} {vs : List V} {H : Hp} {Q : VK} {E : XK} {k1 k2 : Nat} {d : Nat} (hr : Room (k1 + 1) A) (hr2 : Room k2 A) (C : Cls2 g CL CB) (M : Mks g k1 CL CB) (f1 : ∀ e, e + 1 = d → GF g k2 "_law_made" (spMade g CL CB e)) (h : spMade g CL CB d vs H Q E) :
    t_law_made g A { nx := fun _ H' => Q .non H', rt := Q } (start ["rep", "turned", "parts", "ups", "fams", "plan", "part"] vs) H := by
  obtain ⟨v, tn, t, L, D, rfl, hv, ok, hd, hd20, W, k⟩ := h
  rw [e_law_made]
  show r_law_made g A _ [some v, some (.bl tn), none, none, none, none, none] H
  unfold r_law_made
  walk_at "rd"
  refine k_eqR W hv ok (by omega) ?_
  walk_at "rd"
  cases t with
  | leaf =>
    walk_at "rd"
    exact k_leaf C M.leaf W fun p H W => k _ _ W
  | br m ab ss ps =>
  obtain ⟨F, okl⟩ := ok
  obtain ⟨a, ua, fa, pa, pvs, svs, rfl, lp, ls, W1⟩ := W.opR hv
  have fl := F.len
  have ff := F.fam
  have fb := F.abd
  simp only [Pn.deep] at hd
  obtain ⟨lv, rfl⟩ : ∃ e, d = e + 1 := ⟨d - 1, by omega⟩
  have f1 := f1 lv rfl
  have hrs : isRs g.K pvs ps ∈ isI a (.tup [.str m, .ref ua, .ref fa, .ref pa]) :: isT g.K a [.str m, .ref ua, .ref fa, .ref pa] :: isT g.K ua (ab.map V.int) :: isT g.K fa svs :: isSs svs ss :: isI pa (.lst pvs) :: isL g.K pa pvs :: isRs g.K pvs ps :: D := by walk_at "mem"
  have hpa : isL g.K pa pvs ∈ isI a (.tup [.str m, .ref ua, .ref fa, .ref pa]) :: isT g.K a [.str m, .ref ua, .ref fa, .ref pa] :: isT g.K ua (ab.map V.int) :: isT g.K fa svs :: isSs svs ss :: isI pa (.lst pvs) :: isL g.K pa pvs :: isRs g.K pvs ps :: D := by walk_at "mem"
  have hua : isT g.K ua (ab.map V.int) ∈ isI a (.tup [.str m, .ref ua, .ref fa, .ref pa]) :: isT g.K a [.str m, .ref ua, .ref fa, .ref pa] :: isT g.K ua (ab.map V.int) :: isT g.K fa svs :: isSs svs ss :: isI pa (.lst pvs) :: isL g.K pa pvs :: isRs g.K pvs ps :: D := by walk_at "mem"
  have hfa : isT g.K fa svs ∈ isI a (.tup [.str m, .ref ua, .ref fa, .ref pa]) :: isT g.K a [.str m, .ref ua, .ref fa, .ref pa] :: isT g.K ua (ab.map V.int) :: isT g.K fa svs :: isSs svs ss :: isI pa (.lst pvs) :: isL g.K pa pvs :: isRs g.K pvs ps :: D := by walk_at "mem"
  have hss : isSs svs ss ∈ isI a (.tup [.str m, .ref ua, .ref fa, .ref pa]) :: isT g.K a [.str m, .ref ua, .ref fa, .ref pa] :: isT g.K ua (ab.map V.int) :: isT g.K fa svs :: isSs svs ss :: isI pa (.lst pvs) :: isL g.K pa pvs :: isRs g.K pvs ps :: D := by walk_at "mem"
  have k : ∀ p H', Wd L (isP g.K CL CB p (.br m ab ss ps) :: isI a (.tup [.str m, .ref ua, .ref fa, .ref pa]) :: isT g.K a [.str m, .ref ua, .ref fa, .ref pa] :: isT g.K ua (ab.map V.int) :: isT g.K fa svs :: isSs svs ss :: isI pa (.lst pvs) :: isL g.K pa pvs :: isRs g.K pvs ps :: D) H' → Q p H' := fun p H' W' => k p H' (W'.arr spR (fsC List.mem_cons_self (by walk_at "sub")))
  replace W := W1
  clear W1
  refine k_ifF (by rfl) ?_
  walk_at "rd"
  revert k W hrs hpa hua hfa hss
  have hat : isT g.K a [.str m, .ref ua, .ref fa, .ref pa] ∈ isI a (.tup [.str m, .ref ua, .ref fa, .ref pa]) :: isT g.K a [.str m, .ref ua, .ref fa, .ref pa] :: isT g.K ua (ab.map V.int) :: isT g.K fa svs :: isSs svs ss :: isI pa (.lst pvs) :: isL g.K pa pvs :: isRs g.K pvs ps :: D := by walk_at "mem"
  revert hat
  generalize isI a (.tup [.str m, .ref ua, .ref fa, .ref pa]) :: isT g.K a [.str m, .ref ua, .ref fa, .ref pa] :: isT g.K ua (ab.map V.int) :: isT g.K fa svs :: isSs svs ss :: isI pa (.lst pvs) :: isL g.K pa pvs :: isRs g.K pvs ps :: D = D9
  intro hat hrs hpa hua hfa hss k W
  refine k_lc (lp ▸ walk_list) W (fun p i H => ∃ acc, acc.length = i ∧ Wd ((p, .lst acc) :: L) (isPs g.K CL CB acc (ps.take i) :: D9) H) (fun p H' W => ⟨[], rfl, W.der (F := isPs g.K CL CB [] []) isPs_stab fun _ _ => .nil⟩) (fun p i H _ ⟨acc, _, W⟩ => W.list (List.mem_cons_of_mem _ hpa)) ?_ ?_
  · rintro p i x H H' hi ⟨acc, la, W⟩ ⟨rfl, hx⟩
    obtain ⟨t, ht, W1⟩ := W.itemR (List.mem_cons_of_mem _ hrs) hx
    replace W := W1
    clear W1
    walk_at "rd"
    refine ⟨rfl, ?_⟩
    walk_at "rd"
    refine k_call f1 hr2 ⟨x, tn, t, _, _, rfl, List.mem_cons_self, okL_get okl ht, deepL_get (show deepL ps ≤ lv by omega) ht, by omega, W, ?_⟩
    clear W
    intro v H W
    refine k_push W (sl_lt (by omega)) ?_
    intro H W
    have W2 := W.der (F := isPs g.K CL CB (acc ++ [v]) (ps.take i ++ [t])) isPs_stab fun B b => PlsAt.app (b (isPs g.K CL CB acc (ps.take i)) (by walk_at "mem")) (.cons (b (isP g.K CL CB v t) (by walk_at "mem")) .nil)
    rw [psT_snoc ht]
    exact ⟨acc ++ [v], by simp [la], W2.arr spR (fsC List.mem_cons_self (by walk_at "sub"))⟩
  clear W H
  rintro pq H ⟨acc, la, W⟩
  rw [List.take_length] at W
  have hps : isPs g.K CL CB acc ps ∈ isPs g.K CL CB acc ps :: D9 := List.mem_cons_self
  have hat := List.mem_cons_of_mem (isPs g.K CL CB acc ps) hat
  walk_at "rd"
  refine k_list_T W (W.tupl (List.mem_cons_of_mem _ hua)) ?_
  clear W H
  intro uq H W
  walk_at "rd"
  refine k_list_T W (W.tupl (List.mem_cons_of_mem _ hfa)) ?_
  clear W H
  intro fq H W
  walk_at "rd"
  refine k_cut (fun σ H => ∃ p, σ = [some (.ref a), some (.bl tn), some (.ref pq), some (.ref uq), some (.ref fq), some (.ref p), none] ∧ Wd ((fq, .lst svs) :: (uq, .lst (ab.map V.int)) :: (pq, .lst acc) :: L) (isP g.K CL CB (.ref p) (.br m ab ss ps) :: D9) H) ?_ ?_
  · walk_at "rd"
    have fin : ∀ {D' : List Fct} {p : Addr} {H : Hp}, Wd ((fq, .lst svs) :: (uq, .lst (ab.map V.int)) :: (pq, .lst acc) :: L) (isP g.K CL CB (.ref p) (.br m ab ss ps) :: D') H → D9 ⊆ D' → Wd ((fq, .lst svs) :: (uq, .lst (ab.map V.int)) :: (pq, .lst acc) :: L) (isP g.K CL CB (.ref p) (.br m ab ss ps) :: D9) H := fun W s => W.arr spR (fsC List.mem_cons_self (fsT s))
    cases tn with
    | true =>
      walk_at "rd"
      refine k_tuple_B (b := true) W (.inl (by walk_at "mem")) ?_
      clear W H
      intro ft H W
      walk_at "rd"
      refine k_tuple_B (b := true) W (.inl (by walk_at "mem")) ?_
      clear W H
      intro ut H W
      walk_at "rd"
      refine k_makeK C.nB M.sa hr rfl rfl W ?_
      clear W H
      intro p dx H W
      refine ⟨_, _, _, _, _, rfl, p, dx, m, pq, true, acc, ps, ut, false, ab, ft, false, svs, ss, (fq, .lst svs) :: (uq, .lst (ab.map V.int)) :: (pq, .lst acc) :: L, _, rfl, .inl (by walk_at "mem"), by walk_at "mem", show isT g.K ut (ab.map V.int) ∈ _ by walk_at "mem", show isT g.K ft svs ∈ _ by walk_at "mem", List.mem_cons_of_mem _ (List.mem_cons_of_mem _ (List.mem_cons_of_mem _ hss)), F, okl, W.mv1.dO, ?_⟩
      clear W H
      intro H W
      refine ⟨rfl, ?_⟩
      walk_at "rd"
      exact ⟨p, rfl, fin W (by walk_at "sub")⟩
    | false =>
    walk_at "rd"
    refine k_ifd (fun hm => ?_) (fun hm => ?_)
    · have hab : ab = [] := by
        have := F.ha
        unfold aboveOk at this
        rw [if_neg (by subst hm; decide +kernel)] at this
        exact this
      subst hab
      walk_at "rd"
      refine k_makeK C.nB M.s hr rfl rfl W ?_
      clear W H
      intro p dx H W
      refine ⟨_, _, _, _, rfl, fun e he => ?_⟩
      have W1 := W.mv1.dO.emp he
      refine ⟨p, dx, m, pq, true, acc, ps, e, false, [], fq, true, svs, ss, (fq, .lst svs) :: (uq, .lst ([].map V.int)) :: (pq, .lst acc) :: L, _, rfl, .inl (by walk_at "mem"), List.mem_cons_of_mem _ hps, show isT g.K e [] ∈ _ by walk_at "mem", .inl (by walk_at "mem"), List.mem_cons_of_mem _ (List.mem_cons_of_mem _ hss), F, okl, W1, ?_⟩
      clear W W1 H
      intro H W
      refine ⟨rfl, ?_⟩
      walk_at "rd"
      exact ⟨p, rfl, fin W (by walk_at "sub")⟩
    · have hs0 : ss = [] := by
        have := F.hf
        unfold famOk at this
        rw [if_neg hm] at this
        exact this
      subst hs0
      have hsv : svs = [] := List.length_eq_zero_iff.mp ls
      subst hsv
      walk_at "rd"
      refine k_tru_T (W.tupl (List.mem_cons_of_mem _ hua)) ?_
      by_cases hab : ab = []
      · subst hab
        refine k_ifF (by rfl) ?_
        walk_at "rd"
        refine k_make C.nB M.z hr W ?_
        clear W H
        intro p dx H W
        refine ⟨_, _, _, rfl, fun e1 e2 he1 he2 => ?_⟩
        have W1 := (W.mv1.dO.emp he1).emp he2
        refine ⟨p, dx, m, pq, true, acc, ps, e1, false, [], e2, false, [], [], (fq, .lst []) :: (uq, .lst ([].map V.int)) :: (pq, .lst acc) :: L, _, rfl, .inl (by walk_at "mem"), List.mem_cons_of_mem _ (List.mem_cons_of_mem _ hps), show isT g.K e1 [] ∈ _ by walk_at "mem", show isT g.K e2 [] ∈ _ by walk_at "mem", List.mem_cons_of_mem _ (List.mem_cons_of_mem _ (List.mem_cons_of_mem _ hss)), F, okl, W1, ?_⟩
        clear W W1 H
        intro H W
        refine ⟨rfl, ?_⟩
        walk_at "rd"
        exact ⟨p, rfl, fin W (by walk_at "sub")⟩
      · refine k_ifT (by cases ab <;> simp_all) ?_
        walk_at "rd"
        refine k_makeK C.nB M.a hr rfl rfl W ?_
        clear W H
        intro p dx H W
        refine ⟨_, _, _, _, rfl, fun e he => ?_⟩
        have W1 := W.mv1.dO.emp he
        refine ⟨p, dx, m, pq, true, acc, ps, uq, true, ab, e, false, [], [], (fq, .lst []) :: (uq, .lst (ab.map V.int)) :: (pq, .lst acc) :: L, _, rfl, .inl (by walk_at "mem"), List.mem_cons_of_mem _ hps, .inl (by walk_at "mem"), show isT g.K e [] ∈ _ by walk_at "mem", List.mem_cons_of_mem _ (List.mem_cons_of_mem _ hss), F, okl, W1, ?_⟩
        clear W W1 H
        intro H W
        refine ⟨rfl, ?_⟩
        walk_at "rd"
        exact ⟨p, rfl, fin W (by walk_at "sub")⟩
  clear W H
  rintro σ H ⟨p, rfl, W⟩
  walk_at "rd"
  refine k_leaf C M.leaf W fun p2 H W => ?_
  walk_at "rd"
  refine k_app (p := pq) (by walk_at "fr") (sl_lt (by omega)) ?_
  clear W
  intro H W
  walk_at "rd"
  refine k_app (p := uq) (by walk_at "fr") (sl_lt (by rw [List.length_map]; omega)) ?_
  clear W H
  intro H W
  walk_at "rd"
  refine k_app (p := fq) (by walk_at "fr") (sl_lt (by omega)) ?_
  clear W H
  intro H W
  walk_at "rd"
  exact k _ _ (W.arr (by walk_at "spm") (by walk_at "sub"))
theorem Wd.frzS {K : PySem.W.Frag} {L : Ow} {D : List Fct} {H : Hp} {q : Addr} {ws : List Str} (W : Wd ((q, .lst (ws.map V.str)) :: L) D H) : Wd L (isL K q (ws.map V.str) :: isD K (.ref q) (.list (ws.map PyData.str)) :: D) H := by
  have W1 := W.frzI
  have W2 := W1.der (F := isD K (.ref q) (.list (ws.map PyData.str))) isD_stab fun B b => .lst (SqL.of (b (isI q (.lst (ws.map V.str))) List.mem_cons_self)) (hasAll_strs (D := []) ws B fun _ h => (List.not_mem_nil h).elim)
  have W3 := W2.der (F := isL K q (ws.map V.str)) isL_stab fun B b => SqL.of (b (isI q (.lst (ws.map V.str))) (by walk_at "mem"))
  exact W3.arr spR (fsC List.mem_cons_self (fsC (by walk_at "mem") (fsT (fsT (fsT fsR)))))
theorem k_count {g : G} {A : Around} {L : Ow} {D : List Fct} {H : Hp} {Q : VK} {σ : L2.St} {q : Addr} {ws : List Str} {x : Str} {s : Nat} (hq : isL g.K q (ws.map V.str) ∈ D) (hl : ws.length ≤ 1000000) (W : Wd L D H) (hs : s < σ.length)
    (k : ∀ p zs H', zs.length = cnt x ws → Wd ((p, .lst zs) :: L) D H' → Q (.ref p) H') : kLc (Itl g.K q) (rName s) (rTest (rOp (kEq g.K) (rVar s) (rC (.str x)))) (rVar s) [s] σ H Q := by
  refine k_lc walk_list W (fun p i H => Wd ((p, .lst (((ws.take i).filter fun w : Str => decide (w = x)).map V.str)) :: L) D H) (fun p H' W => W) (fun p i H _ W => W.list hq) ?_ ?_
  · rintro p i y H H' hi W ⟨rfl, hx⟩
    rw [List.getElem?_map] at hx
    obtain ⟨w, hw, rfl⟩ := Option.map_eq_some_iff.mp hx
    rw [List.length_map] at hi
    have hg : ((wipe σ [s]).set s (some (V.str w)))[s]? = some (some (V.str w)) := by
      rw [List.getElem?_set_self]
      simp [wipe, hs]
    refine k_store rfl ?_
    refine ⟨by simp [wipe], ?_⟩
    refine k_var hg ?_
    refine k_eq_ss ?_
    refine k_B ?_
    refine k_ifd (fun h => ?_) (fun h => ?_)
    · refine k_var hg ?_
      refine k_push W (sl_lt ?_) ?_
      · rw [List.length_map]
        have := List.length_filter_le (fun w : Str => decide (w = x)) (ws.take i)
        rw [List.length_take] at this
        omega
      · intro H W
        rw [fil_snoc hw, if_pos h, List.map_append]
        exact W
    · rw [fil_snoc hw, if_neg h, List.append_nil]
      exact W
  · intro p H W
    rw [List.length_map, List.take_length] at W
    exact k p _ H (by rw [List.length_map]; rfl) W
def spTold (g : G) (CL CB : Addr) : Sp := fun vs H Q _ => ∃ p v t L D, vs = [p, v] ∧ isP g.K CL CB p t ∈ D ∧ isR g.K v t ∈ D ∧ t.ok ∧ t.deep ≤ 6 ∧ Wd L D H ∧ ∀ H', Wd L D H' → Q (.bl true) H'
structure LwF (g : G) (k : Nat) : Prop where
  words : GF g k "_law_words" (spLWords g 6)
  deep : GF g k "_law_deep" (spLDeep g 6)
  num : GF g k "_law_number" spLNum
theorem w_told {g : G} {CL CB : Addr} {A : Around} {vs : List V} {H : Hp} {Q : VK} {E : XK} {k1 : Nat} (hr : Room (k1 + 4) A) (C : Cls2 g CL CB) (M : PMs2 g k1 CL CB 6) (f : LwF g k1) (h : spTold g CL CB vs H Q E) :
    t_law_told g A { nx := fun _ H' => Q .non H', rt := Q } (start ["plan", "rep", "words", "text", "first", "kept", "leaves", "word"] vs) H := by
  obtain ⟨p, v, t, L, D, rfl, hp, hv, ok, hd, W, k⟩ := h
  have hr1 : Room k1 A := hr.mono (by omega)
  have hlen := words_max ok
  have hsz := size_le ok
  have hstr : Shp 1 (.list (t.words.map PyData.str)) := shp_strs fun w hw => (words_small ok w hw).2
  rw [e_law_told]
  show r_law_told g A _ [some p, some v, none, none, none, none, none, none] H
  unfold r_law_told
  walk_at "rd"
  refine k_call f.words hr1 ⟨v, t, _, _, rfl, hv, ok, hd, by decide, W, ?_⟩
  clear W H
  intro q H W
  have W1 := W.frzS (K := g.K)
  replace W := W1
  clear W1
  walk_at "rd"
  refine ⟨rfl, ?_⟩
  walk_at "rd"
  refine k_join (W.list (by walk_at "mem")) (words_join ok) ?_
  walk_at "rd"
  have hp2 := List.mem_cons_of_mem (isL g.K q (t.words.map V.str)) (List.mem_cons_of_mem (isD g.K (.ref q) (.list (t.words.map PyData.str))) hp)
  refine k_pm C W hp2 M.toPMs.words hr1 rfl ⟨p, _, _, rfl, hp2, ok, hd, W, ?_⟩
  clear W H
  intro q2 H W
  walk_at "rd"
  refine k_list_l W List.mem_cons_self ?_
  clear W H
  intro q3 H W
  walk_at "rd"
  refine k_app (p := q2) (by walk_at "fr") (sl_lt (by rw [List.length_map]; omega)) ?_
  clear W H
  intro H W
  walk_at "rd"
  have W1 := W.mv1.frzL (K := g.K) (hasAll_strs _)
  refine k_ne_D W1 (has_mem List.mem_cons_self) (has_mem (by walk_at "mem")) hstr.ok hstr.ok ?_
  rw [hstr.eqv]
  replace W := W1.dO.dF
  clear W1
  walk_at "rd"
  refine k_pm C W hp2 M.toPMs.words hr1 rfl ⟨p, _, _, rfl, hp2, ok, hd, W, ?_⟩
  clear W H
  intro q4 H W
  walk_at "rd"
  have W1 := W.frzL (K := g.K) (hasAll_strs _)
  refine k_ne_D W1 (has_mem List.mem_cons_self) (has_mem (by walk_at "mem")) hstr.ok hstr.ok ?_
  rw [hstr.eqv]
  replace W := W1.dF
  clear W1
  walk_at "rd"
  refine .inr ⟨p, rfl, k_ownP W hp2 M.str hr ⟨p, _, _, rfl, hp2, ok, hd, W, ?_⟩⟩
  clear W H
  intro H W
  refine ⟨_, rfl, ?_⟩
  walk_at "rd"
  refine k_ifnp rfl ?_
  walk_at "rd"
  refine k_count (g := g) (A := A) (by walk_at "mem") (by omega) W (by simp) ?_
  clear W H
  intro q5 zs H hz W
  walk_at "rd"
  rw [hz, cnt_o t ok]
  replace W := W.dO
  walk_at "rd"
  refine .inr ⟨p, rfl, k_ownP W hp2 M.toPMs.len hr ⟨p, _, _, rfl, hp2, ok, hd, W, ?_⟩⟩
  clear W H
  intro H W
  refine ⟨_, rfl, by omega, ?_⟩
  walk_at "rd"
  refine k_call f.num hr1 ⟨_, _, _, _, rfl, W, ?_⟩
  clear W H
  intro H W
  rw [decide_eq_true rfl]
  walk_at "rd"
  refine k_pm C W hp2 M.toPMs.deep hr1 rfl ⟨p, _, _, rfl, hp2, ok, hd, W, ?_⟩
  clear W H
  intro H W
  walk_at "rd"
  refine k_call f.deep hr1 ⟨v, t, _, _, rfl, List.mem_cons_of_mem _ (List.mem_cons_of_mem _ hv), ok, hd, by decide, W, ?_⟩
  clear W H
  intro H W
  walk_at "rd"
  refine k_call f.num hr1 ⟨_, _, _, _, rfl, W, ?_⟩
  clear W H
  intro H W
  rw [decide_eq_true rfl]
  walk_at "rd"
  refine k_pm C W hp2 M.toPMs.halls hr1 rfl ⟨p, _, _, rfl, hp2, ok, hd, W, ?_⟩
  clear W H
  intro H W
  walk_at "rd"
  refine k_count (g := g) (A := A) (by walk_at "mem") (by omega) W (by simp) ?_
  clear W H
  intro q5 zs H hz W
  walk_at "rd"
  rw [hz, cnt_h t ok]
  walk_at "rd"
  refine k_call f.num hr1 ⟨_, _, _, _, rfl, W.dO, ?_⟩
  clear W H
  intro H W
  rw [decide_eq_true rfl]
  exact k H W.dF.dF
def spWhole (g : G) (CL CB : Addr) (d : Nat) : Sp := fun vs H Q _ => ∃ p v t L D, vs = [p, v] ∧ isP g.K CL CB p t ∈ D ∧ isR g.K v t ∈ D ∧ t.ok ∧ t.deep ≤ d ∧ d ≤ 6 ∧ Wd L D H ∧ ∀ H', Wd L D H' → Q (.bl true) H'
theorem sets_shp {ss : List (List Int)} : Shp 2 (.tuple (ss.map setD)) := shp_tuple (k := 1) (mem_map fun _ _ => shp_set)
theorem w_values {g : G} {CL CB : Addr} {A : Around} {vs : List V} {H : Hp} {Q : VK} {E : XK} {k1 d : Nat} (hr : Room k1 A) (C : Cls2 g CL CB) (f : ∀ e, e + 1 = d → GF g k1 "_law_whole" (spWhole g CL CB e)) (h : spWhole g CL CB d vs H Q E) :
    t_law_values g A { nx := fun _ H' => Q .non H', rt := Q } (start ["plan", "rep", "part", "one"] vs) H := by
  obtain ⟨p, v, t, L, D, rfl, hp, hv, ok, hd, hd6, W, k⟩ := h
  have hC := C.br
  rw [e_law_values]
  show r_law_values g A _ [some p, some v, none, none] H
  unfold r_law_values
  walk_at "rd"
  refine k_eqR W hv ok (by omega) ?_
  walk_at "rd"
  have ty := tyP C W hp
  cases t with
  | leaf =>
    walk_at "rd"
    refine k_gl (v := .ref CL) ⟨_, C.nL, rfl⟩ ?_
    walk_at "rd"
    exact k_isi (.own CL) ty C.ll (k _ W)
  | br m ab ss ps =>
  obtain ⟨F, okl⟩ := ok
  obtain ⟨a, dx, pa, au, sa, pvs, svs, rfl, lp, ls, W1⟩ := W.opBr hp
  obtain ⟨a', ua, fa, pa', pvs', svs', rfl, lp', ls', W2⟩ := W1.opR (by
    have := hv
    walk_at "mem")
  have fl := F.len
  simp only [Pn.deep] at hd
  obtain ⟨lv, rfl⟩ : ∃ e, d = e + 1 := ⟨d - 1, by omega⟩
  have f := f lv rfl
  refine k_ifF (by rfl) ?_
  have W0 := W
  replace W := W2
  clear W1 W2
  walk_at "rd"
  refine k_gl (v := .ref CB) ⟨_, C.nB, rfl⟩ ?_
  walk_at "rd"
  refine k_isi (.own CB) ty C.bb ?_
  walk_at "rd"
  refine k_ifF (by simp) ?_
  walk_at "rd"
  have hpps : isPs g.K CL CB pvs ps ∈ isI a' (.tup [.str m, .ref ua, .ref fa, .ref pa']) :: isT g.K a' [.str m, .ref ua, .ref fa, .ref pa'] :: isT g.K ua (ab.map V.int) :: isT g.K fa svs' :: isSs svs' ss :: isI pa' (.lst pvs') :: isL g.K pa' pvs' :: isRs g.K pvs' ps :: isI a (.ins CB dx [("manner", .str m), ("parts", .ref pa), ("above", .ref au), ("sets", .ref sa)]) :: isT g.K pa pvs :: isPs g.K CL CB pvs ps :: isT g.K au (ab.map V.int) :: isT g.K sa svs :: isSs svs ss :: D := by walk_at "mem"
  have hrs : isRs g.K pvs' ps ∈ isI a' (.tup [.str m, .ref ua, .ref fa, .ref pa']) :: isT g.K a' [.str m, .ref ua, .ref fa, .ref pa'] :: isT g.K ua (ab.map V.int) :: isT g.K fa svs' :: isSs svs' ss :: isI pa' (.lst pvs') :: isL g.K pa' pvs' :: isRs g.K pvs' ps :: isI a (.ins CB dx [("manner", .str m), ("parts", .ref pa), ("above", .ref au), ("sets", .ref sa)]) :: isT g.K pa pvs :: isPs g.K CL CB pvs ps :: isT g.K au (ab.map V.int) :: isT g.K sa svs :: isSs svs ss :: D := by walk_at "mem"
  have hin : Shp 1 (.tuple (ab.map PyData.int)) := shp_tuple (k := 0) (mem_map fun _ _ => shp_int)
  have hset : Shp 2 (.tuple (ss.map setD)) := sets_shp
  refine k_ne_D (d := .tuple (ab.map PyData.int)) (e := .tuple (ab.map PyData.int)) W (fun B b => .tup (b (isT g.K au (ab.map V.int)) (by walk_at "mem")) (dpAll_ints _)) (fun B b => .tup (b (isT g.K ua (ab.map V.int)) (by walk_at "mem")) (dpAll_ints _)) hin.ok hin.ok ?_
  rw [hin.eqv]
  walk_at "rd"
  refine k_ne_D (d := .tuple (ss.map setD)) (e := .tuple (ss.map setD)) W (fun B b => .tup (b (isT g.K sa svs) (by walk_at "mem")) (b (isSs svs ss) (by walk_at "mem") : SsAt B svs ss).dp) (fun B b => .tup (b (isT g.K fa svs') (by walk_at "mem")) (b (isSs svs' ss) (by walk_at "mem") : SsAt B svs' ss).dp) hset.ok hset.ok ?_
  rw [hset.eqv]
  walk_at "rd"
  rw [lp, lp']
  refine k_ifnp rfl ?_
  walk_at "rd"
  refine k_zip_TL (W.tupl (show isT g.K pa pvs ∈ _ by walk_at "mem")) (W.list (show isL g.K pa' pvs' ∈ _ by walk_at "mem")) ?_
  refine k_lcM ps (fun _ => V.bl true) (lp ▸ walk_zipM (lp.trans lp'.symm)) W (sl_of (by omega)) (fun p acc H W => ⟨W.tupl (by walk_at "mem"), W.list (by walk_at "mem")⟩) ?_ ?_
  · rintro q i x H H' acc e N Z he W ⟨T, y, z, rfl, hT, rfl, ey, ez⟩ hN
    obtain ⟨t, ht, W1⟩ := W.itemP hpps ey
    obtain ⟨t', ht', W2⟩ := W1.itemR (List.mem_cons_of_mem _ hrs) ez
    rw [ht] at ht'
    cases ht'
    rw [ht] at he
    cases he
    have W3 := W2.new hT (.tup [y, z])
    clear W W1 W2
    have W := W3
    clear W3
    walk_at "rd"
    refine ⟨rfl, ?_⟩
    walk_at "rd"
    refine k_call f hr ⟨y, z, _, _, _, rfl, List.mem_cons_of_mem _ List.mem_cons_self, List.mem_cons_self, okL_get okl ht, deepL_get (show deepL ps ≤ lv by omega) ht, by omega, W, ?_⟩
    clear W
    intro H W
    exact hN _ W.dO.dF.dF
  · clear W
    intro q H W
    walk_at "rd"
    refine k_all (bs := ps.map fun _ => true) (by rw [List.map_map]; exact W.sq List.mem_cons_self) ?_
    rw [show (ps.map fun _ => true).all id = true from by simp]
    exact k _ (W.dO.arr spR (by walk_at "sub"))
theorem w_whole {g : G} {CL CB : Addr} {A : Around} {vs : List V} {H : Hp} {Q : VK} {E : XK} {k1 d : Nat} (hr : Room k1 A) (f1 : GF g k1 "_law_told" (spTold g CL CB)) (f2 : GF g k1 "_law_values" (spWhole g CL CB d)) (h : spWhole g CL CB d vs H Q E) :
    t_law_whole g A { nx := fun _ H' => Q .non H', rt := Q } (start ["plan", "rep"] vs) H := by
  obtain ⟨p, v, t, L, D, rfl, hp, hv, ok, hd, hd6, W, k⟩ := h
  rw [e_law_whole]
  show r_law_whole g A _ [some p, some v] H
  unfold r_law_whole
  walk_at "rd"
  refine k_call f1 hr ⟨p, v, t, _, _, rfl, hp, hv, ok, by omega, W, ?_⟩
  clear W H
  intro H W
  walk_at "rd"
  exact k_call f2 hr ⟨p, v, t, _, _, rfl, hp, hv, ok, hd, hd6, W, fun H W => k H W⟩
theorem toS_inj60 {i j : Int} (h0 : 0 ≤ i) (h1 : i < 60) (h2 : 0 ≤ j) (h3 : j < 60) (e : toS i = toS j) : i = j := by
  have key : ∀ a b : Fin 60, toS (a.val : Int) = toS (b.val : Int) → a = b := by decide +kernel
  have := key ⟨i.toNat, by omega⟩ ⟨j.toNat, by omega⟩ (by
    rw [show ((i.toNat : Nat) : Int) = i from by omega, show ((j.toNat : Nat) : Int) = j from by omega]
    exact e)
  have := congrArg Fin.val this
  simp only at this
  omega
theorem map_toS_inj : ∀ {a b : List Int}, (∀ x ∈ a, 0 ≤ x ∧ x < 60) → (∀ x ∈ b, 0 ≤ x ∧ x < 60) → a.map toS = b.map toS → a = b
  | [], [], _, _, _ => rfl
  | [], _ :: _, _, _, e => by simp at e
  | _ :: _, [], _, _, e => by simp at e
  | x :: a, y :: b, ha, hb, e => by
    rw [List.map_cons, List.map_cons] at e
    injection e with e1 e2
    rw [toS_inj60 (ha x List.mem_cons_self).1 (ha x List.mem_cons_self).2 (hb y List.mem_cons_self).1 (hb y List.mem_cons_self).2 e1, map_toS_inj (fun z hz => ha z (List.mem_cons_of_mem _ hz)) (fun z hz => hb z (List.mem_cons_of_mem _ hz)) e2]
theorem words_br (m : Str) (ab : List Int) (ss : List (List Int)) (ps : List Pn) : (Pn.br m ab ss ps).words = ("[" : Str) :: m :: (ab.map toS ++ (setWs ss ++ ((":" : Str) :: (wordsL ps ++ ([("]" : Str)]))))) := by
  rw [Pn.words]
  simp
theorem size_words {t : Pn} (h : t.ok) : t.leaves + t.halls ≤ t.words.length := by
  have h1 := cnt_o t h
  have h2 := cnt_h t h
  have key : ∀ ws : List Str, cnt "o" ws + cnt "[" ws ≤ ws.length := by
    intro ws
    induction ws with
    | nil => simp [cnt]
    | cons w r ih =>
      rw [cnt_cons, cnt_cons, List.length_cons]
      by_cases e : w = "o"
      · have : ¬ w = "[" := by subst e; decide +kernel
        rw [if_pos e, if_neg this]
        omega
      · rw [if_neg e]
        split <;> omega
  have := key t.words
  omega
inductive Oth (t : Pn) : Pn → Prop
  | mk {t' : Pn} (ok : t'.ok) (hd : t'.deep ≤ t.deep) (hb : t'.isBr = true) (ne : t'.words ≠ t.words) : Oth t t'
section
variable {m : Str} {ab : List Int} {ss : List (List Int)} {ps : List Pn}
theorem oth_manner {m' : Str} (F : Fits m ab ss ps) (okl : okL ps) (hm : m' ∈ manners) (h1 : isTr m' = isTr m) (h2 : m' = "votes" ↔ m = "votes") (ne : m' ≠ m) : Oth (.br m ab ss ps) (.br m' ab ss ps) := by
  refine .mk ⟨⟨hm, F.hp, F.hs, F.hd, ?_, ?_⟩, okl⟩ (Nat.le_refl _) rfl fun e => ?_
  · have := F.ha
    unfold aboveOk at this ⊢
    rwa [h1]
  · have := F.hf
    unfold famOk at this ⊢
    by_cases h : m = "votes"
    · rw [if_pos h] at this
      rwa [if_pos (h2.mpr h)]
    · rw [if_neg h] at this
      rwa [if_neg fun h' => h (h2.mp h')]
  · rw [words_br, words_br] at e
    injection e with _ e
    injection e with e _
    exact ne e
theorem oth_above {ab' : List Int} (F : Fits m ab ss ps) (okl : okL ps) (ha : aboveOk m ab' ps.length) (hl : ab'.length = ab.length) (ne : ab' ≠ ab) : Oth (.br m ab ss ps) (.br m ab' ss ps) := by
  have F' : Fits m ab' ss ps := ⟨F.hm, F.hp, F.hs, F.hd, ha, F.hf⟩
  refine .mk ⟨F', okl⟩ (Nat.le_refl _) rfl fun e => ?_
  rw [words_br, words_br] at e
  injection e with _ e
  injection e with _ e
  have := (List.append_inj e (by rw [List.length_map, List.length_map, hl])).1
  exact ne (map_toS_inj F'.abd.2 F.abd.2 this)
theorem bar_split {x : Str} : ∀ {a b c d : List Str}, x ∉ a → x ∉ b → a ++ x :: c = b ++ x :: d → a = b
  | [], [], _, _, _, _, _ => rfl
  | [], y :: b, _, _, _, hb, e => by
    injection e with e _
    exact absurd (by rw [e]; exact List.mem_cons_self) hb
  | y :: a, [], _, _, ha, _, e => by
    injection e with e _
    exact absurd (by rw [← e]; exact List.mem_cons_self) ha
  | y :: a, z :: b, _, _, ha, hb, e => by
    injection e with e1 e2
    rw [e1, bar_split (fun h => ha (List.mem_cons_of_mem _ h)) (fun h => hb (List.mem_cons_of_mem _ h)) e2]
theorem no_bar {n : Nat} {s : List Int} (hn : n ≤ 60) (h : SetOk n s) : ("|" : Str) ∉ s.map toS := fun hm => by
  obtain ⟨x, hx, e⟩ := List.mem_map.mp hm
  have := h.bd x hx
  exact (toS_small this.1 (by omega)).2.2.2.2 e
theorem oth_sets {s t : List Int} {r : List (List Int)} (F : Fits m ab (s :: t :: r) ps) (okl : okL ps) : Oth (.br m ab (s :: t :: r) ps) (.br m ab (t :: s :: r) ps) := by
  have hf := F.hf
  have fam := F.fam.2
  have F' : Fits m ab (t :: s :: r) ps := by
    refine ⟨F.hm, F.hp, F.hs, F.hd, F.ha, ?_⟩
    unfold famOk at hf ⊢
    split at hf
    · rename_i h
      rw [if_pos h]
      refine ⟨by simp, by simpa using hf.2.1, ⟨fun x hx => fam.ok x (by simp at hx ⊢; rcases hx with h | h | h <;> simp [h]), ?_⟩, ?_⟩
      · have := fam.nd
        simp only [List.nodup_cons, List.mem_cons, not_or] at this ⊢
        exact ⟨⟨fun h => this.1.1 h.symm, this.2.1⟩, this.1.2, this.2.2⟩
      · have := hf.2.2.2
        simp only [meets, List.all_cons, Bool.and_eq_true] at this ⊢
        have c : meetS t s = meetS s t := by
          unfold meetS
          apply Bool.eq_iff_iff.mpr
          rw [List.any_eq_true, List.any_eq_true]
          constructor
          · rintro ⟨x, h1, h2⟩
            exact ⟨x, of_decide_eq_true h2, decide_eq_true h1⟩
          · rintro ⟨x, h1, h2⟩
            exact ⟨x, of_decide_eq_true h2, decide_eq_true h1⟩
        rw [c]
        exact ⟨⟨this.1.1, this.2.1⟩, this.1.2, this.2.2⟩
    · cases hf
  refine .mk ⟨F', okl⟩ (Nat.le_refl _) rfl fun e => ?_
  rw [words_br, words_br] at e
  injection e with _ e
  injection e with _ e
  have e := List.append_cancel_left e
  have hl := F.len
  have shape : ∀ (a b : List Int) (X : List Str), setWs (a :: b :: r) ++ X = a.map toS ++ ("|" : Str) :: (b.map toS ++ (setTail r ++ X)) := fun a b X => by simp [setWs, setTail]
  rw [shape, shape] at e
  have hs := fam.ok s List.mem_cons_self
  have ht := fam.ok t (List.mem_cons_of_mem _ List.mem_cons_self)
  have := bar_split (no_bar hl ht) (no_bar hl hs) e
  have := map_toS_inj (fun x hx => by have := ht.bd x hx; omega) (fun x hx => by have := hs.bd x hx; omega) this
  have nd := fam.nd
  rw [List.nodup_cons] at nd
  exact nd.1 (by rw [← this]; exact List.mem_cons_self)
theorem SetOk.mono {n n' : Int} {s : List Int} (h : SetOk n s) (hn : n ≤ n') : SetOk n' s := ⟨h.ne, fun x hx => ⟨(h.bd x hx).1, by have := (h.bd x hx).2; omega⟩, h.up⟩
theorem lv_size (F : Fits m ab ss ps) (okl : okL ps) (hw : (Pn.br m ab ss ps).words.length < 40) : leavesL ps + hallsL ps < 40 := by
  have := size_words (t := .br m ab ss ps) ⟨F, okl⟩
  simp only [Pn.leaves, Pn.halls] at this
  omega
theorem oth_tree (F : Fits m ab ss ps) (okl : okL ps) (hm : isTr m = true) (hw : (Pn.br m ab ss ps).words.length < 40) : Oth (.br m ab ss ps) (.br m (ab ++ [0]) ss (ps ++ [.leaf])) := by
  have hsz := lv_size F okl hw
  have hd := F.hd
  have e1 : leavesL (ps ++ [.leaf]) = leavesL ps + 1 := by rw [leavesL_eq, leavesL_eq]; simp [Pn.leaves]
  have e2 : hallsL (ps ++ [.leaf]) = hallsL ps := by rw [hallsL_eq, hallsL_eq]; simp [Pn.halls]
  have hdl : deepL (ps ++ [.leaf]) ≤ deepL ps := deepL_le.mpr fun p hp => by
    rcases List.mem_append.mp hp with hp | hp
    · exact deepL_le.mp (Nat.le_refl _) p hp
    · rw [List.mem_singleton.mp hp]
      simp [Pn.deep]
  have okl' : okL (ps ++ [.leaf]) := okL_iff.mpr fun p hp => by
    rcases List.mem_append.mp hp with hp | hp
    · exact okL_iff.mp okl p hp
    · rw [List.mem_singleton.mp hp]
      trivial
  refine .mk ⟨⟨F.hm, by simp, by omega, by omega, ?_, ?_⟩, okl'⟩ (by simp only [Pn.deep]; omega) rfl fun e => ?_
  · have := F.ha
    unfold aboveOk at this ⊢
    rw [if_pos hm] at this ⊢
    refine ⟨by simp; omega, fun i x hx => ?_⟩
    rw [List.getElem?_append] at hx
    split at hx
    · exact this.2 i x hx
    · have := (List.getElem?_eq_some_iff.mp hx).1
      have h0 : i - ab.length = 0 := by simp at this; omega
      rw [h0] at hx
      simp at hx
      omega
  · have := F.hf
    have hv : ¬ m = "votes" := by
      intro h
      subst h
      revert hm
      decide +kernel
    unfold famOk at this ⊢
    rw [if_neg hv] at this ⊢
    exact this
  · have := congrArg List.length e
    rw [words_br, words_br, wordsL_app] at this
    simp [wordsL, Pn.words] at this
    omega
theorem oth_leaf (F : Fits m ab ss ps) (okl : okL ps) (hm : isTr m = false) (hw : (Pn.br m ab ss ps).words.length < 40) : Oth (.br m ab ss ps) (.br m ab ss (.leaf :: ps)) := by
  have hsz := lv_size F okl hw
  have hd := F.hd
  refine .mk ⟨⟨F.hm, by simp, by simp only [leavesL, hallsL, Pn.leaves, Pn.halls]; omega, by simp only [deepL, Pn.deep]; omega, ?_, ?_⟩, ⟨trivial, okl⟩⟩ (by simp only [Pn.deep, deepL]; omega) rfl fun e => ?_
  · have := F.ha
    unfold aboveOk at this ⊢
    rw [if_neg (by rw [hm]; decide)] at this ⊢
    exact this
  · have := F.hf
    unfold famOk at this ⊢
    split at this
    · rename_i h
      rw [if_pos h]
      exact ⟨this.1, this.2.1, ⟨fun s hs => (this.2.2.1.ok s hs).mono (by simp; omega), this.2.2.1.nd⟩, this.2.2.2⟩
    · rename_i h
      rw [if_neg h]
      exact this
  · have := congrArg List.length e
    rw [words_br, words_br] at this
    simp [wordsL, Pn.words] at this
end
section
variable {K : PySem.W.Frag} {L : Ow} {D : List Fct} {H : Hp} {Q : VK} {p q : Addr} {xs ys : List V}
theorem k_catT (W : Wd L D H) (h1 : isT K p xs ∈ D) (h2 : isT K q ys ∈ D) (hl : xs.length + ys.length ≤ sizeLine) (k : ∀ r H', Wd L (isT K r (xs ++ ys) :: D) H' → Q (.ref r) H') : kAdd K (.ref p) (.ref q) H Q := by
  refine .inr (.inr (.inr ⟨p, q, xs, ys, rfl, rfl, W.tupl h1, W.tupl h2, hl, fun e => ?_, fun _ e => ?_, fun _ _ r hr => ?_⟩))
  · subst e
    exact k q H (W.arr spR (fsC h2 fsR))
  · subst e
    rw [List.append_nil] at k
    exact k p H (W.arr spR (fsC h1 fsR))
  · exact k r _ ((W.new hr _).frz isT_stab fun B _ e => SqT.of e)
theorem k_slT {lo hi : Option Int} (W : Wd L D H) (h1 : isT K p xs ∈ D) (k : ∀ r H', Wd L (isT K r (cutV xs lo hi) :: D) H' → Q (.ref r) H') : kSl K (.ref p) lo hi H Q := by
  refine .inr (.inl ⟨p, xs, rfl, W.tupl h1, fun h => ?_, fun _ r hr => k r _ ((W.new hr _).frz isT_stab fun B _ e => SqT.of e)⟩)
  have e : cutV xs lo hi = xs := by
    unfold cutV
    rw [h.1, h.2]
    simp
  rw [e] at k
  exact k p H (W.arr spR (fsC h1 fsR))
end
theorem sIx_neg1 {n : Nat} : HT.sIx (n + 1) (n + 1) (some (-1)) = n := by
  unfold HT.sIx
  simp
  omega
theorem cut_m1 {xs : List V} {x : V} : cutV (xs ++ [x]) none (some (-1)) = xs := by
  unfold cutV
  rw [List.length_append, List.length_singleton, sIx_neg1]
  simp [HT.sIx]
theorem at_m1 {xs : List V} {x : V} : atI (xs ++ [x]) (-1) = some x := by
  unfold atI ixN
  simp
  rw [if_pos (by omega), Option.bind_some, show (-1 + ((xs.length : Int) + 1)).toNat = xs.length from by omega]
  simp
theorem cut_2 {a b : V} {xs : List V} : cutV (a :: b :: xs) (some 2) none = xs := by
  unfold cutV
  simp [HT.sIx]
theorem oth_last {m : Str} {ab0 : List Int} {x : Int} {ss : List (List Int)} {ps : List Pn} (F : Fits m (ab0 ++ [x]) ss ps) (okl : okL ps) (hl : 1 < (ab0.length : Int) + 1) : Oth (.br m (ab0 ++ [x]) ss ps) (.br m (ab0 ++ [(x + 1) % ((ab0 ++ [x]).length : Int)]) ss ps) := by
  have ha := F.ha
  unfold aboveOk at ha
  split at ha
  · rename_i hm
    have hx := ha.2 ab0.length x (by simp)
    have e : ((ab0 ++ [x]).length : Int) = ab0.length + 1 := by simp
    refine oth_above F okl ?_ (by simp) fun e' => ?_
    · unfold aboveOk
      rw [if_pos hm]
      refine ⟨by simpa using ha.1, fun i y hy => ?_⟩
      rw [List.getElem?_append] at hy
      split at hy
      · rename_i hi
        exact ha.2 i y (by rw [List.getElem?_append, if_pos hi]; exact hy)
      · rename_i hi
        have hl := (List.getElem?_eq_some_iff.mp hy).1
        have h0 : i - ab0.length = 0 := by simp at hl; omega
        rw [h0] at hy
        simp only [List.getElem?_cons_zero, Option.some.injEq] at hy
        rw [e] at hy
        have h1 := Int.emod_nonneg (x + 1) (show (ab0.length : Int) + 1 ≠ 0 by omega)
        have h2 := Int.emod_lt_of_pos (x + 1) (show (0 : Int) < ab0.length + 1 by omega)
        omega
    · have h := List.append_cancel_left e'
      simp only [List.cons.injEq, and_true] at h
      rw [e] at h
      by_cases hx2 : x + 1 = ab0.length + 1
      · rw [hx2, Int.emod_self] at h
        omega
      · rw [Int.emod_eq_of_lt (by omega) (by omega)] at h
        omega
  · simp at ha
def spOther (g : G) : Sp := fun vs H Q _ => ∃ v bx cl cells b1 b2 b3 m ab ss ps L D, vs = [v, .ref bx] ∧ isR g.K v (.br m ab ss ps) ∈ D ∧ (Pn.br m ab ss ps).ok ∧ (Pn.br m ab ss ps).words.length < 40 ∧ BxOk cells b1 b2 b3 b2 ∧ b2 < 2 ^ 59 ∧ Wd ((bx, bxO cl b1 b2 b3) :: (cl, clO cells) :: L) D H ∧
  ∀ v' t' cells b1 b2' b3 H', Oth (.br m ab ss ps) t' → Wd ((bx, bxO cl b1 b2' b3) :: (cl, clO cells) :: L) (isR g.K v' t' :: D) H' → Q v' H'
theorem w_other {g : G} {A : Around} {vs : List V} {H : Hp} {Q : VK} {E : XK} {k1 : Nat} (hr : Room k1 A) (f1 : GF g k1 "_law_pick" spPick) (h : spOther g vs H Q E) :
    t_law_other g A { nx := fun _ H' => Q .non H', rt := Q } (start ["rep", "box", "way", "manner", "ups", "fams", "parts"] vs) H := by
  obtain ⟨v, bx, cl, cells, b1, b2, b3, m, ab, ss, ps, L, D, rfl, hv, ⟨F, okl⟩, hw, ob, hb, W, k⟩ := h
  have fm := F.abd
  have ff := F.fam
  have fl := F.len
  have hmm := F.hm
  rw [e_law_other]
  show r_law_other g A _ [some v, some (.ref bx), none, none, none, none, none] H
  unfold r_law_other
  walk_at "rd"
  refine k_call f1 hr ⟨bx, cl, cells, b1, b2, b3, 4, b2, _, D, rfl, by decide, by decide, ob, by omega, W, ?_⟩
  clear W H ob
  intro r cells b1 b2' b3 H r0 r1 ob W
  walk_at "rd"
  obtain ⟨a, ua, fa, pa, pvs, svs, rfl, lp, ls, W1⟩ := W.opR hv
  replace W := W1
  clear W1
  refine k_unp_Tm W (show isT g.K a [.str m, .ref ua, .ref fa, .ref pa] ∈ _ by walk_at "mem") rfl ?_
  walk_at "rd"
  have fin : ∀ (L0 : Ow) (D' : List Fct) (H : Hp) (m' : Str) (ab' : List Int) (ss' : List (List Int)) (ps' : List Pn) (ua' fa' pa' tp : Addr) (pvs' svs' : List V),
      Wd ((tp, .tup [.str m', .ref ua', .ref fa', .ref pa']) :: L0) D' H → Spm L0 ((bx, bxO cl b1 b2' b3) :: (cl, clO cells) :: L) → isT g.K ua' (ab'.map V.int) ∈ D' → isT g.K fa' svs' ∈ D' → isSs svs' ss' ∈ D' → isI pa' (.lst pvs') ∈ D' → isRs g.K pvs' ps' ∈ D' → D ⊆ D' → Oth (.br m ab ss ps) (.br m' ab' ss' ps') → Q (.ref tp) H := by
    intro L0 D' H m' ab' ss' ps' ua' fa' pa' tp pvs' svs' W hsp h1 h2 h3 h4 h5 hD ho
    have W1 := W.frzI
    have W2 := W1.der (F := isR g.K (.ref tp) (.br m' ab' ss' ps')) isR_stab fun B b => .br (b (isI tp (.tup [.str m', .ref ua', .ref fa', .ref pa'])) List.mem_cons_self) (b _ (List.mem_cons_of_mem _ h1)) (b _ (List.mem_cons_of_mem _ h2)) (b _ (List.mem_cons_of_mem _ h3)) (b _ (List.mem_cons_of_mem _ h4)) (b _ (List.mem_cons_of_mem _ h5))
    exact k _ _ _ _ _ _ _ ho (W2.arr hsp (fsC List.mem_cons_self (fsT (fsT hD))))
  have swp : ∀ (n1 n2 : Str), (m = n1 ∨ m = n2) → n1 ≠ n2 → atI [V.str n1, V.str n2] (if decide (m = n1) then 1 else 0) = some (.str (if m = n1 then n2 else n1)) := by
    intro n1 n2 h hne
    by_cases e : m = n1
    · rw [if_pos e, decide_eq_true e]
      rfl
    · rw [if_neg e, decide_eq_false e]
      rfl
  -- the last two ways
  have tail : ∀ (H : Hp), Wd ((bx, bxO cl b1 b2' b3) :: (cl, clO cells) :: L) (isI a (.tup [.str m, .ref ua, .ref fa, .ref pa]) :: isT g.K a [.str m, .ref ua, .ref fa, .ref pa] :: isT g.K ua (ab.map V.int) :: isT g.K fa svs :: isSs svs ss :: isI pa (.lst pvs) :: isL g.K pa pvs :: isRs g.K pvs ps :: D) H →
      (rSeq (rIfS (rTest (rOp (kIn g.K) (rVar 3) (rTup (rCons (rC (.str "tree")) (rCons (rC (.str "turning")) rNil)))))
  (rRet (rTup (rCons (rVar 3) (rCons (rOp (kAdd g.K) (rVar 4) (rTup (rCons (rC (.int 0)) rNil))) (rCons (rVar 5) (rCons (rOp (kAdd g.K) (rVar 6) (rLst (rCons (rC (.str "o")) rNil))) rNil))))))
  rNext)
  (rRet (rTup (rCons (rVar 3) (rCons (rVar 4) (rCons (rVar 5) (rCons (rOp (kAdd g.K) (rLst (rCons (rC (.str "o")) rNil)) (rVar 6)) rNil))))))) { nx := fun _ H' => Q .non H', rt := Q } [some (.ref a), some (.ref bx), some (.int r), some (.str m), some (.ref ua), some (.ref fa), some (.ref pa)] H := by
    intro H W
    walk_at "rd"
    refine k_in_strs (ws := ["tree", "turning"]) (.inr (W.st List.mem_cons_self)) ?_
    replace W := W.dO
    walk_at "rd"
    rw [tr_in]
    cases hm : isTr m with
    | true =>
      refine k_ift ?_
      walk_at "rd"
      rename_i z
      have W1 := W.frz (F := isT g.K z [.int 0]) isT_stab fun B _ e => SqT.of e
      refine k_catT W1 (show isT g.K ua (ab.map V.int) ∈ _ by walk_at "mem") List.mem_cons_self (sl_of (by simp; omega)) ?_
      clear W1 W H
      intro ua' H W
      walk_at "rd"
      rename_i z2
      refine .inr (.inr (.inl ⟨pa, z2, pvs, [.str "o"], rfl, rfl, W.atI (by walk_at "mem"), W.at_ List.mem_cons_self, sl_of (by simp; omega), fun pa' hpa' => ?_⟩))
      have W1 := W.new hpa' (.lst (pvs ++ [.str "o"]))
      have W2 := W1.frzI
      have W3 := W2.der (F := isRs g.K (pvs ++ [.str "o"]) (ps ++ [.leaf])) isRs_stab fun B b => RepsAt.app (b (isRs g.K pvs ps) (by walk_at "mem")) (.cons .leaf .nil)
      clear W W1 W2
      have W := W3
      clear W3
      walk_at "rd"
      rename_i tp
      rw [show ab.map V.int ++ [V.int 0] = (ab ++ [0]).map V.int from by simp] at W
      exact fin _ _ _ _ _ _ _ _ _ _ _ _ svs W (by walk_at "spm") (by walk_at "mem") (show isT g.K fa svs ∈ _ by walk_at "mem") (by walk_at "mem") (by walk_at "mem") (by walk_at "mem") (by walk_at "sub") (oth_tree F okl hm hw)
    | false =>
      refine k_iff ?_
      walk_at "rd"
      rename_i z2
      refine .inr (.inr (.inl ⟨z2, pa, [.str "o"], pvs, rfl, rfl, W.at_ List.mem_cons_self, W.atI (by walk_at "mem"), sl_of (by simp; omega), fun pa' hpa' => ?_⟩))
      have W1 := W.new hpa' (.lst ([.str "o"] ++ pvs))
      have W2 := W1.frzI
      have W3 := W2.der (F := isRs g.K (.str "o" :: pvs) (.leaf :: ps)) isRs_stab fun B b => .cons .leaf (b (isRs g.K pvs ps) (by walk_at "mem"))
      clear W W1 W2
      have W := W3
      clear W3
      walk_at "rd"
      exact fin _ _ _ _ _ _ _ _ _ _ _ (.str "o" :: pvs) svs W (by walk_at "spm") (show isT g.K ua (ab.map V.int) ∈ _ by walk_at "mem") (show isT g.K fa svs ∈ _ by walk_at "mem") (by walk_at "mem") (by walk_at "mem") (by walk_at "mem") (by walk_at "sub") (oth_leaf F okl hm hw)
  have way3 : ∀ (H : Hp), Wd ((bx, bxO cl b1 b2' b3) :: (cl, clO cells) :: L) (isI a (.tup [.str m, .ref ua, .ref fa, .ref pa]) :: isT g.K a [.str m, .ref ua, .ref fa, .ref pa] :: isT g.K ua (ab.map V.int) :: isT g.K fa svs :: isSs svs ss :: isI pa (.lst pvs) :: isL g.K pa pvs :: isRs g.K pvs ps :: D) H →
     (rSeq (rIfS (rAnd (rTest (rOp (kEq g.K) (rVar 2) (rC (.int 3)))) (rTest (rOp kGt (rCB (kLen g.K) (rCons (rVar 5) rNil)) (rC (.int 1)))))
  (rRet (rTup (rCons (rVar 3) (rCons (rVar 4) (rCons (rOp (kAdd g.K) (rTup (rCons (rOp (kIx g.K) (rVar 5) (rC (.int 1))) (rCons (rOp (kIx g.K) (rVar 5) (rC (.int 0))) rNil))) (rSl (kSl g.K) (rVar 5) (rPart (rC (.int 2))) rNoPart)) (rCons (rVar 6) rNil))))))
  rNext)
      (rSeq (rIfS (rTest (rOp (kIn g.K) (rVar 3) (rTup (rCons (rC (.str "tree")) (rCons (rC (.str "turning")) rNil)))))
  (rRet (rTup (rCons (rVar 3) (rCons (rOp (kAdd g.K) (rVar 4) (rTup (rCons (rC (.int 0)) rNil))) (rCons (rVar 5) (rCons (rOp (kAdd g.K) (rVar 6) (rLst (rCons (rC (.str "o")) rNil))) rNil))))))
  rNext)
  (rRet (rTup (rCons (rVar 3) (rCons (rVar 4) (rCons (rVar 5) (rCons (rOp (kAdd g.K) (rLst (rCons (rC (.str "o")) rNil)) (rVar 6)) rNil)))))))) { nx := fun _ H' => Q .non H', rt := Q } [some (.ref a), some (.ref bx), some (.int r), some (.str m), some (.ref ua), some (.ref fa), some (.ref pa)] H := by
    intro H W
    walk_at "rd"
    refine k_ifd (fun h3 => ?_) (fun h3 => ?_)
    · walk_at "rd"
      rw [ls]
      refine k_ifd (fun h4 => ?_) (fun h4 => ?_)
      · match ss, svs, ls, F, k, fin, hw, hv, ff, W, tail with
        | s0 :: s1 :: sr, v0 :: v1 :: vr, ls, F, k, fin, hw, hv, ff, W, tail =>
          walk_at "rd"
          rename_i z
          have W1 := W.frz (F := isT g.K z [v1, v0]) isT_stab fun B _ e => SqT.of e
          replace W := W1
          clear W1
          refine k_slT W (show isT g.K fa (v0 :: v1 :: vr) ∈ _ by walk_at "mem") ?_
          rw [cut_2]
          clear W H
          intro z2 H W
          refine k_catT W (show isT g.K z [v1, v0] ∈ _ by walk_at "mem") (show isT g.K z2 vr ∈ _ by walk_at "mem") (sl_of (by simp at ls ff; simp; omega)) ?_
          clear W H
          intro fa' H W
          have W2 := W.der (F := isSs ([v1, v0] ++ vr) (s1 :: s0 :: sr)) isSs_stab fun B b => by
            have h := b (isSs (v0 :: v1 :: vr) (s0 :: s1 :: sr)) (by walk_at "mem")
            cases h with
            | cons h0 r => cases r with
              | cons h1 r => exact .cons h1 (.cons h0 r)
          replace W := W2
          clear W2
          walk_at "rd"
          exact fin _ _ _ _ _ _ _ _ _ _ _ pvs _ W (by walk_at "spm") (show isT g.K ua (ab.map V.int) ∈ _ by walk_at "mem") (show isT g.K fa' ([v1, v0] ++ vr) ∈ _ by walk_at "mem") (by walk_at "mem") (by walk_at "mem") (by walk_at "mem") (by walk_at "sub") (oth_sets F okl)
        | [], _, _, _, _, _, _, _, _, _, _ => simp at h4
        | [_], _, _, _, _, _, _, _, _, _, _ => simp at h4
      · walk_at "norm"
        exact tail _ W
    · walk_at "norm"
      exact tail _ W
  have way2 : ∀ (H : Hp), Wd ((bx, bxO cl b1 b2' b3) :: (cl, clO cells) :: L) (isI a (.tup [.str m, .ref ua, .ref fa, .ref pa]) :: isT g.K a [.str m, .ref ua, .ref fa, .ref pa] :: isT g.K ua (ab.map V.int) :: isT g.K fa svs :: isSs svs ss :: isI pa (.lst pvs) :: isL g.K pa pvs :: isRs g.K pvs ps :: D) H → (rSeq (rIfS (rAnd (rTest (rOp (kEq g.K) (rVar 2) (rC (.int 2)))) (rTest (rOp kGt (rCB (kLen g.K) (rCons (rVar 4) rNil)) (rC (.int 1)))))
  (rRet (rTup (rCons (rVar 3) (rCons (rOp (kAdd g.K) (rSl (kSl g.K) (rVar 4) rNoPart (rPart (rUn (rU fun i => .int (-i)) (rC (.int 1))))) (rTup (rCons (rOp kMod (rOp (kAdd g.K) (rOp (kIx g.K) (rVar 4) (rUn (rU fun i => .int (-i)) (rC (.int 1)))) (rC (.int 1))) (rCB (kLen g.K) (rCons (rVar 4) rNil))) rNil))) (rCons (rVar 5) (rCons (rVar 6) rNil))))))
  rNext)
  (rSeq (rIfS (rAnd (rTest (rOp (kEq g.K) (rVar 2) (rC (.int 3)))) (rTest (rOp kGt (rCB (kLen g.K) (rCons (rVar 5) rNil)) (rC (.int 1)))))
  (rRet (rTup (rCons (rVar 3) (rCons (rVar 4) (rCons (rOp (kAdd g.K) (rTup (rCons (rOp (kIx g.K) (rVar 5) (rC (.int 1))) (rCons (rOp (kIx g.K) (rVar 5) (rC (.int 0))) rNil))) (rSl (kSl g.K) (rVar 5) (rPart (rC (.int 2))) rNoPart)) (rCons (rVar 6) rNil))))))
  rNext)
  (rSeq (rIfS (rTest (rOp (kIn g.K) (rVar 3) (rTup (rCons (rC (.str "tree")) (rCons (rC (.str "turning")) rNil)))))
  (rRet (rTup (rCons (rVar 3) (rCons (rOp (kAdd g.K) (rVar 4) (rTup (rCons (rC (.int 0)) rNil))) (rCons (rVar 5) (rCons (rOp (kAdd g.K) (rVar 6) (rLst (rCons (rC (.str "o")) rNil))) rNil))))))
  rNext)
  (rRet (rTup (rCons (rVar 3) (rCons (rVar 4) (rCons (rVar 5) (rCons (rOp (kAdd g.K) (rLst (rCons (rC (.str "o")) rNil)) (rVar 6)) rNil))))))))) { nx := fun _ H' => Q .non H', rt := Q } [some (.ref a), some (.ref bx), some (.int r), some (.str m), some (.ref ua), some (.ref fa), some (.ref pa)] H := by
    intro H W
    walk_at "rd"
    refine k_ifd (fun h3 => ?_) (fun h3 => ?_)
    · walk_at "rd"
      rw [List.length_map]
      refine k_ifd (fun h4 => ?_) (fun h4 => ?_)
      · walk_at "rd"
        obtain ⟨ab0, x, eab⟩ : ∃ ab0 x, ab = ab0 ++ [x] := ⟨_, _, (List.dropLast_concat_getLast (by intro h; rw [h] at h4; simp at h4)).symm⟩
        have em : ab.map V.int = ab0.map V.int ++ [.int x] := by rw [eab]; simp
        have W0 := W.arr spR (fsC (show isT g.K ua (ab0.map V.int ++ [.int x]) ∈ _ by rw [← em]; exact List.mem_cons_of_mem _ (List.mem_cons_of_mem _ List.mem_cons_self)) fsR)
        replace W := W0
        clear W0
        refine ⟨1, rfl, ⟨-1, rfl, ?_⟩⟩
        refine k_slT W List.mem_cons_self ?_
        rw [cut_m1]
        clear W H
        intro z H W
        walk_at "rd"
        refine ⟨1, rfl, ?_⟩
        refine k_ix_Tm W (show isT g.K ua (ab0.map V.int ++ [.int x]) ∈ _ by walk_at "mem") at_m1 ?_
        walk_at "rd"
        have hl1 : (ab0.map V.int ++ [V.int x]).length = ab.length := by rw [eab]; simp
        rw [hl1]
        refine k_mod (by omega) ?_
        walk_at "rd"
        rename_i z1
        have W1 := W.frz (F := isT g.K z1 [.int ((x + 1) % (ab.length : Int))]) isT_stab fun B _ e => SqT.of e
        refine k_catT W1 (show isT g.K z (ab0.map V.int) ∈ _ by walk_at "mem") List.mem_cons_self (sl_of (by simp; rw [eab] at fm; simp at fm; omega)) ?_
        clear W1 W H
        intro ua' H W
        walk_at "rd"
        rename_i tp
        rw [show ab0.map V.int ++ [V.int ((x + 1) % (ab.length : Int))] = (ab0 ++ [(x + 1) % (ab.length : Int)]).map V.int from by simp] at W
        refine fin _ _ _ _ _ _ _ _ _ _ _ pvs svs W (by walk_at "spm") (show isT g.K ua' _ ∈ _ by walk_at "mem") (show isT g.K fa svs ∈ _ by walk_at "mem") (by walk_at "mem") (by walk_at "mem") (by walk_at "mem") (by walk_at "sub") ?_
        rw [eab]
        exact oth_last (eab ▸ F) okl (by rw [eab] at h4; simpa using h4)
      · walk_at "norm"
        exact way3 _ W
    · walk_at "norm"
      exact way3 _ W
  have way1 : ∀ (H : Hp), Wd ((bx, bxO cl b1 b2' b3) :: (cl, clO cells) :: L) (isI a (.tup [.str m, .ref ua, .ref fa, .ref pa]) :: isT g.K a [.str m, .ref ua, .ref fa, .ref pa] :: isT g.K ua (ab.map V.int) :: isT g.K fa svs :: isSs svs ss :: isI pa (.lst pvs) :: isL g.K pa pvs :: isRs g.K pvs ps :: D) H → (rSeq (rIfS (rAnd (rTest (rOp (kEq g.K) (rVar 2) (rC (.int 1)))) (rTest (rOp (kIn g.K) (rVar 3) (rTup (rCons (rC (.str "tree")) (rCons (rC (.str "turning")) rNil))))))
  (rRet (rTup (rCons (rOp (kIx g.K) (rLst (rCons (rC (.str "turning")) (rCons (rC (.str "tree")) rNil))) (rCB (kInt) (rCons (rOp (kEq g.K) (rVar 3) (rC (.str "turning"))) rNil))) (rCons (rVar 4) (rCons (rVar 5) (rCons (rVar 6) rNil))))))
  rNext)
  (rSeq (rIfS (rAnd (rTest (rOp (kEq g.K) (rVar 2) (rC (.int 2)))) (rTest (rOp kGt (rCB (kLen g.K) (rCons (rVar 4) rNil)) (rC (.int 1)))))
  (rRet (rTup (rCons (rVar 3) (rCons (rOp (kAdd g.K) (rSl (kSl g.K) (rVar 4) rNoPart (rPart (rUn (rU fun i => .int (-i)) (rC (.int 1))))) (rTup (rCons (rOp kMod (rOp (kAdd g.K) (rOp (kIx g.K) (rVar 4) (rUn (rU fun i => .int (-i)) (rC (.int 1)))) (rC (.int 1))) (rCB (kLen g.K) (rCons (rVar 4) rNil))) rNil))) (rCons (rVar 5) (rCons (rVar 6) rNil))))))
  rNext)
  (rSeq (rIfS (rAnd (rTest (rOp (kEq g.K) (rVar 2) (rC (.int 3)))) (rTest (rOp kGt (rCB (kLen g.K) (rCons (rVar 5) rNil)) (rC (.int 1)))))
  (rRet (rTup (rCons (rVar 3) (rCons (rVar 4) (rCons (rOp (kAdd g.K) (rTup (rCons (rOp (kIx g.K) (rVar 5) (rC (.int 1))) (rCons (rOp (kIx g.K) (rVar 5) (rC (.int 0))) rNil))) (rSl (kSl g.K) (rVar 5) (rPart (rC (.int 2))) rNoPart)) (rCons (rVar 6) rNil))))))
  rNext)
  (rSeq (rIfS (rTest (rOp (kIn g.K) (rVar 3) (rTup (rCons (rC (.str "tree")) (rCons (rC (.str "turning")) rNil)))))
  (rRet (rTup (rCons (rVar 3) (rCons (rOp (kAdd g.K) (rVar 4) (rTup (rCons (rC (.int 0)) rNil))) (rCons (rVar 5) (rCons (rOp (kAdd g.K) (rVar 6) (rLst (rCons (rC (.str "o")) rNil))) rNil))))))
  rNext)
  (rRet (rTup (rCons (rVar 3) (rCons (rVar 4) (rCons (rVar 5) (rCons (rOp (kAdd g.K) (rLst (rCons (rC (.str "o")) rNil)) (rVar 6)) rNil)))))))))) { nx := fun _ H' => Q .non H', rt := Q } [some (.ref a), some (.ref bx), some (.int r), some (.str m), some (.ref ua), some (.ref fa), some (.ref pa)] H := by
    intro H W
    walk_at "rd"
    refine k_ifd (fun h3 => ?_) (fun h3 => ?_)
    · walk_at "rd"
      refine k_in_strs (ws := ["tree", "turning"]) (.inr (W.st List.mem_cons_self)) ?_
      replace W := W.dO
      walk_at "rd"
      refine k_ifd (fun h4 => ?_) (fun h4 => ?_)
      · rcases (by simpa using h4 : m = "tree" ∨ m = "turning") with e | e
        · subst e
          walk_at "rd"
          refine k_numB ?_
          rw [if_neg (by decide +kernel)]
          walk_at "rd"
          exact fin _ _ _ _ _ _ _ _ _ _ _ pvs svs W (by walk_at "spm") (show isT g.K ua (ab.map V.int) ∈ _ by walk_at "mem") (show isT g.K fa svs ∈ _ by walk_at "mem") (by walk_at "mem") (by walk_at "mem") (by walk_at "mem") (by walk_at "sub") (oth_manner F okl (by decide +kernel) (by decide +kernel) (by decide +kernel) (by decide +kernel))
        · subst e
          walk_at "rd"
          refine k_numB ?_
          rw [if_pos (by decide +kernel)]
          walk_at "rd"
          exact fin _ _ _ _ _ _ _ _ _ _ _ pvs svs W (by walk_at "spm") (show isT g.K ua (ab.map V.int) ∈ _ by walk_at "mem") (show isT g.K fa svs ∈ _ by walk_at "mem") (by walk_at "mem") (by walk_at "mem") (by walk_at "mem") (by walk_at "sub") (oth_manner F okl (by decide +kernel) (by decide +kernel) (by decide +kernel) (by decide +kernel))
      · walk_at "norm"
        exact way2 _ W
    · walk_at "norm"
      exact way2 _ W
  refine k_ifd (fun h0 => ?_) (fun h0 => ?_)
  · walk_at "rd"
    refine k_in_strs (ws := ["stamps", "calls"]) (.inr (W.st List.mem_cons_self)) ?_
    replace W := W.dO
    walk_at "rd"
    refine k_ifd (fun h1 => ?_) (fun h1 => ?_)
    · rcases (by simpa using h1 : m = "stamps" ∨ m = "calls") with e | e
      · subst e
        walk_at "rd"
        refine k_numB ?_
        rw [if_neg (by decide +kernel)]
        walk_at "rd"
        exact fin _ _ _ _ _ _ _ _ _ _ _ pvs svs W (by walk_at "spm") (show isT g.K ua (ab.map V.int) ∈ _ by walk_at "mem") (show isT g.K fa svs ∈ _ by walk_at "mem") (by walk_at "mem") (by walk_at "mem") (by walk_at "mem") (by walk_at "sub") (oth_manner F okl (by decide +kernel) (by decide +kernel) (by decide +kernel) (by decide +kernel))
      · subst e
        walk_at "rd"
        refine k_numB ?_
        rw [if_pos (by decide +kernel)]
        walk_at "rd"
        exact fin _ _ _ _ _ _ _ _ _ _ _ pvs svs W (by walk_at "spm") (show isT g.K ua (ab.map V.int) ∈ _ by walk_at "mem") (show isT g.K fa svs ∈ _ by walk_at "mem") (by walk_at "mem") (by walk_at "mem") (by walk_at "mem") (by walk_at "sub") (oth_manner F okl (by decide +kernel) (by decide +kernel) (by decide +kernel) (by decide +kernel))
    · walk_at "norm"
      exact way1 _ W
  · walk_at "norm"
    exact way1 _ W
theorem k_eqP {g : G} {A : Around} {E : XK} {CL CB : Addr} {L : Ow} {D : List Fct} {H : Hp} {Q : VK} {v w : V} {t : Pn} {k1 : Nat} (C : Cls2 g CL CB) (W : Wd L D H) (h : isP g.K CL CB v t ∈ D) (ok : t.ok) (hd : t.deep ≤ 6) (F : PM g k1 CL CB "__eq__" (spEqP g CL CB 6)) (hr : Room (k1 + 4) A) (o : Option Pn)
    (ho : match o with | some u => isP g.K CL CB w u ∈ D ∧ u.ok ∧ u.deep ≤ 6 | none => ∃ z, w = .str z) (k : ∀ H', Wd L D H' → Q (.bl (eqP t o)) H') : kEqO g A E v w H Q := by
  have hty : ∃ ty, TyX g.K H w ty ∧ (ty = .ref CL ∨ ty = .ref CB ∨ ty = .type "str") := by
    cases o with
    | none =>
      obtain ⟨z, rfl⟩ := ho
      exact ⟨_, .base (.str z), .inr (.inr rfl)⟩
    | some u =>
      refine ⟨_, tyP C W ho.1, ?_⟩
      cases u with
      | leaf => exact .inl rfl
      | br _ _ _ _ => exact .inr (.inl rfl)
  obtain ⟨ty, hty, hk⟩ := hty
  have go : kOwn g A "__eq__" E v [w] H (kBl Q) := k_ownP W h F hr ⟨v, w, o, L, D, rfl, h, ok, hd, ho, W, fun H' W' => ⟨_, rfl, k H' W'⟩⟩
  cases t with
  | leaf =>
    obtain ⟨a, dx, rfl, W1⟩ := W.opLf h
    exact .inr ⟨a, CL, dx, _, ty, rfl, W1.atI List.mem_cons_self, hty, C.fl _ hk, go⟩
  | br n ab ss ps =>
    obtain ⟨a, dx, pa, au, sa, pvs, svs, rfl, _, _, W1⟩ := W.opBr h
    exact .inr ⟨a, CB, dx, _, ty, rfl, W1.atI List.mem_cons_self, hty, C.fb _ hk, go⟩
theorem eqP_self : ∀ t : Pn, eqP t (some t) = true
  | .leaf => rfl
  | .br _ _ _ _ => decide_eq_true rfl
theorem eqP_oth {t t' : Pn} (h : t.isBr = true) (h' : t'.isBr = true) (ne : t'.words ≠ t.words) : eqP t (some t') = false := by
  cases t with
  | leaf => cases h
  | br _ _ _ _ =>
    cases t' with
    | leaf => cases h'
    | br _ _ _ _ => exact decide_eq_false fun e => ne e.symm
theorem eqP_lb {t : Pn} (h : t.isBr = true) : eqP .leaf (some t) = false ∧ eqP t (some .leaf) = false := by
  cases t with
  | leaf => cases h
  | br _ _ _ _ => exact ⟨rfl, rfl⟩
def spLaw81 (g : G) : Sp := fun vs H Q _ => ∃ s, ∃ cs : List Int, ∃ L D, vs = [.ref s] ∧ isL g.K s (cs.map V.int) ∈ D ∧ (∀ c ∈ cs, c.natAbs < 2 ^ 1048576) ∧ cs.length ≤ 1000 ∧ Wd L D H ∧ ∀ H', Q (.bl true) H'
structure Top81 (g : G) (A : Around) (CL CB : Addr) (k : Nat) : Prop where
  hr : Room (k + 4) A
  C : Cls2 g CL CB
  M : PMs2 g k CL CB 6
  plain : Mk0 g.K CL
  box : GF g k "_law_box" (spBoxF g)
  pick : GF g k "_law_pick" spPick
  rep : GF g k "_law_rep" (spRep g 6)
  made : GF g k "_law_made" (spMade g CL CB 6)
  whole : GF g k "_law_whole" (spWhole g CL CB 6)
  words : GF g k "_law_words" (spLWords g 6)
  other : GF g k "_law_other" (spOther g)
theorem w_law81 {g : G} {A : Around} {CL CB : Addr} {k0 : Nat} (T : Top81 g A CL CB k0) {vs : List V} {H : Hp} {Q : VK} {E : XK} (h : spLaw81 g vs H Q E) :
    t_law_k81 g A { nx := fun _ H' => Q .non H', rt := Q } (start ["script", "box", "size", "rep", "plan", "other", "leaf"] vs) H := by
  obtain ⟨s, cs, L, D, rfl, hs, hc, hl, W, k⟩ := h
  have hr : Room k0 A := T.hr.mono (by omega)
  have C := T.C
  rw [e_law_k81]
  show r_law_k81 g A _ [some (.ref s), none, none, none, none, none, none] H
  unfold r_law_k81
  walk_at "rd"
  refine k_call T.box hr ⟨s, cs, L, D, rfl, hs, W, ?_⟩
  clear W H
  intro bx cl H W
  walk_at "rd"
  refine k_call T.pick hr ⟨bx, cl, cs, 0, 0, 5, 12, 0, L, D, rfl, by decide, by decide, ⟨hc, by decide, by decide, by decide, by decide, by decide⟩, by decide, W, ?_⟩
  clear W H
  intro r cells b1 b2 b3 H r0 r1 ob W
  walk_at "rd"
  refine k_cut (fun σ H => ∃ n : Nat, ∃ cells b1 b2 b3, σ = [some (.ref s), some (.ref bx), some (.int n), none, none, none, none] ∧ 1 ≤ n ∧ n ≤ 60 ∧ BxOk cells b1 b2 b3 b2 ∧ b2 ≤ 100 ∧ Wd ((bx, bxO cl b1 b2 b3) :: (cl, clO cells) :: L) D H) ?_ ?_
  · walk_at "rd"
    refine k_call T.pick hr ⟨bx, cl, cells, b1, b2, b3, 4, _, L, D, rfl, by decide, by decide, ob, by decide, W, ?_⟩
    clear W H ob
    intro r4 cells b1 b2 b3 H _ _ ob W
    have ob1 := ob.p2
    have ob2 := ob.l2
    walk_at "rd"
    refine .inl (k_eq_ii ?_)
    walk_at "rd"
    refine k_ifd (fun h => ?_) (fun h => ?_)
    · walk_at "rd"
      exact ⟨60, cells, b1, b2, b3, rfl, by decide, by decide, ob.tight, by omega, W⟩
    · walk_at "rd"
      exact ⟨(1 + r).toNat, cells, b1, b2, b3, by rw [show (((1 + r).toNat : Nat) : Int) = 1 + r from by omega], by omega, by omega, ob.tight, by omega, W⟩
  clear W H ob
  rintro σ H ⟨n, cells, b1, b2, b3, rfl, n1, n2, ob, hb2, W⟩
  walk_at "rd"
  rename_i lf
  refine k_call T.pick hr ⟨bx, cl, cells, b1, b2, b3, 6, b2, (lf, .lst [.int n]) :: L, D, rfl, by decide, by decide, ob, by omega, W.ord (by walk_at "spm"), ?_⟩
  clear W H ob
  intro r6 cells b1 b2' b3 H r60 r61 ob W
  have ob2 := ob.l2
  walk_at "rd"
  refine k_call T.rep hr ⟨bx, cl, cells, b1, b2', b3, lf, n, (1 + r6).toNat, L, D, by rw [show (((1 + r6).toNat : Nat) : Int) = 1 + r6 from by omega], by omega, by omega, by decide, n1, n2, ob.tight, by omega, W.ord (by walk_at "spm"), ?_⟩
  clear W H ob
  intro v t n' cells b1 b2'' b3 H hbr ok hd hn ob hb2'' W
  have hd6 : t.deep ≤ 6 := by omega
  walk_at "rd"
  refine k_call T.pick hr ⟨bx, cl, cells, b1, b2'', b3, 2, b2'', (lf, .lst [.int n']) :: L, _, rfl, by decide, by decide, ob, by omega, W.ord (by walk_at "spm"), ?_⟩
  clear W H ob
  intro r2 cells b1 b3' b3 H _ _ ob W
  have ob3 := ob.l2
  walk_at "rd"
  refine .inl (k_eq_ii ?_)
  walk_at "rd"
  refine k_call T.made hr ⟨v, _, t, _, _, rfl, List.mem_cons_self, ok, hd6, by decide, W, ?_⟩
  clear W H
  intro p H W
  walk_at "rd"
  refine k_call T.whole hr ⟨p, v, t, _, _, rfl, List.mem_cons_self, by walk_at "mem", ok, hd6, by decide, W, ?_⟩
  clear W H
  intro H W
  walk_at "rd"
  refine k_call T.made hr ⟨v, _, t, _, _, rfl, List.mem_cons_of_mem _ List.mem_cons_self, ok, hd6, by decide, W, ?_⟩
  clear W H
  intro p2 H W
  walk_at "rd"
  refine k_eqP C W (List.mem_cons_of_mem _ List.mem_cons_self) ok hd6 T.M.eq T.hr (some t) ⟨List.mem_cons_self, ok, hd6⟩ ?_
  clear W H
  intro H W
  rw [eqP_self]
  walk_at "rd"
  have W0 := W.dF
  replace W := W0
  clear W0
  refine k_cut (fun σ H => ∃ x, σ = [some (.ref s), some (.ref bx), some (.int n), some v, some p, x, none] ∧ Wd L (isP g.K CL CB p t :: isR g.K v t :: D) H) ?_ ?_
  · walk_at "rd"
    refine k_call T.words hr ⟨v, t, _, _, rfl, by walk_at "mem", ok, hd6, by decide, W, ?_⟩
    clear W H
    intro q H W
    walk_at "rd"
    rw [List.length_map]
    refine k_ifd (fun h40 => ?_) (fun h40 => ?_)
    · walk_at "rd"
      obtain ⟨m, ab, ss, ps, rfl⟩ : ∃ m ab ss ps, t = .br m ab ss ps := by
        cases t with
        | leaf => cases hbr
        | br m ab ss ps => exact ⟨m, ab, ss, ps, rfl⟩
      refine k_call T.other hr ⟨v, bx, cl, cells, b1, b3', b3, m, ab, ss, ps, (q, _) :: (lf, .lst [.int n']) :: L, _, rfl, by walk_at "mem", ok, by omega, ob.tight, by omega, W.ord (by walk_at "spm"), ?_⟩
      clear W H ob
      intro v' t' cells b1 b4 b3 H ho W
      obtain ⟨ok', hdd, hbr', ne⟩ := ho
      walk_at "rd"
      refine k_call T.made hr ⟨v', _, t', _, _, rfl, List.mem_cons_self, ok', by omega, by decide, W, ?_⟩
      clear W H
      intro p' H W
      walk_at "rd"
      refine k_eqP C W (show isP g.K CL CB p (.br m ab ss ps) ∈ _ by walk_at "mem") ok hd6 T.M.eq T.hr (some t') ⟨List.mem_cons_self, ok', by omega⟩ ?_
      clear W H
      intro H W
      rw [eqP_oth rfl hbr' ne]
      walk_at "rd"
      refine k_eqP C W List.mem_cons_self ok' (by omega) T.M.eq T.hr (some (.br m ab ss ps)) ⟨by walk_at "mem", ok, hd6⟩ ?_
      clear W H
      intro H W
      rw [eqP_oth hbr' rfl (fun e => ne e.symm)]
      walk_at "rd"
      exact ⟨_, rfl, (W.ord (by walk_at "spm9")).arr spR (by walk_at "sub")⟩
    · walk_at "rd"
      exact ⟨_, rfl, W.ord (by walk_at "spm9")⟩
  clear W H
  rintro σ H ⟨x5, rfl, W⟩
  walk_at "rd"
  refine k_leaf C T.plain W ?_
  clear W H
  intro lp H W
  walk_at "rd"
  have e1 := eqP_lb hbr
  refine k_eqP C W List.mem_cons_self trivial (by simp [Pn.deep]) T.M.eq T.hr (some t) ⟨List.mem_cons_of_mem _ List.mem_cons_self, ok, hd6⟩ ?_
  clear W H
  intro H W
  rw [e1.1]
  walk_at "rd"
  refine k_eqP C W (List.mem_cons_of_mem _ List.mem_cons_self) ok hd6 T.M.eq T.hr (some .leaf) ⟨List.mem_cons_self, trivial, by simp [Pn.deep]⟩ ?_
  clear W H
  intro H W
  rw [e1.2]
  walk_at "rd"
  refine k_leaf C T.plain W ?_
  clear W H
  intro lp2 H W
  refine k_eqP C W (List.mem_cons_of_mem _ List.mem_cons_self) trivial (by simp [Pn.deep]) T.M.eq T.hr (some .leaf) ⟨List.mem_cons_self, trivial, by simp [Pn.deep]⟩ ?_
  clear W H
  intro H W
  rw [eqP_self]
  walk_at "rd"
  have W0 := W.dF
  replace W := W0
  clear W0
  have hp := List.mem_cons_of_mem (isP g.K CL CB (.ref lp) .leaf) (List.mem_cons_self (a := isP g.K CL CB p t) (l := isR g.K v t :: D))
  refine .inr ⟨p, rfl, k_ownP W hp T.M.str T.hr ⟨p, _, _, rfl, hp, ok, hd6, W, ?_⟩⟩
  clear W H
  intro H W
  refine ⟨_, rfl, ?_⟩
  walk_at "rd"
  refine k_eqP C W hp ok hd6 T.M.eq T.hr none ⟨_, rfl⟩ ?_
  clear W H
  intro H W
  have en : eqP t none = false := by cases t <;> rfl
  rw [en]
  walk_at "rd"
  refine k_eqP C W List.mem_cons_self trivial (by simp [Pn.deep]) T.M.eq T.hr none ⟨_, rfl⟩ ?_
  clear W H
  intro H W
  rw [show eqP .leaf none = false from rfl]
  walk_at "rd"
  have W1 := W.der (F := isR g.K (.str "o") .leaf) isR_stab fun _ _ => .leaf
  refine k_call T.whole hr ⟨.ref lp, .str "o", .leaf, _, _, rfl, List.mem_cons_of_mem _ List.mem_cons_self, List.mem_cons_self, trivial, by simp [Pn.deep], by decide, W1, ?_⟩
  clear W W1 H
  intro H W
  walk_at "rd"
  refine k_call T.whole hr ⟨p, v, t, _, _, rfl, List.mem_cons_of_mem _ hp, by walk_at "mem", ok, hd6, by decide, W, ?_⟩
  intro H W
  exact k H
theorem IF.weak {g : G} {k : Nat} {C : Addr} {sp sp' : Sp} (h : IF g k C sp) (im : ∀ vs H Q E, sp' vs H Q E → sp vs H Q E) : IF g k C sp' :=
  let ⟨f, M, fd, ps, ds, dvs, sp0, a, b, c, d, e⟩ := h
  ⟨f, M, fd, ps, ds, dvs, sp0, a, b, c, d, fun vs H Q E h => e vs H Q E (im vs H Q E h)⟩
theorem IK.weak {g : G} {k : Nat} {C : Addr} {n : Nat} {ks : List Str} {sp sp' : Sp} (h : IK g k C n ks sp) (im : ∀ vs H Q E, sp' vs H Q E → sp vs H Q E) : IK g k C n ks sp' :=
  let ⟨f, fd, ps, sp0, gs, gV, M, kp, a, b, c⟩ := h
  ⟨f, fd, ps, sp0, gs, gV, M, kp, a, b, fun vs zs H Q E l1 l2 h => c vs zs H Q E l1 l2 (im _ H Q E h)⟩
theorem mks_of {g : G} {CL CB f e1 e2 : Addr} {k : Nat} {qual : Str} {st : Stmt} {N : List Str} {t : G → Around → TS} (P : PtB g qual st f N ["self", "manner", "parts", "above", "sets"] "above" "sets" e1 e2 t) (M : Mk g.K CB f) (m0 : Mk0 g.K CL) (E1 : Emp g e1) (E2 : Emp g e2)
    (w : ∀ (A : Around) (vs : List V) (H : Hp) (Q : VK) (E : XK), Room k A → spBrInit g CL CB vs H Q E → t g A { nx := fun _ H' => Q .non H', rt := Q } (start N vs) H) : Mks g (k + 1) CL CB := by
  obtain ⟨h1, h2, h3, h4, _⟩ := P.fk (k := k) (sp := spBrInit g CL CB) M (fun vs H Q E h => by
    obtain ⟨_, _, _, _, _, _, _, _, _, _, _, _, _, _, _, _, rfl, _⟩ := h
    rfl) w
  refine ⟨m0, h2.weak ?_, h3.weak ?_, h4.weak ?_, h1.weak ?_⟩
  · rintro vs H Q E ⟨p, m, pa, sa, au, rfl, h⟩ a b c d e e'
    cases e'
    exact h
  · rintro vs H Q E ⟨p, m, pa, sa, rfl, h⟩ a b c e e'
    cases e'
    exact h e1 E1
  · rintro vs H Q E ⟨p, m, pa, au, rfl, h⟩ a b c d e'
    cases e'
    exact h e2 E2
  · rintro vs H Q E ⟨p, m, pa, rfl, h⟩
    exact h e1 e2 E1 E2
open TL (tl wstep wfin)
def Blank (p : List Nat) : Prop := ∀ c ∈ p, Unicode.isSpace c = true
def Solid (p : List Nat) : Prop := p ≠ [] ∧ ∀ c ∈ p, Unicode.isSpace c = false
theorem blank_fold : ∀ (p : List Nat) (ws : List (List Nat)) (u : List Nat), Blank p → wfin (p.foldl wstep (ws, u)) = wfin (ws, u) ∧ ((p ≠ [] ∨ u = []) → (p.foldl wstep (ws, u)).2 = [])
  | [], _, _, _ => ⟨rfl, fun h => h.elim (fun h => absurd rfl h) id⟩
  | c :: r, ws, u, h => by
    have hc := h c List.mem_cons_self
    have hr : Blank r := fun d hd => h d (List.mem_cons_of_mem _ hd)
    rw [List.foldl_cons]
    by_cases hu : u = []
    · have e : wstep (ws, u) c = (ws, u) := (if_pos hc).trans (if_pos hu)
      rw [e]
      have := blank_fold r ws u hr
      exact ⟨this.1, fun _ => this.2 (.inr hu)⟩
    · have e : wstep (ws, u) c = (ws ++ [u], []) := (if_pos hc).trans (if_neg hu)
      rw [e]
      have := blank_fold r (ws ++ [u]) [] hr
      refine ⟨this.1.trans ?_, fun _ => this.2 (.inr rfl)⟩
      show (if ([] : List Nat) = [] then ws ++ [u] else _) = (if u = [] then ws else ws ++ [u])
      rw [if_pos rfl, if_neg hu]
theorem word_fold {p : List Nat} {st : List (List Nat) × List Nat} (h : Solid p) (h2 : st.2 = []) : wfin (p.foldl wstep st) = wfin st ++ [p] := by
  obtain ⟨ws, u⟩ := st
  simp only at h2
  subst h2
  rw [TL.wfold_word p ws [] h.2, List.nil_append]
  show (if p = [] then ws else ws ++ [p]) = (if ([] : List Nat) = [] then ws else _) ++ [p]
  rw [if_neg h.1, if_pos rfl]
def txS (t : Str) : List (List Nat) × List Nat := (tl t).foldl wstep ([], [])
structure WsOf (t : Str) (ws : List Str) : Prop where
  ws : wfin (txS t) = ws.map tl
theorem WsOf.words {t : Str} {ws : List Str} (h : WsOf t ws) : Txt.words t = ws := TL.map_tl_inj ((TL.words_tl t).trans h.ws)
theorem WsOf.nil : WsOf Str.empty [] ∧ (txS Str.empty).2 = [] := ⟨⟨rfl⟩, rfl⟩
theorem WsOf.gap {t b : Str} {ws : List Str} (h : WsOf t ws) (hb : Blank (tl b)) : WsOf (t ++ b) ws ∧ ((b.length ≠ 0 ∨ (txS t).2 = []) → (txS (t ++ b)).2 = []) := by
  have e : txS (t ++ b) = (tl b).foldl wstep (txS t) := by
    unfold txS
    rw [TL.tl_append, List.foldl_append]
  obtain ⟨h1, h2⟩ := blank_fold (tl b) (txS t).1 (txS t).2 hb
  refine ⟨⟨by rw [e]; exact h1.trans h.ws⟩, fun hn => ?_⟩
  rw [e]
  refine h2 (hn.imp (fun hn e => hn ((TL.len0_tl b).mpr e)) id)
theorem WsOf.word {t w : Str} {ws : List Str} (h : WsOf t ws) (hs : Solid (tl w)) (h0 : (txS t).2 = []) : WsOf (t ++ w) (ws ++ [w]) := by
  have e : txS (t ++ w) = (tl w).foldl wstep (txS t) := by
    unfold txS
    rw [TL.tl_append, List.foldl_append]
  refine ⟨?_⟩
  rw [e, word_fold hs h0, h.ws, List.map_append]
  rfl
theorem words_of_join {ws : List Str} (hne : ws ≠ []) (h : ∀ w ∈ ws, Solid (tl w)) : Txt.words (Txt.join " " ws) = ws := by
  refine TL.map_tl_inj ((TL.words_tl _).trans ?_)
  have e : tl (Txt.join " " ws) = TL.joinL [32] (ws.map tl) := (congrArg tl (TL.join_eq " " ws)).trans (TL.tl_join " " ws)
  rw [e, TL.wfold_join (ws.map tl) [] (by simpa using hne) (fun p hp => by
    obtain ⟨w, hw, rfl⟩ := List.mem_map.mp hp
    exact h w hw)]
  rfl
def solidB (w : Str) : Bool := !(tl w).isEmpty && (tl w).all fun c => !Unicode.isSpace c
theorem solid_of {w : Str} (h : solidB w = true) : Solid (tl w) := by
  unfold solidB at h
  rw [Bool.and_eq_true, List.all_eq_true] at h
  refine ⟨fun e => ?_, fun c hc => ?_⟩
  · rw [e] at h
    exact absurd h.1 (by decide)
  · have := h.2 c hc
    simpa using this
def signs : List Str := ["o", "[", "]", ":", "|"]
def digitB (c : Nat) : Bool := decide (c ∈ ("0123456789" : Str).cps.toList)
def isNumB (w : Str) : Bool := decide (w.length ≤ 4) && (w.cps.toList.all digitB && (decide (w = "0") || decide ((⟨#[w.cps.toList.headD 0]⟩ : Str) ≠ "0")))
def goodW (w : Str) : Bool := decide (w ∈ signs) || (decide (w ∈ manners) || isNumB w)
structure NumW (x : Int) : Prop where
  solid : solidB (toS x) = true
  num : isNumB (toS x) = true
  val : PySem.intText? (toS x) = some x
  ne1 : toS x ≠ ":"
  ne2 : toS x ≠ "|"
  ne3 : toS x ≠ "]"
  ne4 : toS x ≠ "["
  len : (toS x).length ≤ 2
  ne0 : (toS x).length ≠ 0
theorem numW {x : Int} (h0 : 0 ≤ x) (h1 : x < 60) : NumW x := by
  have key : ∀ k : Fin 60, solidB (toS (k.val : Int)) = true ∧ isNumB (toS (k.val : Int)) = true ∧ PySem.intText? (toS (k.val : Int)) = some (k.val : Int) ∧ toS (k.val : Int) ≠ ":" ∧ toS (k.val : Int) ≠ "|" ∧ toS (k.val : Int) ≠ "]" ∧ toS (k.val : Int) ≠ "[" ∧ (toS (k.val : Int)).length ≤ 2 ∧ (toS (k.val : Int)).length ≠ 0 := by decide +kernel
  have := key ⟨x.toNat, by omega⟩
  rw [show ((x.toNat : Nat) : Int) = x from by omega] at this
  obtain ⟨a, b, c, d, e, f, g, h, i⟩ := this
  exact ⟨a, b, c, d, e, f, g, h, i⟩
theorem words_good {t : Pn} (h : t.ok) : ∀ w ∈ t.words, solidB w = true ∧ goodW w = true := by
  refine words_all ?_ ?_ ?_ ?_ ?_ (fun m hm => ?_) (fun i h0 h1 => ?_) t h
  · decide +kernel
  · decide +kernel
  · decide +kernel
  · decide +kernel
  · decide +kernel
  · have key : ∀ m ∈ manners, solidB m = true ∧ goodW m = true := by decide +kernel
    exact key m hm
  · have n := numW h0 h1
    refine ⟨n.solid, ?_⟩
    unfold goodW
    rw [n.num, Bool.or_true, Bool.or_true]
def itW : Option Int → Str
  | none => "|"
  | some x => toS x
def itemsS : List (List Int) → List (Option Int)
  | [] => []
  | s :: r => s.map some ++ r.flatMap fun s => none :: s.map some
def rowsG : List (List Int) × List Int → List (Option Int) → List (List Int) × List Int
  | st, [] => st
  | (R, r), none :: l => rowsG (R ++ [r], []) l
  | (R, r), some x :: l => rowsG (R, r ++ [x]) l
theorem rowsG_app : ∀ (a b : List (Option Int)) (st : List (List Int) × List Int), rowsG st (a ++ b) = rowsG (rowsG st a) b
  | [], _, (_, _) => rfl
  | none :: a, b, (R, r) => rowsG_app a b _
  | some x :: a, b, (R, r) => rowsG_app a b _
theorem rowsG_some : ∀ (s : List Int) (R : List (List Int)) (r : List Int), rowsG (R, r) (s.map some) = (R, r ++ s)
  | [], _, _ => by rw [List.append_nil]; rfl
  | x :: s, R, r => by
    show rowsG (R, r ++ [x]) (s.map some) = _
    rw [rowsG_some s, List.append_assoc]
    rfl
theorem rowsG_tail : ∀ (rest : List (List Int)) (R : List (List Int)) (r : List Int), (rowsG (R, r) (rest.flatMap fun s => none :: s.map some)).1 ++ [(rowsG (R, r) (rest.flatMap fun s => none :: s.map some)).2] = R ++ [r] ++ rest
  | [], R, r => by simp [rowsG]
  | s :: rest, R, r => by
    rw [List.flatMap_cons, rowsG_app]
    show (rowsG (rowsG (R ++ [r], []) (s.map some)) _).1 ++ [(rowsG (rowsG (R ++ [r], []) (s.map some)) _).2] = _
    rw [rowsG_some, List.nil_append, rowsG_tail rest]
    simp
theorem rowsG_sets {s : List Int} {rest : List (List Int)} : (rowsG ([], []) (itemsS (s :: rest))).1 ++ [(rowsG ([], []) (itemsS (s :: rest))).2] = s :: rest := by
  show (rowsG ([], []) (s.map some ++ _)).1 ++ [(rowsG ([], []) (s.map some ++ _)).2] = _
  rw [rowsG_app, rowsG_some, List.nil_append, rowsG_tail]
  rfl
theorem items_words : ∀ {ss : List (List Int)}, (itemsS ss).map itW = setWs ss
  | [] => rfl
  | s :: r => by
    show (s.map some ++ _).map itW = s.map toS ++ setTail r
    rw [List.map_append, List.map_map]
    congr 1
    unfold setTail
    rw [List.map_flatMap]
    congr 1
    funext s
    simp [itW]
open TL (tl)
theorem setWs_inj {n n' : Nat} (hn : n ≤ 60) (hn' : n' ≤ 60) : ∀ {r r' : List (List Int)} {s s' : List Int}, (∀ x ∈ s :: r, SetOk n x) → (∀ x ∈ s' :: r', SetOk n' x) → setWs (s :: r) = setWs (s' :: r') → s :: r = s' :: r'
  | [], [], s, s', h, h', e => by
    have e1 : s.map toS = s'.map toS := by simpa [setWs, setTail] using e
    have b1 := (h s List.mem_cons_self).bd
    have b2 := (h' s' List.mem_cons_self).bd
    rw [map_toS_inj (fun x hx => by have := b1 x hx; omega) (fun x hx => by have := b2 x hx; omega) e1]
  | [], t :: r', s, s', h, h', e => by
    exfalso
    have e1 : s.map toS = s'.map toS ++ ("|" : Str) :: (t.map toS ++ setTail r') := by simpa [setWs, setTail] using e
    exact no_bar hn (h s List.mem_cons_self) (by rw [e1]; simp)
  | t :: r, [], s, s', h, h', e => by
    exfalso
    have e1 : s.map toS ++ ("|" : Str) :: (t.map toS ++ setTail r) = s'.map toS := by simpa [setWs, setTail] using e
    exact no_bar hn' (h' s' List.mem_cons_self) (by rw [← e1]; simp)
  | t :: r, t' :: r', s, s', h, h', e => by
    have e1 : s.map toS ++ ("|" : Str) :: (t.map toS ++ setTail r) = s'.map toS ++ ("|" : Str) :: (t'.map toS ++ setTail r') := by simpa [setWs, setTail] using e
    have es := bar_split (no_bar hn (h s List.mem_cons_self)) (no_bar hn' (h' s' List.mem_cons_self)) e1
    rw [es] at e1
    have e2 := List.append_cancel_left e1
    injection e2 with _ e2
    have b1 := (h s List.mem_cons_self).bd
    have b2 := (h' s' List.mem_cons_self).bd
    rw [map_toS_inj (fun x hx => by have := b1 x hx; omega) (fun x hx => by have := b2 x hx; omega) es]
    rw [setWs_inj hn hn' (r := r) (r' := r') (s := t) (s' := t') (fun x hx => h x (List.mem_cons_of_mem _ hx)) (fun x hx => h' x (List.mem_cons_of_mem _ hx)) e2]
theorem no_colon {m : Str} {ab : List Int} {ss : List (List Int)} {ps : List Pn} (F : Fits m ab ss ps) : (":" : Str) ∉ ab.map toS ++ setWs ss := fun h => by
  rcases List.mem_append.mp h with h | h
  · obtain ⟨x, hx, e⟩ := List.mem_map.mp h
    have := F.abd.2 x hx
    exact (numW this.1 this.2).ne1 e
  · exact set_words_all (P := fun w => w ≠ ":") F.len (by decide +kernel) (fun i a b => (numW a b).ne1) F.fam.2.ok _ h rfl
theorem head_inj {m : Str} {ab ab' : List Int} {ss ss' : List (List Int)} {ps ps' : List Pn} (F : Fits m ab ss ps) (F' : Fits m ab' ss' ps') (e : ab.map toS ++ setWs ss = ab'.map toS ++ setWs ss') : ab = ab' ∧ ss = ss' := by
  have h1 := F.hf
  have h2 := F'.hf
  have a1 := F.ha
  have a2 := F'.ha
  unfold famOk at h1 h2
  unfold aboveOk at a1 a2
  by_cases hv : m = "votes"
  · have ht : ¬ isTr m = true := by
      rw [hv]
      decide +kernel
    rw [if_neg ht] at a1 a2
    rw [if_pos hv] at h1 h2
    subst a1 a2
    refine ⟨rfl, ?_⟩
    have f1 := F.fam.2.ok
    have f2 := F'.fam.2.ok
    cases ss with
    | nil => exact absurd rfl h1.1
    | cons s r =>
      cases ss' with
      | nil => exact absurd rfl h2.1
      | cons s' r' => exact setWs_inj F.len F'.len f1 f2 (by simpa using e)
  · rw [if_neg hv] at h1 h2
    subst h1 h2
    refine ⟨?_, rfl⟩
    have e1 : ab.map toS = ab'.map toS := by simpa [setWs] using e
    exact map_toS_inj F.abd.2 F'.abd.2 e1
theorem words_head : ∀ (t : Pn), ∃ w r, t.words = w :: r ∧ (w = "o" ∨ w = "[")
  | .leaf => ⟨"o", [], rfl, .inl rfl⟩
  | .br m ab ss ps => ⟨"[", _, words_br m ab ss ps, .inr rfl⟩
mutual
theorem words_injA : ∀ (t t' : Pn), t.ok → t'.ok → ∀ r r' : List Str, t.words ++ r = t'.words ++ r' → t = t' ∧ r = r'
  | .leaf, .leaf, _, _, r, r', e => by
    injection (show (("o" : Str) :: r) = ("o" : Str) :: r' from e) with _ e
    exact ⟨rfl, e⟩
  | .leaf, .br m ab ss ps, _, _, r, r', e => by
    rw [words_br] at e
    injection (show (("o" : Str) :: r) = ("[" : Str) :: _ from e) with e _
    exact absurd e (by decide +kernel)
  | .br m ab ss ps, .leaf, _, _, r, r', e => by
    rw [words_br] at e
    injection (show ("[" : Str) :: _ = ("o" : Str) :: r' from e) with e _
    exact absurd e (by decide +kernel)
  | .br m ab ss ps, .br m' ab' ss' ps', h, h', r, r', e => by
    rw [words_br, words_br] at e
    rw [List.cons_append, List.cons_append, List.cons_append, List.cons_append] at e
    injection e with _ e
    injection e with em e
    subst em
    have e1 : (ab.map toS ++ setWs ss) ++ (":" : Str) :: (wordsL ps ++ ("]" : Str) :: r) = (ab'.map toS ++ setWs ss') ++ (":" : Str) :: (wordsL ps' ++ ("]" : Str) :: r') := by
      have e' := e
      simp only [List.append_assoc, List.cons_append, List.nil_append, List.singleton_append] at e' ⊢
      exact e'
    have eh := bar_split (no_colon h.1) (no_colon h'.1) e1
    obtain ⟨ea, es⟩ := head_inj h.1 h'.1 eh
    subst ea es
    have e2 := List.append_cancel_left e1
    injection e2 with _ e2
    obtain ⟨ep, er⟩ := words_injL ps ps' h.2 h'.2 r r' e2
    rw [ep]
    exact ⟨rfl, er⟩
theorem words_injL : ∀ (ps ps' : List Pn), okL ps → okL ps' → ∀ r r' : List Str, wordsL ps ++ ("]" : Str) :: r = wordsL ps' ++ ("]" : Str) :: r' → ps = ps' ∧ r = r'
  | [], [], _, _, r, r', e => by
    injection (show ("]" : Str) :: r = ("]" : Str) :: r' from e) with _ e
    exact ⟨rfl, e⟩
  | [], p :: ps, _, _, r, r', e => by
    obtain ⟨w, q, hw, ho⟩ := words_head p
    rw [show wordsL (p :: ps) = p.words ++ wordsL ps from rfl, hw] at e
    injection (show ("]" : Str) :: r = w :: _ from e) with e _
    rcases ho with rfl | rfl
    · exact absurd e (by decide +kernel)
    · exact absurd e (by decide +kernel)
  | p :: ps, [], _, _, r, r', e => by
    obtain ⟨w, q, hw, ho⟩ := words_head p
    rw [show wordsL (p :: ps) = p.words ++ wordsL ps from rfl, hw] at e
    injection (show w :: _ = ("]" : Str) :: r' from e) with e _
    rcases ho with rfl | rfl
    · exact absurd e (by decide +kernel)
    · exact absurd e (by decide +kernel)
  | p :: ps, p' :: ps', h, h', r, r', e => by
    rw [wordsL, wordsL, List.append_assoc, List.append_assoc] at e
    obtain ⟨e1, e2⟩ := words_injA p p' h.1 h'.1 _ _ e
    obtain ⟨e3, e4⟩ := words_injL ps ps' h.2 h'.2 r r' e2
    rw [e1, e3]
    exact ⟨rfl, e4⟩
end
theorem words_inj {t t' : Pn} (h : t.ok) (h' : t'.ok) (e : t.words = t'.words) : t = t' :=
  (words_injA t t' h h' [] [] (by rw [List.append_nil, List.append_nil]; exact e)).1
theorem words_ne0 (t : Pn) : t.words ≠ [] := by
  obtain ⟨w, r, h, _⟩ := words_head t
  rw [h]
  exact List.cons_ne_nil _ _
theorem text_inj {t t' : Pn} (h : t.ok) (h' : t'.ok) (e : Txt.join " " t.words = Txt.join " " t'.words) : t = t' := by
  have h1 := words_of_join (words_ne0 t) fun w hw => solid_of (words_good h w hw).1
  have h2 := words_of_join (words_ne0 t') fun w hw => solid_of (words_good h' w hw).1
  rw [e, h2] at h1
  exact words_inj h h' h1.symm
mutual
def lvP : Pn → List Int → List (List Int)
  | .leaf, p => [p]
  | .br _ _ _ ps, p => lvPL ps p 0
def lvPL : List Pn → List Int → Nat → List (List Int)
  | [], _, _ => []
  | t :: r, p, i => lvP t (p ++ [(i : Int)]) ++ lvPL r p (i + 1)
end
mutual
def brP : Pn → List Int → List (List Int × Pn)
  | .leaf, _ => []
  | .br m ab ss ps, p => (p, .br m ab ss ps) :: brPL ps p 0
def brPL : List Pn → List Int → Nat → List (List Int × Pn)
  | [], _, _ => []
  | t :: r, p, i => brP t (p ++ [(i : Int)]) ++ brPL r p (i + 1)
end
theorem lvPL_app : ∀ (a b : List Pn) (p : List Int) (i : Nat), lvPL (a ++ b) p i = lvPL a p i ++ lvPL b p (i + a.length)
  | [], b, p, i => by simp [lvPL]
  | t :: a, b, p, i => by
    rw [List.cons_append, lvPL, lvPL, lvPL_app a b p (i + 1), List.append_assoc, List.length_cons]
    rw [show i + 1 + a.length = i + (a.length + 1) from by omega]
theorem brPL_app : ∀ (a b : List Pn) (p : List Int) (i : Nat), brPL (a ++ b) p i = brPL a p i ++ brPL b p (i + a.length)
  | [], b, p, i => by simp [brPL]
  | t :: a, b, p, i => by
    rw [List.cons_append, brPL, brPL, brPL_app a b p (i + 1), List.append_assoc, List.length_cons]
    rw [show i + 1 + a.length = i + (a.length + 1) from by omega]
theorem lvPL_snoc {ps : List Pn} {i : Nat} {t : Pn} (p : List Int) (h : ps[i]? = some t) : lvPL (ps.take (i + 1)) p 0 = lvPL (ps.take i) p 0 ++ lvP t (p ++ [(i : Int)]) := by
  have hi := (List.getElem?_eq_some_iff.mp h).1
  rw [List.take_add_one, h, lvPL_app, List.length_take, Nat.min_eq_left (Nat.le_of_lt hi)]
  simp [lvPL]
theorem brPL_snoc {ps : List Pn} {i : Nat} {t : Pn} (p : List Int) (h : ps[i]? = some t) : brPL (ps.take (i + 1)) p 0 = brPL (ps.take i) p 0 ++ brP t (p ++ [(i : Int)]) := by
  have hi := (List.getElem?_eq_some_iff.mp h).1
  rw [List.take_add_one, h, brPL_app, List.length_take, Nat.min_eq_left (Nat.le_of_lt hi)]
  simp [brPL]
mutual
theorem lvP_len : ∀ (t : Pn) (p : List Int), (lvP t p).length = t.leaves
  | .leaf, p => by simp [lvP, Pn.leaves]
  | .br _ _ _ ps, p => by rw [lvP, Pn.leaves]; exact lvPL_len ps p 0
theorem lvPL_len : ∀ (ps : List Pn) (p : List Int) (i : Nat), (lvPL ps p i).length = leavesL ps
  | [], _, _ => rfl
  | t :: r, p, i => by rw [lvPL, List.length_append, lvP_len t, lvPL_len r, leavesL]
end
mutual
theorem brP_len : ∀ (t : Pn) (p : List Int), (brP t p).length = t.halls
  | .leaf, p => by simp [brP, Pn.halls]
  | .br _ _ _ ps, p => by rw [brP, Pn.halls, List.length_cons, brPL_len ps p 0]; omega
theorem brPL_len : ∀ (ps : List Pn) (p : List Int) (i : Nat), (brPL ps p i).length = hallsL ps
  | [], _, _ => rfl
  | t :: r, p, i => by rw [brPL, List.length_append, brP_len t, brPL_len r, hallsL]
end
def poP (t : Pn) (p : List Int) : List (List Int) := ((brP t p).map Prod.fst).filter fun q => decide (q ≠ [])
def poPL (ps : List Pn) (p : List Int) (i : Nat) : List (List Int) := ((brPL ps p i).map Prod.fst).filter fun q => decide (q ≠ [])
def Pn.kid : Pn → Int → Option Pn
  | .leaf, _ => none
  | .br _ _ _ ps, i => if 0 ≤ i ∧ i < (ps.length : Int) then ps[i.toNat]? else none
def Pn.at_ : Pn → List Int → Option Pn
  | t, [] => some t
  | t, i :: r => match t.kid i with
    | some u => u.at_ r
    | none => none
theorem at_app : ∀ (p q : List Int) (t : Pn), t.at_ (p ++ q) = match t.at_ p with | some u => u.at_ q | none => none
  | [], q, t => rfl
  | i :: p, q, t => by
    show (match t.kid i with | some u => u.at_ (p ++ q) | none => none) = match (match t.kid i with | some u => u.at_ p | none => none) with | some u => u.at_ q | none => none
    cases t.kid i with
    | none => rfl
    | some u => exact at_app p q u
theorem kid_nat {m : Str} {ab : List Int} {ss : List (List Int)} {ps : List Pn} {i : Nat} {t : Pn} (h : ps[i]? = some t) : (Pn.br m ab ss ps).kid (i : Int) = some t := by
  have hi := (List.getElem?_eq_some_iff.mp h).1
  show (if 0 ≤ (i : Int) ∧ (i : Int) < (ps.length : Int) then ps[(i : Int).toNat]? else none) = some t
  rw [if_pos ⟨by omega, by omega⟩, show ((i : Int)).toNat = i from by omega, h]
mutual
theorem lvP_at : ∀ (t : Pn) (p q : List Int), q ∈ lvP t p → ∃ r, q = p ++ r ∧ t.at_ r = some .leaf
  | .leaf, p, q, h => by
    rw [lvP, List.mem_singleton] at h
    exact ⟨[], by rw [List.append_nil]; exact h, rfl⟩
  | .br m ab ss ps, p, q, h => by
    rw [lvP] at h
    obtain ⟨i, t, r, h1, h2, h3⟩ := lvPL_at ps p 0 q h
    refine ⟨(i : Int) :: r, h2, ?_⟩
    show (match (Pn.br m ab ss ps).kid (i : Int) with | some u => u.at_ r | none => none) = _
    rw [kid_nat (by simpa using h1)]
    exact h3
theorem lvPL_at : ∀ (ps : List Pn) (p : List Int) (k : Nat) (q : List Int), q ∈ lvPL ps p k → ∃ (i : Nat) (t : Pn) (r : List Int), (k ≤ i ∧ ps[i - k]? = some t) ∧ q = p ++ (i : Int) :: r ∧ t.at_ r = some .leaf
  | [], _, _, _, h => (List.not_mem_nil h).elim
  | t :: ps, p, k, q, h => by
    rw [lvPL] at h
    rcases List.mem_append.mp h with h | h
    · obtain ⟨r, h1, h2⟩ := lvP_at t _ q h
      exact ⟨k, t, r, ⟨Nat.le_refl _, by simp⟩, by rw [h1]; simp, h2⟩
    · obtain ⟨i, u, r, ⟨h0, h1⟩, h2, h3⟩ := lvPL_at ps p (k + 1) q h
      exact ⟨i, u, r, ⟨by omega, by rw [show i - k = (i - (k + 1)) + 1 from by omega]; simpa using h1⟩, h2, h3⟩
end
mutual
theorem brP_at : ∀ (t : Pn) (p : List Int) (q : List Int × Pn), q ∈ brP t p → ∃ r, q.1 = p ++ r ∧ t.at_ r = some q.2 ∧ ∃ m ab ss ps, q.2 = .br m ab ss ps
  | .leaf, p, q, h => (List.not_mem_nil (by rw [brP] at h; exact h)).elim
  | .br m ab ss ps, p, q, h => by
    rw [brP] at h
    rcases List.mem_cons.mp h with rfl | h
    · exact ⟨[], by rw [List.append_nil], rfl, m, ab, ss, ps, rfl⟩
    · obtain ⟨i, t, r, h1, h2, h3, h4⟩ := brPL_at ps p 0 q h
      refine ⟨(i : Int) :: r, h2, ?_, h4⟩
      show (match (Pn.br m ab ss ps).kid (i : Int) with | some u => u.at_ r | none => none) = _
      rw [kid_nat (by simpa using h1)]
      exact h3
theorem brPL_at : ∀ (ps : List Pn) (p : List Int) (k : Nat) (q : List Int × Pn), q ∈ brPL ps p k → ∃ (i : Nat) (t : Pn) (r : List Int), (k ≤ i ∧ ps[i - k]? = some t) ∧ q.1 = p ++ (i : Int) :: r ∧ t.at_ r = some q.2 ∧ ∃ m ab ss ps, q.2 = .br m ab ss ps
  | [], _, _, _, h => (List.not_mem_nil (by rw [brPL] at h; exact h)).elim
  | t :: ps, p, k, q, h => by
    rw [brPL] at h
    rcases List.mem_append.mp h with h | h
    · obtain ⟨r, h1, h2, h3⟩ := brP_at t _ q h
      exact ⟨k, t, r, ⟨Nat.le_refl _, by simp⟩, by rw [h1]; simp, h2, h3⟩
    · obtain ⟨i, u, r, ⟨h0, h1⟩, h2, h3⟩ := brPL_at ps p (k + 1) q h
      exact ⟨i, u, r, ⟨by omega, by rw [show i - k = (i - (k + 1)) + 1 from by omega]; simpa using h1⟩, h2, h3⟩
end
theorem poP_br {m : Str} {ab : List Int} {ss : List (List Int)} {ps : List Pn} (p : List Int) : poP (.br m ab ss ps) p = (if p = [] then [] else [p]) ++ poPL ps p 0 := by
  unfold poP poPL
  rw [brP, List.map_cons, List.filter_cons]
  by_cases h : p = []
  · subst h
    simp
  · simp [h]
theorem poPL_snoc {ps : List Pn} {i : Nat} {t : Pn} (p : List Int) (h : ps[i]? = some t) : poPL (ps.take (i + 1)) p 0 = poPL (ps.take i) p 0 ++ poP t (p ++ [(i : Int)]) := by
  unfold poPL poP
  rw [brPL_snoc p h, List.map_append, List.filter_append]
theorem okL_at {ps : List Pn} {i : Nat} {t : Pn} (h : okL ps) (hi : ps[i]? = some t) : t.ok := okL_iff.mp h t (List.mem_of_getElem? hi)
theorem deepL_at {ps : List Pn} {i d : Nat} {t : Pn} (h : deepL ps ≤ d) (hi : ps[i]? = some t) : t.deep ≤ d := deepL_le.mp h t (List.mem_of_getElem? hi)
theorem leavesL_take {ps : List Pn} {i : Nat} {t : Pn} (h : ps[i]? = some t) : leavesL (ps.take (i + 1)) = leavesL (ps.take i) + t.leaves := by
  rw [List.take_add_one, h, leavesL_eq, leavesL_eq]
  simp
theorem hallsL_take {ps : List Pn} {i : Nat} {t : Pn} (h : ps[i]? = some t) : hallsL (ps.take (i + 1)) = hallsL (ps.take i) + t.halls := by
  rw [List.take_add_one, h, hallsL_eq, hallsL_eq]
  simp
theorem leavesL_le (ps : List Pn) (i : Nat) : leavesL (ps.take i) ≤ leavesL ps := by
  have e := List.take_append_drop i ps
  have : leavesL (ps.take i ++ ps.drop i) = leavesL (ps.take i) + leavesL (ps.drop i) := by rw [leavesL_eq, leavesL_eq, leavesL_eq, List.map_append, List.sum_append]
  rw [e] at this
  omega
theorem hallsL_le (ps : List Pn) (i : Nat) : hallsL (ps.take i) ≤ hallsL ps := by
  have e := List.take_append_drop i ps
  have : hallsL (ps.take i ++ ps.drop i) = hallsL (ps.take i) + hallsL (ps.drop i) := by rw [hallsL_eq, hallsL_eq, hallsL_eq, List.map_append, List.sum_append]
  rw [e] at this
  omega
def spGather (g : G) (CL CB : Addr) (d : Nat) : Sp := fun vs H Q _ => ∃ v t p path lq lvs ls pq pvs qs L D, vs = [v, .ref p, .ref lq, .ref pq] ∧ isP g.K CL CB v t ∈ D ∧ isI p (.tup (path.map V.int)) ∈ D ∧ t.deep ≤ d ∧ lvs.length + t.leaves ≤ 1000 ∧ pvs.length + t.halls ≤ 1000 ∧ path.length + t.deep ≤ 100 ∧
  isSs lvs ls ∈ D ∧ isSs pvs qs ∈ D ∧ Wd ((lq, .lst lvs) :: (pq, .lst pvs) :: L) D H ∧ ∀ lvs' pvs' H', Wd ((lq, .lst lvs') :: (pq, .lst pvs') :: L) (isSs lvs' (ls ++ lvP t path) :: isSs pvs' (qs ++ poP t path) :: D) H' → Q .non H'
theorem w_gather {g : G} {CL CB : Addr} {d k1 : Nat} {A : Around} {vs : List V} {H : Hp} {Q : VK} {E : XK} (hr : Room k1 A) (C : Cls2 g CL CB) (f1 : ∀ e, e + 1 = d → GF g k1 "gather" (spGather g CL CB e)) (h : spGather g CL CB d vs H Q E) :
    t_gather g A { nx := fun _ H' => Q .non H', rt := Q } (start ["part", "path", "leaves", "porters", "number", "one"] vs) H := by
  obtain ⟨v, t, p, path, lq, lvs, ls, pq, pvs, qs, L, D, rfl, hv, hp, hd, hl1, hl2, hl3, hls, hqs, W, k⟩ := h
  have hC := C.br
  have lls := W.lenSs hls
  have lqs := W.lenSs hqs
  rw [e_gather]
  show r_gather g A _ [some v, some (.ref p), some (.ref lq), some (.ref pq), none, none] H
  unfold r_gather
  walk_at "rd"
  refine k_gl (v := .ref CL) ⟨_, C.nL, rfl⟩ ?_
  walk_at "rd"
  have ty := tyP C W hv
  cases t with
  | leaf =>
    refine k_isi (.own CL) ty C.ll ?_
    walk_at "rd"
    simp only [Pn.leaves] at hl1
    refine k_app (p := lq) (by walk_at "fr") (sl_lt (by omega)) ?_
    clear W ty
    intro H W
    have W1 := W.der (F := isSs pvs (qs ++ poP .leaf path)) isSs_stab fun B b => by
      rw [show poP .leaf path = [] from rfl, List.append_nil]
      exact b _ hqs
    have W2 := W1.der (F := isSs (lvs ++ [.ref p]) (ls ++ lvP .leaf path)) isSs_stab fun B b => SsAt.app (b _ (List.mem_cons_of_mem _ hls)) (.cons (b _ (List.mem_cons_of_mem _ hp)) .nil)
    exact k _ _ H W2
  | br m ab ss ps =>
    refine k_isi (.own CL) ty C.bl ?_
    walk_at "rd"
    simp only [Pn.leaves, Pn.halls, Pn.deep] at hl1 hl2 hl3 hd
    obtain ⟨a, dx, pa, au, sa, kvs, svs, rfl, lk, lsv, W1⟩ := W.opBr hv
    clear ty
    obtain ⟨DD, W, hI, hT, hPs, sD⟩ : ∃ DD, Wd ((lq, .lst lvs) :: (pq, .lst pvs) :: L) DD H ∧ isI a (.ins CB dx [("manner", .str m), ("parts", .ref pa), ("above", .ref au), ("sets", .ref sa)]) ∈ DD ∧ isT g.K pa kvs ∈ DD ∧ isPs g.K CL CB kvs ps ∈ DD ∧ D ⊆ DD :=
      ⟨_, W1, by walk_at "mem", by walk_at "mem", by walk_at "mem", by walk_at "sub"⟩
    clear W1
    have hp' := sD hp
    refine k_cut (fun σ H => ∃ pvs', σ = [some (.ref a), some (.ref p), some (.ref lq), some (.ref pq), none, none] ∧ Wd ((lq, .lst lvs) :: (pq, .lst pvs') :: L) (isSs pvs' (qs ++ (if path = [] then [] else [path])) :: DD) H) ?_ ?_
    · walk_at "rd"
      refine k_tru_T (SqT.of (W.atI (sD hp))) ?_
      by_cases h0 : path = []
      · subst h0
        walk_at "rd"
        exact ⟨pvs, rfl, W.der (F := isSs pvs (qs ++ (if ([] : List Int) = [] then [] else [[]]))) isSs_stab fun B b => by
          rw [if_pos rfl, List.append_nil]
          exact b _ (sD hqs)⟩
      · refine k_ifT (by
          cases path with
          | nil => exact absurd rfl h0
          | cons _ _ => rfl) ?_
        walk_at "rd"
        refine k_app (p := pq) (by walk_at "fr") (sl_lt (by omega)) ?_
        clear W
        intro H W
        walk_at "rd"
        rw [if_neg h0]
        exact ⟨pvs ++ [.ref p], rfl, (W.mv1).der (F := isSs (pvs ++ [.ref p]) (qs ++ [path])) isSs_stab fun B b => SsAt.app (b _ (sD hqs)) (.cons (b _ (sD hp)) .nil)⟩
    clear W
    rintro σ H ⟨pvs1, rfl, W⟩
    have l1 := W.lenSs List.mem_cons_self
    rw [List.length_append] at l1
    have l2 : (if path = [] then [] else [path]).length ≤ 1 := by split <;> simp
    walk_at "rd"
    refine k_enum_T (W.tupl (List.mem_cons_of_mem _ hT)) ?_
    refine k_for walk_enumT (fun i σ H => ∃ x4 x5 lvs' pvs', σ = [some (.ref a), some (.ref p), some (.ref lq), some (.ref pq), x4, x5] ∧ Wd ((lq, .lst lvs') :: (pq, .lst pvs') :: L) (isSs lvs' (ls ++ lvPL (ps.take i) path 0) :: isSs pvs' (qs ++ ((if path = [] then [] else [path]) ++ poPL (ps.take i) path 0)) :: DD) H)
      ⟨_, _, lvs, pvs1, rfl, ?_⟩ (fun i σ H _ ⟨_, _, _, _, _, W⟩ => W.tupl (List.mem_cons_of_mem _ (List.mem_cons_of_mem _ hT))) ?_ ?_
    · have W1 := W.der (F := isSs pvs1 (qs ++ ((if path = [] then [] else [path]) ++ poPL (ps.take 0) path 0))) isSs_stab fun B b => by
        rw [show poPL (ps.take 0) path 0 = [] from rfl, List.append_nil]
        exact b _ List.mem_cons_self
      have W2 := W1.der (F := isSs lvs (ls ++ lvPL (ps.take 0) path 0)) isSs_stab fun B b => by
        rw [show lvPL (ps.take 0) path 0 = [] from rfl, List.append_nil]
        exact b _ (List.mem_cons_of_mem _ (List.mem_cons_of_mem _ (sD hls)))
      exact W2.arr spR (by walk_at "sub")
    · clear W
      rintro i x σ H H' hi ⟨x4, x5, lvs', pvs', rfl, W⟩ ⟨T, y, z, rfl, hTn, rfl, ey, ez⟩
      cases ey
      obtain ⟨t', ht', W0⟩ := W.itemP (show isPs g.K CL CB kvs ps ∈ _ from List.mem_cons_of_mem _ (List.mem_cons_of_mem _ hPs)) ez
      have W2 := W0.new hTn (.tup [.int (0 + (i : Int)), z])
      have e1 := W.lenSs List.mem_cons_self
      have e2 := W.lenSs (show isSs pvs' _ ∈ _ from List.mem_cons_of_mem _ List.mem_cons_self)
      rw [List.length_append, lvPL_len] at e1
      rw [List.length_append, List.length_append] at e2
      have e3 : (poPL (ps.take i) path 0).length ≤ hallsL (ps.take i) := by
        have := brPL_len (ps.take i) path 0
        unfold poPL
        have h1 := List.length_filter_le (fun q => decide (q ≠ [])) ((brPL (ps.take i) path 0).map Prod.fst)
        rw [List.length_map] at h1
        omega
      have e4 := leavesL_take ht'
      have e5 := hallsL_take ht'
      have e6 := leavesL_le ps (i + 1)
      have e7 := hallsL_le ps (i + 1)
      have e8 := deepL_at (Nat.le_refl _) ht'
      obtain ⟨e, rfl⟩ : ∃ e, d = e + 1 := ⟨d - 1, by omega⟩
      clear W W0
      have W := W2
      clear W2
      walk_at "rd"
      refine k_catI (xs := path.map V.int) W (by walk_at "mem") (by simp) (by rw [List.length_map]; show path.length + 1 ≤ _; omega) ?_
      clear W
      intro r H W
      rw [show path.map V.int ++ [V.int (0 + (i : Int))] = (path ++ [(i : Int)]).map V.int from by simp] at W
      walk_at "rd"
      refine k_call (f1 e rfl) hr ⟨z, t', r, path ++ [(i : Int)], lq, lvs', _, pq, pvs', _, L, _, rfl, by walk_at "mem", by walk_at "mem", by omega, by omega, by omega, by simp; omega, show isSs lvs' (ls ++ lvPL (ps.take i) path 0) ∈ _ by walk_at "mem", show isSs pvs' (qs ++ ((if path = [] then [] else [path]) ++ poPL (ps.take i) path 0)) ∈ _ by walk_at "mem", W.ord (by walk_at "spm"), ?_⟩
      clear W
      intro lvs3 pvs3 H W
      rw [List.append_assoc, ← lvPL_snoc path ht', List.append_assoc, List.append_assoc, ← poPL_snoc path ht'] at W
      exact ⟨_, _, lvs3, pvs3, rfl, W.arr spR (by walk_at "sub")⟩
    · clear W
      rintro σ H ⟨x4, x5, lvs', pvs', rfl, W⟩
      rw [lk, List.take_length, ← poP_br (m := m) (ab := ab) (ss := ss)] at W
      exact k lvs' pvs' H (W.arr spR (fsC List.mem_cons_self (fsC (List.mem_cons_of_mem _ List.mem_cons_self) (fsT (fsT sD)))))
def spPlaces (g : G) (CL CB : Addr) (d : Nat) : Sp := fun vs H Q _ => ∃ v t L D, vs = [v] ∧ isP g.K CL CB v t ∈ D ∧ t.ok ∧ t.deep ≤ d ∧ d ≤ 50 ∧ Wd L D H ∧ ∀ r rvs H', Wd ((r, .lst rvs) :: L) (isSs rvs (lvP t [] ++ poP t []) :: D) H' → Q (.ref r) H'
theorem poP_le (t : Pn) (p : List Int) : (poP t p).length ≤ t.halls := by
  have := brP_len t p
  unfold poP
  have h1 := List.length_filter_le (fun q => decide (q ≠ [])) ((brP t p).map Prod.fst)
  rw [List.length_map] at h1
  omega
theorem w_places {g : G} {CL CB : Addr} {d k1 : Nat} {A : Around} {vs : List V} {H : Hp} {Q : VK} {E : XK} (hr : Room k1 A) (f1 : GF g k1 "gather" (spGather g CL CB d)) (h : spPlaces g CL CB d vs H Q E) :
    t_places g A { nx := fun _ H' => Q .non H', rt := Q } (start ["plan", "leaves", "porters"] vs) H := by
  obtain ⟨v, t, L, D, rfl, hv, ok, hd, h50, W, k⟩ := h
  have sz := size_le ok
  rw [e_places]
  show r_places g A _ [some v, none, none] H
  unfold r_places
  walk_at "rd"
  rename_i lq pq tt
  have W1 := W.frzI
  have W2 := W1.der (F := isSs [] []) isSs_stab fun _ _ => .nil
  refine k_call f1 hr ⟨v, t, tt, [], lq, [], [], pq, [], [], L, _, rfl, by walk_at "mem", by walk_at "mem", hd, by simp; omega, by simp; omega, by simp; omega, List.mem_cons_self, List.mem_cons_self, W2.ord (by walk_at "spm"), ?_⟩
  clear W W1 W2 H
  intro lvs pvs H W
  have e1 := W.lenSs List.mem_cons_self
  have e2 := W.lenSs (show isSs pvs _ ∈ _ from List.mem_cons_of_mem _ List.mem_cons_self)
  rw [List.nil_append, List.nil_append] at W
  rw [List.nil_append, lvP_len] at e1
  rw [List.nil_append] at e2
  have e3 := poP_le t []
  walk_at "rd"
  refine k_add_ll W (by walk_at "mem") (by walk_at "mem") (sl_of (by omega)) ?_
  clear H W
  intro r H W
  have W1 := W.der (F := isSs (lvs ++ pvs) (lvP t [] ++ poP t [])) isSs_stab fun B b => SsAt.app (b (isSs lvs (lvP t [])) (by walk_at "mem")) (b (isSs pvs (poP t [])) (by walk_at "mem"))
  exact k r _ H ((W1.ord (by walk_at "spm9")).arr spR (fsC List.mem_cons_self (by walk_at "sub")))
def plB (d : PyData) (n : Nat) : Bool := match d with
  | .int i => decide (0 ≤ i) && decide (i < (n : Int))
  | _ => false
def spIsPl (g : G) : Sp := fun vs H Q _ => ∃ x d, ∃ n : Nat, ∃ L D, vs = [x, .int n] ∧ isD g.K x d ∈ D ∧ Wd L D H ∧ ∀ H', Wd L D H' → Q (.bl (plB d n)) H'
theorem w_is_place {g : G} {A : Around} {vs : List V} {H : Hp} {Q : VK} {E : XK} (h : spIsPl g vs H Q E) : t_is_place g A { nx := fun _ H' => Q .non H', rt := Q } (start ["thing", "many"] vs) H := by
  obtain ⟨x, d, n, L, D, rfl, hx, W, k⟩ := h
  rw [e_is_place]
  show r_is_place g A _ [some x, some (.int n)] H
  unfold r_is_place
  have q : Dp g.K H x d := W.fact hx
  have kk := k H W
  cases q with
  | non =>
    walk_at "rd"
    exact kk
  | bl b =>
    walk_at "rd"
    exact kk
  | str s =>
    walk_at "rd"
    exact kk
  | lst q r =>
    walk_at "rd"
    refine k_isi_ty (ty_L q) (b := false) (by decide +kernel) ?_
    walk_at "rd"
    exact kk
  | tup q r =>
    walk_at "rd"
    refine k_isi_ty (ty_T q) (b := false) (by decide +kernel) ?_
    walk_at "rd"
    exact kk
  | int i =>
    have e : plB (.int i) n = (decide (0 ≤ i) && decide (i < (n : Int))) := rfl
    rw [e] at kk
    walk_at "rd"
    refine k_ifd (fun h0 => ?_) (fun h0 => ?_)
    · rw [decide_eq_true h0, Bool.true_and] at kk
      walk_at "rd"
      exact kk
    · rw [decide_eq_false h0, Bool.false_and] at kk
      walk_at "rd"
      exact kk
def kidD (t : Pn) (d : PyData) : Option Pn := match d with
  | .int i => t.kid i
  | _ => none
def atD : Pn → List PyData → Option Pn
  | t, [] => some t
  | t, d :: r => match kidD t d with
    | some u => atD u r
    | none => none
theorem atD_app : ∀ (p q : List PyData) (t : Pn), atD t (p ++ q) = match atD t p with | some u => atD u q | none => none
  | [], q, t => rfl
  | i :: p, q, t => by
    show (match kidD t i with | some u => atD u (p ++ q) | none => none) = match (match kidD t i with | some u => atD u p | none => none) with | some u => atD u q | none => none
    cases kidD t i with
    | none => rfl
    | some u => exact atD_app p q u
theorem atD_ints : ∀ (p : List Int) (t : Pn), atD t (p.map PyData.int) = t.at_ p
  | [], t => rfl
  | i :: p, t => by
    show (match t.kid i with | some u => atD u (p.map PyData.int) | none => none) = match t.kid i with | some u => u.at_ p | none => none
    cases t.kid i with
    | none => rfl
    | some u => exact atD_ints p u
theorem kid_pl {m : Str} {ab : List Int} {ss : List (List Int)} {ps : List Pn} {d : PyData} : (plB d ps.length = false → kidD (.br m ab ss ps) d = none) ∧ (plB d ps.length = true → ∃ i : Nat, ∃ u, d = .int i ∧ i < ps.length ∧ ps[i]? = some u ∧ kidD (.br m ab ss ps) d = some u) := by
  cases d with
  | int i =>
    have e : kidD (.br m ab ss ps) (.int i) = (if 0 ≤ i ∧ i < (ps.length : Int) then ps[i.toNat]? else none) := rfl
    have e2 : plB (.int i) ps.length = (decide (0 ≤ i) && decide (i < (ps.length : Int))) := rfl
    rw [e, e2]
    constructor
    · intro h
      rw [if_neg]
      rintro ⟨h1, h2⟩
      rw [decide_eq_true h1, decide_eq_true h2] at h
      cases h
    · intro h
      rw [Bool.and_eq_true, decide_eq_true_iff, decide_eq_true_iff] at h
      refine ⟨i.toNat, ps[i.toNat]'(by omega), by rw [show ((i.toNat : Nat) : Int) = i from by omega], by omega, by simp, ?_⟩
      rw [if_pos h]
      simp
  | _ => exact ⟨fun _ => rfl, fun h => by cases h⟩
def oddN : List String := ["NoneType", "str", "int", "bool", "list", "dict"]
def spPth (C : Addr) (g : G) : Sp := fun vs H Q _ => ∃ a, ∃ x : V, ∃ L D, vs = [.ref a, x] ∧ Wd ((a, exo a C none) :: L) D H ∧ ∀ d H', H d = none → Wd ((a, exo a C (some d)) :: (d, exd d [("path", x)]) :: L) D H' → Q .non H'
theorem w_pth {g : G} {C : Addr} {A : Around} {vs : List V} {H : Hp} {Q : VK} {E : XK} (T : OexC g.K C) (hn : PySem.W.findIn g.K (.ref C) "path" = some none) (h : spPth C g vs H Q E) :
    t_NoPath_init g A { nx := fun _ H' => Q .non H', rt := Q } (start ["self", "path"] vs) H := by
  obtain ⟨a, x, L, D, rfl, W, k⟩ := h
  rw [e_NoPath_init]
  show r_NoPath_init g A _ [some (.ref a), some x] H
  unfold r_NoPath_init
  walk_at "rd"
  refine k_vei T (by simp) W ?_
  walk_at "rd"
  refine k_ost1 T hn W ?_
  intro d H' hd W
  exact k d H' hd W
def spBrAt (g : G) (CL CB NP : Addr) : Sp := fun vs H Q E => ∃ v t x L D, vs = [v, x] ∧ isP g.K CL CB v t ∈ D ∧ Wd L D H ∧
  ((∃ ds, isD g.K x (.tuple ds) ∈ D ∧ (∀ m ab ss ps, atD t ds = some (.br m ab ss ps) → ∀ w H', Wd L (isP g.K CL CB w (.br m ab ss ps) :: D) H' → Q w H') ∧
    ((∀ m ab ss ps, atD t ds ≠ some (.br m ab ss ps)) → ∀ d H', Wd ((d, .xd [("path", x)]) :: L) D H' → E (.ref NP) (some d) H')) ∨
   (∃ T ∈ oddN, isTy g.K x T ∈ D ∧ ∀ d H', Wd ((d, .xd [("path", x)]) :: L) D H' → E (.ref NP) (some d) H'))
theorem atI_nat {xs : List V} {i : Nat} {v : V} (h : xs[i]? = some v) : atI xs (i : Int) = some v := by
  have := atI_map (f := id) (ms := xs) h
  simpa using this
theorem w_branch_at {g : G} {CL CB NP fN : Addr} {k1 : Nat} {A : Around} {vs : List V} {H : Hp} {Q : VK} {E : XK} (hr : Room (k1 + 1) A) (C : Cls2 g CL CB) (hN : g.mg "NoPath" = some (.ref NP)) (MN : XMk g.K NP fN) (FN : Fk g k1 (spPth NP g) fN) (f1 : GF g k1 "is_place" (spIsPl g)) (h : spBrAt g CL CB NP vs H Q E) :
    t_branch_atX g A E { nx := fun _ H' => Q .non H', rt := Q } (start ["plan", "path", "part", "number"] vs) H := by
  obtain ⟨v, t, x, L, D, rfl, hv, W, ho⟩ := h
  have hr1 : Room k1 A := hr.mono (by omega)
  have hC := C.br
  rw [e_branch_atX]
  show r_branch_atX g A E _ [some v, some x, none, none] H
  unfold r_branch_atX
  have rz : (∀ d H', Wd ((d, .xd [("path", x)]) :: L) D H' → E (.ref NP) (some d) H') → ∀ (L' : Ow) (D' : List Fct) (H : Hp), Wd L' D' H → Spm L' L → D ⊆ D' → kRaise g A "NoPath" E [x] H := by
    intro k L' D' H W sp sD
    have W1 := W.arr sp sD
    exact k_raise (fs := [("path", x)]) hN MN FN hr (by simp) W1 (fun a H' Q' W' k' => ⟨a, x, _, _, rfl, W', fun d H2 hd W2 => k' d H2 hd W2⟩) fun d H' W' => k d H' W'
  walk_at "rd"
  rcases ho with ⟨ds, hx, k, ke⟩ | ⟨T, hT, hx, ke⟩
  · obtain ⟨a, xs, rfl, lx, W1⟩ := W.opT hx
    have hxa : isT g.K a xs ∈ isT g.K a xs :: isDs g.K xs ds :: D := List.mem_cons_self
    replace W := W1
    clear W1
    refine k_isi_Tm (b := true) W (by walk_at "mem") (by decide +kernel) ?_
    walk_at "rd"
    refine k_for walk_tup (fun i σ H => ∃ w u x3, σ = [some v, some (.ref a), some w, x3] ∧ atD t (ds.take i) = some u ∧ Wd L (isP g.K CL CB w u :: isT g.K a xs :: isDs g.K xs ds :: D) H)
      ⟨v, t, _, rfl, rfl, W.arr spR (fsC (List.mem_cons_of_mem _ (List.mem_cons_of_mem _ hv)) fsR)⟩ (fun i σ H _ ⟨_, _, _, _, _, W⟩ => W.tupl (by walk_at "mem")) ?_ ?_
    · clear W H
      rintro i y σ H H' hi ⟨w, u, x3, rfl, hu, W⟩ ⟨rfl, hy⟩
      obtain ⟨d, hd, W1⟩ := W.itemV (has_ds (show isDs g.K xs ds ∈ _ by walk_at "mem")) hy
      replace W := W1
      clear W1
      have split : ds = ds.take i ++ d :: ds.drop (i + 1) := by
        have h1 := (List.getElem?_eq_some_iff.mp hd)
        obtain ⟨h1, h2⟩ := h1
        rw [← h2, List.getElem_cons_drop, List.take_append_drop]
      have bad : kidD u d = none → ∀ m ab ss ps, atD t ds ≠ some (.br m ab ss ps) := fun hn m ab ss ps e => by
        rw [split, atD_app, hu] at e
        simp only [atD, hn] at e
        cases e
      walk_at "rd"
      refine k_gl (v := .ref CL) ⟨_, C.nL, rfl⟩ ?_
      walk_at "rd"
      have ty := tyP C W (show isP g.K CL CB w u ∈ _ by walk_at "mem")
      cases u with
      | leaf =>
        refine k_isi (.own CL) ty C.ll ?_
        walk_at "rd"
        exact rz (ke (bad (by cases d <;> rfl))) _ _ _ W spR (by walk_at "sub")
      | br m ab ss ps =>
        refine k_isi (.own CL) ty C.bl ?_
        walk_at "rd"
        obtain ⟨wa, dx, pa, au, sa, kvs, svs, rfl, lk, lsv, W1⟩ := W.opBr (show isP g.K CL CB w (.br m ab ss ps) ∈ _ by walk_at "mem")
        clear ty
        replace W := W1
        clear W1
        walk_at "rd"
        rw [lk]
        refine k_call f1 hr1 ⟨y, d, ps.length, L, _, rfl, by walk_at "mem", W, ?_⟩
        clear W
        intro H W
        obtain ⟨p1, p2⟩ := kid_pl (m := m) (ab := ab) (ss := ss) (ps := ps) (d := d)
        cases hb : plB d ps.length with
        | false =>
          walk_at "rd"
          exact rz (ke (bad (p1 hb))) _ _ _ W spR (by walk_at "sub")
        | true =>
          obtain ⟨j, u, rfl, hj, hu2, hk⟩ := p2 hb
          have hyj := W.vint (show isD g.K y (.int j) ∈ _ by walk_at "mem")
          subst hyj
          walk_at "rd"
          obtain ⟨z, hz⟩ : ∃ z, kvs[j]? = some z := ⟨kvs[j]'(by omega), List.getElem?_eq_getElem _⟩
          obtain ⟨u', hu', W1⟩ := W.itemP (show isPs g.K CL CB kvs ps ∈ _ by walk_at "mem") hz
          rw [hu2] at hu'
          cases hu'
          replace W := W1
          clear W1
          refine k_ix_Tm W (show isT g.K pa kvs ∈ _ by walk_at "mem") (atI_nat hz) ?_
          walk_at "rd"
          refine ⟨z, u, _, rfl, ?_, W.arr spR (by walk_at "sub")⟩
          rw [List.take_add_one, hd, atD_app, hu]
          show (match kidD (.br m ab ss ps) (.int j) with | some u => some u | none => none) = some u
          rw [hk]
    · clear W H
      rintro σ H ⟨w, u, x3, rfl, hu, W⟩
      rw [lx, List.take_length] at hu
      walk_at "rd"
      refine k_gl (v := .ref CL) ⟨_, C.nL, rfl⟩ ?_
      walk_at "rd"
      have ty := tyP C W List.mem_cons_self
      cases u with
      | leaf =>
        refine k_isi (.own CL) ty C.ll ?_
        walk_at "rd"
        exact rz (ke (fun m ab ss ps e => by rw [hu] at e; cases e)) _ _ _ W spR (by walk_at "sub")
      | br m ab ss ps =>
        refine k_isi (.own CL) ty C.bl ?_
        walk_at "rd"
        exact k m ab ss ps hu w H (W.arr spR (fsC List.mem_cons_self (by walk_at "sub")))
  · have key : ∀ T ∈ oddN, L2.kitB T "tuple" = some false := by decide +kernel
    refine k_isi_ty (W.fact hx) (key T hT) ?_
    walk_at "rd"
    exact rz ke _ _ _ W spR fsR
theorem SsAt.drop {B : Hp} : ∀ {vs : List V} {ss : List (List Int)} (n : Nat), SsAt B vs ss → SsAt B (vs.drop n) (ss.drop n)
  | _, _, 0, h => h
  | _, _, _ + 1, .nil => .nil
  | _, _, n + 1, .cons _ r => SsAt.drop n r
theorem cut_nat (xs : List V) (n : Nat) (h : n ≤ xs.length) : cutV xs (some (n : Int)) none = xs.drop n := by
  unfold cutV
  rw [HT.sIx_none, HT.sIx_nat, Nat.min_eq_left h, List.take_of_length_le (by rw [List.length_drop]; exact Nat.le_refl _)]
def spBrPaths (g : G) (CL CB : Addr) (d : Nat) : Sp := fun vs H Q _ => ∃ v t L D, vs = [v] ∧ isP g.K CL CB v t ∈ D ∧ t.ok ∧ t.deep ≤ 6 ∧ Wd L D H ∧ ∀ r rvs H', Wd ((r, .lst rvs) :: L) (isSs rvs ([] :: poP t []) :: D) H' → Q (.ref r) H'
theorem w_branch_paths {g : G} {CL CB : Addr} {k1 : Nat} {A : Around} {vs : List V} {H : Hp} {Q : VK} {E : XK} (hr : Room (k1 + 4) A) (M : PM g k1 CL CB "__len__" (spNum g CL CB Pn.leaves 6)) (f1 : GF g k1 "places" (spPlaces g CL CB 6)) (h : spBrPaths g CL CB 6 vs H Q E) :
    t_branch_paths g A { nx := fun _ H' => Q .non H', rt := Q } (start ["plan"] vs) H := by
  obtain ⟨v, t, L, D, rfl, hv, ok, hd, W, k⟩ := h
  have sz := size_le ok
  have e3 := poP_le t []
  rw [e_branch_paths]
  show r_branch_paths g A _ [some v] H
  unfold r_branch_paths
  walk_at "rd"
  rename_i tt l0
  refine k_call f1 (hr.mono (by omega)) ⟨v, t, _, _, rfl, hv, ok, hd, by decide, W, ?_⟩
  clear W H
  intro r rvs H W
  have e1 := W.lenSs List.mem_cons_self
  rw [List.length_append, lvP_len] at e1
  walk_at "rd"
  refine .inr ⟨v, rfl, k_ownP W (List.mem_cons_of_mem _ hv) M hr ⟨v, _, _, rfl, List.mem_cons_of_mem _ hv, ok, hd, W, ?_⟩⟩
  clear W H
  intro H W
  refine ⟨_, rfl, by omega, ?_⟩
  walk_at "rd"
  refine k_sl_L W (W.sq (by walk_at "mem")) ?_
  clear W H
  intro r2 H W
  rw [cut_nat _ _ (by omega)] at W
  have W0 := W.ord (L' := (tt, .tup []) :: (r2, .lst (rvs.drop t.leaves)) :: (l0, .lst [.ref tt]) :: L) (by walk_at "spm9")
  have W1 := W0.frzI
  clear W W0
  refine k_add_ll W1 (by walk_at "mem") (by walk_at "mem") (sl_of (by simp; omega)) ?_
  clear W1 H
  intro r3 H W
  have W2 := W.der (F := isSs ([.ref tt] ++ rvs.drop t.leaves) ([] :: poP t [])) isSs_stab fun B b => by
    refine .cons (s := []) (b (isI tt (.tup [])) (by walk_at "mem")) ?_
    have := SsAt.drop t.leaves (b (isSs rvs (lvP t [] ++ poP t [])) (by walk_at "mem") : SsAt B _ _)
    rw [List.drop_append_of_le_length (by rw [lvP_len]; exact Nat.le_refl _), List.drop_of_length_le (i := t.leaves) (l := lvP t []) (by rw [lvP_len]; exact Nat.le_refl _)] at this
    exact this
  exact k r3 _ H ((W2.ord (by walk_at "spm9")).arr spR (fsC List.mem_cons_self (by walk_at "sub")))
def spWordAt (g : G) : Sp := fun vs H Q _ => ∃ q, ∃ ws : List Str, ∃ n : Nat, ∃ L D, vs = [.ref q, .int n] ∧ isL g.K q (ws.map V.str) ∈ D ∧ Wd L D H ∧ ∀ H', Wd L D H' → Q (.str ((ws.drop n).headD "")) H'
theorem w_word_at {g : G} {A : Around} {vs : List V} {H : Hp} {Q : VK} {E : XK} (h : spWordAt g vs H Q E) : t_word_at g A { nx := fun _ H' => Q .non H', rt := Q } (start ["words", "at"] vs) H := by
  obtain ⟨q, ws, n, L, D, rfl, hq, W, k⟩ := h
  rw [e_word_at]
  show r_word_at g A _ [some (.ref q), some (.int n)] H
  unfold r_word_at
  walk_at "rd"
  rw [List.length_map]
  refine k_ifd (fun h => ?_) (fun h => ?_)
  · walk_at "rd"
    have hn : n < ws.length := by omega
    refine k_ix_L (W.list hq) (atI_map (List.getElem?_eq_getElem hn)) ?_
    have := k H W
    rwa [List.drop_eq_getElem_cons hn] at this
  · walk_at "rd"
    have := k H W
    rwa [List.drop_eq_nil_of_le (by omega)] at this
theorem strLen (w : Str) : w.cps.toList.length = w.length := Array.length_toList
def spIsNum83 (g : G) : Sp := fun vs H Q _ => ∃ w : Str, ∃ L D, vs = [.str w] ∧ w.length ≠ 0 ∧ w.length ≤ 1000000 ∧ Wd L D H ∧ ∀ H', Wd L D H' → Q (.bl (isNumB w)) H'
theorem w_is_number83 {g : G} {A : Around} {vs : List V} {H : Hp} {Q : VK} {E : XK} (h : spIsNum83 g vs H Q E) : t_is_number_k83 g A { nx := fun _ H' => Q .non H', rt := Q } (start ["word", "sign"] vs) H := by
  obtain ⟨w, L, D, rfl, h0, hl, W, k⟩ := h
  rw [e_is_number_k83]
  show r_is_number_k83 g A _ [some (.str w), none] H
  unfold r_is_number_k83
  walk_at "rd"
  refine k_len_s (sl_of hl) ?_
  walk_at "rd"
  refine k_ifd (fun h => ?_) (fun h => ?_)
  · walk_at "rd"
    have := k H W
    rwa [show isNumB w = false from by unfold isNumB; rw [decide_eq_false (by omega)]; rfl] at this
  · walk_at "rd"
    refine k_lcM w.cps.toList (fun c => V.bl (digitB c)) walk_str W (sl_of (by rw [strLen]; omega)) (fun _ _ _ _ => trivial) ?_ ?_
    · rintro p i x H H' acc c N Z hc W ⟨rfl, c', hc', rfl⟩ hN
      rw [show w.cps[i]? = w.cps.toList[i]? from by simp, hc] at hc'
      cases hc'
      walk_at "rd"
      refine ⟨rfl, ?_⟩
      walk_at "rd"
      exact .inr (.inr ⟨c, _, rfl, rfl, hN _ W⟩)
    · clear W H
      intro p H W
      walk_at "rd"
      refine k_all (bs := w.cps.toList.map digitB) (by rw [List.map_map]; exact W.sq List.mem_cons_self) ?_
      replace W := W.dO
      have e4 : decide (w.length ≤ 4) = true := decide_eq_true (by omega)
      have ea : (w.cps.toList.map digitB).all id = w.cps.toList.all digitB := by rw [List.all_map]; rfl
      rw [ea]
      cases ha : w.cps.toList.all digitB with
      | false =>
        walk_at "rd"
        have := k H W
        rwa [show isNumB w = false from by unfold isNumB; rw [ha, Bool.false_and, Bool.and_false]] at this
      | true =>
        walk_at "rd"
        have fin : ∀ b, (decide (w = "0") || decide ((⟨#[w.cps.toList.headD 0]⟩ : Str) ≠ "0")) = b → Q (.bl b) H := fun b hb => by
          have := k H W
          rwa [show isNumB w = b from by unfold isNumB; rw [ha, e4, hb]; rfl] at this
        refine k_ifd (fun hw => ?_) (fun hw => ?_)
        · rw [decide_eq_true hw]
          exact fin true (by rw [decide_eq_true hw]; rfl)
        · walk_at "rd"
          obtain ⟨c, r, hcr⟩ : ∃ c r, w.cps.toList = c :: r := by
            cases e : w.cps.toList with
            | nil => exact absurd ((strLen w).symm.trans (congrArg List.length e)) h0
            | cons c r => exact ⟨c, r, rfl⟩
          refine .inl (.inr (.inr ⟨w, 0, c, rfl, rfl, sl_of hl, by rw [hcr]; unfold atI ixN; rw [if_pos (by decide), if_pos (by simp only [List.length_cons]; omega)]; rfl, ?_⟩))
          walk_at "rd"
          refine fin _ ?_
          rw [decide_eq_false hw, Bool.false_or, hcr]
          simp
def spIsWord83 (g : G) : Sp := fun vs H Q _ => ∃ w : Str, ∃ L D, vs = [.str w] ∧ w.length ≠ 0 ∧ w.length ≤ 1000000 ∧ Wd L D H ∧ ∀ H', Wd L D H' → Q (.bl (goodW w)) H'
structure Cst83 (g : G) : Prop extends Cst g where
  signs : ∃ a, g.mg "SIGNS" = some (.ref a) ∧ ∀ H, SqT g.K H a (signs.map V.str)
theorem w_is_word83 {g : G} {A : Around} {vs : List V} {H : Hp} {Q : VK} {E : XK} {k1 : Nat} (hr : Room k1 A) (C : Cst83 g) (f1 : GF g k1 "is_number" (spIsNum83 g)) (h : spIsWord83 g vs H Q E) : t_is_word_k83 g A { nx := fun _ H' => Q .non H', rt := Q } (start ["word"] vs) H := by
  obtain ⟨w, L, D, rfl, h0, hl, W, k⟩ := h
  rw [e_is_word_k83]
  show r_is_word_k83 g A _ [some (.str w)] H
  unfold r_is_word_k83
  obtain ⟨a1, n1, q1⟩ := C.signs
  obtain ⟨a2, n2, q2⟩ := C.manners
  walk_at "rd"
  refine k_gl (v := .ref a1) ⟨_, n1, rfl⟩ ?_
  walk_at "rd"
  refine k_in_strs (ws := signs) (.inr (q1 H)) ?_
  walk_at "rd"
  refine k_ifd (fun h => ?_) (fun h => ?_)
  · have := k H W
    rwa [show goodW w = decide (w ∈ signs) from by unfold goodW; rw [decide_eq_true h]; rfl] at this
  · walk_at "rd"
    refine k_gl (v := .ref a2) ⟨_, n2, rfl⟩ ?_
    walk_at "rd"
    refine k_in_strs (ws := manners) (.inr (q2 H)) ?_
    walk_at "rd"
    refine k_ifd (fun h2 => ?_) (fun h2 => ?_)
    · have := k H W
      rwa [show goodW w = decide (w ∈ manners) from by unfold goodW; rw [decide_eq_false h, decide_eq_true h2]; rfl] at this
    · walk_at "rd"
      refine k_call f1 hr ⟨w, L, D, rfl, h0, hl, W, fun H' W' => ?_⟩
      have := k H' W'
      rwa [show goodW w = isNumB w from by unfold goodW; rw [decide_eq_false h, decide_eq_false h2]; rfl] at this
def spHead (g : G) : Sp := fun vs H Q _ => ∃ q, ∃ ws : List Str, ∃ n : Nat, ∃ m its rest L D, vs = [.ref q, .int n, .str m] ∧ isL g.K q (ws.map V.str) ∈ D ∧ ws.drop n = List.map itW its ++ (":" : Str) :: rest ∧ (none ∈ its → m = "votes") ∧ (∀ x, some x ∈ its → 0 ≤ x ∧ x < 60) ∧ its.length ≤ 900000 ∧ Wd L D H ∧
  ∀ a rl vR p H', Wd ((a, .tup [.ref rl, .int ((n + its.length + 1 : Nat) : Int)]) :: (rl, .lst (vR ++ [.ref p])) :: L) (isSs vR (rowsG ([], []) its).1 :: isT g.K p ((rowsG ([], []) its).2.map V.int) :: isI p (.tup ((rowsG ([], []) its).2.map V.int)) :: D) H' → Q (.ref a) H'
theorem drop_at {ws : List Str} {n i : Nat} {its : List (Option Int)} {rest : List Str} (h : ws.drop n = List.map itW its ++ (":" : Str) :: rest) (hi : i < its.length) : (ws.drop (n + i)).headD "" = itW its[i] := by
  rw [← List.drop_drop, h, List.drop_append_of_le_length (by rw [List.length_map]; omega), ← List.map_drop, List.drop_eq_getElem_cons hi]
  rfl
theorem drop_end {ws : List Str} {n : Nat} {its : List (Option Int)} {rest : List Str} (h : ws.drop n = List.map itW its ++ (":" : Str) :: rest) : (ws.drop (n + its.length)).headD "" = ":" := by
  rw [← List.drop_drop, h, List.drop_left' (by rw [List.length_map])]
  rfl
theorem itW_ne {its : List (Option Int)} (hx : ∀ x, some x ∈ its → 0 ≤ x ∧ x < 60) : ∀ o ∈ its, itW o ≠ ":" := by
  intro o ho
  cases o with
  | none => decide +kernel
  | some x => exact (numW (hx x ho).1 (hx x ho).2).ne1
theorem rowsG_len : ∀ (l : List (Option Int)) (R : List (List Int)) (r : List Int), (rowsG (R, r) l).1.length ≤ R.length + l.length ∧ (rowsG (R, r) l).2.length ≤ r.length + l.length
  | [], _, _ => ⟨by simp [rowsG], by simp [rowsG]⟩
  | none :: l, R, r => by
    have := rowsG_len l (R ++ [r]) []
    simp only [rowsG, List.length_append, List.length_cons, List.length_nil] at this ⊢
    omega
  | some x :: l, R, r => by
    have := rowsG_len l R (r ++ [x])
    simp only [rowsG, List.length_append, List.length_cons, List.length_nil] at this ⊢
    omega
theorem ixN_last {n : Nat} {k : Int} (h : k = n) : ixN (n + 1) k = some n := by
  subst h
  unfold ixN
  rw [if_pos (by omega), if_pos (by omega)]
  simp
def headInv (g : G) (q : Addr) (n : Nat) (m : Str) (its : List (Option Int)) (L : Ow) (D : List Fct) (i : Nat) (σ : L2.St) (H : Hp) : Prop := i ≤ its.length ∧ ∃ rl vR p x, σ = [some (.ref q), some (.int ((n + i : Nat) : Int)), some (.str m), some (.ref rl), x] ∧
  Wd ((rl, .lst (vR ++ [.ref p])) :: L) (isSs vR (rowsG ([], []) (its.take i)).1 :: isT g.K p ((rowsG ([], []) (its.take i)).2.map V.int) :: isI p (.tup ((rowsG ([], []) (its.take i)).2.map V.int)) :: D) H
theorem w_read_head {g : G} {A : Around} {vs : List V} {H : Hp} {Q : VK} {E : XK} {k1 : Nat} (hr : Room k1 A) (f1 : GF g k1 "word_at" (spWordAt g)) (f2 : GF g k1 "is_number" (spIsNum83 g)) (h : spHead g vs H Q E) : t_read_head g A { nx := fun _ H' => Q .non H', rt := Q } (start ["words", "at", "manner", "rows", "word"] vs) H := by
  obtain ⟨q, ws, n, m, its, rest, L, D, rfl, hq, hd, hv, hx, hl, W, k⟩ := h
  rw [e_read_head]
  show r_read_head g A _ [some (.ref q), some (.int n), some (.str m), none, none] H
  unfold r_read_head
  walk_at "rd"
  rename_i t0 rl
  have W1 := W.ord (L' := (t0, .tup []) :: (rl, .lst [.ref t0]) :: L) (by walk_at "spm")
  have W2 := W1.frzI
  have W3 := W2.der (F := isT g.K t0 []) isT_stab fun B b => SqT.of (b (isI t0 (.tup [])) List.mem_cons_self)
  have W4 := W3.der (F := isSs [] []) isSs_stab fun _ _ => .nil
  clear W W1 W2 W3
  refine ⟨fun j σ H => ∃ i, i + j = its.length ∧ headInv g q n m its L D i σ H, ⟨its.length, 0, by omega, by omega, rl, [], t0, none, rfl, W4.arr spR (fsC List.mem_cons_self (fsC (by walk_at "mem") (fsC (by walk_at "mem") (by walk_at "sub"))))⟩, ?_⟩
  clear W4 H
  rintro j σ H ⟨i, hij, hi, rl, vR, p, x, rfl, W⟩
  walk_at "rd"
  refine k_call f1 hr ⟨q, ws, n + i, _, _, rfl, by walk_at "mem", W, ?_⟩
  clear W H
  intro H W
  walk_at "rd"
  refine k_wh (fun hb => ?_) (fun hb => ?_)
  · have hi' : i < its.length := by
      rcases Nat.lt_or_ge i its.length with h | h
      · exact h
      · have : i = its.length := by omega
        rw [this, drop_end hd] at hb
        simp at hb
    have hw := drop_at hd hi'
    have hgo : rowsG ([], []) (its.take (i + 1)) = rowsG (rowsG ([], []) (its.take i)) [its[i]] := by
      rw [← rowsG_app, List.take_append_getElem]
    walk_at "rd"
    refine k_call f1 hr ⟨q, ws, n + i, _, _, rfl, by walk_at "mem", W, ?_⟩
    clear W H
    intro H W
    rw [hw]
    walk_at "rd"
    have hmem := List.getElem_mem hi'
    revert hgo hmem W
    obtain ⟨o, ho⟩ : ∃ o, its[i] = o := ⟨_, rfl⟩
    obtain ⟨⟨R, r⟩, hR⟩ : ∃ s, rowsG ([], []) (its.take i) = s := ⟨_, rfl⟩
    rw [ho, hR]
    intro hgo W hmem
    simp only at W
    have lR := W.lenSs List.mem_cons_self
    have lR2 : R.length ≤ i ∧ r.length ≤ i := by
      have := rowsG_len (its.take i) [] []
      rw [hR, List.length_take] at this
      simp at this
      omega
    refine k_cut (fun σ H => ∃ vR p w, σ = [some (.ref q), some (.int ((n + i : Nat) : Int)), some (.str m), some (.ref rl), some w] ∧ Wd ((rl, .lst (vR ++ [.ref p])) :: L) (isSs vR (rowsG ([], []) (its.take (i + 1))).1 :: isT g.K p ((rowsG ([], []) (its.take (i + 1))).2.map V.int) :: isI p (.tup ((rowsG ([], []) (its.take (i + 1))).2.map V.int)) :: D) H) ?_ ?_
    · rw [hgo]
      cases o with
      | none =>
        have hm := hv hmem
        subst hm
        rw [show itW none = "|" from rfl]
        walk_at "rd"
        rename_i z
        have W1 := W.ord (L' := (rl, .lst (vR ++ [.ref p])) :: (z, .tup []) :: L) (by walk_at "spm")
        refine k_app W1 (sl_lt (by simp; omega)) ?_
        clear W W1 H
        intro H W
        have W1 := W.mv1.frzI
        have W2 := W1.der (F := isT g.K z []) isT_stab fun B b => SqT.of (b (isI z (.tup [])) List.mem_cons_self)
        have W3 := W2.der (F := isSs (vR ++ [.ref p]) (R ++ [r])) isSs_stab fun B b => SsAt.app (b (isSs vR R) (by walk_at "mem")) (.cons (b (isI p (.tup (r.map V.int))) (by walk_at "mem")) .nil)
        exact ⟨vR ++ [.ref p], z, _, rfl, W3.arr spR (fsC List.mem_cons_self (fsC (by walk_at "mem") (fsC (by walk_at "mem") (by walk_at "sub"))))⟩
      | some x =>
        have hxx := hx x hmem
        have nw := numW hxx.1 hxx.2
        rw [show itW (some x) = toS x from rfl]
        walk_at "rd"
        refine k_ifn nw.ne2 ?_
        walk_at "rd"
        refine k_tru_s (sl_of (by have := nw.len; omega)) ?_
        rw [show (((toS x).length : Int) != 0) = true from by have := nw.ne0; simp; omega]
        walk_at "rd"
        refine k_call f2 hr ⟨toS x, _, _, rfl, nw.ne0, by have := nw.len; omega, W, ?_⟩
        clear W H
        intro H W
        rw [nw.num]
        walk_at "rd"
        refine k_get_l W (by walk_at "mem") (v := .ref p) (by
          unfold atI
          rw [List.length_append, List.length_singleton, ixN_last (n := vR.length) (by simp)]
          simp) ?_
        walk_at "rd"
        refine .inr ⟨toS x, x, rfl, nw.val, by have := nw.len; omega, ?_⟩
        walk_at "rd"
        rename_i z
        refine k_ipcat W (show isT g.K p (r.map V.int) ∈ _ by walk_at "mem") (W.st List.mem_cons_self) (by simp) (sl_of (by simp; omega)) (fun e => ?_) ?_
        · have er : r = [] := by simpa using e
          have W1 := W.frzI
          have W2 := W1.der (F := isT g.K z [.int x]) isT_stab fun B b => SqT.of (b (isI z (.tup [.int x])) List.mem_cons_self)
          refine k_set_l W2 (n := vR.length) (by rw [List.length_append, List.length_singleton, ixN_last (by simp)]) ?_
          clear W W1 W2
          intro H W
          rw [show (vR ++ [V.ref p]).set vR.length (.ref z) = vR ++ [.ref z] from by simp] at W
          subst er
          exact ⟨vR, z, _, rfl, W.arr spR (fsC (show isSs vR R ∈ _ by walk_at "mem") (fsC (show isT g.K z [.int x] ∈ _ by walk_at "mem") (fsC (show isI z (.tup [.int x]) ∈ _ by walk_at "mem") (by walk_at "sub"))))⟩
        · clear W H
          intro z2 H W
          have W1 := W.frzI
          have W2 := W1.der (F := isT g.K z2 (r.map V.int ++ [V.int x])) isT_stab fun B b => SqT.of (b (isI z2 (.tup (r.map V.int ++ [V.int x]))) List.mem_cons_self)
          have W3 := W2.dO
          refine k_set_l W3 (n := vR.length) (by rw [List.length_append, List.length_singleton, ixN_last (by simp)]) ?_
          clear W W1 W2 W3
          intro H W
          rw [show (vR ++ [V.ref p]).set vR.length (.ref z2) = vR ++ [.ref z2] from by simp, show r.map V.int ++ [V.int x] = (r ++ [x]).map V.int from by simp] at W
          exact ⟨vR, z2, _, rfl, W.arr spR (fsC (show isSs vR R ∈ _ by walk_at "mem") (fsC (show isT g.K z2 ((r ++ [x]).map V.int) ∈ _ by walk_at "mem") (fsC (show isI z2 (.tup ((r ++ [x]).map V.int)) ∈ _ by walk_at "mem") (by walk_at "sub"))))⟩
    · clear W H
      rintro σ H ⟨vR, p, w, rfl, W⟩
      walk_at "rd"
      refine .inl (k_ipadd ?_)
      walk_at "rd"
      exact ⟨j - 1, by omega, i + 1, by omega, by omega, rl, vR, p, _, by rw [show (((n + (i + 1) : Nat)) : Int) = ((n + i : Nat) : Int) + 1 from by omega], W⟩
  · have hi' : i = its.length := by
      rcases Nat.lt_or_ge i its.length with h | h
      · rw [drop_at hd h] at hb
        have := itW_ne hx _ (List.getElem_mem h)
        simp [this] at hb
      · omega
    subst hi'
    rw [List.take_length] at W
    walk_at "rd"
    rename_i tp
    have := k tp rl vR p H
    rw [show ((n + its.length + 1 : Nat) : Int) = ((n + its.length : Nat) : Int) + 1 from by omega] at this
    exact this W
def spBranch83 (g : G) (CL CB : Addr) (d : Nat) : Sp := fun vs H Q _ => ∃ q, ∃ ws : List Str, ∃ n e : Nat, ∃ t rest L D, vs = [.ref q, .int n, .int e] ∧ isL g.K q (ws.map V.str) ∈ D ∧ ws.drop n = Pn.words t ++ rest ∧ t.isBr = true ∧ t.ok ∧ t.deep ≤ d ∧ e + t.deep ≤ 6 ∧ Wd L D H ∧
  ∀ a p H', Wd ((a, .tup [p, .int ((n + t.words.length : Nat) : Int)]) :: L) (isP g.K CL CB p t :: D) H' → Q (.ref a) H'
def spParts83 (g : G) (CL CB : Addr) (d : Nat) : Sp := fun vs H Q _ => ∃ q, ∃ ws : List Str, ∃ n e : Nat, ∃ ps rest L D, vs = [.ref q, .int n, .int e] ∧ isL g.K q (ws.map V.str) ∈ D ∧ ws.drop n = wordsL ps ++ ("]" : Str) :: rest ∧ okL ps ∧ deepL ps ≤ d ∧ e + deepL ps ≤ 6 ∧ ps.length ≤ 1000 ∧ Wd L D H ∧
  ∀ a pl pvs H', Wd ((a, .tup [.ref pl, .int ((n + (wordsL ps).length + 1 : Nat) : Int)]) :: (pl, .lst pvs) :: L) (isPs g.K CL CB pvs ps :: D) H' → Q (.ref a) H'
theorem parts_split : ∀ {ps : List Pn} {i : Nat} (hi : i < ps.length), wordsL ps = wordsL (ps.take i) ++ (ps[i].words ++ wordsL (ps.drop (i + 1))) := by
  intro ps i hi
  rw [wordsL_eq, wordsL_eq, wordsL_eq]
  conv => lhs; rw [← List.take_append_drop i ps, List.flatMap_append, List.drop_eq_getElem_cons hi, List.flatMap_cons]
def firstW (t : Pn) : Str := if t.isBr then "[" else "o"
theorem words_first : ∀ (t : Pn), ∃ r, t.words = firstW t :: r
  | .leaf => ⟨[], rfl⟩
  | .br m ab ss ps => ⟨_, words_br m ab ss ps⟩
def partsInv (g : G) (CL CB q : Addr) (n e : Nat) (ps : List Pn) (L : Ow) (D : List Fct) (i : Nat) (σ : L2.St) (H : Hp) : Prop := i ≤ ps.length ∧ ∃ pl pvs x, σ = [some (.ref q), some (.int ((n + (wordsL (ps.take i)).length : Nat) : Int)), some (.int e), some (.ref pl), x] ∧ pvs.length = i ∧
  Wd ((pl, .lst pvs) :: L) (isPs g.K CL CB pvs (ps.take i) :: D) H
theorem w_read_parts {g : G} {CL CB : Addr} {A : Around} {vs : List V} {H : Hp} {Q : VK} {E : XK} {k1 : Nat} {d : Nat} (hr : Room k1 A) (C : Cls2 g CL CB) (M : Mk0 g.K CL) (f1 : GF g k1 "word_at" (spWordAt g)) (f2 : GF g k1 "read_branch" (spBranch83 g CL CB d)) (h : spParts83 g CL CB d vs H Q E) :
    t_read_parts g A { nx := fun _ H' => Q .non H', rt := Q } (start ["words", "at", "depth", "parts", "part"] vs) H := by
  obtain ⟨q, ws, n, e, ps, rest, L, D, rfl, hq, hd, ok, dd, de, hl, W, k⟩ := h
  have at_i : ∀ i (hi : i < ps.length), ws.drop (n + (wordsL (ps.take i)).length) = ps[i].words ++ (wordsL (ps.drop (i + 1)) ++ ("]" : Str) :: rest) := fun i hi => by
    rw [← List.drop_drop, hd, parts_split hi, List.append_assoc, List.drop_left' rfl, List.append_assoc]
  have at_w : ∀ i (hi : i < ps.length), (ws.drop (n + (wordsL (ps.take i)).length)).headD "" = firstW ps[i] := fun i hi => by
    obtain ⟨r, hr⟩ := words_first ps[i]
    rw [at_i i hi, hr]
    rfl
  have at_e : (ws.drop (n + (wordsL ps).length)).headD "" = "]" := by
    rw [← List.drop_drop, hd, List.drop_left' rfl]
    rfl
  rw [e_read_parts]
  show r_read_parts g A _ [some (.ref q), some (.int n), some (.int e), none, none] H
  unfold r_read_parts
  walk_at "rd"
  rename_i pl
  refine ⟨fun j σ H => ∃ i, i + j = ps.length ∧ partsInv g CL CB q n e ps L D i σ H, ⟨ps.length, 0, by omega, by omega, pl, [], none, rfl, rfl, W.der (F := isPs g.K CL CB [] []) isPs_stab fun _ _ => .nil⟩, ?_⟩
  clear W H
  rintro j σ H ⟨i, hij, hi, pl, pvs, x, rfl, lp, W⟩
  walk_at "rd"
  refine k_call f1 hr ⟨q, ws, _, _, _, rfl, by walk_at "mem", W, ?_⟩
  clear W H
  intro H W
  walk_at "rd"
  refine k_wh (fun hb => ?_) (fun hb => ?_)
  · have hi' : i < ps.length := by
      rcases Nat.lt_or_ge i ps.length with h | h
      · exact h
      · have : i = ps.length := by omega
        subst this
        rw [List.take_length, at_e] at hb
        simp at hb
    have hti : ps.take (i + 1) = ps.take i ++ [ps[i]] := (List.take_append_getElem hi').symm
    have hwl : (wordsL (ps.take (i + 1))).length = (wordsL (ps.take i)).length + ps[i].words.length := by
      rw [hti, wordsL_app]
      simp [wordsL]
    have okt := okL_iff.mp ok ps[i] (List.getElem_mem hi')
    have ddt := deepL_le.mp (Nat.le_refl _) ps[i] (List.getElem_mem hi')
    walk_at "rd"
    refine k_call f1 hr ⟨q, ws, _, _, _, rfl, by walk_at "mem", W, ?_⟩
    clear W H
    intro H W
    rw [at_w i hi']
    have ai := at_i i hi'
    have nx : ∀ (v : V) (x : Option V) (H' : Hp), Wd ((pl, .lst (pvs ++ [v])) :: L) (isP g.K CL CB v ps[i] :: isPs g.K CL CB pvs (ps.take i) :: D) H' → ∃ m', m' < j ∧ ∃ i', i' + m' = ps.length ∧ partsInv g CL CB q n e ps L D i' [some (.ref q), some (.int ((n + (wordsL (ps.take i)).length + ps[i].words.length : Nat) : Int)), some (.int e), some (.ref pl), x] H' := by
      intro v x H' W
      refine ⟨j - 1, by omega, i + 1, by omega, by omega, pl, pvs ++ [v], x, by rw [hwl]; simp only [Nat.add_assoc], by simp [lp], ?_⟩
      have W2 := W.der (F := isPs g.K CL CB (pvs ++ [v]) (ps.take (i + 1))) isPs_stab fun B b => by
        rw [hti]
        exact PlsAt.app (b (isPs g.K CL CB pvs (ps.take i)) (by walk_at "mem")) (.cons (b (isP g.K CL CB v ps[i]) (by walk_at "mem")) .nil)
      exact W2.arr spR (fsC List.mem_cons_self (by walk_at "sub"))
    clear hti hwl
    revert okt ddt ai nx
    generalize ps[i] = t
    intro okt ddt ai nx
    cases t with
    | leaf =>
      rw [show firstW .leaf = "o" from rfl]
      walk_at "rd"
      refine k_leaf C M W ?_
      clear W H
      intro p H W
      walk_at "rd"
      refine k_app W (sl_lt (by omega)) ?_
      clear W H
      intro H W
      walk_at "rd"
      have := nx (.ref p) x H W
      rw [show (Pn.leaf.words).length = 1 from rfl] at this
      simpa using this
    | br m ab ss ps' =>
      rw [show firstW (.br m ab ss ps') = "[" from rfl]
      walk_at "rd"
      refine k_call f2 hr ⟨q, ws, _, e, _, _, _, _, rfl, by walk_at "mem", ai, rfl, okt, by omega, by omega, W, ?_⟩
      clear W H
      intro a p H W
      walk_at "rd"
      refine k_app W.dO (sl_lt (by omega)) ?_
      clear W H
      intro H W
      exact nx p (some p) H W
  · have hi' : i = ps.length := by
      rcases Nat.lt_or_ge i ps.length with h | h
      · rw [at_w i h] at hb
        have : firstW ps[i] ≠ "]" := by
          unfold firstW
          split
          · decide +kernel
          · decide +kernel
        simp [this] at hb
      · omega
    subst hi'
    rw [List.take_length] at W ⊢
    walk_at "rd"
    rename_i tp
    have := k tp pl pvs H
    rw [show ((n + (wordsL ps).length + 1 : Nat) : Int) = ((n + (wordsL ps).length : Nat) : Int) + 1 from by omega] at this
    exact this W
theorem its_words {ab : List Int} {ss : List (List Int)} : (ab.map some ++ itemsS ss).map itW = ab.map toS ++ setWs ss := by
  rw [List.map_append, items_words, List.map_map]
  rfl
theorem its_len {ab : List Int} {ss : List (List Int)} : (ab.map some ++ itemsS ss).length = ab.length + (setWs ss).length := by
  have := congrArg List.length (items_words (ss := ss))
  rw [List.length_map] at this
  rw [List.length_append, List.length_map, this]
theorem some_its {x : Int} {ss : List (List Int)} (h : some x ∈ itemsS ss) : ∃ s ∈ ss, x ∈ s := by
  cases ss with
  | nil => cases h
  | cons s r =>
    rcases List.mem_append.mp h with h | h
    · obtain ⟨y, hy, e⟩ := List.mem_map.mp h
      cases e
      exact ⟨s, List.mem_cons_self, hy⟩
    · obtain ⟨t, ht, h⟩ := List.mem_flatMap.mp h
      rcases List.mem_cons.mp h with h | h
      · cases h
      · obtain ⟨y, hy, e⟩ := List.mem_map.mp h
        cases e
        exact ⟨t, List.mem_cons_of_mem _ ht, hy⟩
theorem its_bd {m : Str} {ab : List Int} {ss : List (List Int)} {ps : List Pn} (F : Fits m ab ss ps) : ∀ x, some x ∈ ab.map some ++ itemsS ss → 0 ≤ x ∧ x < 60 := by
  intro x hx
  rcases List.mem_append.mp hx with hx | hx
  · obtain ⟨y, hy, e⟩ := List.mem_map.mp hx
    simp only [Option.some.injEq] at e
    subst e
    exact F.abd.2 _ hy
  · obtain ⟨s, hs, hx⟩ := some_its hx
    have := (F.fam.2.ok s hs).bd x hx
    have := F.len
    omega
theorem its_none {m : Str} {ab : List Int} {ss : List (List Int)} {ps : List Pn} (F : Fits m ab ss ps) (h : none ∈ ab.map some ++ itemsS ss) : m = "votes" := by
  have hf := F.hf
  unfold famOk at hf
  split at hf
  · assumption
  · subst hf
    rcases List.mem_append.mp h with h | h
    · simp at h
    · cases h
theorem w_read_branch {g : G} {CL CB : Addr} {A : Around} {vs : List V} {H : Hp} {Q : VK} {E : XK} {k1 : Nat} {d : Nat} (hr : Room (k1 + 1) A) (C : Cls2 g CL CB) (c : Cst g) (Mas : IK g k1 CB 2 ["above", "sets"] (spBrInit g CL CB)) (f1 : GF g k1 "word_at" (spWordAt g)) (f2 : GF g k1 "read_head" (spHead g)) (f3 : GF g k1 "read_parts" (spParts83 g CL CB d)) (h : spBranch83 g CL CB (d + 1) vs H Q E) :
    t_read_branch g A { nx := fun _ H' => Q .non H', rt := Q } (start ["words", "at", "depth", "manner", "rows", "place", "parts", "above", "sets", "refused"] vs) H := by
  obtain ⟨q, ws, n, e, t, rest, L, D, rfl, hq, hd, hbr, ok, dd, de, W, k⟩ := h
  have hr1 : Room k1 A := hr.mono (by omega)
  obtain ⟨m, ab, ss, ps, rfl⟩ : ∃ m ab ss ps, t = .br m ab ss ps := by
    cases t with
    | leaf => cases hbr
    | br m ab ss ps => exact ⟨m, ab, ss, ps, rfl⟩
  obtain ⟨F, okl⟩ := ok
  simp only [Pn.deep] at dd de
  have fl := F.len
  have hwl : (Pn.br m ab ss ps).words.length = 2 + (ab.map some ++ itemsS ss).length + 1 + (wordsL ps).length + 1 := by
    rw [words_br, its_len]
    simp
    omega
  rw [words_br] at hd
  have d0 : (ws.drop n).headD "" = "[" := by rw [hd]; rfl
  have d1 : (ws.drop (n + 1)).headD "" = m := by rw [← List.drop_drop, hd]; rfl
  have d2 : ws.drop (n + 2) = (ab.map some ++ itemsS ss).map itW ++ (":" : Str) :: (wordsL ps ++ ("]" : Str) :: rest) := by
    rw [← List.drop_drop, hd, its_words]
    simp
  have d3 : ws.drop (n + 2 + (ab.map some ++ itemsS ss).length + 1) = wordsL ps ++ ("]" : Str) :: rest := by
    rw [Nat.add_assoc, ← List.drop_drop, d2, ← List.drop_drop, List.drop_left' (by rw [List.length_map])]
    rfl
  rw [e_read_branch]
  show r_read_branch g A _ [some (.ref q), some (.int n), some (.int e), none, none, none, none, none, none, none] H
  unfold r_read_branch
  obtain ⟨a2, n2, q2⟩ := c.manners
  walk_at "rd"
  refine k_call f1 hr1 ⟨q, ws, n, _, _, rfl, hq, W, ?_⟩
  clear W H
  intro H W
  rw [d0]
  walk_at "rd"
  refine k_gl c.deepest ?_
  walk_at "rd"
  refine k_ifn (by omega) ?_
  walk_at "rd"
  refine k_call f1 hr1 ⟨q, ws, n + 1, _, _, rfl, hq, W, ?_⟩
  clear W H
  intro H W
  rw [d1]
  walk_at "rd"
  refine k_gl (v := .ref a2) ⟨_, n2, rfl⟩ ?_
  refine k_notIn_strs (ws := manners) (.inr (q2 H)) ?_
  rw [decide_eq_true F.hm]
  walk_at "rd"
  refine k_call f2 hr1 ⟨q, ws, n + 2, m, ab.map some ++ itemsS ss, _, _, _, rfl, hq, d2, its_none F, its_bd F, by rw [its_len]; have := F.abd.1; have := F.sets_len; omega, W, ?_⟩
  clear W H
  intro a1 rl vR p H W
  walk_at "rd"
  replace W := W.dO
  refine k_call f3 hr1 ⟨q, ws, n + 2 + (ab.map some ++ itemsS ss).length + 1, e + 1, ps, rest, _, _, rfl, by walk_at "mem", d3, okl, by omega, by omega, by omega, W, ?_⟩
  clear W H
  intro a3 pl pvs H W
  walk_at "rd"
  replace W := W.dO
  have hpl : ((n + (Pn.br m ab ss ps).words.length : Nat) : Int) = ((n + 2 + (ab.map some ++ itemsS ss).length + 1 + (wordsL ps).length + 1 : Nat) : Int) := by rw [hwl]; omega
  rw [hpl] at k
  clear hpl hwl d0 d1 d2 d3 hd
  revert k
  generalize ((n + 2 + (ab.map some ++ itemsS ss).length + 1 + (wordsL ps).length + 1 : Nat) : Int) = pl9
  intro k
  obtain ⟨⟨R, r⟩, hR⟩ : ∃ s, rowsG ([], []) (ab.map some ++ itemsS ss) = s := ⟨_, rfl⟩
  rw [hR] at W
  simp only at W
  have lR := W.lenSs (vs := vR) (ss := R) (by walk_at "mem")
  obtain ⟨v0, vr, hrows⟩ : ∃ v0 vr, vR ++ [V.ref p] = v0 :: vr := by
    cases vR with
    | nil => exact ⟨_, _, rfl⟩
    | cons a b => exact ⟨_, _, rfl⟩
  refine k_ix_l W (p := rl) (xs := vR ++ [V.ref p]) (by walk_at "mem") (by rw [hrows]; exact at0) ?_
  walk_at "rd"
  rename_i z1
  have W1 := W.frzI
  have W2 := W1.der (F := isT g.K z1 []) isT_stab fun B b => SqT.of (b (isI z1 (.tup [])) List.mem_cons_self)
  have W3 := W2.der (F := isSs [] []) isSs_stab fun _ _ => .nil
  replace W := W3
  clear W1 W2 W3
  refine k_cut (fun σ H => ∃ au sa svs, σ = [some (.ref q), some (.int n), some (.int e), some (.str m), some (.ref rl), some (.int pl9), some (.ref pl), some (.ref au), some (.ref sa), none] ∧ Wd ((pl, .lst pvs) :: L) (isT g.K au (ab.map V.int) :: isT g.K sa svs :: isSs svs ss :: isPs g.K CL CB pvs ps :: D) H) ?_ ?_
  · walk_at "rd"
    have hf := F.hf
    have ha := F.ha
    unfold famOk at hf
    unfold aboveOk at ha
    refine k_ifd (fun hm => ?_) (fun hm => ?_)
    · subst hm
      rw [if_pos rfl] at hf
      rw [if_neg (by decide +kernel)] at ha
      subst ha
      have hss : R ++ [r] = ss := by
        cases ss with
        | nil => exact absurd rfl hf.1
        | cons s rest =>
          have := rowsG_sets (s := s) (rest := rest)
          rw [show itemsS (s :: rest) = ([] : List Int).map some ++ itemsS (s :: rest) from rfl, hR] at this
          exact this
      walk_at "rd"
      rename_i z2
      have W1 := W.frzI
      have W2 := W1.der (F := isT g.K z2 []) isT_stab fun B b => SqT.of (b (isI z2 (.tup [])) List.mem_cons_self)
      have W3 := W2.der (F := isSs (vR ++ [.ref p]) ss) isSs_stab fun B b => by
        rw [← hss]
        exact SsAt.app (b (isSs vR R) (by walk_at "mem")) (.cons (b (isI p (.tup (r.map V.int))) (by walk_at "mem")) .nil)
      refine k_tuple_B (b := true) W3 (.inl (show (rl, HO.lst (vR ++ [V.ref p])) ∈ _ by walk_at "mem")) ?_
      clear W W1 W2 W3 H
      intro z3 H W
      walk_at "rd"
      exact ⟨z2, z3, _, rfl, (W.ord (by walk_at "spm")).arr spR (fsC (show isT g.K z2 [] ∈ _ by walk_at "mem") (fsC (show isT g.K z3 (vR ++ [V.ref p]) ∈ _ by walk_at "mem") (fsC (by walk_at "mem") (fsC (by walk_at "mem") (by walk_at "sub")))))⟩
    · rw [if_neg hm] at hf
      subst hf
      have hab : (R, r) = (([] : List (List Int)), ab) := by
        rw [← hR, show ab.map some ++ itemsS [] = ab.map some from List.append_nil _, rowsG_some]
        rfl
      cases hab
      have : vR = [] := List.length_eq_zero_iff.mp lR
      subst this
      cases hrows
      walk_at "rd"
      exact ⟨p, z1, [], rfl, (W.ord (by walk_at "spm")).arr spR (fsC (by walk_at "mem") (fsC (by walk_at "mem") (fsC (by walk_at "mem") (fsC (by walk_at "mem") (by walk_at "sub")))))⟩
  · clear W H
    rintro σ H ⟨au, sa, svs, rfl, W⟩
    walk_at "rd"
    refine k_makeK C.nB Mas hr rfl rfl W ?_
    clear W H
    intro x dx H W
    refine ⟨x, dx, m, pl, true, pvs, ps, au, false, ab, sa, false, svs, ss, (pl, .lst pvs) :: L, _, rfl, .inl (by walk_at "mem"), by walk_at "mem", show isT g.K au (ab.map V.int) ∈ _ by walk_at "mem", show isT g.K sa svs ∈ _ by walk_at "mem", by walk_at "mem", F, okl, W.mv1.dO, ?_⟩
    clear W H
    intro H W
    refine ⟨rfl, ?_⟩
    walk_at "rd"
    rename_i tp
    exact k tp (.ref x) H ((W.ord (by walk_at "spm")).arr spR (fsC List.mem_cons_self (by walk_at "sub")))
def spPlan83 (g : G) (CL CB : Addr) : Sp := fun vs H Q _ => ∃ tx t L D, vs = [.str tx] ∧ Txt.words tx = Pn.words t ∧ tx.length + 2 ≤ sizeLine ∧ t.isBr = true ∧ t.ok ∧ t.deep ≤ 6 ∧ Wd L D H ∧ ∀ p H', Wd L (isP g.K CL CB p t :: D) H' → Q p H'
theorem w_read_plan83 {g : G} {CL CB : Addr} {A : Around} {vs : List V} {H : Hp} {Q : VK} {E : XK} {k1 : Nat} (hr : Room k1 A) (f1 : GF g k1 "is_word" (spIsWord83 g)) (f2 : GF g k1 "read_branch" (spBranch83 g CL CB 6)) (h : spPlan83 g CL CB vs H Q E) :
    t_read_plan g A { nx := fun _ H' => Q .non H', rt := Q } (start ["text", "words", "at", "word", "plan"] vs) H := by
  obtain ⟨tx, t, L, D, rfl, hw, hl, hbr, ok, hd, W, k⟩ := h
  have good := words_good ok
  have small := words_small ok
  have hmax := words_max ok
  rw [e_read_plan]
  show r_read_plan g A _ [some (.str tx), none, none, none, none] H
  unfold r_read_plan
  walk_at "rd"
  refine ⟨rfl, ?_⟩
  refine k_split0 W hl ?_
  rw [hw]
  clear W H
  intro q H W
  have W1 := W.frzS (K := g.K)
  replace W := W1
  clear W1
  have hq : isL g.K q (t.words.map V.str) ∈ isL g.K q (t.words.map V.str) :: isD g.K (.ref q) (.list (t.words.map PyData.str)) :: D := List.mem_cons_self
  walk_at "rd"
  refine k_enum_L (W.list hq) ?_
  refine k_for walk_enum (fun i σ H => (∃ x y, σ = [some (.str tx), some (.ref q), x, y, none]) ∧ Wd L (isL g.K q (t.words.map V.str) :: isD g.K (.ref q) (.list (t.words.map PyData.str)) :: D) H)
    ⟨⟨_, _, rfl⟩, W⟩ (fun i σ H _ h => h.2.list hq) ?_ ?_
  · clear W H
    rintro i x σ H H' hi ⟨⟨x3, x4, rfl⟩, W⟩ ⟨T, y, z, rfl, hT, rfl, ey, ez⟩
    cases ey
    replace ez : (t.words.map V.str)[i]? = some z := ez
    rw [List.getElem?_map] at ez
    obtain ⟨w, hwi, rfl⟩ := Option.map_eq_some_iff.mp ez
    have hm := List.mem_of_getElem? hwi
    have W2 := W.new hT (.tup [.int (i : Nat), .str w])
    clear W hT
    have W := W2
    clear W2
    walk_at "rd"
    refine k_call f1 hr ⟨w, _, _, rfl, fun e => (solid_of (good w hm).1).1 ((TL.len0_tl w).mp e), by have := (small w hm).1; omega, W, ?_⟩
    clear W
    intro H W
    rw [(good w hm).2]
    walk_at "rd"
    exact ⟨⟨_, _, rfl⟩, W.dO⟩
  · clear W H
    rintro σ H ⟨⟨x3, x4, rfl⟩, W⟩
    walk_at "rd"
    refine k_call f2 hr ⟨q, t.words, 0, 0, t, [], _, _, rfl, hq, by simp, hbr, ok, hd, by omega, W, ?_⟩
    clear W H
    intro a p H W
    walk_at "rd"
    rw [List.length_map]
    refine k_ifn (by omega) ?_
    walk_at "rd"
    exact k p H (W.dO.arr spR (fsC List.mem_cons_self (by walk_at "sub")))
def spGap (g : G) : Sp := fun vs H Q _ => ∃ bx cl cells b1 b2 b3, ∃ n : Nat, ∃ L D, vs = [.ref bx, .int n] ∧ n ≤ 1 ∧ BxOk cells b1 b2 b3 b2 ∧ b2 < 2 ^ 59 ∧ Wd ((bx, bxO cl b1 b2 b3) :: (cl, clO cells) :: L) D H ∧
  ∀ tx cells b1 b2' b3 H', Blank (TL.tl tx) → n ≤ tx.length → tx.length ≤ 3 → BxOk cells b1 b2' b3 b2' → b2' ≤ b2 + 4 → Wd ((bx, bxO cl b1 b2' b3) :: (cl, clO cells) :: L) D H' → Q (.str tx) H'
theorem blank_at {r : Int} (h0 : 0 ≤ r) (h1 : r < 3) : ∃ s : Str, atI [V.str " ", .str " ", .str "\n"] r = some (.str s) ∧ Blank (TL.tl s) ∧ s.length = 1 := by
  have : r = 0 ∨ r = 1 ∨ r = 2 := by omega
  rcases this with rfl | rfl | rfl
  · exact ⟨" ", rfl, by unfold Blank; decide +kernel, by decide +kernel⟩
  · exact ⟨" ", rfl, by unfold Blank; decide +kernel, by decide +kernel⟩
  · exact ⟨"\n", rfl, by unfold Blank; decide +kernel, by decide +kernel⟩
theorem w_gap {g : G} {A : Around} {vs : List V} {H : Hp} {Q : VK} {E : XK} {k1 : Nat} (hr : Room k1 A) (f1 : GF g k1 "_law_pick" spPick) (h : spGap g vs H Q E) :
    t_law_gap g A { nx := fun _ H' => Q .non H', rt := Q } (start ["box", "least", "text", "k"] vs) H := by
  obtain ⟨bx, cl, cells, b1, b2, b3, n, L, D, rfl, hn, ob, hb, W, k⟩ := h
  have hb0 := ob.p2
  rw [e_law_gap]
  show r_law_gap g A _ [some (.ref bx), some (.int n), none, none] H
  unfold r_law_gap
  walk_at "rd"
  refine k_call f1 hr ⟨bx, cl, cells, b1, b2, b3, 3, b2, _, D, rfl, by decide, by decide, ob, by omega, W, ?_⟩
  clear W H ob
  intro r cells b1 c b3 H r0 r1 ob W
  have hc := ob.l2
  walk_at "rd"
  obtain ⟨N, hN⟩ : ∃ N : Nat, (n : Int) + r = N := ⟨(n + r).toNat, by omega⟩
  rw [hN]
  refine k_rng1 (by omega) (by omega) ?_
  refine k_for walk_range (fun i σ H => ∃ tx x cells b1 c b3, σ = [some (.ref bx), some (.int n), some (.str tx), x] ∧ Blank (TL.tl tx) ∧ tx.length = i ∧ BxOk cells b1 c b3 c ∧ c ≤ b2 + 1 + i ∧ Wd ((bx, bxO cl b1 c b3) :: (cl, clO cells) :: L) D H)
    ⟨"", none, cells, b1, c, b3, rfl, by unfold Blank; decide +kernel, by decide +kernel, ob.tight, by omega, W⟩ (fun _ _ _ _ _ => trivial) ?_ ?_
  · clear W H ob
    rintro i x σ H H' hi ⟨tx, x3, cells, b1, c, b3, rfl, hbl, hlen, ob, hc, W⟩ ⟨rfl, rfl⟩
    have hc0 := ob.p2
    walk_at "rd"
    rename_i lp
    refine k_call f1 hr ⟨bx, cl, cells, b1, c, b3, 3, c, _, D, rfl, by decide, by decide, ob, by omega, W.ord (L' := (bx, bxO cl b1 c b3) :: (cl, clO cells) :: (lp, .lst [.str " ", .str " ", .str "\n"]) :: L) (by walk_at "spm"), ?_⟩
    clear W ob
    intro r cells b1 c' b3 H r0 r1 ob W
    have hc' := ob.l2
    obtain ⟨s, hs, sb, s1⟩ := blank_at r0 r1
    refine k_ix_l W (by walk_at "mem") hs ?_
    walk_at "rd"
    refine k_add_ss (sl_of (by omega)) ?_
    walk_at "rd"
    refine ⟨tx ++ s, _, cells, b1, c', b3, rfl, ?_, ?_, ob.tight, by omega, W.ord (by walk_at "spm")⟩
    · rw [TL.tl_append]
      intro x hx
      rcases List.mem_append.mp hx with hx | hx
      · exact hbl x hx
      · exact sb x hx
    · rw [TL.len_tl, TL.tl_append, List.length_append, ← TL.len_tl, ← TL.len_tl, hlen, s1]
  · clear W H ob
    rintro σ H ⟨tx, x3, cells, b1, c, b3, rfl, hbl, hlen, ob, hc, W⟩
    walk_at "rd"
    exact k tx cells b1 c b3 H hbl (by omega) (by omega) ob (by omega) W
def spSame (g : G) (CL CB : Addr) (d : Nat) : Sp := fun vs H Q _ => ∃ p v t L D, vs = [p, v] ∧ isP g.K CL CB p t ∈ D ∧ isR g.K v t ∈ D ∧ t.ok ∧ t.deep ≤ d ∧ d ≤ 6 ∧ Wd L D H ∧ ∀ H', Wd L D H' → Q (.bl true) H'
theorem w_same {g : G} {CL CB : Addr} {A : Around} {vs : List V} {H : Hp} {Q : VK} {E : XK} {k0 k1 d : Nat} (hr0 : Room (k0 + 4) A) (hr : Room k1 A) (C : Cls2 g CL CB) (M : PMs2 g k0 CL CB 6) (f : ∀ e, e + 1 = d → GF g k1 "_law_same" (spSame g CL CB e)) (h : spSame g CL CB d vs H Q E) :
    t_law_same g A { nx := fun _ H' => Q .non H', rt := Q } (start ["plan", "rep", "part", "one"] vs) H := by
  obtain ⟨p, v, t, L, D, rfl, hp, hv, ok, hd, hd6, W, k⟩ := h
  have hC := C.br
  rw [e_law_same]
  show r_law_same g A _ [some p, some v, none, none] H
  unfold r_law_same
  walk_at "rd"
  refine k_eqR W hv ok (by omega) ?_
  walk_at "rd"
  have ty := tyP C W hp
  cases t with
  | leaf =>
    walk_at "rd"
    refine k_gl (v := .ref CL) ⟨_, C.nL, rfl⟩ ?_
    walk_at "rd"
    refine k_isi (.own CL) ty C.ll ?_
    walk_at "rd"
    refine .inr ⟨p, rfl, k_ownP W hp M.toPMs.len hr0 ⟨p, _, _, rfl, hp, ok, by simp [Pn.deep], W, ?_⟩⟩
    clear W H ty
    intro H W
    refine ⟨_, rfl, by simp [Pn.leaves], ?_⟩
    walk_at "rd"
    exact k _ W
  | br m ab ss ps =>
  obtain ⟨F, okl⟩ := ok
  obtain ⟨a, dx, pa, au, sa, pvs, svs, rfl, lp, ls, W1⟩ := W.opBr hp
  obtain ⟨a', ua, fa, pa', pvs', svs', rfl, lp', ls', W2⟩ := W1.opR (by
    have := hv
    walk_at "mem")
  have fl := F.len
  simp only [Pn.deep] at hd
  obtain ⟨lv, rfl⟩ : ∃ e, d = e + 1 := ⟨d - 1, by omega⟩
  have f := f lv rfl
  refine k_ifF (by rfl) ?_
  have W0 := W
  replace W := W2
  clear W1 W2
  walk_at "rd"
  refine k_gl (v := .ref CB) ⟨_, C.nB, rfl⟩ ?_
  walk_at "rd"
  refine k_isi (.own CB) ty C.bb ?_
  walk_at "rd"
  have hin : Shp 1 (.tuple (ab.map PyData.int)) := shp_tuple (k := 0) (mem_map fun _ _ => shp_int)
  have hset : Shp 2 (.tuple (ss.map setD)) := sets_shp
  have hpps : isPs g.K CL CB pvs ps ∈ isI a' (.tup [.str m, .ref ua, .ref fa, .ref pa']) :: isT g.K a' [.str m, .ref ua, .ref fa, .ref pa'] :: isT g.K ua (ab.map V.int) :: isT g.K fa svs' :: isSs svs' ss :: isI pa' (.lst pvs') :: isL g.K pa' pvs' :: isRs g.K pvs' ps :: isI a (.ins CB dx [("manner", .str m), ("parts", .ref pa), ("above", .ref au), ("sets", .ref sa)]) :: isT g.K pa pvs :: isPs g.K CL CB pvs ps :: isT g.K au (ab.map V.int) :: isT g.K sa svs :: isSs svs ss :: D := by walk_at "mem"
  have hrs : isRs g.K pvs' ps ∈ isI a' (.tup [.str m, .ref ua, .ref fa, .ref pa']) :: isT g.K a' [.str m, .ref ua, .ref fa, .ref pa'] :: isT g.K ua (ab.map V.int) :: isT g.K fa svs' :: isSs svs' ss :: isI pa' (.lst pvs') :: isL g.K pa' pvs' :: isRs g.K pvs' ps :: isI a (.ins CB dx [("manner", .str m), ("parts", .ref pa), ("above", .ref au), ("sets", .ref sa)]) :: isT g.K pa pvs :: isPs g.K CL CB pvs ps :: isT g.K au (ab.map V.int) :: isT g.K sa svs :: isSs svs ss :: D := by walk_at "mem"
  refine k_ifF (by simp) ?_
  walk_at "rd"
  refine k_ne_D (d := .tuple (ab.map PyData.int)) (e := .tuple (ab.map PyData.int)) W (fun B b => .tup (b (isT g.K au (ab.map V.int)) (by walk_at "mem")) (dpAll_ints _)) (fun B b => .tup (b (isT g.K ua (ab.map V.int)) (by walk_at "mem")) (dpAll_ints _)) hin.ok hin.ok ?_
  rw [hin.eqv]
  walk_at "rd"
  refine k_ne_D (d := .tuple (ss.map setD)) (e := .tuple (ss.map setD)) W (fun B b => .tup (b (isT g.K sa svs) (by walk_at "mem")) (b (isSs svs ss) (by walk_at "mem") : SsAt B svs ss).dp) (fun B b => .tup (b (isT g.K fa svs') (by walk_at "mem")) (b (isSs svs' ss) (by walk_at "mem") : SsAt B svs' ss).dp) hset.ok hset.ok ?_
  rw [hset.eqv]
  walk_at "rd"
  rw [lp, lp']
  walk_at "rd"
  refine k_ifnp rfl ?_
  walk_at "rd"
  refine k_zip_TL (W.tupl (show isT g.K pa pvs ∈ _ by walk_at "mem")) (W.list (show isL g.K pa' pvs' ∈ _ by walk_at "mem")) ?_
  refine k_lcM ps (fun _ => V.bl true) (lp ▸ walk_zipM (lp.trans lp'.symm)) W (sl_of (by omega)) (fun p acc H W => ⟨W.tupl (by walk_at "mem"), W.list (by walk_at "mem")⟩) ?_ ?_
  · rintro q i x H H' acc e N Z he W ⟨T, y, z, rfl, hT, rfl, ey, ez⟩ hN
    obtain ⟨t, ht, W1⟩ := W.itemP hpps ey
    obtain ⟨t', ht', W2⟩ := W1.itemR (List.mem_cons_of_mem _ hrs) ez
    rw [ht] at ht'
    cases ht'
    rw [ht] at he
    cases he
    have W3 := W2.new hT (.tup [y, z])
    clear W W1 W2
    have W := W3
    clear W3
    walk_at "rd"
    refine ⟨rfl, ?_⟩
    walk_at "rd"
    refine k_call f hr ⟨y, z, _, _, _, rfl, List.mem_cons_of_mem _ List.mem_cons_self, List.mem_cons_self, okL_get okl ht, deepL_get (show deepL ps ≤ lv by omega) ht, by omega, W, ?_⟩
    clear W
    intro H W
    exact hN _ W.dO.dF.dF
  · clear W
    intro q H W
    walk_at "rd"
    refine k_all (bs := ps.map fun _ => true) (by rw [List.map_map]; exact W.sq List.mem_cons_self) ?_
    rw [show (ps.map fun _ => true).all id = true from by simp]
    exact k _ (W.dO.arr spR (by walk_at "sub"))
def spMade83 (g : G) (CL CB : Addr) (d : Nat) : Sp := fun vs H Q _ => ∃ v t L D, vs = [v] ∧ isR g.K v t ∈ D ∧ t.ok ∧ t.deep ≤ d ∧ d ≤ 6 ∧ Wd L D H ∧ ∀ p H', Wd L (isP g.K CL CB p t :: D) H' → Q p H'
theorem w_made83 {g : G} {CL CB : Addr} {A : Around} {vs : List V} {H : Hp} {Q : VK} {E : XK} {k1 k2 : Nat} {d : Nat} (hr : Room (k1 + 1) A) (hr2 : Room k2 A) (C : Cls2 g CL CB) (M : Mks g k1 CL CB) (f1 : ∀ e, e + 1 = d → GF g k2 "_law_made" (spMade83 g CL CB e)) (h : spMade83 g CL CB d vs H Q E) :
    t_law_made_k83 g A { nx := fun _ H' => Q .non H', rt := Q } (start ["rep", "parts", "part"] vs) H := by
  obtain ⟨v, t, L, D, rfl, hv, ok, hd, hd20, W, k⟩ := h
  rw [e_law_made_k83]
  show r_law_made_k83 g A _ [some v, none, none] H
  unfold r_law_made_k83
  walk_at "rd"
  refine k_eqR W hv ok (by omega) ?_
  walk_at "rd"
  cases t with
  | leaf =>
    walk_at "rd"
    exact k_leaf C M.leaf W fun p H W => k _ _ W
  | br m ab ss ps =>
  obtain ⟨F, okl⟩ := ok
  obtain ⟨a, ua, fa, pa, pvs, svs, rfl, lp, ls, W1⟩ := W.opR hv
  have fl := F.len
  have ff := F.fam
  have fb := F.abd
  simp only [Pn.deep] at hd
  obtain ⟨lv, rfl⟩ : ∃ e, d = e + 1 := ⟨d - 1, by omega⟩
  have f1 := f1 lv rfl
  have hrs : isRs g.K pvs ps ∈ isI a (.tup [.str m, .ref ua, .ref fa, .ref pa]) :: isT g.K a [.str m, .ref ua, .ref fa, .ref pa] :: isT g.K ua (ab.map V.int) :: isT g.K fa svs :: isSs svs ss :: isI pa (.lst pvs) :: isL g.K pa pvs :: isRs g.K pvs ps :: D := by walk_at "mem"
  have hpa : isL g.K pa pvs ∈ isI a (.tup [.str m, .ref ua, .ref fa, .ref pa]) :: isT g.K a [.str m, .ref ua, .ref fa, .ref pa] :: isT g.K ua (ab.map V.int) :: isT g.K fa svs :: isSs svs ss :: isI pa (.lst pvs) :: isL g.K pa pvs :: isRs g.K pvs ps :: D := by walk_at "mem"
  have hua : isT g.K ua (ab.map V.int) ∈ isI a (.tup [.str m, .ref ua, .ref fa, .ref pa]) :: isT g.K a [.str m, .ref ua, .ref fa, .ref pa] :: isT g.K ua (ab.map V.int) :: isT g.K fa svs :: isSs svs ss :: isI pa (.lst pvs) :: isL g.K pa pvs :: isRs g.K pvs ps :: D := by walk_at "mem"
  have hfa : isT g.K fa svs ∈ isI a (.tup [.str m, .ref ua, .ref fa, .ref pa]) :: isT g.K a [.str m, .ref ua, .ref fa, .ref pa] :: isT g.K ua (ab.map V.int) :: isT g.K fa svs :: isSs svs ss :: isI pa (.lst pvs) :: isL g.K pa pvs :: isRs g.K pvs ps :: D := by walk_at "mem"
  have hss : isSs svs ss ∈ isI a (.tup [.str m, .ref ua, .ref fa, .ref pa]) :: isT g.K a [.str m, .ref ua, .ref fa, .ref pa] :: isT g.K ua (ab.map V.int) :: isT g.K fa svs :: isSs svs ss :: isI pa (.lst pvs) :: isL g.K pa pvs :: isRs g.K pvs ps :: D := by walk_at "mem"
  have k : ∀ p H', Wd L (isP g.K CL CB p (.br m ab ss ps) :: isI a (.tup [.str m, .ref ua, .ref fa, .ref pa]) :: isT g.K a [.str m, .ref ua, .ref fa, .ref pa] :: isT g.K ua (ab.map V.int) :: isT g.K fa svs :: isSs svs ss :: isI pa (.lst pvs) :: isL g.K pa pvs :: isRs g.K pvs ps :: D) H' → Q p H' := fun p H' W' => k p H' (W'.arr spR (fsC List.mem_cons_self (by walk_at "sub")))
  replace W := W1
  clear W1
  refine k_ifF (by rfl) ?_
  walk_at "rd"
  revert k W hrs hpa hua hfa hss
  have hat : isT g.K a [.str m, .ref ua, .ref fa, .ref pa] ∈ isI a (.tup [.str m, .ref ua, .ref fa, .ref pa]) :: isT g.K a [.str m, .ref ua, .ref fa, .ref pa] :: isT g.K ua (ab.map V.int) :: isT g.K fa svs :: isSs svs ss :: isI pa (.lst pvs) :: isL g.K pa pvs :: isRs g.K pvs ps :: D := by walk_at "mem"
  revert hat
  generalize isI a (.tup [.str m, .ref ua, .ref fa, .ref pa]) :: isT g.K a [.str m, .ref ua, .ref fa, .ref pa] :: isT g.K ua (ab.map V.int) :: isT g.K fa svs :: isSs svs ss :: isI pa (.lst pvs) :: isL g.K pa pvs :: isRs g.K pvs ps :: D = D9
  intro hat hrs hpa hua hfa hss k W
  refine k_lc (lp ▸ walk_list) W (fun p i H => ∃ acc, acc.length = i ∧ Wd ((p, .lst acc) :: L) (isPs g.K CL CB acc (ps.take i) :: D9) H) (fun p H' W => ⟨[], rfl, W.der (F := isPs g.K CL CB [] []) isPs_stab fun _ _ => .nil⟩) (fun p i H _ ⟨acc, _, W⟩ => W.list (List.mem_cons_of_mem _ hpa)) ?_ ?_
  · rintro p i x H H' hi ⟨acc, la, W⟩ ⟨rfl, hx⟩
    obtain ⟨t, ht, W1⟩ := W.itemR (List.mem_cons_of_mem _ hrs) hx
    replace W := W1
    clear W1
    walk_at "rd"
    refine ⟨rfl, ?_⟩
    walk_at "rd"
    refine k_call f1 hr2 ⟨x, t, _, _, rfl, List.mem_cons_self, okL_get okl ht, deepL_get (show deepL ps ≤ lv by omega) ht, by omega, W, ?_⟩
    clear W
    intro v H W
    refine k_push W (sl_lt (by omega)) ?_
    intro H W
    have W2 := W.der (F := isPs g.K CL CB (acc ++ [v]) (ps.take i ++ [t])) isPs_stab fun B b => PlsAt.app (b (isPs g.K CL CB acc (ps.take i)) (by walk_at "mem")) (.cons (b (isP g.K CL CB v t) (by walk_at "mem")) .nil)
    rw [psT_snoc ht]
    exact ⟨acc ++ [v], by simp [la], W2.arr spR (fsC List.mem_cons_self (by walk_at "sub"))⟩
  clear W H
  rintro pq H ⟨acc, la, W⟩
  rw [List.take_length] at W
  have hps : isPs g.K CL CB acc ps ∈ isPs g.K CL CB acc ps :: D9 := List.mem_cons_self
  have hat := List.mem_cons_of_mem (isPs g.K CL CB acc ps) hat
  walk_at "rd"
  have fin : ∀ {L' : Ow} {D' : List Fct} {p : Addr} {H : Hp}, Wd L' (isP g.K CL CB (.ref p) (.br m ab ss ps) :: D') H → Spm L' L → D9 ⊆ D' → Q (.ref p) H := fun W sp s => k _ _ (W.arr sp (fsC List.mem_cons_self (fsT s)))
  refine k_ifd (fun hm => ?_) (fun hm => ?_)
  · have hab : ab = [] := by
      have := F.ha
      unfold aboveOk at this
      rw [if_neg (by subst hm; decide +kernel)] at this
      exact this
    subst hab
    walk_at "rd"
    refine k_list_T W (W.tupl (List.mem_cons_of_mem _ hfa)) ?_
    clear W H
    intro fq H W
    walk_at "rd"
    refine k_makeK C.nB M.s hr rfl rfl W ?_
    clear W H
    intro p dx H W
    refine ⟨_, _, _, _, rfl, fun e he => ?_⟩
    have W1 := W.mv1.dO.emp he
    refine ⟨p, dx, m, pq, true, acc, ps, e, false, [], fq, true, svs, ss, (fq, .lst svs) :: (pq, .lst acc) :: L, _, rfl, .inl (by walk_at "mem"), List.mem_cons_of_mem _ hps, show isT g.K e [] ∈ _ by walk_at "mem", .inl (by walk_at "mem"), List.mem_cons_of_mem _ (List.mem_cons_of_mem _ hss), F, okl, W1, ?_⟩
    clear W W1 H
    intro H W
    refine ⟨rfl, ?_⟩
    walk_at "rd"
    exact fin W (by walk_at "spm") (by walk_at "sub")
  · have hs0 : ss = [] := by
      have := F.hf
      unfold famOk at this
      rw [if_neg hm] at this
      exact this
    subst hs0
    have hsv : svs = [] := List.length_eq_zero_iff.mp ls
    subst hsv
    walk_at "rd"
    refine k_tru_T (W.tupl (List.mem_cons_of_mem _ hua)) ?_
    by_cases hab : ab = []
    · subst hab
      refine k_ifF (by rfl) ?_
      walk_at "rd"
      refine k_make C.nB M.z hr W ?_
      clear W H
      intro p dx H W
      refine ⟨_, _, _, rfl, fun e1 e2 he1 he2 => ?_⟩
      have W1 := (W.mv1.dO.emp he1).emp he2
      refine ⟨p, dx, m, pq, true, acc, ps, e1, false, [], e2, false, [], [], (pq, .lst acc) :: L, _, rfl, .inl (by walk_at "mem"), List.mem_cons_of_mem _ (List.mem_cons_of_mem _ hps), show isT g.K e1 [] ∈ _ by walk_at "mem", show isT g.K e2 [] ∈ _ by walk_at "mem", List.mem_cons_of_mem _ (List.mem_cons_of_mem _ (List.mem_cons_of_mem _ hss)), F, okl, W1, ?_⟩
      clear W W1 H
      intro H W
      refine ⟨rfl, ?_⟩
      walk_at "rd"
      exact fin W (by walk_at "spm") (by walk_at "sub")
    · refine k_ifT (by cases ab <;> simp_all) ?_
      walk_at "rd"
      refine k_list_T W (W.tupl (List.mem_cons_of_mem _ hua)) ?_
      clear W H
      intro uq H W
      walk_at "rd"
      refine k_makeK C.nB M.a hr rfl rfl W ?_
      clear W H
      intro p dx H W
      refine ⟨_, _, _, _, rfl, fun e he => ?_⟩
      have W1 := W.mv1.dO.emp he
      refine ⟨p, dx, m, pq, true, acc, ps, uq, true, ab, e, false, [], [], (uq, .lst (ab.map V.int)) :: (pq, .lst acc) :: L, _, rfl, .inl (by walk_at "mem"), List.mem_cons_of_mem _ hps, .inl (by walk_at "mem"), show isT g.K e [] ∈ _ by walk_at "mem", List.mem_cons_of_mem _ (List.mem_cons_of_mem _ hss), F, okl, W1, ?_⟩
      clear W W1 H
      intro H W
      refine ⟨rfl, ?_⟩
      walk_at "rd"
      exact fin W (by walk_at "spm") (by walk_at "sub")
theorem join_len {t : Pn} (ok : t.ok) : (Txt.join " " t.words).length + 2 ≤ sizeLine := by
  have h1 := StrLaws.join_length_le " " t.words
  rw [← TL.join_eq] at h1
  have h2 := sum_le (f := fun w : Str => w.length) (k := 8) (l := t.words) fun w hw => (words_small ok w hw).1
  have h3 := words_max ok
  have h4 : (" " : Str).length = 1 := by decide +kernel
  rw [h4] at h1
  show _ ≤ 2 ^ 24
  have : (2 : Nat) ^ 24 = 16777216 := by decide
  omega
theorem words_ne (t : Pn) : t.words ≠ [] := by
  obtain ⟨r, h⟩ := words_first t
  rw [h]
  simp
structure Top83 (g : G) (A : Around) (CL CB : Addr) (k : Nat) : Prop where
  hr : Room (k + 4) A
  C : Cls2 g CL CB
  M : PMs2 g k CL CB 6
  box : GF g k "_law_box" (spBoxF g)
  pick : GF g k "_law_pick" spPick
  rep : GF g k "_law_rep" (spRep g 6)
  made : GF g k "_law_made" (spMade83 g CL CB 6)
  same : GF g k "_law_same" (spSame g CL CB 6)
  words : GF g k "_law_words" (spLWords g 6)
  gap : GF g k "_law_gap" (spGap g)
  plan : GF g k "read_plan" (spPlan83 g CL CB)
theorem w_law83 {g : G} {A : Around} {CL CB : Addr} {k0 : Nat} (T : Top83 g A CL CB k0) {vs : List V} {H : Hp} {Q : VK} {E : XK} (h : spLaw81 g vs H Q E) :
    t_law_k83 g A { nx := fun _ H' => Q .non H', rt := Q } (start ["script", "box", "size", "rep", "words", "text", "k", "word", "plan", "plain", "told", "other"] vs) H := by
  obtain ⟨s, cs, L, D, rfl, hs, hc, hl, W, k⟩ := h
  have hr : Room k0 A := T.hr.mono (by omega)
  have C := T.C
  rw [e_law_k83]
  show r_law_k83 g A _ [some (.ref s), none, none, none, none, none, none, none, none, none, none, none] H
  unfold r_law_k83
  walk_at "rd"
  refine k_call T.box hr ⟨s, cs, L, D, rfl, hs, W, ?_⟩
  clear W H
  intro bx cl H W
  walk_at "rd"
  refine k_call T.pick hr ⟨bx, cl, cs, 0, 0, 5, 16, 0, L, D, rfl, by decide, by decide, ⟨hc, by decide, by decide, by decide, by decide, by decide⟩, by decide, W, ?_⟩
  clear W H
  intro r cells b1 b2 b3 H r0 r1 ob W
  walk_at "rd"
  refine k_cut (fun σ H => ∃ n : Nat, ∃ cells b1 b2 b3, σ = [some (.ref s), some (.ref bx), some (.int n), none, none, none, none, none, none, none, none, none] ∧ 1 ≤ n ∧ n ≤ 60 ∧ BxOk cells b1 b2 b3 b2 ∧ b2 ≤ 100 ∧ Wd ((bx, bxO cl b1 b2 b3) :: (cl, clO cells) :: L) D H) ?_ ?_
  · walk_at "rd"
    refine k_call T.pick hr ⟨bx, cl, cells, b1, b2, b3, 4, _, L, D, rfl, by decide, by decide, ob, by decide, W, ?_⟩
    clear W H ob
    intro r4 cells b1 b2 b3 H _ _ ob W
    have ob1 := ob.p2
    have ob2 := ob.l2
    walk_at "rd"
    refine .inl (k_eq_ii ?_)
    walk_at "rd"
    refine k_ifd (fun h => ?_) (fun h => ?_)
    · walk_at "rd"
      exact ⟨60, cells, b1, b2, b3, rfl, by decide, by decide, ob.tight, by omega, W⟩
    · walk_at "rd"
      exact ⟨(1 + r).toNat, cells, b1, b2, b3, by rw [show (((1 + r).toNat : Nat) : Int) = 1 + r from by omega], by omega, by omega, ob.tight, by omega, W⟩
  clear W H ob
  rintro σ H ⟨n, cells, b1, b2, b3, rfl, n1, n2, ob, hb2, W⟩
  walk_at "rd"
  rename_i lf
  refine k_call T.pick hr ⟨bx, cl, cells, b1, b2, b3, 6, b2, (lf, .lst [.int n]) :: L, D, rfl, by decide, by decide, ob, by omega, W.ord (by walk_at "spm"), ?_⟩
  clear W H ob
  intro r6 cells b1 b2' b3 H r60 r61 ob W
  have ob2 := ob.l2
  walk_at "rd"
  refine k_call T.rep hr ⟨bx, cl, cells, b1, b2', b3, lf, n, (1 + r6).toNat, L, D, by rw [show (((1 + r6).toNat : Nat) : Int) = 1 + r6 from by omega], by omega, by omega, by decide, n1, n2, ob.tight, by omega, W.ord (by walk_at "spm"), ?_⟩
  clear W H ob
  intro v t n' cells b1 b2'' b3 H hbr ok hd hn ob hb2'' W
  have hd6 : t.deep ≤ 6 := by omega
  have good := words_good ok
  have hmax := words_max ok
  walk_at "rd"
  refine k_call T.words hr ⟨v, t, _, _, rfl, by walk_at "mem", ok, hd6, by decide, W, ?_⟩
  clear W H
  intro q H W
  have W1 := W.frzS (K := g.K)
  replace W := W1
  clear W1
  walk_at "rd"
  refine k_call T.gap hr ⟨bx, cl, cells, b1, b2'', b3, 0, (lf, .lst [.int n']) :: L, _, rfl, by decide, ob, by omega, W, ?_⟩
  clear W H ob
  intro tx0 cells b1 c0 b3 H hbl0 _ hl0 ob hc0 W
  have hq : isL g.K q (t.words.map V.str) ∈ isL g.K q (t.words.map V.str) :: isD g.K (.ref q) (.list (t.words.map PyData.str)) :: isR g.K v t :: D := List.mem_cons_self
  walk_at "rd"
  refine k_enum_L (W.list hq) ?_
  refine k_for walk_enum (fun i σ H => ∃ tx x6 x7 cells b1 c b3, σ = [some (.ref s), some (.ref bx), some (.int n), some v, some (.ref q), some (.str tx), x6, x7, none, none, none, none] ∧ WsOf tx (t.words.take i) ∧ (i = 0 → (txS tx).2 = []) ∧ tx.length ≤ 3 + 11 * i ∧ BxOk cells b1 c b3 c ∧ c ≤ 30000 + 4 * i ∧
      Wd ((bx, bxO cl b1 c b3) :: (cl, clO cells) :: (lf, .lst [.int n']) :: L) (isL g.K q (t.words.map V.str) :: isD g.K (.ref q) (.list (t.words.map PyData.str)) :: isR g.K v t :: D) H)
    ⟨tx0, _, _, cells, b1, c0, b3, rfl, ?_, ?_, by omega, ob, by omega, W⟩ (fun i σ H _ ⟨_, _, _, _, _, _, _, _, _, _, _, _, _, W⟩ => W.list hq) ?_ ?_
  · have := WsOf.nil.1.gap hbl0
    rw [show Str.empty ++ tx0 = tx0 from TL.ext_tl (by rw [TL.tl_append]; rfl)] at this
    exact this.1
  · intro _
    have := WsOf.nil.1.gap hbl0
    rw [show Str.empty ++ tx0 = tx0 from TL.ext_tl (by rw [TL.tl_append]; rfl)] at this
    exact this.2 (.inr rfl)
  · clear W H ob
    rintro i x σ H H' hi ⟨tx, x6, x7, cells, b1, c, b3, rfl, hws, h0, hlen, ob, hc, W⟩ ⟨T0, y, z, rfl, hT, rfl, ey, ez⟩
    cases ey
    replace ez : (t.words.map V.str)[i]? = some z := ez
    rw [List.getElem?_map] at ez
    obtain ⟨w, hwi, rfl⟩ := Option.map_eq_some_iff.mp ez
    have hm := List.mem_of_getElem? hwi
    rw [List.length_map] at hi
    have W2 := W.new hT (.tup [.int (i : Nat), .str w])
    clear W hT
    have W := W2
    clear W2
    walk_at "rd"
    replace W := W.dO
    refine k_cut (fun σ H => ∃ tx cells b1 c b3, σ = [some (.ref s), some (.ref bx), some (.int n), some v, some (.ref q), some (.str tx), some (.int (i : Nat)), some (.str w), none, none, none, none] ∧ WsOf tx (t.words.take i) ∧ (txS tx).2 = [] ∧ tx.length ≤ 3 + 11 * i + 3 ∧ BxOk cells b1 c b3 c ∧ c ≤ 30000 + 4 * i + 4 ∧
      Wd ((bx, bxO cl b1 c b3) :: (cl, clO cells) :: (lf, .lst [.int n']) :: L) (isL g.K q (t.words.map V.str) :: isD g.K (.ref q) (.list (t.words.map PyData.str)) :: isR g.K v t :: D) H) ?_ ?_
    · walk_at "rd"
      refine k_ifd (fun hi0 => ?_) (fun hi0 => ?_)
      · walk_at "rd"
        refine k_call T.gap hr ⟨bx, cl, cells, b1, c, b3, 1, (lf, .lst [.int n']) :: L, _, rfl, by decide, ob, by omega, W, ?_⟩
        clear W ob
        intro gp cells b1 c' b3 H hbl g1 g3 ob hc' W
        walk_at "rd"
        have hg := hws.gap hbl
        have hll : (tx ++ gp).length = tx.length + gp.length := by rw [TL.len_tl, TL.tl_append, List.length_append, ← TL.len_tl, ← TL.len_tl]
        refine k_add_ss (by show _ ≤ 2 ^ 24; omega) ?_
        walk_at "rd"
        exact ⟨_, cells, b1, c', b3, rfl, hg.1, hg.2 (.inl (by omega)), by omega, ob, by omega, W⟩
      · walk_at "rd"
        exact ⟨_, cells, b1, c, b3, rfl, hws, h0 (by omega), by omega, ob, by omega, W⟩
    · clear W ob hws h0 hlen hc
      rintro σ H ⟨tx, cells, b1, c, b3, rfl, hws, h0, hlen, ob, hc, W⟩
      have hwl : w.length ≤ 8 := (words_small ok w hm).1
      walk_at "rd"
      refine k_add_ss (by show _ ≤ 2 ^ 24; omega) ?_
      walk_at "rd"
      have hll : (tx ++ w).length = tx.length + w.length := by rw [TL.len_tl, TL.tl_append, List.length_append, ← TL.len_tl, ← TL.len_tl]
      refine ⟨_, _, _, cells, b1, c, b3, rfl, ?_, (fun h => by omega), by omega, ob, by omega, W⟩
      rw [List.take_add_one, hwi]
      exact hws.word (solid_of (good w hm).1) h0
  · clear W H ob
    rintro σ H ⟨tx, x6, x7, cells, b1, c, b3, rfl, hws, _, hlen, ob, hc, W⟩
    rw [List.length_map] at hws hlen hc
    rw [List.take_length] at hws
    walk_at "rd"
    refine k_call T.gap hr ⟨bx, cl, cells, b1, c, b3, 0, (lf, .lst [.int n']) :: L, _, rfl, by decide, ob, by omega, W, ?_⟩
    clear W H ob
    intro gp cells b1 c' b3 H hbl g1 g3 ob hc' W
    walk_at "rd"
    have hll : (tx ++ gp).length = tx.length + gp.length := by rw [TL.len_tl, TL.tl_append, List.length_append, ← TL.len_tl, ← TL.len_tl]
    refine k_add_ss (by show _ ≤ 2 ^ 24; omega) ?_
    have htx : Txt.words (tx ++ gp) = t.words := (hws.gap hbl).1.words
    have htl : (tx ++ gp).length + 2 ≤ sizeLine := by show _ ≤ 2 ^ 24; omega
    revert htx htl
    generalize tx ++ gp = txt
    intro htx htl
    have hpj := join_len ok
    have hpw : Txt.words (Txt.join " " t.words) = t.words := words_of_join (words_ne t) fun w hw => solid_of (good w hw).1
    walk_at "rd"
    refine k_call T.plan hr ⟨txt, t, _, _, rfl, htx, htl, hbr, ok, hd6, W, ?_⟩
    clear W H
    intro p H W
    walk_at "rd"
    refine ⟨rfl, ?_⟩
    walk_at "rd"
    refine k_join (W.list (List.mem_cons_of_mem _ hq)) (words_join ok) ?_
    walk_at "rd"
    refine k_call T.same hr ⟨p, v, t, _, _, rfl, List.mem_cons_self, by walk_at "mem", ok, hd6, by decide, W, ?_⟩
    clear W H
    intro H W
    walk_at "rd"
    refine .inr ⟨p, rfl, k_ownP W List.mem_cons_self T.M.str T.hr ⟨p, _, _, rfl, List.mem_cons_self, ok, hd6, W, ?_⟩⟩
    clear W H
    intro H W
    refine ⟨_, rfl, ?_⟩
    walk_at "rd"
    refine k_ifnp rfl ?_
    walk_at "rd"
    refine k_call T.made hr ⟨v, t, _, _, rfl, by walk_at "mem", ok, hd6, by decide, W, ?_⟩
    clear W H
    intro p2 H W
    walk_at "rd"
    refine k_eqP C W (List.mem_cons_of_mem _ List.mem_cons_self) ok hd6 T.M.eq T.hr (some t) ⟨List.mem_cons_self, ok, hd6⟩ ?_
    clear W H
    intro H W
    rw [eqP_self]
    walk_at "rd"
    replace W := W.dF
    refine k_pm C W List.mem_cons_self T.M.toPMs.words hr rfl ⟨p, _, _, rfl, List.mem_cons_self, ok, hd6, W, ?_⟩
    clear W H
    intro q2 H W
    walk_at "rd"
    refine k_app (p := q2) (by walk_at "fr") (sl_lt (by rw [List.length_map]; omega)) ?_
    clear W H
    intro H W
    walk_at "rd"
    have W1 := W.mv1.dO
    replace W := W1
    clear W1
    refine .inr ⟨p, rfl, k_ownP W List.mem_cons_self T.M.str T.hr ⟨p, _, _, rfl, List.mem_cons_self, ok, hd6, W, ?_⟩⟩
    clear W H
    intro H W
    refine ⟨_, rfl, ?_⟩
    walk_at "rd"
    refine k_call T.plan hr ⟨_, t, _, _, rfl, hpw, hpj, hbr, ok, hd6, W, ?_⟩
    clear W H
    intro p3 H W
    walk_at "rd"
    refine k_call T.same hr ⟨p3, v, t, _, _, rfl, List.mem_cons_self, by walk_at "mem", ok, hd6, by decide, W, ?_⟩
    clear W H
    intro H W
    walk_at "rd"
    refine .inr ⟨p3, rfl, k_ownP W List.mem_cons_self T.M.str T.hr ⟨p3, _, _, rfl, List.mem_cons_self, ok, hd6, W, ?_⟩⟩
    clear W H
    intro H W
    refine ⟨_, rfl, ?_⟩
    walk_at "rd"
    refine .inl (k_eq_ss ?_)
    rw [decide_eq_true rfl]
    walk_at "rd"
    refine .inr ⟨p, rfl, k_ownP W (List.mem_cons_of_mem _ List.mem_cons_self) T.M.str T.hr ⟨p, _, _, rfl, List.mem_cons_of_mem _ List.mem_cons_self, ok, hd6, W, ?_⟩⟩
    clear W H
    intro H W
    refine ⟨_, rfl, ?_⟩
    walk_at "rd"
    refine .inl (k_eq_ss ?_)
    rw [decide_eq_true rfl]
    walk_at "rd"
    refine k_call T.plan hr ⟨txt, t, _, _, rfl, htx, htl, hbr, ok, hd6, W, ?_⟩
    clear W H
    intro p4 H W
    walk_at "rd"
    refine .inr ⟨p4, rfl, k_ownP W List.mem_cons_self T.M.str T.hr ⟨p4, _, _, rfl, List.mem_cons_self, ok, hd6, W, ?_⟩⟩
    clear W H
    intro H W
    refine ⟨_, rfl, ?_⟩
    walk_at "rd"
    refine .inl (k_eq_ss ?_)
    rw [decide_eq_true rfl]
    exact k H
theorem IK.up {g : G} {j k : Nat} {C : Addr} {n : Nat} {ks : List Str} {sp : Sp} (F : IK g j C n ks sp) (h : j ≤ k) : IK g k C n ks sp :=
  let ⟨f, fd, ps, sp0, gs, gV, M, kp, a, b, c⟩ := F
  ⟨f, fd, ps, sp0, gs, gV, M, kp, a.mono h, b, c⟩
theorem mas_of {g : G} {CL CB f e1 e2 : Addr} {k : Nat} {qual : Str} {st : Stmt} {N : List Str} {t : G → Around → TS} (P : PtB g qual st f N ["self", "manner", "parts", "above", "sets"] "above" "sets" e1 e2 t) (M : Mk g.K CB f)
    (w : ∀ (A : Around) (vs : List V) (H : Hp) (Q : VK) (E : XK), Room k A → spBrInit g CL CB vs H Q E → t g A { nx := fun _ H' => Q .non H', rt := Q } (start N vs) H) : IK g (k + 1) CB 2 ["above", "sets"] (spBrInit g CL CB) :=
  (P.fk (k := k) (sp := spBrInit g CL CB) M (fun vs H Q E h => by
    obtain ⟨_, _, _, _, _, _, _, _, _, _, _, _, _, _, _, _, rfl, _⟩ := h
    rfl) w).2.2.2.2
def txt (t : Pn) : Str := Txt.join " " t.words
def isNm (K : PySem.W.Frag) (CL CB : Addr) (kvs : List (Key × V)) : Fct := fun B => ∀ k w, valV kvs k = some w → ∃ u : Pn, u.ok ∧ k = .inr (txt u) ∧ PlAt K CL CB B w u
theorem isNm_stab {K : PySem.W.Frag} {CL CB : Addr} {kvs : List (Key × V)} : Stab (isNm K CL CB kvs) := fun _ _ s h k w e => let ⟨u, a, b, c⟩ := h k w e; ⟨u, a, b, c.stab s⟩
def spShared (g : G) (CL CB : Addr) (d : Nat) : Sp := fun vs H Q _ => ∃ v t nd kvs L D, vs = [v, .ref nd] ∧ isR g.K v t ∈ D ∧ t.ok ∧ t.deep ≤ d ∧ d ≤ 6 ∧ kvs.length + (t.leaves + t.halls) ≤ 1000 ∧ isNm g.K CL CB kvs ∈ D ∧ Wd ((nd, .dK kvs) :: L) D H ∧
  ∀ p kvs' H', kvs'.length ≤ kvs.length + (t.leaves + t.halls) → Wd ((nd, .dK kvs') :: L) (isP g.K CL CB p t :: isNm g.K CL CB kvs' :: D) H' → Q p H'
theorem w_shared {g : G} {CL CB : Addr} {A : Around} {vs : List V} {H : Hp} {Q : VK} {E : XK} {k1 k2 : Nat} {d : Nat} (hr : Room (k1 + 1) A) (hr2 : Room k2 A) (C : Cls2 g CL CB) (m0 : Mk0 g.K CL) (M : IK g k1 CB 2 ["above", "sets"] (spBrInit g CL CB)) (f0 : GF g k2 "_law_words" (spLWords g 6)) (f1 : ∀ e, e + 1 = d → GF g k2 "_law_shared" (spShared g CL CB e)) (h : spShared g CL CB d vs H Q E) :
    t_law_shared g A { nx := fun _ H' => Q .non H', rt := Q } (start ["rep", "named", "name", "parts", "part"] vs) H := by
  obtain ⟨v, t, nd, kvs, L, D, rfl, hv, ok, hd, hd6, hsz, hnm, W, k⟩ := h
  rw [e_law_shared]
  show r_law_shared g A _ [some v, some (.ref nd), none, none, none] H
  unfold r_law_shared
  walk_at "rd"
  refine ⟨rfl, ?_⟩
  walk_at "rd"
  refine k_call f0 hr2 ⟨v, t, _, _, rfl, hv, ok, by omega, by decide, W, ?_⟩
  clear W H
  intro wq H W
  walk_at "rd"
  refine k_join (W.sq (by walk_at "mem")) (words_join ok) ?_
  have W1 := W.dO
  clear W
  have W := W1
  clear W1
  rw [show Txt.join (" " : Str) t.words = txt t from rfl]
  walk_at "rd"
  refine k_cut (fun σ H => ∃ (x3 x4 : Option V), ∃ kvs' p, σ = [some v, some (.ref nd), some (.str (txt t)), x3, x4] ∧ kvs'.length ≤ kvs.length + (t.leaves + t.halls) ∧ valV kvs' (.inr (txt t)) = some p ∧ Wd ((nd, .dK kvs') :: L) (isP g.K CL CB p t :: isNm g.K CL CB kvs' :: D) H) ?_ ?_
  · walk_at "rd"
    refine .inr (.inl ⟨nd, _, rfl, DGet.k (k := .inr (txt t)) (W.at_ List.mem_cons_self), ?_⟩)
    walk_at "rd"
    cases hval : valV kvs (.inr (txt t)) with
    | some p =>
      walk_at "rd"
      have W1 := W.der (F := isP g.K CL CB p t) isP_stab fun B b => by
        obtain ⟨u, hu, hk, hp⟩ := (b _ hnm : isNm g.K CL CB kvs B) _ _ hval
        have := text_inj ok hu (Sum.inr.inj hk)
        rw [this]
        exact hp
      exact ⟨_, _, kvs, p, rfl, by omega, hval, W1.arr spR (fsC List.mem_cons_self (fsC (List.mem_cons_of_mem _ hnm) (by walk_at "sub")))⟩
    | none =>
    walk_at "rd"
    have hnew : ∀ (kvs1 : List (Key × V)) (p : V) (B : Hp), isNm g.K CL CB kvs1 B → PlAt g.K CL CB B p t → isNm g.K CL CB (putK kvs1 (.inr (txt t)) p) B := fun kvs1 p B hB hp k w e => by
      rw [valV_put] at e
      split at e
      · rename_i hk
        cases e
        exact ⟨t, ok, hk, hp⟩
      · exact hB k w e
    refine k_eqR W hv ok (by omega) ?_
    walk_at "rd"
    cases t with
    | leaf =>
      walk_at "rd"
      refine k_leaf C m0 W fun p H W => ?_
      walk_at "rd"
      refine .inr ⟨nd, _, rfl, DPut.k (k := .inr (txt .leaf)) (W.at_ List.mem_cons_self) (sl_lt (by omega)), ?_⟩
      have W1 := W.put (.dK (putK kvs (.inr (txt .leaf)) (.ref p)))
      have W2 := W1.der (F := isNm g.K CL CB (putK kvs (.inr (txt .leaf)) (.ref p))) isNm_stab fun B b => hnew kvs _ B (b _ (List.mem_cons_of_mem _ hnm)) (b _ List.mem_cons_self)
      walk_at "norm"
      refine ⟨_, _, _, _, rfl, ?_, ?_, W2.arr spR (fsC (List.mem_cons_of_mem _ List.mem_cons_self) (fsC List.mem_cons_self (by walk_at "sub")))⟩
      · have := length_putK kvs (.inr (txt .leaf)) (V.ref p)
        simp only [Pn.leaves, Pn.halls]
        omega
      · rw [valV_put, if_pos rfl]
    | br m ab ss ps =>
    obtain ⟨F, okl⟩ := ok
    obtain ⟨a, ua, fa, pa, pvs, svs, rfl, lp, ls, W1⟩ := W.opR hv
    have fl := F.len
    have ff := F.fam
    simp only [Pn.deep] at hd
    simp only [Pn.leaves, Pn.halls] at hsz
    obtain ⟨lv, rfl⟩ : ∃ e, d = e + 1 := ⟨d - 1, by omega⟩
    have f1 := f1 lv rfl
    refine k_ifF (by rfl) ?_
    clear W
    obtain ⟨D9, W, hat, hua, hfa, hss, hpa, hrs, hnm9, sD⟩ : ∃ D9, Wd ((nd, .dK kvs) :: L) D9 H ∧ isT g.K a [.str m, .ref ua, .ref fa, .ref pa] ∈ D9 ∧ isT g.K ua (ab.map V.int) ∈ D9 ∧ isT g.K fa svs ∈ D9 ∧ isSs svs ss ∈ D9 ∧ isL g.K pa pvs ∈ D9 ∧ isRs g.K pvs ps ∈ D9 ∧ isNm g.K CL CB kvs ∈ D9 ∧ D ⊆ D9 :=
      ⟨_, W1, by walk_at "mem", by walk_at "mem", by walk_at "mem", by walk_at "mem", by walk_at "mem", by walk_at "mem", by walk_at "mem", by walk_at "sub"⟩
    clear W1
    walk_at "rd"
    refine k_lc (lp ▸ walk_list) W (fun p i H => ∃ acc kvs', acc.length = i ∧ kvs'.length ≤ kvs.length + (leavesL (ps.take i) + hallsL (ps.take i)) ∧ Wd ((p, .lst acc) :: (nd, .dK kvs') :: L) (isPs g.K CL CB acc (ps.take i) :: isNm g.K CL CB kvs' :: D9) H)
      (fun p H' W => ⟨[], kvs, rfl, by simp [leavesL, hallsL], (W.der (F := isPs g.K CL CB [] []) isPs_stab fun _ _ => .nil).arr spR (fsC List.mem_cons_self (fsC (List.mem_cons_of_mem _ hnm9) (by walk_at "sub")))⟩) (fun p i H _ ⟨acc, _, _, _, W⟩ => W.list (List.mem_cons_of_mem _ (List.mem_cons_of_mem _ hpa))) ?_ ?_
    · rintro p i x H H' hi ⟨acc, kvs', la, lk, W⟩ ⟨rfl, hx⟩
      obtain ⟨t, ht, W1⟩ := W.itemR (List.mem_cons_of_mem _ (List.mem_cons_of_mem _ hrs)) hx
      replace W := W1
      clear W1
      have e4 := leavesL_take ht
      have e5 := hallsL_take ht
      have e6 := leavesL_le ps (i + 1)
      have e7 := hallsL_le ps (i + 1)
      walk_at "rd"
      refine ⟨rfl, ?_⟩
      walk_at "rd"
      refine k_call f1 hr2 ⟨x, t, nd, kvs', (p, .lst acc) :: L, _, rfl, List.mem_cons_self, okL_get okl ht, deepL_get (show deepL ps ≤ lv by omega) ht, by omega, by omega, by walk_at "mem", W.ord (by walk_at "spm"), ?_⟩
      clear W
      intro v kvs2 H lk2 W
      refine k_push (W.ord (L' := (p, .lst acc) :: (nd, .dK kvs2) :: L) (by walk_at "spm")) (sl_lt (by omega)) ?_
      intro H W
      have W2 := W.der (F := isPs g.K CL CB (acc ++ [v]) (ps.take i ++ [t])) isPs_stab fun B b => PlsAt.app (b (isPs g.K CL CB acc (ps.take i)) (by walk_at "mem")) (.cons (b (isP g.K CL CB v t) (by walk_at "mem")) .nil)
      refine ⟨acc ++ [v], kvs2, by simp [la], by omega, ?_⟩
      rw [psT_snoc ht]
      exact W2.arr spR (fsC List.mem_cons_self (fsC (show isNm g.K CL CB kvs2 ∈ _ by walk_at "mem") (by walk_at "sub")))
    clear W H
    rintro pq H ⟨acc, kvs1, la, lk1, W⟩
    rw [List.take_length] at W lk1
    have hps : isPs g.K CL CB acc ps ∈ isPs g.K CL CB acc ps :: isNm g.K CL CB kvs1 :: D9 := List.mem_cons_self
    have hat1 := List.mem_cons_of_mem (isPs g.K CL CB acc ps) (List.mem_cons_of_mem (isNm g.K CL CB kvs1) hat)
    have hua1 := List.mem_cons_of_mem (isPs g.K CL CB acc ps) (List.mem_cons_of_mem (isNm g.K CL CB kvs1) hua)
    have hfa1 := List.mem_cons_of_mem (isPs g.K CL CB acc ps) (List.mem_cons_of_mem (isNm g.K CL CB kvs1) hfa)
    have hss1 := List.mem_cons_of_mem (isPs g.K CL CB acc ps) (List.mem_cons_of_mem (isNm g.K CL CB kvs1) hss)
    have hnm1 : isNm g.K CL CB kvs1 ∈ isPs g.K CL CB acc ps :: isNm g.K CL CB kvs1 :: D9 := List.mem_cons_of_mem _ List.mem_cons_self
    have sD1 : D ⊆ isPs g.K CL CB acc ps :: isNm g.K CL CB kvs1 :: D9 := fsT (fsT sD)
    revert W hps hat1 hua1 hfa1 hss1 hnm1 sD1
    generalize isPs g.K CL CB acc ps :: isNm g.K CL CB kvs1 :: D9 = D8
    intro W hps hat1 hua1 hfa1 hss1 hnm1 sD1
    walk_at "rd"
    refine k_list_T W (W.tupl hua1) ?_
    clear W H
    intro uq H W
    walk_at "rd"
    refine k_list_T W (W.tupl hfa1) ?_
    clear W H
    intro fq H W
    walk_at "rd"
    refine k_makeK C.nB M hr rfl rfl W ?_
    clear W H
    intro p dx H W
    refine ⟨p, dx, m, pq, true, acc, ps, uq, true, ab, fq, true, svs, ss, (fq, .lst svs) :: (uq, .lst (ab.map V.int)) :: (pq, .lst acc) :: (nd, .dK kvs1) :: L, _, rfl, .inl (by walk_at "mem"), hps, .inl (by walk_at "mem"), .inl (by walk_at "mem"), hss1, F, okl, W.mv1.dO, ?_⟩
    clear W H
    intro H W
    refine ⟨rfl, ?_⟩
    walk_at "rd"
    have W1 := W.ord (L' := (nd, .dK kvs1) :: L) (by walk_at "spm9")
    refine .inr ⟨nd, _, rfl, DPut.k (k := .inr (txt (.br m ab ss ps))) (W1.at_ List.mem_cons_self) (sl_lt (by omega)), ?_⟩
    have W2 := W1.put (.dK (putK kvs1 (.inr (txt (.br m ab ss ps))) (.ref p)))
    have W3 := W2.der (F := isNm g.K CL CB (putK kvs1 (.inr (txt (.br m ab ss ps))) (.ref p))) isNm_stab fun B b => hnew kvs1 _ B (b _ (List.mem_cons_of_mem _ hnm1)) (b _ List.mem_cons_self)
    walk_at "norm"
    refine ⟨_, _, _, _, rfl, ?_, ?_, W3.arr spR (fsC (List.mem_cons_of_mem _ List.mem_cons_self) (fsC List.mem_cons_self (fsT (fsT sD1))))⟩
    · have := length_putK kvs1 (.inr (txt (.br m ab ss ps))) (V.ref p)
      simp only [Pn.leaves, Pn.halls]
      omega
    · rw [valV_put, if_pos rfl]
  · clear W H
    rintro σ H ⟨x3, x4, kvs', p, rfl, hl, hval, W⟩
    walk_at "rd"
    refine .inr ⟨nd, p, rfl, ?_, k p kvs' H hl W⟩
    have := DGet.k (k := .inr (txt t)) (W.at_ List.mem_cons_self)
    rwa [hval] at this
inductive HsAt (K : PySem.W.Frag) (B : Hp) : List V → List (List Int × Pn) → Prop
  | nil : HsAt K B [] []
  | cons {p b : Addr} {v : V} {path : List Int} {t : Pn} {vs : List V} {hs : List (List Int × Pn)} (h : B p = some (.tup [.ref b, v])) (hb : B b = some (.tup (path.map V.int))) (hr : RepAt K B v t) (r : HsAt K B vs hs) : HsAt K B (.ref p :: vs) ((path, t) :: hs)
section
variable {K : PySem.W.Frag} {B B' : Hp}
theorem HsAt.stab (e : Same B B') : ∀ {vs : List V} {hs : List (List Int × Pn)}, HsAt K B vs hs → HsAt K B' vs hs
  | _, _, .nil => .nil
  | _, _, .cons h hb hr r => .cons (e _ _ h) (e _ _ hb) (hr.stab e) (r.stab e)
theorem HsAt.len : ∀ {vs : List V} {hs : List (List Int × Pn)}, HsAt K B vs hs → vs.length = hs.length
  | _, _, .nil => rfl
  | _, _, .cons _ _ _ r => congrArg Nat.succ r.len
theorem HsAt.app : ∀ {vs ws : List V} {ss ts : List (List Int × Pn)}, HsAt K B vs ss → HsAt K B ws ts → HsAt K B (vs ++ ws) (ss ++ ts)
  | _, _, _, _, .nil, h => h
  | _, _, _, _, .cons a b c r, h => .cons a b c (r.app h)
theorem HsAt.get : ∀ {vs : List V} {hs : List (List Int × Pn)} {i : Nat} {x : V}, HsAt K B vs hs → vs[i]? = some x → ∃ p b v path t, x = .ref p ∧ hs[i]? = some (path, t) ∧ B p = some (.tup [.ref b, v]) ∧ B b = some (.tup (path.map V.int)) ∧ RepAt K B v t
  | _, _, _, _, .nil, e => by simp at e
  | _, _, 0, _, .cons h hb hr _, e => by simp at e; exact ⟨_, _, _, _, _, e.symm, rfl, h, hb, hr⟩
  | _, _, i + 1, _, .cons _ _ _ r, e => by
    obtain ⟨p, b, v, path, t, h1, h2, h3⟩ := r.get (i := i) (by simpa using e)
    exact ⟨p, b, v, path, t, h1, by simpa using h2, h3⟩
end
def isHs (K : PySem.W.Frag) (vs : List V) (hs : List (List Int × Pn)) : Fct := fun B => HsAt K B vs hs
theorem isHs_stab {K : PySem.W.Frag} {vs : List V} {hs : List (List Int × Pn)} : Stab (isHs K vs hs) := fun _ _ s h => h.stab s
theorem Wd.lenHs {K : PySem.W.Frag} {L : Ow} {D : List Fct} {H : Hp} {vs : List V} {hs : List (List Int × Pn)} (W : Wd L D H) (h : isHs K vs hs ∈ D) : vs.length = hs.length := (W.fact h : HsAt K H vs hs).len
theorem Wd.itemH {K : PySem.W.Frag} {L : Ow} {D : List Fct} {H : Hp} {vs : List V} {hs : List (List Int × Pn)} {i : Nat} {x : V} (W : Wd L D H) (h : isHs K vs hs ∈ D) (e : vs[i]? = some x) :
    ∃ p b v path t, x = .ref p ∧ hs[i]? = some (path, t) ∧ Wd L (isI p (.tup [.ref b, v]) :: isI b (.tup (path.map V.int)) :: isR K v t :: D) H := by
  obtain ⟨B, s, d, l⟩ := W.ex
  obtain ⟨p, b, v, path, t, h1, h2, h3, h4, h5⟩ := ((d _ h).2 : HsAt K B vs hs).get e
  refine ⟨p, b, v, path, t, h1, h2, ⟨B, s, fun F hF => ?_, l⟩, W.nd⟩
  simp only [List.mem_cons] at hF
  rcases hF with rfl | rfl | rfl | hF
  · exact ⟨isI_stab, h3⟩
  · exact ⟨isI_stab, h4⟩
  · exact ⟨isR_stab, h5⟩
  · exact d F hF
def spWalk (g : G) (d : Nat) : Sp := fun vs H Q _ => ∃ v t p path lq lvs ls hq hvs hs L D, vs = [v, .ref p, .ref lq, .ref hq] ∧ isR g.K v t ∈ D ∧ isI p (.tup (path.map V.int)) ∈ D ∧ t.ok ∧ t.deep ≤ d ∧ d ≤ 20 ∧ lvs.length + t.leaves ≤ 1000 ∧ hvs.length + t.halls ≤ 1000 ∧ path.length + t.deep ≤ 100 ∧
  isSs lvs ls ∈ D ∧ isHs g.K hvs hs ∈ D ∧ Wd ((lq, .lst lvs) :: (hq, .lst hvs) :: L) D H ∧ ∀ lvs' hvs' H', Wd ((lq, .lst lvs') :: (hq, .lst hvs') :: L) (isSs lvs' (ls ++ lvP t path) :: isHs g.K hvs' (hs ++ brP t path) :: D) H' → Q .non H'
theorem w_walk {g : G} {d k1 : Nat} {A : Around} {vs : List V} {H : Hp} {Q : VK} {E : XK} (hr : Room k1 A) (f1 : ∀ e, e + 1 = d → GF g k1 "_law_walk" (spWalk g e)) (h : spWalk g d vs H Q E) :
    t_law_walk g A { nx := fun _ H' => Q .non H', rt := Q } (start ["rep", "path", "leaves", "halls", "k", "part"] vs) H := by
  obtain ⟨v, t, p, path, lq, lvs, ls, hq, hvs, hs, L, D, rfl, hv, hp, ok, hd, hd20, hl1, hl2, hl3, hls, hhs, W, k⟩ := h
  have lls := W.lenSs hls
  have lhs := W.lenHs hhs
  rw [e_law_walk]
  show r_law_walk g A _ [some v, some (.ref p), some (.ref lq), some (.ref hq), none, none] H
  unfold r_law_walk
  walk_at "rd"
  refine k_eqR W hv ok (by omega) ?_
  walk_at "rd"
  cases t with
  | leaf =>
    walk_at "rd"
    simp only [Pn.leaves] at hl1
    refine k_app (p := lq) (by walk_at "fr") (sl_lt (by omega)) ?_
    clear W
    intro H W
    walk_at "rd"
    have W1 := W.der (F := isHs g.K hvs (hs ++ brP .leaf path)) isHs_stab fun B b => by
      rw [show brP .leaf path = [] from rfl, List.append_nil]
      exact b _ hhs
    have W2 := W1.der (F := isSs (lvs ++ [.ref p]) (ls ++ lvP .leaf path)) isSs_stab fun B b => SsAt.app (b _ (List.mem_cons_of_mem _ hls)) (.cons (b _ (List.mem_cons_of_mem _ hp)) .nil)
    exact k _ _ H W2
  | br m ab ss ps =>
    refine k_ifF (by rfl) ?_
    simp only [Pn.leaves, Pn.halls, Pn.deep] at hl1 hl2 hl3 hd
    obtain ⟨F, okl⟩ := ok
    obtain ⟨a, ua, fa, pa, kvs, svs, rfl, lk, lsv, W1⟩ := W.opR hv
    clear W
    obtain ⟨DD, W, hat, hpa, hrs, sD⟩ : ∃ DD, Wd ((lq, .lst lvs) :: (hq, .lst hvs) :: L) DD H ∧ isT g.K a [.str m, .ref ua, .ref fa, .ref pa] ∈ DD ∧ isL g.K pa kvs ∈ DD ∧ isRs g.K kvs ps ∈ DD ∧ D ⊆ DD :=
      ⟨_, W1, by walk_at "mem", by walk_at "mem", by walk_at "mem", by walk_at "sub"⟩
    clear W1
    have hp' := sD hp
    have hv' := sD hv
    walk_at "rd"
    rename_i tp
    have W1 := W.frzI
    have W2 := W1.ord (L' := (hq, .lst hvs) :: (lq, .lst lvs) :: L) (by walk_at "spm9")
    clear W W1
    refine k_app (p := hq) W2 (sl_lt (by omega)) ?_
    clear W2
    intro H W
    have W1 := W.der (F := isHs g.K (hvs ++ [.ref tp]) (hs ++ [(path, .br m ab ss ps)])) isHs_stab fun B b => HsAt.app (b _ (List.mem_cons_of_mem _ (sD hhs))) (.cons (b (isI tp (.tup [.ref p, .ref a])) List.mem_cons_self) (b _ (List.mem_cons_of_mem _ hp')) (b _ (List.mem_cons_of_mem _ hv')) .nil)
    have W2 := (W1.ord (L' := (lq, .lst lvs) :: (hq, .lst (hvs ++ [.ref tp])) :: L) (by walk_at "spm9")).arr spR (show (isHs g.K (hvs ++ [.ref tp]) (hs ++ [(path, .br m ab ss ps)]) :: DD) ⊆ _ from fsC List.mem_cons_self (by walk_at "sub"))
    clear W W1
    have W := W2
    clear W2
    have hat1 := List.mem_cons_of_mem (isHs g.K (hvs ++ [.ref tp]) (hs ++ [(path, .br m ab ss ps)])) hat
    walk_at "rd"
    refine k_enum_L (W.list (List.mem_cons_of_mem _ hpa)) ?_
    refine k_for walk_enum (fun i σ H => ∃ x4 x5 lvs' hvs', σ = [some (.ref a), some (.ref p), some (.ref lq), some (.ref hq), x4, x5] ∧ Wd ((lq, .lst lvs') :: (hq, .lst hvs') :: L) (isSs lvs' (ls ++ lvPL (ps.take i) path 0) :: isHs g.K hvs' (hs ++ ((path, .br m ab ss ps) :: brPL (ps.take i) path 0)) :: DD) H)
      ⟨_, _, lvs, hvs ++ [.ref tp], rfl, ?_⟩ (fun i σ H _ ⟨_, _, _, _, _, W⟩ => W.list (List.mem_cons_of_mem _ (List.mem_cons_of_mem _ hpa))) ?_ ?_
    · have W2 := W.der (F := isSs lvs (ls ++ lvPL (ps.take 0) path 0)) isSs_stab fun B b => by
        rw [show lvPL (ps.take 0) path 0 = [] from rfl, List.append_nil]
        exact b _ (List.mem_cons_of_mem _ (sD hls))
      exact W2
    · clear W
      rintro i x σ H H' hi ⟨x4, x5, lvs', hvs', rfl, W⟩ ⟨T, y, z, rfl, hTn, rfl, ey, ez⟩
      cases ey
      obtain ⟨t', ht', W0⟩ := W.itemR (show isRs g.K kvs ps ∈ _ from List.mem_cons_of_mem _ (List.mem_cons_of_mem _ hrs)) ez
      have W2 := W0.new hTn (.tup [.int (i : Int), z])
      have e1 := W.lenSs List.mem_cons_self
      have e2 := W.lenHs (show isHs g.K hvs' _ ∈ _ from List.mem_cons_of_mem _ List.mem_cons_self)
      rw [List.length_append, lvPL_len] at e1
      rw [List.length_append, List.length_cons, brPL_len] at e2
      have e4 := leavesL_take ht'
      have e5 := hallsL_take ht'
      have e6 := leavesL_le ps (i + 1)
      have e7 := hallsL_le ps (i + 1)
      have e8 := deepL_at (Nat.le_refl _) ht'
      obtain ⟨e, rfl⟩ : ∃ e, d = e + 1 := ⟨d - 1, by omega⟩
      clear W W0
      have W := W2
      clear W2
      walk_at "rd"
      refine k_catI (xs := path.map V.int) W (by walk_at "mem") (by simp) (by rw [List.length_map]; show path.length + 1 ≤ _; omega) ?_
      clear W
      intro r H W
      rw [show path.map V.int ++ [V.int (i : Int)] = (path ++ [(i : Int)]).map V.int from by simp] at W
      walk_at "rd"
      refine k_call (f1 e rfl) hr ⟨z, t', r, path ++ [(i : Int)], lq, lvs', _, hq, hvs', _, L, _, rfl, by walk_at "mem", by walk_at "mem", okL_at okl ht', by omega, by omega, by omega, by omega, by simp; omega, show isSs lvs' (ls ++ lvPL (ps.take i) path 0) ∈ _ by walk_at "mem", show isHs g.K hvs' (hs ++ ((path, .br m ab ss ps) :: brPL (ps.take i) path 0)) ∈ _ by walk_at "mem", W.ord (by walk_at "spm"), ?_⟩
      clear W
      intro lvs3 hvs3 H W
      rw [List.append_assoc, ← lvPL_snoc path ht', List.append_assoc, List.cons_append, ← brPL_snoc path ht'] at W
      exact ⟨_, _, lvs3, hvs3, rfl, W.arr spR (by walk_at "sub")⟩
    · clear W
      rintro σ H ⟨x4, x5, lvs', hvs', rfl, W⟩
      rw [lk, List.take_length] at W
      walk_at "rd"
      exact k lvs' hvs' H (W.arr spR (fsC List.mem_cons_self (fsC (List.mem_cons_of_mem _ List.mem_cons_self) (fsT (fsT sD)))))
def spPaths (g : G) : Sp := fun vs H Q _ => ∃ a b xs ys ss L D, vs = [.ref a, .ref b] ∧ (a, HO.lst xs) ∈ L ∧ (b, HO.lst ys) ∈ L ∧ isSs xs ss ∈ D ∧ isSs ys ss ∈ D ∧ ss.length ≤ 1000 ∧ (∀ s ∈ ss, s.length ≤ 1000) ∧ Wd L D H ∧ ∀ H', Wd L D H' → Q (.bl true) H'
theorem w_paths {g : G} {A : Around} {vs : List V} {H : Hp} {Q : VK} {E : XK} (h : spPaths g vs H Q E) : t_law_paths g A { nx := fun _ H' => Q .non H', rt := Q } (start ["found", "due", "path", "one", "number"] vs) H := by
  obtain ⟨a, b, xs, ys, ss, L, D, rfl, ha, hb, hx, hy, hl, hl2, W, k⟩ := h
  have lx := W.lenSs hx
  have ly := W.lenSs hy
  rw [e_law_paths]
  show r_law_paths g A _ [some (.ref a), some (.ref b), none, none, none] H
  unfold r_law_paths
  walk_at "rd"
  rw [lx, ly]
  refine k_ifnp rfl ?_
  walk_at "rd"
  refine k_zip_LL (W.sq ha) (W.sq hb) ?_
  refine k_for (walk_zip (n := ss.length) (by omega)) (fun i σ H => ∃ x2 x3, σ = [some (.ref a), some (.ref b), x2, x3, none] ∧ Wd L D H) ⟨_, _, rfl, W⟩ (fun i σ H _ ⟨_, _, _, W⟩ => ⟨W.sq ha, W.sq hb⟩) ?_ ?_
  · clear W H
    rintro i x σ H H' hi ⟨x2, x3, rfl, W⟩ ⟨T, y, z, rfl, hTn, rfl, ey, ez⟩
    obtain ⟨p1, s1, rfl, hs1, W1⟩ := W.itemS hx ey
    obtain ⟨p2, s2, rfl, hs2, W2⟩ := W1.itemS (List.mem_cons_of_mem _ hy) ez
    rw [hs1] at hs2
    cases hs2
    have ls := hl2 s1 (List.mem_of_getElem? hs1)
    have W3 := (W2.itT (K := g.K) (show isI p1 (.tup (s1.map V.int)) ∈ _ by walk_at "mem")).new hTn (.tup [.ref p1, .ref p2])
    clear W W1 W2
    have W := W3
    clear W3
    have d1 : Has g.K (isT g.K p1 (s1.map V.int) :: isI p2 (.tup (s1.map V.int)) :: isI p1 (.tup (s1.map V.int)) :: D) (.ref p1) (setD s1) := fun B b => .tup (b (isT g.K p1 (s1.map V.int)) (by walk_at "mem")) (dpAll_ints s1)
    have d2 : Has g.K (isT g.K p1 (s1.map V.int) :: isI p2 (.tup (s1.map V.int)) :: isI p1 (.tup (s1.map V.int)) :: D) (.ref p2) (setD s1) := fun B b => .tup (SqT.of (b (isI p2 (.tup (s1.map V.int))) (by walk_at "mem"))) (dpAll_ints s1)
    walk_at "rd"
    refine k_ne_D W d1 d2 (shp_set (k := 0) |>.ok) (shp_set (k := 0) |>.ok) ?_
    rw [(shp_set (k := 0)).eqv]
    walk_at "rd"
    refine k_lcM s1 (fun _ => V.bl false) ((List.length_map V.int (as := s1)) ▸ walk_tup) W (sl_of (by omega)) (fun p acc H W => W.tupl (by walk_at "mem")) ?_ ?_
    · rintro p j x H H' acc e N Z he W ⟨rfl, hx⟩ hN
      rw [List.getElem?_map, he] at hx
      cases hx
      walk_at "rd"
      refine ⟨rfl, ?_⟩
      walk_at "rd"
      exact hN _ W
    clear W
    intro q H W
    walk_at "rd"
    refine k_any (bs := s1.map fun _ => false) (by rw [List.map_map]; exact W.sq List.mem_cons_self) ?_
    rw [show (s1.map fun _ => false).any id = false from by simp]
    walk_at "rd"
    exact ⟨_, _, rfl, W.arr (by walk_at "spm9") (by walk_at "sub")⟩
  · clear W H
    rintro σ H ⟨x2, x3, rfl, W⟩
    walk_at "rd"
    exact k H W
theorem PlsAt.rev {K : PySem.W.Frag} {CL CB : Addr} {B : Hp} : ∀ {vs : List V} {ts : List Pn}, PlsAt K CL CB B vs ts → PlsAt K CL CB B vs.reverse ts.reverse
  | _, _, .nil => .nil
  | _, _, .cons h r => by
    rw [List.reverse_cons, List.reverse_cons]
    exact r.rev.app (.cons h .nil)
theorem RepsAt.rev {K : PySem.W.Frag} {B : Hp} : ∀ {vs : List V} {ts : List Pn}, RepsAt K B vs ts → RepsAt K B vs.reverse ts.reverse
  | _, _, .nil => .nil
  | _, _, .cons h r => by
    rw [List.reverse_cons, List.reverse_cons]
    exact r.rev.app (.cons h .nil)
theorem sum_rev (l : List Nat) : l.reverse.sum = l.sum := by
  induction l with
  | nil => rfl
  | cons a r ih =>
    simp [ih]
    omega
theorem calls_fits {m : Str} {ab : List Int} {ss : List (List Int)} {ps : List Pn} (F : Fits m ab ss ps) (okl : okL ps) : Fits "calls" [] [] ps.reverse ∧ okL ps.reverse ∧ deepL ps.reverse = deepL ps := by
  have hd : deepL ps.reverse = deepL ps := by
    apply Nat.le_antisymm
    · exact deepL_le.mpr fun p hp => deepL_le.mp (Nat.le_refl _) p (List.mem_reverse.mp hp)
    · exact deepL_le.mpr fun p hp => deepL_le.mp (Nat.le_refl (deepL ps.reverse)) p (List.mem_reverse.mpr hp)
  have hl : leavesL ps.reverse = leavesL ps := by rw [leavesL_eq, leavesL_eq, List.map_reverse, sum_rev]
  have hh : hallsL ps.reverse = hallsL ps := by rw [hallsL_eq, hallsL_eq, List.map_reverse, sum_rev]
  refine ⟨⟨by decide +kernel, fun e => F.hp (List.reverse_eq_nil_iff.mp e), by rw [hl, hh]; exact F.hs, by rw [hd]; exact F.hd, ?_, ?_⟩, okL_iff.mpr fun p hp => okL_iff.mp okl p (List.mem_reverse.mp hp), hd⟩
  · unfold aboveOk
    rw [if_neg (by decide +kernel)]
  · unfold famOk
    rw [if_neg (by decide +kernel)]
inductive PrAt (K : PySem.W.Frag) (CL CB : Addr) (B : Hp) : List V → List Pn → Prop
  | nil : PrAt K CL CB B [] []
  | cons {p : Addr} {v w : V} {t : Pn} {vs : List V} {ts : List Pn} (h : B p = some (.tup [v, w])) (hp : PlAt K CL CB B v t) (hr : RepAt K B w t) (r : PrAt K CL CB B vs ts) : PrAt K CL CB B (.ref p :: vs) (t :: ts)
section
variable {K : PySem.W.Frag} {CL CB : Addr} {B B' : Hp}
theorem PrAt.stab (e : Same B B') : ∀ {vs : List V} {ts : List Pn}, PrAt K CL CB B vs ts → PrAt K CL CB B' vs ts
  | _, _, .nil => .nil
  | _, _, .cons h a b r => .cons (e _ _ h) (a.stab e) (b.stab e) (r.stab e)
theorem PrAt.len : ∀ {vs : List V} {ts : List Pn}, PrAt K CL CB B vs ts → vs.length = ts.length
  | _, _, .nil => rfl
  | _, _, .cons _ _ _ r => congrArg Nat.succ r.len
theorem PrAt.app : ∀ {vs ws : List V} {ss ts : List Pn}, PrAt K CL CB B vs ss → PrAt K CL CB B ws ts → PrAt K CL CB B (vs ++ ws) (ss ++ ts)
  | _, _, _, _, .nil, h => h
  | _, _, _, _, .cons a b c r, h => .cons a b c (r.app h)
theorem PrAt.get : ∀ {vs : List V} {ts : List Pn} {i : Nat} {x : V}, PrAt K CL CB B vs ts → vs[i]? = some x → ∃ p v w t, x = .ref p ∧ ts[i]? = some t ∧ B p = some (.tup [v, w]) ∧ PlAt K CL CB B v t ∧ RepAt K B w t
  | _, _, _, _, .nil, e => by simp at e
  | _, _, 0, _, .cons h a b _, e => by simp at e; exact ⟨_, _, _, _, e.symm, rfl, h, a, b⟩
  | _, _, i + 1, _, .cons _ _ _ r, e => by
    obtain ⟨p, v, w, t, h1, h2, h3⟩ := r.get (i := i) (by simpa using e)
    exact ⟨p, v, w, t, h1, by simpa using h2, h3⟩
end
def isPr (K : PySem.W.Frag) (CL CB : Addr) (vs : List V) (ts : List Pn) : Fct := fun B => PrAt K CL CB B vs ts
theorem isPr_stab {K : PySem.W.Frag} {CL CB : Addr} {vs : List V} {ts : List Pn} : Stab (isPr K CL CB vs ts) := fun _ _ s h => h.stab s
theorem Wd.itemPr {K : PySem.W.Frag} {CL CB : Addr} {L : Ow} {D : List Fct} {H : Hp} {vs : List V} {ts : List Pn} {i : Nat} {x : V} (W : Wd L D H) (h : isPr K CL CB vs ts ∈ D) (e : vs[i]? = some x) :
    ∃ p v w t, x = .ref p ∧ ts[i]? = some t ∧ Wd L (isI p (.tup [v, w]) :: isP K CL CB v t :: isR K w t :: D) H := by
  obtain ⟨B, s, d, l⟩ := W.ex
  obtain ⟨p, v, w, t, h1, h2, h3, h4, h5⟩ := ((d _ h).2 : PrAt K CL CB B vs ts).get e
  refine ⟨p, v, w, t, h1, h2, ⟨B, s, fun F hF => ?_, l⟩, W.nd⟩
  simp only [List.mem_cons] at hF
  rcases hF with rfl | rfl | rfl | hF
  · exact ⟨isI_stab, h3⟩
  · exact ⟨isP_stab, h4⟩
  · exact ⟨isR_stab, h5⟩
  · exact d F hF
theorem k_neR {K : PySem.W.Frag} {L : Ow} {D : List Fct} {H : Hp} {Q : VK} {v : V} {t : Pn} (W : Wd L D H) (h : isR K v t ∈ D) (ok : t.ok) (hd : t.deep ≤ 20) (k : Q (.bl (!decide (t.isBr = false))) H) : kNe K v (.str "o") H Q := by
  refine k_ne_D W (has_R h) (has_fl (.str "o")) ((repD_shp t ok).ok (by omega)) (by decide +kernel) ?_
  rw [eqv_o]
  exact k
def pathsOf (hs : List (List Int × Pn)) : List (List Int) := (hs.map Prod.fst).filter fun q => decide (q ≠ [])
theorem pathsOf_take {hs : List (List Int × Pn)} {i : Nat} {p : List Int} {t : Pn} (h : hs[i]? = some (p, t)) : pathsOf (hs.take (i + 1)) = pathsOf (hs.take i) ++ (if p = [] then [] else [p]) := by
  unfold pathsOf
  rw [List.take_add_one, h, List.map_append, List.filter_append]
  by_cases e : p = []
  · subst e
    simp
  · simp [e]
theorem k_lcPaths {K : PySem.W.Frag} {L : Ow} {D : List Fct} {H : Hp} {Q : VK} {σ : L2.St} {hq : Addr} {hvs : List V} {hs : List (List Int × Pn)} {i j : Nat} (hij : i < j) (hj : j < σ.length) (W : Wd L D H) (hl : (hq, HO.lst hvs) ∈ L) (hh : isHs K hvs hs ∈ D) (hn : hs.length ≤ 1000)
    (k : ∀ q acc H', Wd ((q, .lst acc) :: L) (isSs acc (pathsOf hs) :: D) H' → Q (.ref q) H') : kLc (Itl K hq) (rGTup K 2 (rGCons (rName i) (rGCons (rName j) rGNil))) (rTru K (rVar i)) (rVar i) [i, j] σ H Q := by
  have lh := W.lenHs hh
  refine k_lc walk_list W (fun p n H => ∃ acc, acc.length ≤ n ∧ Wd ((p, .lst acc) :: L) (isSs acc (pathsOf (hs.take n)) :: D) H) (fun p H' W => ⟨[], Nat.le_refl _, W.der (F := isSs [] []) isSs_stab fun _ _ => .nil⟩) (fun p n H _ ⟨acc, _, W⟩ => W.sq (List.mem_cons_of_mem _ hl)) ?_ ?_
  · clear W
    rintro q n x H H' hi ⟨acc, la, W⟩ ⟨rfl, hx⟩
    obtain ⟨p, b, v, path, t, rfl, ht, W1⟩ := W.itemH (List.mem_cons_of_mem _ hh) hx
    have W2 := W1.itT (K := K) (show isI p (.tup [.ref b, v]) ∈ _ from List.mem_cons_self)
    have W3 := W2.itT (K := K) (show isI b (.tup (path.map V.int)) ∈ _ by walk_at "mem")
    clear W W1 W2
    have W := W3
    clear W3
    show kUnp K 2 (.ref p) H' fun xs => kGCons xs fun v r => kStore i v (wipe σ [i, j]) fun σ' => kGCons r fun v r => kStore j v σ' fun σ' => kGNil r _
    refine k_unp_Tm W (by walk_at "mem") rfl ?_
    refine k_gcons ?_
    refine k_store rfl ?_
    refine k_gcons ?_
    refine k_store rfl ?_
    refine k_gnil ?_
    have hw : (wipe σ [i, j]).length = σ.length := by simp [wipe]
    have e1 : (((wipe σ [i, j]).set i (some (.ref b))).set j (some v))[i]? = some (some (.ref b)) := by
      rw [List.getElem?_set_ne (by omega), List.getElem?_set_self (by rw [hw]; omega)]
    refine ⟨?_, ?_⟩
    · simp only [wipe, List.foldl_cons, List.foldl_nil]
      apply List.ext_getElem?
      intro n
      simp only [List.getElem?_set, List.length_set]
      split <;> rename_i h1
      · first
        | rfl
        | (split <;> rfl)
      · split <;> rename_i h2
        · first
          | rfl
          | (split <;> rfl)
        · rfl
    refine k_var e1 ?_
    refine k_tru_T (W.tupl (show isT K b (path.map V.int) ∈ _ by walk_at "mem")) ?_
    refine k_if (fun hb => ?_) (fun hb => ?_)
    · refine k_var e1 ?_
      refine k_push (acc := acc) W (sl_lt (by omega)) ?_
      clear W
      intro H W
      have hp : path ≠ [] := by
        rintro rfl
        cases hb
      refine ⟨acc ++ [.ref b], by simp; omega, ?_⟩
      have W2 := W.der (F := isSs (acc ++ [.ref b]) (pathsOf (hs.take (n + 1)))) isSs_stab fun B b' => by
        rw [pathsOf_take ht, if_neg hp]
        exact SsAt.app (b' (isSs acc (pathsOf (hs.take n))) (by walk_at "mem")) (.cons (b' (isI b (.tup (path.map V.int))) (by walk_at "mem")) .nil)
      exact W2.arr spR (fsC List.mem_cons_self (by walk_at "sub"))
    · have hp : path = [] := by
        cases path with
        | nil => rfl
        | cons _ _ => cases hb
      refine ⟨acc, by omega, ?_⟩
      rw [pathsOf_take ht, if_pos hp, List.append_nil]
      exact W.arr spR (by walk_at "sub")
  · clear W
    rintro q H ⟨acc, la, W⟩
    rw [lh, List.take_length] at W
    exact k q acc H W
theorem mem_sz {ps : List Pn} {t : Pn} (h : t ∈ ps) : t.leaves ≤ leavesL ps ∧ t.halls ≤ hallsL ps ∧ t.deep ≤ deepL ps := by
  refine ⟨?_, ?_, deepL_le.mp (Nat.le_refl _) t h⟩
  · induction ps with
    | nil => exact (List.not_mem_nil h).elim
    | cons p r ih =>
      rw [leavesL]
      rcases List.mem_cons.mp h with rfl | h
      · omega
      · have := ih h
        omega
  · induction ps with
    | nil => exact (List.not_mem_nil h).elim
    | cons p r ih =>
      rw [hallsL]
      rcases List.mem_cons.mp h with rfl | h
      · omega
      · have := ih h
        omega
mutual
theorem lvP_plen : ∀ (t : Pn) (p q : List Int), q ∈ lvP t p → q.length ≤ p.length + t.deep
  | .leaf, p, q, h => by
    rw [lvP, List.mem_singleton] at h
    subst h
    simp [Pn.deep]
  | .br m ab ss ps, p, q, h => by
    rw [lvP] at h
    have := lvPL_plen ps p 0 q h
    simp only [Pn.deep]
    omega
theorem lvPL_plen : ∀ (ps : List Pn) (p : List Int) (k : Nat) (q : List Int), q ∈ lvPL ps p k → q.length ≤ p.length + 1 + deepL ps
  | [], _, _, _, h => (List.not_mem_nil h).elim
  | t :: ps, p, k, q, h => by
    rw [lvPL] at h
    rw [deepL]
    rcases List.mem_append.mp h with h | h
    · have := lvP_plen t _ q h
      simp at this
      omega
    · have := lvPL_plen ps p (k + 1) q h
      omega
end
mutual
theorem brP_plen : ∀ (t : Pn) (p : List Int) (q : List Int × Pn), q ∈ brP t p → q.1.length ≤ p.length + t.deep
  | .leaf, p, q, h => (List.not_mem_nil (by rw [brP] at h; exact h)).elim
  | .br m ab ss ps, p, q, h => by
    rw [brP] at h
    simp only [Pn.deep]
    rcases List.mem_cons.mp h with rfl | h
    · simp
    · have := brPL_plen ps p 0 q h
      omega
theorem brPL_plen : ∀ (ps : List Pn) (p : List Int) (k : Nat) (q : List Int × Pn), q ∈ brPL ps p k → q.1.length ≤ p.length + 1 + deepL ps
  | [], _, _, _, h => (List.not_mem_nil (by rw [brPL] at h; exact h)).elim
  | t :: ps, p, k, q, h => by
    rw [brPL] at h
    rw [deepL]
    rcases List.mem_append.mp h with h | h
    · have := brP_plen t _ q h
      simp at this
      omega
    · have := brPL_plen ps p (k + 1) q h
      omega
end
theorem seats_ok {t : Pn} (ok : t.ok) (hd : t.deep ≤ 6) : (lvP t [] ++ poP t []).length ≤ 1000 ∧ ∀ s ∈ lvP t [] ++ poP t [], s.length ≤ 1000 := by
  have sz := size_le ok
  have h1 := lvP_len t []
  have h2 := poP_le t []
  refine ⟨by rw [List.length_append]; omega, fun s hs => ?_⟩
  rcases List.mem_append.mp hs with hs | hs
  · have := lvP_plen t [] s hs
    simp at this
    omega
  · unfold poP at hs
    obtain ⟨q, hq, rfl⟩ := List.mem_map.mp (List.mem_filter.mp hs).1
    have := brP_plen t [] q hq
    simp at this
    omega
theorem poP_paths (t : Pn) : poP t [] = pathsOf (brP t []) := rfl
def spElse (g : G) (CL CB : Addr) : Sp := fun vs H Q _ => ∃ v w m ab ss ps L D, vs = [v, w] ∧ isP g.K CL CB v (.br m ab ss ps) ∈ D ∧ isR g.K w (.br m ab ss ps) ∈ D ∧ (Pn.br m ab ss ps).ok ∧ (Pn.br m ab ss ps).deep ≤ 6 ∧ Wd L D H ∧ ∀ H', Wd L D H' → Q (.bl true) H'
theorem w_else {g : G} {CL CB : Addr} {A : Around} {vs : List V} {H : Hp} {Q : VK} {E : XK} {k1 : Nat} (hr : Room (k1 + 1) A) (C : Cls2 g CL CB) (mz : IF g k1 CB (spBr0 g CL CB)) (f1 : GF g k1 "_law_walk" (spWalk g 6)) (f2 : GF g k1 "places" (spPlaces g CL CB 6)) (f3 : GF g k1 "_law_paths" (spPaths g)) (h : spElse g CL CB vs H Q E) :
    t_law_elsewhere g A { nx := fun _ H' => Q .non H', rt := Q } (start ["plan", "rep", "other", "pairs", "part", "one", "leaves", "halls", "pair", "path", "inner"] vs) H := by
  obtain ⟨v, w, m, ab, ss, ps, L, D, rfl, hv, hw, ⟨F, okl⟩, hd, W, k⟩ := h
  have hr1 : Room k1 A := hr.mono (by omega)
  have hC := C.br
  have fl := F.len
  have fhs := F.hs
  have fhd := F.hd
  obtain ⟨cf, cokl, cd⟩ := calls_fits F okl
  rw [e_law_elsewhere]
  show r_law_elsewhere g A _ [some v, some w, none, none, none, none, none, none, none, none, none] H
  unfold r_law_elsewhere
  obtain ⟨a, dx, pa, au, sa, kvs, svs, rfl, lk, lsv, W1⟩ := W.opBr hv
  obtain ⟨a2, ua2, fa2, pa2, rvs, svs2, rfl, lr, lsv2, W2⟩ := W1.opR (show isR g.K w (.br m ab ss ps) ∈ _ by walk_at "mem")
  clear W W1
  obtain ⟨DD, W, hI, hT, hPs, hat, hLr, hRs, sD⟩ : ∃ DD, Wd L DD H ∧ isI a (.ins CB dx [("manner", .str m), ("parts", .ref pa), ("above", .ref au), ("sets", .ref sa)]) ∈ DD ∧ isT g.K pa kvs ∈ DD ∧ isPs g.K CL CB kvs ps ∈ DD ∧ isT g.K a2 [.str m, .ref ua2, .ref fa2, .ref pa2] ∈ DD ∧ isL g.K pa2 rvs ∈ DD ∧ isRs g.K rvs ps ∈ DD ∧ D ⊆ DD :=
    ⟨_, W2, by walk_at "mem", by walk_at "mem", by walk_at "mem", by walk_at "mem", by walk_at "mem", by walk_at "mem", by walk_at "sub"⟩
  clear W2
  walk_at "rd"
  refine k_list_T W (W.tupl hT) ?_
  clear W H
  intro l1 H W
  walk_at "rd"
  refine k_rev W (W.sq (by walk_at "mem")) ?_
  clear W H
  intro l2 H W
  have W1 := W.der (F := isPs g.K CL CB kvs.reverse ps.reverse) isPs_stab fun B b => PlsAt.rev (b _ hPs)
  clear W
  have W := W1
  clear W1
  walk_at "rd"
  refine k_make C.nB mz hr W ?_
  clear W H
  intro p px H W
  refine ⟨_, _, _, rfl, fun e1 e2 he1 he2 => ?_⟩
  have W1 := (W.mv1.dO.emp he1).emp he2
  refine ⟨p, px, "calls", l2, true, kvs.reverse, ps.reverse, e1, false, [], e2, false, [], [], _, isSs [] [] :: _, rfl, .inl List.mem_cons_self, List.mem_cons_of_mem _ (List.mem_cons_of_mem _ (List.mem_cons_of_mem _ List.mem_cons_self)), show isT g.K e1 [] ∈ _ by walk_at "mem", show isT g.K e2 [] ∈ _ by walk_at "mem", List.mem_cons_self, cf, cokl, W1.der (F := isSs [] []) isSs_stab fun _ _ => .nil, ?_⟩
  clear W W1 H
  intro H W
  refine ⟨rfl, ?_⟩
  have hP : isP g.K CL CB (.ref p) (.br "calls" [] [] ps.reverse) ∈ isP g.K CL CB (.ref p) (.br "calls" [] [] ps.reverse) :: DD := List.mem_cons_self
  have W1 := W.arr (L' := L) (D' := isP g.K CL CB (.ref p) (.br "calls" [] [] ps.reverse) :: DD) (by walk_at "spm9") (fsC List.mem_cons_self (by walk_at "sub"))
  clear W
  have W := W1
  clear W1
  have hat1 := List.mem_cons_of_mem (isP g.K CL CB (.ref p) (.br "calls" [] [] ps.reverse)) hat
  walk_at "rd"
  rename_i t1 t2
  refine k_rev W (W.list (List.mem_cons_of_mem _ hLr)) ?_
  clear W H
  intro l3 H W
  walk_at "rd"
  rename_i q4 ot
  have W0 := W.ord (L' := (t1, .tup []) :: (t2, .tup []) :: (l3, .lst rvs.reverse) :: (q4, .tup [.str "calls", .ref t1, .ref t2, .ref l3]) :: (ot, .tup [.ref p, .ref q4]) :: L) (by walk_at "spm9")
  have W1 := W0.frzI.frzI.frzI.frzI.frzI
  clear W W0
  have W2 := W1.der (F := isR g.K (.ref q4) (.br "calls" [] [] ps.reverse)) isR_stab fun B b => .br (svs := []) (b (isI q4 (.tup [.str "calls", .ref t1, .ref t2, .ref l3])) (by walk_at "mem")) (SqT.of (b (isI t1 (.tup [])) (by walk_at "mem"))) (SqT.of (b (isI t2 (.tup [])) (by walk_at "mem"))) .nil (b (isI l3 (.lst rvs.reverse)) (by walk_at "mem")) (RepsAt.rev (b (isRs g.K rvs ps) (by walk_at "mem")))
  have W3 := W2.der (F := isPr g.K CL CB [.ref ot] [.br "calls" [] [] ps.reverse]) isPr_stab fun B b => .cons (b (isI ot (.tup [.ref p, .ref q4])) (by walk_at "mem")) (b (isP g.K CL CB (.ref p) (.br "calls" [] [] ps.reverse)) (by walk_at "mem")) (b (isR g.K (.ref q4) (.br "calls" [] [] ps.reverse)) (by walk_at "mem")) .nil
  have W4 := W3.arr spR (show (isPr g.K CL CB [.ref ot] [.br "calls" [] [] ps.reverse] :: DD) ⊆ _ from fsC List.mem_cons_self (by walk_at "sub"))
  clear W1 W2 W3
  have W := W4
  clear W4 hP hat1
  have hat1 := List.mem_cons_of_mem (isPr g.K CL CB [.ref ot] [.br "calls" [] [] ps.reverse]) hat
  walk_at "rd"
  refine ⟨pa, pa2, kvs, rvs, rfl, W.tupl (List.mem_cons_of_mem _ hT), W.list (List.mem_cons_of_mem _ hLr), ?_⟩
  refine k_lc (walk_zipN (xs := kvs) (ys := rvs) (lk.trans lr.symm)) W (fun q i H => ∃ acc, acc.length ≤ i ∧ Wd ((q, .lst acc) :: L) (isPr g.K CL CB acc ((ps.take i).filter Pn.isBr) :: isPr g.K CL CB [.ref ot] [.br "calls" [] [] ps.reverse] :: DD) H)
    (fun q H' W => ⟨[], Nat.le_refl _, W.der (F := isPr g.K CL CB [] []) isPr_stab fun _ _ => .nil⟩) (fun q i H _ ⟨acc, _, W⟩ => ⟨W.tupl (by walk_at "mem"), W.list (by walk_at "mem")⟩) ?_ ?_
  · clear W
    rintro q i x H H' hi ⟨acc, la, W⟩ ⟨T, y, z, rfl, hTn, rfl, ey, ez⟩
    obtain ⟨u, hu, W1⟩ := W.itemP (show isPs g.K CL CB kvs ps ∈ _ by walk_at "mem") ey
    obtain ⟨u', hu', W2⟩ := W1.itemR (show isRs g.K rvs ps ∈ _ by walk_at "mem") ez
    rw [hu] at hu'
    cases hu'
    have W3 := (W2.new hTn (.tup [y, z])).frzI
    have W4 := W3.itT (K := g.K) (show isI T (.tup [y, z]) ∈ _ from List.mem_cons_self)
    clear W W1 W2 W3
    have W := W4
    clear W4
    have uok := okL_at okl hu
    have udp := deepL_at fhd hu
    walk_at "rd"
    refine ⟨rfl, ?_⟩
    walk_at "rd"
    refine k_neR W (show isR g.K z u ∈ _ by walk_at "mem") uok (by omega) ?_
    walk_at "rd"
    cases hb : u.isBr with
    | false =>
      rw [decide_eq_true rfl]
      walk_at "rd"
      refine ⟨acc, by omega, ?_⟩
      rw [List.take_add_one, hu, List.filter_append, show (some u).toList.filter Pn.isBr = [] from by simp [hb], List.append_nil]
      exact W.arr spR (by walk_at "sub")
    | true =>
      rw [decide_eq_false (by decide)]
      walk_at "rd"
      refine k_push W (sl_lt (by omega)) ?_
      clear W
      intro H W
      refine ⟨acc ++ [.ref T], by simp; omega, ?_⟩
      rw [List.take_add_one, hu, List.filter_append, show (some u).toList.filter Pn.isBr = [u] from by simp [hb]]
      have W2 := W.der (F := isPr g.K CL CB (acc ++ [.ref T]) ((ps.take i).filter Pn.isBr ++ [u])) isPr_stab fun B b => PrAt.app (b (isPr g.K CL CB acc ((ps.take i).filter Pn.isBr)) (by walk_at "mem")) (.cons (b (isI T (.tup [y, z])) (by walk_at "mem")) (b (isP g.K CL CB y u) (by walk_at "mem")) (b (isR g.K z u) (by walk_at "mem")) .nil)
      exact W2.arr spR (fsC List.mem_cons_self (by walk_at "sub"))
  clear W H
  rintro pq H ⟨acc, la, W⟩
  rw [lk, List.take_length] at W
  walk_at "rd"
  rename_i l4
  refine k_add_ll W (by walk_at "mem") (by walk_at "mem") (sl_of (by simp; omega)) ?_
  clear W H
  intro l5 H W
  have W1 := W.der (F := isPr g.K CL CB (acc ++ [V.ref ot]) (ps.filter Pn.isBr ++ [Pn.br "calls" [] [] ps.reverse])) isPr_stab fun B b => PrAt.app (vs := acc) (ws := [.ref ot]) (ss := ps.filter Pn.isBr) (ts := [.br "calls" [] [] ps.reverse]) (b (isPr g.K CL CB acc (ps.filter Pn.isBr)) (by walk_at "mem")) (b (isPr g.K CL CB [.ref ot] [.br "calls" [] [] ps.reverse]) (by walk_at "mem"))
  have W2 := W1.arr (L' := (l5, .lst (acc ++ [.ref ot])) :: L) (D' := isPr g.K CL CB (acc ++ [V.ref ot]) (ps.filter Pn.isBr ++ [Pn.br "calls" [] [] ps.reverse]) :: DD) (by walk_at "spm9") (fsC List.mem_cons_self (by walk_at "sub"))
  clear W W1
  have W := W2
  clear W2
  have good : ∀ u ∈ ps.filter Pn.isBr ++ [Pn.br "calls" [] [] ps.reverse], u.ok ∧ u.deep ≤ 6 := by
    intro u hu
    rcases List.mem_append.mp hu with hu | hu
    · have hu := (List.mem_filter.mp hu).1
      exact ⟨okL_iff.mp okl u hu, by have := (mem_sz hu).2.2; omega⟩
    · rw [List.mem_singleton.mp hu]
      exact ⟨⟨cf, cokl⟩, by simp only [Pn.deep]; omega⟩
  walk_at "rd"
  refine k_for walk_list (fun i σ H => ∃ x4 x5 x6 x7, σ = [some (.ref a), some (.ref a2), some (.ref ot), some (.ref pq), x4, x5, x6, x7, none, none, none] ∧ Wd ((l5, .lst (acc ++ [.ref ot])) :: L) (isPr g.K CL CB (acc ++ [V.ref ot]) (ps.filter Pn.isBr ++ [Pn.br "calls" [] [] ps.reverse]) :: DD) H) ⟨_, _, _, _, rfl, W⟩ (fun i σ H _ ⟨_, _, _, _, _, W⟩ => W.sq List.mem_cons_self) ?_ ?_
  · clear W H
    rintro i x σ H H' hi ⟨x4, x5, x6, x7, rfl, W⟩ ⟨rfl, hx⟩
    obtain ⟨tp, y, z, u, rfl, hu, W1⟩ := W.itemPr List.mem_cons_self hx
    have W2 := W1.itT (K := g.K) (show isI tp (.tup [y, z]) ∈ _ from List.mem_cons_self)
    clear W W1
    have W := W2
    clear W2
    obtain ⟨uok, ud⟩ := good u (List.mem_of_getElem? hu)
    have usz := size_le uok
    have upl := poP_le u []
    have uso := seats_ok uok ud
    walk_at "rd"
    rename_i lq hq t0
    have W1 := W.frzI
    have W2 := (W1.der (F := isSs [] []) isSs_stab fun _ _ => .nil).der (F := isHs g.K [] []) isHs_stab fun _ _ => .nil
    refine k_call f1 hr1 ⟨z, u, t0, [], lq, [], [], hq, [], [], (l5, .lst (acc ++ [.ref ot])) :: L, _, rfl, by walk_at "mem", by walk_at "mem", uok, ud, by decide, by simp; omega, by simp; omega, by simp; omega, by walk_at "mem", by walk_at "mem", W2.ord (by walk_at "spm9"), ?_⟩
    clear W W1 W2
    intro lvs hvs H W
    rw [List.nil_append, List.nil_append] at W
    have e1 := W.lenSs List.mem_cons_self
    have e2 := W.lenHs (show isHs g.K hvs _ ∈ _ from List.mem_cons_of_mem _ List.mem_cons_self)
    rw [lvP_len] at e1
    rw [brP_len] at e2
    walk_at "rd"
    refine k_call f2 hr1 ⟨y, u, _, _, rfl, by walk_at "mem", uok, ud, by decide, W, ?_⟩
    clear W
    intro r1 rvs1 H W
    walk_at "rd"
    refine k_lcPaths (by decide) (show 10 < 11 by decide) W (by walk_at "mem") (show isHs g.K hvs (brP u []) ∈ _ by walk_at "mem") (by rw [brP_len]; omega) ?_
    clear W
    intro l6 acc6 H W
    have e3 := W.lenSs List.mem_cons_self
    rw [← poP_paths] at e3 W
    walk_at "rd"
    refine k_add_ll W (by walk_at "mem") (by walk_at "mem") (sl_of (by omega)) ?_
    clear W
    intro l7 H W
    have W1 := W.der (F := isSs (lvs ++ acc6) (lvP u [] ++ poP u [])) isSs_stab fun B b => SsAt.app (b (isSs lvs (lvP u [])) (by walk_at "mem")) (b (isSs acc6 (poP u [])) (by walk_at "mem"))
    clear W
    have W := W1
    clear W1
    refine k_call f3 hr1 ⟨r1, l7, rvs1, lvs ++ acc6, _, _, _, rfl, by walk_at "mem", by walk_at "mem", show isSs rvs1 (lvP u [] ++ poP u []) ∈ _ by walk_at "mem", List.mem_cons_self, uso.1, uso.2, W, ?_⟩
    clear W
    intro H W
    walk_at "rd"
    exact ⟨_, _, _, _, rfl, W.arr (by walk_at "spm9") (by walk_at "sub")⟩
  · clear W H
    rintro σ H ⟨x4, x5, x6, x7, rfl, W⟩
    walk_at "rd"
    exact k H (W.arr (by walk_at "spm9") (fsT sD))
def NoBr (t : Pn) (d : PyData) : Prop := ∀ ds, d = .tuple ds → ∀ m ab ss ps, atD t ds ≠ some (.br m ab ss ps)
theorem data_ty {K : PySem.W.Frag} {x : V} {d : PyData} {H : Hp} (h : Dp K H x d) : (∃ ds, d = .tuple ds) ∨ ∃ T ∈ oddN, ∀ B, Dp K B x d → TyX K B x (.type T) := by
  cases h with
  | non => exact .inr ⟨"NoneType", by decide, fun _ _ => .base .non⟩
  | bl b => exact .inr ⟨"bool", by decide, fun _ _ => .base (.bl b)⟩
  | int i => exact .inr ⟨"int", by decide, fun _ _ => .base (.int i)⟩
  | str s => exact .inr ⟨"str", by decide, fun _ _ => .base (.str s)⟩
  | lst q r => exact .inr ⟨"list", by decide, fun B h => by
      cases h with
      | lst q r => exact ty_L q⟩
  | tup q r => exact .inl ⟨_, rfl⟩
structure Rf (g : G) (NP : Addr) : Prop where
  eNP : He.ga g.K "NoPath" = NP
  ex : PySem.W.exmOne g.K (.ref NP) (.ref NP) = some true
  xf : XfC g.K NP
  pa : PySem.W.findIn g.K (.ref NP) "path" = some none
  xc : ExcC g.K NP
  sole : ∃ cv, g.mg "SoleError" = some (.ref cv) ∧ PySem.W.kitOne g.K (.ref NP) (.ref cv) = some true
  nob : ∃ cv, g.mg "NoBranch" = some (.ref cv) ∧ PySem.W.kitOne g.K (.ref NP) (.ref cv) = some false
  bad : ∃ cv, g.mg "BadText" = some (.ref cv) ∧ PySem.W.kitOne g.K (.ref NP) (.ref cv) = some false
def spRef (g : G) (CL CB : Addr) : Sp := fun vs H Q _ => ∃ v t x L D, vs = [v, x] ∧ isP g.K CL CB v t ∈ D ∧ Wd L D H ∧
  ((∃ d, isD g.K x d ∈ D ∧ Shp 20 d ∧ NoBr t d ∧ ∀ H', Wd L D H' → Q (.bl true) H') ∨ (∃ a, x = .ref a ∧ isI a (.dK []) ∈ D ∧ ∀ H', Wd L D H' → Q (.bl true) H') ∨
   (∃ ds m ab ss ps, isD g.K x (.tuple ds) ∈ D ∧ atD t ds = some (.br m ab ss ps) ∧ ∀ H', Wd L D H' → Q (.bl false) H'))
theorem w_refused {g : G} {CL CB NP : Addr} {k1 : Nat} {A : Around} {vs : List V} {H : Hp} {Q : VK} {E : XK} (hr : Room k1 A) (R : Rf g NP) (f1 : GF g k1 "branch_at" (spBrAt g CL CB NP)) (h : spRef g CL CB vs H Q E) :
    t_law_refused g A { nx := fun _ H' => Q .non H', rt := Q } (start ["plan", "thing", "refused", "good"] vs) H := by
  obtain ⟨v, t, x, L, D, rfl, hv, W, ho⟩ := h
  rw [e_law_refused]
  show r_law_refused g A _ [some v, some x, none, none] H
  unfold r_law_refused
  walk_at "rd"
  have main : ∀ (Q' : VK) (E' : XK), (∀ (D' : List Fct) (d' : Addr) (H' : Hp), ((∃ d, isD g.K x d ∈ D ∧ Shp 20 d) ∨ (∃ a, x = .ref a ∧ isI a (.dK []) ∈ D)) → (∀ H', Wd L D H' → Q (.bl true) H') → D ⊆ D' → Wd ((d', .xd [("path", x)]) :: L) D' H' → E' (.ref NP) (some d') H') →
      ((∀ H', Wd L D H' → Q (.bl false) H') → ∀ w (D' : List Fct) (H' : Hp), D ⊆ D' → Wd L D' H' → Q' w H') → spBrAt g CL CB NP [v, x] H Q' E' := by
    intro Q' E' he hk
    rcases ho with ⟨d, hx, sh, nb, k⟩ | ⟨a, rfl, hx, k⟩ | ⟨ds, m, ab, ss, ps, hx, hat, k⟩
    · rcases data_ty (W.fact hx : Dp g.K H x d) with ⟨ds, rfl⟩ | ⟨T, hT, ty⟩
      · exact ⟨v, t, x, L, D, rfl, hv, W, .inl ⟨ds, hx, fun m ab ss ps e => absurd e (nb ds rfl m ab ss ps), fun _ d' H' W' => he D d' H' (.inl ⟨_, hx, sh⟩) k fsR W'⟩⟩
      · have W1 := W.der (F := isTy g.K x T) isTy_stab fun B b => ty B (b _ hx)
        exact ⟨v, t, x, L, _, rfl, List.mem_cons_of_mem _ hv, W1, .inr ⟨T, hT, List.mem_cons_self, fun d' H' W' => he _ d' H' (.inl ⟨d, hx, sh⟩) k (fsT fsR) W'⟩⟩
    · have W1 := W.der (F := isTy g.K (.ref a) "dict") isTy_stab fun B b => .base (.dK (b (isI a (.dK [])) hx))
      exact ⟨v, t, .ref a, L, _, rfl, List.mem_cons_of_mem _ hv, W1, .inr ⟨"dict", by decide, List.mem_cons_self, fun d' H' W' => he _ d' H' (.inr ⟨a, rfl, hx⟩) k (fsT fsR) W'⟩⟩
    · exact ⟨v, t, x, L, D, rfl, hv, W, .inl ⟨ds, hx, fun m' ab' ss' ps' e w H' W' => hk k w _ H' (fsT fsR) W', fun hn => absurd hat (hn m ab ss ps)⟩⟩
  refine k_call f1 hr (main _ _ ?_ ?_)
  · clear main W H ho
    intro D' d' H hx k sD W
    refine ⟨true, by rw [R.eNP]; exact R.ex, fun _ a ha => ?_, fun h => by cases h⟩
    walk_at "rd"
    obtain ⟨c1, hc1, kc1⟩ := R.sole
    refine k_gl (v := .ref c1) ⟨_, hc1, rfl⟩ ?_
    walk_at "rd"
    refine ⟨NP, d', _, .ref c1, .ref c1, true, rfl, R.xc, rfl, W.at_ List.mem_cons_self, rfl, fun u h => h, kc1, ?_⟩
    walk_at "rd"
    obtain ⟨c2, hc2, kc2⟩ := R.nob
    refine k_gl (v := .ref c2) ⟨_, hc2, rfl⟩ ?_
    walk_at "rd"
    refine ⟨NP, d', _, .ref c2, .ref c2, false, rfl, R.xc, rfl, W.at_ List.mem_cons_self, rfl, fun u h => h, kc2, ?_⟩
    walk_at "rd"
    obtain ⟨c3, hc3, kc3⟩ := R.bad
    refine k_gl (v := .ref c3) ⟨_, hc3, rfl⟩ ?_
    walk_at "rd"
    refine ⟨NP, d', _, .ref c3, .ref c3, false, rfl, R.xc, rfl, W.at_ List.mem_cons_self, rfl, fun u h => h, kc3, ?_⟩
    walk_at "rd"
    refine ⟨rfl, NP, d', _, x, rfl, R.xf, R.pa, rfl, W.at_ List.mem_cons_self, rfl, ?_⟩
    walk_at "rd"
    have W1 : Wd L D H := W.arr (by walk_at "spm9") sD
    rcases hx with ⟨d, hx, sh⟩ | ⟨a, rfl, hx⟩
    · refine .inl (k_eq_D W1 (has_mem hx) (has_mem hx) (sh.ok (by decide)) (sh.ok (by decide)) ?_)
      rw [sh.eqv]
      exact k H W1
    · exact .inr ⟨a, a, [], rfl, rfl, W1.atI hx, W1.atI hx, by simp, by simp, k H W1⟩
  · clear main W H ho
    intro k w D' H sD W
    walk_at "rd"
    exact k H (W.arr spR sD)
theorem noBr_snoc {t u : Pn} {p : List PyData} {e : PyData} (h : atD t p = some u) (h2 : kidD u e = none) : NoBr t (.tuple (p ++ [e])) := by
  intro ds he m ab ss ps hh
  cases he
  rw [atD_app, h] at hh
  simp only [atD, h2] at hh
  cases hh
theorem noBr_leaf {t : Pn} {l : List Int} (h : l ∈ lvP t []) : atD t (l.map PyData.int) = some .leaf ∧ NoBr t (.tuple (l.map PyData.int)) := by
  obtain ⟨r, e, h1⟩ := lvP_at t [] l h
  rw [List.nil_append] at e
  subst e
  have h2 : atD t (l.map PyData.int) = some .leaf := by rw [atD_ints, h1]
  refine ⟨h2, fun ds he m ab ss ps hh => ?_⟩
  cases he
  rw [h2] at hh
  cases hh
theorem br_at {t : Pn} {p : List Int} {u : Pn} (h : (p, u) ∈ brP t []) : t.at_ p = some u ∧ ∃ m ab ss ps, u = .br m ab ss ps := by
  obtain ⟨r, e, h1, h2⟩ := brP_at t [] (p, u) h
  have e : p = r := by simpa using e
  subst e
  exact ⟨h1, h2⟩
theorem val_merge {k : List Key} : ∀ {kvs acc : List (List Key × V)}, (∃ v, (k, v) ∈ kvs ∧ valV (mergeT acc kvs) k = some v) ∨ ((∀ v, (k, v) ∉ kvs) ∧ valV (mergeT acc kvs) k = valV acc k)
  | [], acc => .inr ⟨fun _ h => (List.not_mem_nil h).elim, rfl⟩
  | kv :: kvs, acc => by
    rcases val_merge (k := k) (kvs := kvs) (acc := putK acc kv.1 kv.2) with ⟨v, h1, h2⟩ | ⟨h1, h2⟩
    · exact .inl ⟨v, List.mem_cons_of_mem _ h1, h2⟩
    · by_cases e : k = kv.1
      · subst e
        refine .inl ⟨kv.2, List.mem_cons_self, ?_⟩
        show valV (mergeT (putK acc kv.1 kv.2) kvs) kv.1 = _
        rw [h2, valV_put, if_pos rfl]
      · refine .inr ⟨fun v h => ?_, ?_⟩
        · rcases List.mem_cons.mp h with h | h
          · exact e (congrArg Prod.fst h)
          · exact h1 v h
        · show valV (mergeT (putK acc kv.1 kv.2) kvs) k = _
          rw [h2, valV_put, if_neg e]
theorem hs_prs {K : PySem.W.Frag} {B : Hp} : ∀ {vs : List V} {hs : List (List Int × Pn)}, HsAt K B vs hs → ∃ kvs, PrsAt K B vs kvs ∧ (∀ q ∈ hs, ∃ v, (keyI q.1, v) ∈ kvs) ∧ ∀ k v, (k, v) ∈ kvs → ∃ q ∈ hs, k = keyI q.1 ∧ RepAt K B v q.2
  | _, _, .nil => ⟨[], .nil, fun _ h => (List.not_mem_nil h).elim, fun _ _ h => (List.not_mem_nil h).elim⟩
  | _, _, .cons (p := p) (b := b) (v := v) (path := path) (t := t) h hb hr r => by
    obtain ⟨kvs, h1, h2, h3⟩ := hs_prs r
    refine ⟨(keyI path, v) :: kvs, .cons (SqT.of h) (by rw [keyI_v]; exact hb) h1, fun q hq => ?_, fun k w hk => ?_⟩
    · rcases List.mem_cons.mp hq with rfl | hq
      · exact ⟨v, List.mem_cons_self⟩
      · obtain ⟨w, hw⟩ := h2 q hq
        exact ⟨w, List.mem_cons_of_mem _ hw⟩
    · rcases List.mem_cons.mp hk with e | hk
      · cases e
        exact ⟨_, List.mem_cons_self, rfl, hr⟩
      · obtain ⟨q, hq, h⟩ := h3 k w hk
        exact ⟨q, List.mem_cons_of_mem _ hq, h⟩
theorem Wd.dictH {K : PySem.W.Frag} {L : Ow} {D : List Fct} {H : Hp} {hvs : List V} {t u : Pn} {path : List Int} (W : Wd L D H) (h : isHs K hvs (brP t []) ∈ D) (hu : (path, u) ∈ brP t []) :
    ∃ kvs v, PrsAt K H hvs kvs ∧ valV (mergeT [] kvs) (keyI path) = some v ∧ Wd L (isR K v u :: D) H := by
  obtain ⟨B, s, d, l⟩ := W.ex
  obtain ⟨kvs, h1, h2, h3⟩ := hs_prs ((d _ h).2 : HsAt K B hvs (brP t []))
  obtain ⟨v0, hv0⟩ := h2 (path, u) hu
  rcases val_merge (k := keyI path) (kvs := kvs) (acc := []) with ⟨v, m1, m2⟩ | ⟨m1, _⟩
  · obtain ⟨q, hq, hk, hr⟩ := h3 _ _ m1
    have e : path = q.1 := keyI_inj hk
    have a1 := (br_at hu).1
    have a2 := (br_at (show (q.1, q.2) ∈ brP t [] from hq)).1
    rw [← e, a1] at a2
    cases a2
    have stab : ∀ {vs : List V} {kvs : List (List Key × V)}, PrsAt K B vs kvs → PrsAt K H vs kvs := by
      intro vs kvs h
      induction h with
      | nil => exact .nil
      | cons h hk _ ih => exact .cons (Same.tup s h) (s _ _ hk) ih
    refine ⟨kvs, v, stab h1, m2, ⟨B, s, fun F hF => ?_, l⟩, W.nd⟩
    rcases List.mem_cons.mp hF with rfl | hF
    · exact ⟨isR_stab, hr⟩
    · exact d F hF
  · exact absurd hv0 (m1 v0)
theorem pow_10_18 : ((10 : Int) ^ (18 : Int).toNat) = 1000000000000000000 := by decide +kernel
theorem ref_at {α : Type} {xs : List α} {r : Int} (h0 : 0 ≤ r) (h1 : r < xs.length) : ∃ x, xs[r.toNat]? = some x := ⟨xs[r.toNat]'(by omega), by simp⟩
theorem Wd.dpI {K : PySem.W.Frag} {L : Ow} {D : List Fct} {H : Hp} {r : Addr} {p : List Int} {x : V} {e : PyData} (W : Wd L D H) (h : isI r (.tup (p.map V.int ++ [x])) ∈ D) (he : ∀ B, (∀ G ∈ D, G B) → Dp K B x e) : Wd L (isD K (.ref r) (.tuple (p.map PyData.int ++ [e])) :: D) H :=
  W.der isD_stab fun B b => .tup (SqT.of (b _ h)) (dpAll_app (dpAll_ints p) (.cons (he B b) .nil))
theorem shp_path {p : List Int} {e : PyData} (h : Shp 1 e) : Shp 20 (.tuple (p.map PyData.int ++ [e])) := by
  refine (shp_tuple (k := 1) fun d hd => ?_).up (by decide)
  rcases List.mem_append.mp hd with hd | hd
  · obtain ⟨i, _, rfl⟩ := List.mem_map.mp hd
    exact shp_int
  · rw [List.mem_singleton.mp hd]
    exact h
def spOdd (g : G) : Sp := fun vs H Q _ => ∃ bx cl cells b1 b2 b3 lq lvs hq hvs t L D, vs = [.ref bx, .ref lq, .ref hq] ∧ isSs lvs (lvP t []) ∈ D ∧ isHs g.K hvs (brP t []) ∈ D ∧ t.ok ∧ t.deep ≤ 6 ∧ t.isBr = true ∧ BxOk cells b1 b2 b3 b2 ∧ b2 < 2 ^ 59 ∧ Wd ((bx, bxO cl b1 b2 b3) :: (cl, clO cells) :: (lq, .lst lvs) :: (hq, .lst hvs) :: L) D H ∧
  ∀ x cells b1 b2' b3 D' H', ((∃ d, isD g.K x d ∈ D' ∧ Shp 20 d ∧ NoBr t d) ∨ (∃ a, x = .ref a ∧ isI a (.dK []) ∈ D')) → D ⊆ D' → BxOk cells b1 b2' b3 b2' → b2' ≤ b2 + 10 → Wd ((bx, bxO cl b1 b2' b3) :: (cl, clO cells) :: (lq, .lst lvs) :: (hq, .lst hvs) :: L) D' H' → Q x H'
theorem leaves_pos : ∀ (t : Pn), t.ok → 0 < (lvP t []).length
  | t, h => by
    rw [lvP_len]
    have key : ∀ t : Pn, t.ok → 0 < t.leaves := by
      intro t
      refine Pn.rec (motive_1 := fun t => t.ok → 0 < t.leaves) (motive_2 := fun ps => okL ps → ps ≠ [] → 0 < leavesL ps) ?_ ?_ ?_ ?_ t
      · intro _
        simp [Pn.leaves]
      · intro m ab ss ps ih h
        rw [Pn.leaves]
        exact ih h.2 h.1.hp
      · intro _ h
        exact absurd rfl h
      · intro p r ih1 _ h _
        rw [leavesL]
        have := ih1 h.1
        omega
    exact key t h
theorem w_odd {g : G} {A : Around} {vs : List V} {H : Hp} {Q : VK} {E : XK} {k1 : Nat} (hr : Room k1 A) (f1 : GF g k1 "_law_pick" spPick) (h : spOdd g vs H Q E) :
    t_law_odd g A { nx := fun _ H' => Q .non H', rt := Q } (start ["box", "leaves", "halls", "path", "leaf", "parts", "far", "menu"] vs) H := by
  obtain ⟨bx, cl, cells, b1, b2, b3, lq, lvs, hq, hvs, t, L, D, rfl, hls, hhs, ok, hd, hbr, ob, hb, W, k⟩ := h
  have hb0 := ob.p2
  have lls := W.lenSs hls
  have lhs := W.lenHs hhs
  have lpos := leaves_pos t ok
  have sz := size_le ok
  have hpos : 0 < (brP t []).length := by
    cases t with
    | leaf => cases hbr
    | br _ _ _ _ => rw [brP_len]; simp only [Pn.halls]; omega
  have hbl := brP_len t []
  have hll := lvP_len t []
  rw [e_law_odd]
  show r_law_odd g A _ [some (.ref bx), some (.ref lq), some (.ref hq), none, none, none, none, none] H
  unfold r_law_odd
  walk_at "rd"
  refine k_call f1 hr ⟨bx, cl, cells, b1, b2, b3, hvs.length, b2, (lq, .lst lvs) :: (hq, .lst hvs) :: L, _, rfl, by omega, by omega, ob, by omega, W, ?_⟩
  clear W H ob
  intro r cells b1 c b3 H r0 r1 ob W
  have hc := ob.l2
  obtain ⟨x, hx⟩ := ref_at (xs := hvs) r0 r1
  obtain ⟨n, rfl⟩ : ∃ n : Nat, r = n := ⟨r.toNat, by omega⟩
  refine k_ix_l W (by walk_at "mem") (atI_nat (by simpa using hx)) ?_
  obtain ⟨tp, pa, v, path, u, rfl, hu, W1⟩ := W.itemH hhs hx
  have humem := List.mem_of_getElem? hu
  obtain ⟨hat, um, uab, uss, ups, rfl⟩ := br_at humem
  have W2 := W1.itT (K := g.K) (show isI tp (.tup [.ref pa, v]) ∈ _ from List.mem_cons_self)
  have W3 := W2.itT (K := g.K) (show isI pa (.tup (path.map V.int)) ∈ _ by walk_at "mem")
  obtain ⟨DD, W, hpaI, hpaT, htp, sD⟩ : ∃ DD, Wd ((bx, bxO cl b1 c b3) :: (cl, clO cells) :: (lq, .lst lvs) :: (hq, .lst hvs) :: L) DD H ∧ isI pa (.tup (path.map V.int)) ∈ DD ∧ isT g.K pa (path.map V.int) ∈ DD ∧ isT g.K tp [.ref pa, v] ∈ DD ∧ D ⊆ DD :=
    ⟨_, W3, by walk_at "mem", by walk_at "mem", by walk_at "mem", by walk_at "sub"⟩
  clear W1 W2 W3
  walk_at "rd"
  refine k_call f1 hr ⟨bx, cl, cells, b1, c, b3, lvs.length, c, (lq, .lst lvs) :: (hq, .lst hvs) :: L, _, rfl, by omega, by omega, ob.tight, by omega, W, ?_⟩
  rename_i Wold
  clear W Wold ob
  clear H
  intro r cells b1 c2 b3 H s0 s1 ob W
  have hc2 := ob.l2
  obtain ⟨x, hx2⟩ := ref_at (xs := lvs) s0 s1
  obtain ⟨n2, rfl⟩ : ∃ n : Nat, r = n := ⟨r.toNat, by omega⟩
  refine k_ix_l W (by walk_at "mem") (atI_nat (by simpa using hx2)) ?_
  obtain ⟨lf, lpath, rfl, hlp, W1⟩ := W.itemS (sD hls) hx2
  have hlmem := List.mem_of_getElem? hlp
  obtain ⟨lat, lno⟩ := noBr_leaf hlmem
  have hlen1 := lvP_plen t [] lpath hlmem
  have hlen2 := brP_plen t [] (path, .br um uab uss ups) humem
  simp only [List.length_nil] at hlen1 hlen2
  have W2 := W1.itT (K := g.K) List.mem_cons_self
  obtain ⟨D2, W, hlfI, hlfT, s2⟩ : ∃ D2, Wd ((bx, bxO cl b1 c2 b3) :: (cl, clO cells) :: (lq, .lst lvs) :: (hq, .lst hvs) :: L) D2 H ∧ isI lf (.tup (lpath.map V.int)) ∈ D2 ∧ isT g.K lf (lpath.map V.int) ∈ D2 ∧ DD ⊆ D2 :=
    ⟨_, W2, by walk_at "mem", by walk_at "mem", by walk_at "sub"⟩
  clear W1 W2
  have hpaI2 := s2 hpaI
  have hpaT2 := s2 hpaT
  walk_at "rd"
  obtain ⟨kvs, v', hprs, hval, W1⟩ := W.dictH (s2 (sD hhs)) humem
  refine ⟨hq, hvs, kvs, rfl, W.sq (by walk_at "mem"), hprs, fun dd hdd => ?_⟩
  obtain ⟨ra, ua, fa, rpa, rpvs, rsvs, rfl, lrp, lrs, W2⟩ := (W1.new hdd (.dT (mergeT [] kvs))).opR List.mem_cons_self
  have hpk : isI pa (.tup (path.map V.int)) ∈ isI ra (.tup [.str um, .ref ua, .ref fa, .ref rpa]) :: isT g.K ra [.str um, .ref ua, .ref fa, .ref rpa] :: isT g.K ua (uab.map V.int) :: isT g.K fa rsvs :: isSs rsvs uss :: isI rpa (.lst rpvs) :: isL g.K rpa rpvs :: isRs g.K rpvs ups :: isR g.K (.ref ra) (.br um uab uss ups) :: D2 := by walk_at "mem"
  walk_at "rd"
  have hget := DGet.t (k := keyI path) (W2.at_ (show (dd, HO.dT (mergeT [] kvs)) ∈ _ from List.mem_cons_self)) (by rw [keyI_v]; exact W2.atI hpk)
  rw [hval] at hget
  refine .inr ⟨dd, .ref ra, rfl, hget, ?_⟩
  have W3 := W2.arr (L' := (bx, bxO cl b1 c2 b3) :: (cl, clO cells) :: (lq, .lst lvs) :: (hq, .lst hvs) :: L) (D' := isT g.K ra [.str um, .ref ua, .ref fa, .ref rpa] :: isL g.K rpa rpvs :: D2) (by walk_at "spm9") (by walk_at "sub")
  clear hget hprs W1 W2
  rename_i Wo1 Wo2
  clear W Wo1 Wo2
  have W := W3
  clear W3
  walk_at "rd"
  rw [lrp]
  refine k_pow cpow_10_18 ?_
  rw [pow_10_18]
  walk_at "rd"
  refine k_call f1 hr ⟨bx, cl, cells, b1, c2, b3, 1000000000000000000, c2, (lq, .lst lvs) :: (hq, .lst hvs) :: L, _, rfl, by decide, by decide, ob.tight, by omega, W, ?_⟩
  clear W ob
  intro far cells b1 c3 b3 H far0 far1 ob W
  have hc3 := ob.l2
  have hpaI3 := List.mem_cons_of_mem (isT g.K ra [.str um, .ref ua, .ref fa, .ref rpa]) (List.mem_cons_of_mem (isL g.K rpa rpvs) hpaI2)
  have hpaT3 := List.mem_cons_of_mem (isT g.K ra [.str um, .ref ua, .ref fa, .ref rpa]) (List.mem_cons_of_mem (isL g.K rpa rpvs) hpaT2)
  have hlfI3 := List.mem_cons_of_mem (isT g.K ra [.str um, .ref ua, .ref fa, .ref rpa]) (List.mem_cons_of_mem (isL g.K rpa rpvs) hlfI)
  have sD3 : D ⊆ isT g.K ra [.str um, .ref ua, .ref fa, .ref rpa] :: isL g.K rpa rpvs :: D2 := fsT (fsT fun _ h => s2 (sD h))
  revert W hpaI3 hpaT3 hlfI3 sD3
  generalize isT g.K ra [.str um, .ref ua, .ref fa, .ref rpa] :: isL g.K rpa rpvs :: D2 = D4
  intro W hpaI hpaT hlfI sD
  walk_at "rd"
  refine k_list_T W (W.tupl hpaT) ?_
  clear W H
  intro m0 H W
  have W1 := W.frzI
  have hm0 : isI m0 (.lst (path.map V.int)) ∈ isI m0 (.lst (path.map V.int)) :: D4 := List.mem_cons_self
  clear W
  have W := W1
  clear W1
  walk_at "rd"
  refine k_catI (xs := lpath.map V.int) W (by walk_at "mem") (by simp) (by rw [List.length_map]; show lpath.length + 1 ≤ _; omega) ?_
  clear W H
  intro m2 H W
  walk_at "rd"
  refine k_catI (xs := path.map V.int) W (by walk_at "mem") (by simp) (by rw [List.length_map]; show path.length + 1 ≤ _; omega) ?_
  clear W H
  intro m3 H W
  walk_at "rd"
  refine ⟨1, rfl, ?_⟩
  walk_at "rd"
  refine k_catI (xs := path.map V.int) W (by walk_at "mem") (by simp) (by rw [List.length_map]; show path.length + 1 ≤ _; omega) ?_
  clear W H
  intro m4 H W
  walk_at "rd"
  refine k_catI (xs := path.map V.int) W (by walk_at "mem") (by simp) (by rw [List.length_map]; show path.length + 1 ≤ _; omega) ?_
  clear W H
  intro m5 H W
  walk_at "rd"
  refine k_catI (xs := path.map V.int) W (by walk_at "mem") (by simp) (by rw [List.length_map]; show path.length + 1 ≤ _; omega) ?_
  clear W H
  intro m6 H W
  walk_at "rd"
  rename_i mq t7
  refine k_catI (xs := path.map V.int) W (by walk_at "mem") (by simp) (by rw [List.length_map]; show path.length + 1 ≤ _; omega) ?_
  clear W H
  intro m7 H W
  walk_at "rd"
  refine k_dnewK W ?_
  clear W H
  intro m8 H W
  have W1 := W.frzI
  clear W
  have W := W1
  clear W1
  walk_at "rd"
  rename_i t9 t9'
  refine k_catI (xs := path.map V.int) W (by walk_at "mem") (by simp) (by rw [List.length_map]; show path.length + 1 ≤ _; omega) ?_
  clear W H
  intro m9 H W
  have W1 := W.frzI
  clear W
  have W := W1
  clear W1
  walk_at "rd"
  rename_i t10 t10'
  refine k_catI (xs := path.map V.int) W (by walk_at "mem") (by simp) (by rw [List.length_map]; show path.length + 1 ≤ _; omega) ?_
  clear W H
  intro m10 H W
  have W1 := W.frzI
  clear W
  have W := W1
  clear W1
  walk_at "rd"
  refine ⟨1, rfl, ?_⟩
  walk_at "rd"
  rename_i sl
  have W1 := W.ord (L' := (mq, .lst [.ref m0, .ref lf, .ref m2, .ref m3, .ref m4, .ref m5, .ref m6]) :: (sl, .lst [.ref m7, .non, .int 0, .str "", .str "()", .bl true, .bl false, .ref m8, .ref m9, .ref m10, .int (-1 - far)]) :: (bx, bxO cl b1 c3 b3) :: (cl, clO cells) :: (lq, .lst lvs) :: (hq, .lst hvs) :: L) (by walk_at "spm9")
  clear W
  refine k_ext (q := sl) W1 List.mem_cons_self (sl_of (show 7 + 11 ≤ 1000000 by decide)) ?_
  clear W1 H
  intro H W
  obtain ⟨D9, W, i0, i1, i2, i3, i4, i5, i6, i7, i8, i9, j9, i10, j10, s9⟩ : ∃ D9, Wd ((mq, .lst [.ref m0, .ref lf, .ref m2, .ref m3, .ref m4, .ref m5, .ref m6, .ref m7, .non, .int 0, .str "", .str "()", .bl true, .bl false, .ref m8, .ref m9, .ref m10, .int (-1 - far)]) :: (bx, bxO cl b1 c3 b3) :: (cl, clO cells) :: (lq, .lst lvs) :: (hq, .lst hvs) :: L) D9 H ∧
      isI m0 (.lst (path.map V.int)) ∈ D9 ∧ isI lf (.tup (lpath.map V.int)) ∈ D9 ∧ isI m2 (.tup (lpath.map V.int ++ [.int 0])) ∈ D9 ∧ isI m3 (.tup (path.map V.int ++ [.int ((ups.length : Int) + far)])) ∈ D9 ∧ isI m4 (.tup (path.map V.int ++ [.int (-1 - far)])) ∈ D9 ∧ isI m5 (.tup (path.map V.int ++ [.bl true])) ∈ D9 ∧ isI m6 (.tup (path.map V.int ++ [.non])) ∈ D9 ∧ isI m7 (.tup (path.map V.int ++ [.str "0"])) ∈ D9 ∧ isI m8 (.dK []) ∈ D9 ∧ isI m9 (.tup (path.map V.int ++ [.ref t9])) ∈ D9 ∧ isI t9 (.tup []) ∈ D9 ∧ isI m10 (.tup (path.map V.int ++ [.ref t10])) ∈ D9 ∧ isI t10 (.lst []) ∈ D9 ∧ D ⊆ D9 :=
    ⟨_, W.ord (by walk_at "spm9"), by walk_at "mem", by walk_at "mem", by walk_at "mem", by walk_at "mem", by walk_at "mem", by walk_at "mem", by walk_at "mem", by walk_at "mem", by walk_at "mem", by walk_at "mem", by walk_at "mem", by walk_at "mem", by walk_at "mem", by walk_at "sub"⟩
  walk_at "rd"
  refine k_call f1 hr ⟨bx, cl, cells, b1, c3, b3, 18, c3, (mq, .lst [.ref m0, .ref lf, .ref m2, .ref m3, .ref m4, .ref m5, .ref m6, .ref m7, .non, .int 0, .str "", .str "()", .bl true, .bl false, .ref m8, .ref m9, .ref m10, .int (-1 - far)]) :: (lq, .lst lvs) :: (hq, .lst hvs) :: L, _, rfl, by decide, by decide, ob.tight, by omega, W.ord (by walk_at "spm9"), ?_⟩
  rename_i Wo
  clear W Wo ob H
  intro r cells b1 c4 b3 H q0 q1 ob W
  have hc4 := ob.l2
  have fin : ∀ x, ((∃ d, (∀ B, (∀ G ∈ D9, G B) → Dp g.K B x d) ∧ Shp 20 d ∧ NoBr t d) ∨ (∃ a, x = .ref a ∧ isI a (.dK []) ∈ D9)) → Q x H := by
    intro x hx
    rcases hx with ⟨d, h1, h2, h3⟩ | ⟨a, h1, h2⟩
    · have W1 := W.der (F := isD g.K x d) isD_stab h1
      exact k x cells b1 c4 b3 _ H (.inl ⟨d, List.mem_cons_self, h2, h3⟩) (fsT s9) ob.tight (by omega) (W1.ord (by walk_at "spm9"))
    · exact k x cells b1 c4 b3 _ H (.inr ⟨a, h1, h2⟩) s9 ob.tight (by omega) (W.ord (by walk_at "spm9"))
  have hatD : atD t (path.map PyData.int) = some (.br um uab uss ups) := by rw [atD_ints, hat]
  have kidn : ∀ i : Int, (i < 0 ∨ (ups.length : Int) ≤ i) → kidD (.br um uab uss ups) (.int i) = none := fun i hi => by
    show (if 0 ≤ i ∧ i < (ups.length : Int) then ups[i.toNat]? else none) = none
    rw [if_neg (by omega)]
  have pth : ∀ (m : Addr) (x : V) (e : PyData), isI m (.tup (path.map V.int ++ [x])) ∈ D9 → (∀ B, (∀ G ∈ D9, G B) → Dp g.K B x e) → Shp 1 e → kidD (.br um uab uss ups) e = none → Q (.ref m) H := fun m x e h1 h2 h3 h4 =>
    fin _ (.inl ⟨.tuple (path.map PyData.int ++ [e]), fun B b => .tup (SqT.of (b _ h1)) (dpAll_app (dpAll_ints path) (.cons (h2 B b) .nil)), shp_path h3, noBr_snoc hatD h4⟩)
  have flat : ∀ (x : V) (e : PyData), Fl x e → Shp 1 e → (∀ ds, e ≠ .tuple ds) → Q x H := fun x e h1 h2 h3 => fin _ (.inl ⟨e, fun B b => h1.dp, h2.up (by decide), fun ds he => absurd he (h3 ds)⟩)
  have hrr : r = 0 ∨ r = 1 ∨ r = 2 ∨ r = 3 ∨ r = 4 ∨ r = 5 ∨ r = 6 ∨ r = 7 ∨ r = 8 ∨ r = 9 ∨ r = 10 ∨ r = 11 ∨ r = 12 ∨ r = 13 ∨ r = 14 ∨ r = 15 ∨ r = 16 ∨ r = 17 := by omega
  rcases hrr with rfl | rfl | rfl | rfl | rfl | rfl | rfl | rfl | rfl | rfl | rfl | rfl | rfl | rfl | rfl | rfl | rfl | rfl
  · exact k_ix_l W (by walk_at "mem") rfl (fin _ (.inl ⟨.list (path.map PyData.int), fun B b => .lst (SqL.of (b _ i0)) (dpAll_ints path), (shp_list (k := 0) (mem_map fun _ _ => shp_int)).up (by decide), fun ds he => by cases he⟩))
  · exact k_ix_l W (by walk_at "mem") rfl (fin _ (.inl ⟨.tuple (lpath.map PyData.int), fun B b => .tup (SqT.of (b _ i1)) (dpAll_ints lpath), (shp_tuple (k := 0) (mem_map fun _ _ => shp_int)).up (by decide), lno⟩))
  · exact k_ix_l W (by walk_at "mem") rfl (fin _ (.inl ⟨.tuple (lpath.map PyData.int ++ [.int 0]), fun B b => .tup (SqT.of (b _ i2)) (dpAll_app (dpAll_ints lpath) (.cons (.int 0) .nil)), shp_path shp_int, noBr_snoc lat rfl⟩))
  · exact k_ix_l W (by walk_at "mem") rfl (pth _ _ (.int _) i3 (fun _ _ => .int _) shp_int (kidn _ (by omega)))
  · exact k_ix_l W (by walk_at "mem") rfl (pth _ _ (.int _) i4 (fun _ _ => .int _) shp_int (kidn _ (by omega)))
  · exact k_ix_l W (by walk_at "mem") rfl (pth _ _ (.bool true) i5 (fun _ _ => .bl _) shp_bool rfl)
  · exact k_ix_l W (by walk_at "mem") rfl (pth _ _ .none i6 (fun _ _ => .non) shp_none rfl)
  · exact k_ix_l W (by walk_at "mem") rfl (pth _ _ (.str "0") i7 (fun _ _ => .str _) (shp_str (by decide +kernel)) rfl)
  · exact k_ix_l W (by walk_at "mem") rfl (flat _ .none .non shp_none fun ds h => by cases h)
  · exact k_ix_l W (by walk_at "mem") rfl (flat _ (.int 0) (.int 0) shp_int fun ds h => by cases h)
  · exact k_ix_l W (by walk_at "mem") rfl (flat _ (.str "") (.str "") (shp_str (by decide +kernel)) fun ds h => by cases h)
  · exact k_ix_l W (by walk_at "mem") rfl (flat _ (.str "()") (.str "()") (shp_str (by decide +kernel)) fun ds h => by cases h)
  · exact k_ix_l W (by walk_at "mem") rfl (flat _ (.bool true) (.bl true) shp_bool fun ds h => by cases h)
  · exact k_ix_l W (by walk_at "mem") rfl (flat _ (.bool false) (.bl false) shp_bool fun ds h => by cases h)
  · exact k_ix_l W (by walk_at "mem") rfl (fin _ (.inr ⟨m8, rfl, i8⟩))
  · exact k_ix_l W (by walk_at "mem") rfl (pth _ _ (.tuple []) i9 (fun B b => .tup (SqT.of (b _ j9)) .nil) (shp_tuple (k := 0) fun _ h => (List.not_mem_nil h).elim) rfl)
  · exact k_ix_l W (by walk_at "mem") rfl (pth _ _ (.list []) i10 (fun B b => .lst (SqL.of (b _ j10)) .nil) (shp_list (k := 0) fun _ h => (List.not_mem_nil h).elim) rfl)
  · exact k_ix_l W (by walk_at "mem") rfl (flat _ (.int _) (.int _) shp_int fun ds h => by cases h)
theorem kid_ok {t u : Pn} {i : Int} (ok : t.ok) (h : t.kid i = some u) : u.ok ∧ u.deep ≤ t.deep := by
  cases t with
  | leaf => cases h
  | br m ab ss ps =>
    have h : (if 0 ≤ i ∧ i < (ps.length : Int) then ps[i.toNat]? else none) = some u := h
    split at h
    · exact ⟨okL_at ok.2 h, by have := deepL_at (Nat.le_refl _) h; simp only [Pn.deep]; omega⟩
    · cases h
theorem at_ok : ∀ (p : List Int) {t u : Pn}, t.ok → t.at_ p = some u → u.ok ∧ u.deep ≤ t.deep
  | [], t, u, ok, h => by
    cases h
    exact ⟨ok, Nat.le_refl _⟩
  | i :: p, t, u, ok, h => by
    have h : (match t.kid i with | some w => w.at_ p | none => none) = some u := h
    cases hk : t.kid i with
    | none => rw [hk] at h; cases h
    | some w =>
      rw [hk] at h
      obtain ⟨h1, h2⟩ := kid_ok ok hk
      obtain ⟨h3, h4⟩ := at_ok p h1 h
      exact ⟨h3, by omega⟩
structure Top85 (g : G) (A : Around) (CL CB NP : Addr) (k : Nat) : Prop where
  hr : Room (k + 4) A
  C : Cls2 g CL CB
  M : PMs2 g k CL CB 6
  R : Rf g NP
  box : GF g k "_law_box" (spBoxF g)
  pick : GF g k "_law_pick" spPick
  rep : GF g k "_law_rep" (spRep g 6)
  made : GF g k "_law_made" (spMade83 g CL CB 6)
  shared : GF g k "_law_shared" (spShared g CL CB 6)
  words : GF g k "_law_words" (spLWords g 6)
  walk : GF g k "_law_walk" (spWalk g 6)
  places : GF g k "places" (spPlaces g CL CB 6)
  bp : GF g k "branch_paths" (spBrPaths g CL CB 6)
  paths : GF g k "_law_paths" (spPaths g)
  els : GF g k "_law_elsewhere" (spElse g CL CB)
  bat : GF g k "branch_at" (spBrAt g CL CB NP)
  odd : GF g k "_law_odd" (spOdd g)
  refused : GF g k "_law_refused" (spRef g CL CB)
theorem bp_ok {t : Pn} (ok : t.ok) (hd : t.deep ≤ 6) : ([] :: poP t []).length ≤ 1000 ∧ ∀ s ∈ ([] :: poP t [] : List (List Int)), s.length ≤ 1000 := by
  have sz := size_le ok
  have h2 := poP_le t []
  have h3 := seats_ok ok hd
  refine ⟨by rw [List.length_cons]; omega, fun s hs => ?_⟩
  rcases List.mem_cons.mp hs with rfl | hs
  · simp
  · exact h3.2 s (List.mem_append_right _ hs)
theorem w_law85 {g : G} {A : Around} {CL CB NP : Addr} {k0 : Nat} (T : Top85 g A CL CB NP k0) {vs : List V} {H : Hp} {Q : VK} {E : XK} (h : spLaw81 g vs H Q E) :
    t_law_k85 g A { nx := fun _ H' => Q .non H', rt := Q } (start ["script", "box", "size", "rep", "plan", "leaves", "halls", "porters", "told", "also", "path", "one", "found", "k"] vs) H := by
  obtain ⟨s, cs, L, D, rfl, hs, hc, hl, W, k⟩ := h
  have hr : Room k0 A := T.hr.mono (by omega)
  have C := T.C
  rw [e_law_k85]
  show r_law_k85 g A _ [some (.ref s), none, none, none, none, none, none, none, none, none, none, none, none, none] H
  unfold r_law_k85
  walk_at "rd"
  refine k_call T.box hr ⟨s, cs, L, D, rfl, hs, W, ?_⟩
  clear W H
  intro bx cl H W
  walk_at "rd"
  refine k_call T.pick hr ⟨bx, cl, cs, 0, 0, 5, 12, 0, L, D, rfl, by decide, by decide, ⟨hc, by decide, by decide, by decide, by decide, by decide⟩, by decide, W, ?_⟩
  clear W H
  intro r cells b1 b2 b3 H r0 r1 ob W
  walk_at "rd"
  refine k_cut (fun σ H => ∃ n : Nat, ∃ cells b1 b2 b3, σ = [some (.ref s), some (.ref bx), some (.int n), none, none, none, none, none, none, none, none, none, none, none] ∧ 1 ≤ n ∧ n ≤ 60 ∧ BxOk cells b1 b2 b3 b2 ∧ b2 ≤ 100 ∧ Wd ((bx, bxO cl b1 b2 b3) :: (cl, clO cells) :: L) D H) ?_ ?_
  · walk_at "rd"
    refine k_call T.pick hr ⟨bx, cl, cells, b1, b2, b3, 4, _, L, D, rfl, by decide, by decide, ob, by decide, W, ?_⟩
    clear W H ob
    intro r4 cells b1 b2 b3 H _ _ ob W
    have ob1 := ob.p2
    have ob2 := ob.l2
    walk_at "rd"
    refine k_ifd (fun h => ?_) (fun h => ?_)
    · walk_at "rd"
      exact ⟨60, cells, b1, b2, b3, rfl, by decide, by decide, ob.tight, by omega, W⟩
    · walk_at "rd"
      exact ⟨(1 + r).toNat, cells, b1, b2, b3, by rw [show (((1 + r).toNat : Nat) : Int) = 1 + r from by omega], by omega, by omega, ob.tight, by omega, W⟩
  clear W H ob
  rintro σ H ⟨n, cells, b1, b2, b3, rfl, n1, n2, ob, hb2, W⟩
  walk_at "rd"
  rename_i lf
  refine k_call T.pick hr ⟨bx, cl, cells, b1, b2, b3, 6, b2, (lf, .lst [.int n]) :: L, D, rfl, by decide, by decide, ob, by omega, W.ord (by walk_at "spm"), ?_⟩
  clear W H ob
  intro r6 cells b1 b2' b3 H r60 r61 ob W
  have ob2 := ob.l2
  walk_at "rd"
  refine k_call T.rep hr ⟨bx, cl, cells, b1, b2', b3, lf, n, (1 + r6).toNat, L, D, by rw [show (((1 + r6).toNat : Nat) : Int) = 1 + r6 from by omega], by omega, by omega, by decide, n1, n2, ob.tight, by omega, W.ord (by walk_at "spm"), ?_⟩
  clear W H ob
  intro v t n' cells b1 b4 b3 H hbr ok hd hn ob hb4 W
  have hd6 : t.deep ≤ 6 := by omega
  have hb40 := ob.p2
  have sz := size_le ok
  walk_at "rd"
  refine k_call T.made hr ⟨v, t, _, _, rfl, List.mem_cons_self, ok, hd6, by decide, W, ?_⟩
  clear W H
  intro p0 H W
  walk_at "rd"
  refine k_cut (fun σ H => ∃ p cells b1 c b3, σ = [some (.ref s), some (.ref bx), some (.int n), some v, some p, none, none, none, none, none, none, none, none, none] ∧ BxOk cells b1 c b3 c ∧ c ≤ b4 + 1 ∧ Wd ((bx, bxO cl b1 c b3) :: (cl, clO cells) :: L) (isP g.K CL CB p t :: isR g.K v t :: D) H) ?_ ?_
  · walk_at "rd"
    refine k_call T.pick hr ⟨bx, cl, cells, b1, b4, b3, 2, b4, (lf, .lst [.int n']) :: L, _, rfl, by decide, by decide, ob, by omega, W.ord (by walk_at "spm"), ?_⟩
    clear W H ob
    intro r2 cells b1 b5 b3 H _ _ ob W
    have ob3 := ob.l2
    walk_at "rd"
    refine k_ifd (fun h => ?_) (fun h => ?_)
    · walk_at "rd"
      refine k_dnewK W ?_
      clear W H
      intro nd H W
      have W1 := W.der (F := isNm g.K CL CB []) isNm_stab fun B b k w e => by cases e
      clear W
      walk_at "rd"
      refine k_call T.shared hr ⟨v, t, nd, [], _, _, rfl, by walk_at "mem", ok, hd6, by decide, by simp; omega, List.mem_cons_self, W1, ?_⟩
      clear W1 H
      intro p kvs' H _ W
      walk_at "rd"
      exact ⟨p, cells, b1, b5, b3, rfl, ob.tight, by omega, W.arr (by walk_at "spm9") (by walk_at "sub")⟩
    · walk_at "rd"
      exact ⟨p0, cells, b1, b5, b3, rfl, ob.tight, by omega, W.arr (by walk_at "spm9") (by walk_at "sub")⟩
  clear W H ob
  rintro σ H ⟨p, cells, b1, c, b3, rfl, ob, hc5, W⟩
  have hc0 := ob.p2
  have hll := lvP_len t []
  have hbl := brP_len t []
  have hpl := poP_le t []
  have sok := seats_ok ok hd6
  have bok := bp_ok ok hd6
  walk_at "rd"
  rename_i lq hq t0
  have W1 := W.frzI
  have W2 := (W1.der (F := isSs [] []) isSs_stab fun _ _ => .nil).der (F := isHs g.K [] []) isHs_stab fun _ _ => .nil
  refine k_call T.walk hr ⟨v, t, t0, [], lq, [], [], hq, [], [], (bx, bxO cl b1 c b3) :: (cl, clO cells) :: L, _, rfl, by walk_at "mem", by walk_at "mem", ok, hd6, by decide, by simp; omega, by simp; omega, by simp; omega, by walk_at "mem", by walk_at "mem", W2.ord (by walk_at "spm9"), ?_⟩
  clear W W1 W2 H
  intro lvs hvs H W
  rw [List.nil_append, List.nil_append] at W
  have W0 := W.arr (L' := (lq, .lst lvs) :: (hq, .lst hvs) :: (bx, bxO cl b1 c b3) :: (cl, clO cells) :: L) (D' := isSs lvs (lvP t []) :: isHs g.K hvs (brP t []) :: isP g.K CL CB p t :: isR g.K v t :: D) (by walk_at "spm9") (by walk_at "sub")
  clear W
  have W := W0
  clear W0
  have e1 := W.lenSs List.mem_cons_self
  have e2 := W.lenHs (show isHs g.K hvs _ ∈ _ from List.mem_cons_of_mem _ List.mem_cons_self)
  walk_at "rd"
  refine k_lcPaths (by decide) (show 11 < 14 by decide) W (by walk_at "mem") (show isHs g.K hvs (brP t []) ∈ _ by walk_at "mem") (by omega) ?_
  clear W H
  intro pq acc H W
  rw [← poP_paths] at W
  have e3 := W.lenSs List.mem_cons_self
  walk_at "rd"
  refine k_call T.places hr ⟨p, t, _, _, rfl, by walk_at "mem", ok, hd6, by decide, W, ?_⟩
  clear W H
  intro tq tvs H W
  walk_at "rd"
  refine k_call T.bp hr ⟨p, t, _, _, rfl, by walk_at "mem", ok, hd6, W, ?_⟩
  clear W H
  intro aq avs H W
  have e4 := W.lenSs List.mem_cons_self
  have e5 := W.lenSs (show isSs tvs _ ∈ _ from List.mem_cons_of_mem _ List.mem_cons_self)
  walk_at "rd"
  refine k_add_ll W (by walk_at "mem") (by walk_at "mem") (sl_of (by omega)) ?_
  clear W H
  intro l1 H W
  have W1 := W.der (F := isSs (lvs ++ acc) (lvP t [] ++ poP t [])) isSs_stab fun B b => SsAt.app (b (isSs lvs (lvP t [])) (by walk_at "mem")) (b (isSs acc (poP t [])) (by walk_at "mem"))
  clear W
  refine k_call T.paths hr ⟨tq, l1, tvs, lvs ++ acc, _, _, _, rfl, by walk_at "mem", by walk_at "mem", show isSs tvs (lvP t [] ++ poP t []) ∈ _ by walk_at "mem", List.mem_cons_self, sok.1, sok.2, W1, ?_⟩
  clear W1 H
  intro H W
  walk_at "rd"
  rename_i t1 l2
  have W0 := W.ord (L' := (t1, .tup []) :: (l2, .lst [.ref t1]) :: (aq, .lst avs) :: (tq, .lst tvs) :: (pq, .lst acc) :: (lq, .lst lvs) :: (hq, .lst hvs) :: (bx, bxO cl b1 c b3) :: (cl, clO cells) :: L) (by walk_at "spm9")
  have W1 := W0.frzI
  clear W W0
  refine k_add_ll W1 (by walk_at "mem") (by walk_at "mem") (sl_of (by simp; omega)) ?_
  clear W1 H
  intro l3 H W
  have W1 := W.der (F := isSs ([V.ref t1] ++ acc) ([] :: poP t [])) isSs_stab fun B b => .cons (s := []) (b (isI t1 (.tup [])) (by walk_at "mem")) (b (isSs acc (poP t [])) (by walk_at "mem"))
  clear W
  refine k_call T.paths hr ⟨aq, l3, avs, [V.ref t1] ++ acc, _, _, _, rfl, by walk_at "mem", by walk_at "mem", show isSs avs ([] :: poP t []) ∈ _ by walk_at "mem", List.mem_cons_self, bok.1, bok.2, W1, ?_⟩
  clear W1 H
  intro H W
  walk_at "rd"
  rename_i tz
  refine k_app (p := tq) (W.ord (L' := (tq, .lst tvs) :: (aq, .lst avs) :: (pq, .lst acc) :: (lq, .lst lvs) :: (hq, .lst hvs) :: (bx, bxO cl b1 c b3) :: (cl, clO cells) :: L) (by walk_at "spm9")) (sl_lt (by rw [e5, List.length_append]; omega)) ?_
  clear W H
  intro H W
  walk_at "rd"
  refine k_app (p := aq) (W.ord (L' := (aq, .lst avs) :: (pq, .lst acc) :: (lq, .lst lvs) :: (hq, .lst hvs) :: (bx, bxO cl b1 c b3) :: (cl, clO cells) :: L) (by walk_at "spm9")) (sl_lt (by rw [e4, List.length_cons]; omega)) ?_
  clear W H
  intro H W
  have W0 := W.arr (L' := (pq, .lst acc) :: (lq, .lst lvs) :: (hq, .lst hvs) :: (bx, bxO cl b1 c b3) :: (cl, clO cells) :: L) (D' := isSs acc (poP t []) :: isSs lvs (lvP t []) :: isHs g.K hvs (brP t []) :: isP g.K CL CB p t :: isR g.K v t :: D) (by walk_at "spm9") (by walk_at "sub")
  clear W
  have W := W0
  clear W0
  walk_at "rd"
  obtain ⟨m, ab, ss, ps, et⟩ : ∃ m ab ss ps, t = .br m ab ss ps := by
    cases t with
    | leaf => cases hbr
    | br m ab ss ps => exact ⟨m, ab, ss, ps, rfl⟩
  refine k_call T.els hr ⟨p, v, m, ab, ss, ps, _, _, rfl, by rw [← et]; walk_at "mem", by rw [← et]; walk_at "mem", et ▸ ok, et ▸ hd6, W, ?_⟩
  clear W H
  intro H W
  walk_at "rd"
  refine k_call T.places hr ⟨p, t, _, _, rfl, by walk_at "mem", ok, hd6, by decide, W, ?_⟩
  clear W H
  intro tq2 tvs2 H W
  walk_at "rd"
  refine k_add_ll W (by walk_at "mem") (by walk_at "mem") (sl_of (by omega)) ?_
  clear W H
  intro l4 H W
  have W1 := W.der (F := isSs (lvs ++ acc) (lvP t [] ++ poP t [])) isSs_stab fun B b => SsAt.app (b (isSs lvs (lvP t [])) (by walk_at "mem")) (b (isSs acc (poP t [])) (by walk_at "mem"))
  clear W
  refine k_call T.paths hr ⟨tq2, l4, tvs2, lvs ++ acc, _, _, _, rfl, by walk_at "mem", by walk_at "mem", show isSs tvs2 (lvP t [] ++ poP t []) ∈ _ by walk_at "mem", List.mem_cons_self, sok.1, sok.2, W1, ?_⟩
  clear W1 H
  intro H W
  walk_at "rd"
  refine k_call T.bp hr ⟨p, t, _, _, rfl, by walk_at "mem", ok, hd6, W, ?_⟩
  clear W H
  intro aq2 avs2 H W
  walk_at "rd"
  rename_i t5 l5
  have W0 := W.ord (L' := (t5, .tup []) :: (l5, .lst [.ref t5]) :: (aq2, .lst avs2) :: (pq, .lst acc) :: (lq, .lst lvs) :: (hq, .lst hvs) :: (bx, bxO cl b1 c b3) :: (cl, clO cells) :: L) (by walk_at "spm9")
  have W1 := W0.frzI
  clear W W0
  refine k_add_ll W1 (by walk_at "mem") (by walk_at "mem") (sl_of (by simp; omega)) ?_
  clear W1 H
  intro l6 H W
  have W1 := W.der (F := isSs ([V.ref t5] ++ acc) ([] :: poP t [])) isSs_stab fun B b => .cons (s := []) (b (isI t5 (.tup [])) (by walk_at "mem")) (b (isSs acc (poP t [])) (by walk_at "mem"))
  clear W
  refine k_call T.paths hr ⟨aq2, l6, avs2, [V.ref t5] ++ acc, _, _, _, rfl, by walk_at "mem", by walk_at "mem", show isSs avs2 ([] :: poP t []) ∈ _ by walk_at "mem", List.mem_cons_self, bok.1, bok.2, W1, ?_⟩
  clear W1 H
  intro H W
  have W0 := W.arr (L' := (bx, bxO cl b1 c b3) :: (cl, clO cells) :: (lq, .lst lvs) :: (hq, .lst hvs) :: L) (D' := isSs lvs (lvP t []) :: isHs g.K hvs (brP t []) :: isP g.K CL CB p t :: isR g.K v t :: D) (by walk_at "spm9") (by walk_at "sub")
  clear W
  have W := W0
  clear W0
  walk_at "rd"
  refine k_for walk_list (fun i σ H => ∃ x10 x11 x12, σ = [some (.ref s), some (.ref bx), some (.int n), some v, some p, some (.ref lq), some (.ref hq), some (.ref pq), some (.ref tq), some (.ref aq), x10, x11, x12, none] ∧ Wd ((bx, bxO cl b1 c b3) :: (cl, clO cells) :: (lq, .lst lvs) :: (hq, .lst hvs) :: L) (isSs lvs (lvP t []) :: isHs g.K hvs (brP t []) :: isP g.K CL CB p t :: isR g.K v t :: D) H)
    ⟨_, _, _, rfl, W⟩ (fun i σ H _ ⟨_, _, _, _, W⟩ => W.sq (show (hq, HO.lst hvs) ∈ _ by walk_at "mem")) ?_ ?_
  · clear W H
    rintro i x σ H H' hi ⟨x10, x11, x12, rfl, W⟩ ⟨rfl, hx⟩
    obtain ⟨tp, b, rv, path, u, rfl, hu, W1⟩ := W.itemH (show isHs g.K hvs (brP t []) ∈ _ by walk_at "mem") hx
    obtain ⟨hat, um, uab, uss, ups, rfl⟩ := br_at (List.mem_of_getElem? hu)
    obtain ⟨uok, ud⟩ := at_ok path ok hat
    have W2 := W1.itT (K := g.K) (show isI tp (.tup [.ref b, rv]) ∈ _ from List.mem_cons_self)
    have W3 := W2.der (F := isD g.K (.ref b) (.tuple (path.map PyData.int))) isD_stab fun B bb => .tup (SqT.of (bb (isI b (.tup (path.map V.int))) (by walk_at "mem"))) (dpAll_ints path)
    clear W W1 W2
    have W := W3
    clear W3
    walk_at "rd"
    refine k_call T.bat hr ⟨p, t, .ref b, _, _, rfl, by walk_at "mem", W, .inl ⟨path.map PyData.int, List.mem_cons_self, fun m' ab' ss' ps' e w H W => ?_, fun hn => absurd (by rw [atD_ints, hat]) (hn um uab uss ups)⟩⟩
    rename_i Wo
    clear Wo
    rw [atD_ints, hat] at e
    cases e
    walk_at "rd"
    refine k_gl (v := .ref CB) ⟨_, C.nB, rfl⟩ ?_
    walk_at "rd"
    have ty := tyP C W List.mem_cons_self
    refine k_isi (.own CB) ty C.bb ?_
    clear ty
    walk_at "rd"
    refine .inr ⟨w, rfl, k_ownP W List.mem_cons_self T.M.str T.hr ⟨w, _, _, rfl, List.mem_cons_self, uok, by omega, W, ?_⟩⟩
    clear W
    intro H W
    refine ⟨_, rfl, ?_⟩
    walk_at "rd"
    refine ⟨rfl, ?_⟩
    walk_at "rd"
    refine k_call T.words hr ⟨rv, .br um uab uss ups, _, _, rfl, by walk_at "mem", uok, by omega, by decide, W, ?_⟩
    clear W
    intro wq H W
    walk_at "rd"
    refine k_join (W.sq (by walk_at "mem")) (words_join uok) ?_
    walk_at "rd"
    refine k_ifnp rfl ?_
    walk_at "rd"
    exact ⟨_, _, _, rfl, W.arr (by walk_at "spm9") (by walk_at "sub")⟩
  clear W H
  rintro σ H ⟨x10, x11, x12, rfl, W⟩
  walk_at "rd"
  refine k_rng1 (by decide) (by decide) ?_
  refine k_for walk_range (fun i σ H => ∃ x13 cells b1 c' b3, σ = [some (.ref s), some (.ref bx), some (.int n), some v, some p, some (.ref lq), some (.ref hq), some (.ref pq), some (.ref tq), some (.ref aq), x10, x11, x12, x13] ∧ BxOk cells b1 c' b3 c' ∧ c' ≤ c + 10 * i ∧ Wd ((bx, bxO cl b1 c' b3) :: (cl, clO cells) :: (lq, .lst lvs) :: (hq, .lst hvs) :: L) (isSs lvs (lvP t []) :: isHs g.K hvs (brP t []) :: isP g.K CL CB p t :: isR g.K v t :: D) H)
    ⟨_, cells, b1, c, b3, rfl, ob, by omega, W⟩ (fun _ _ _ _ _ => trivial) ?_ ?_
  · clear W H ob
    rintro i x σ H H' hi ⟨x13, cells, b1, c', b3, rfl, ob, hc', W⟩ ⟨rfl, rfl⟩
    have hc1 := ob.p2
    have hi4 : i < 4 := hi
    walk_at "rd"
    refine k_call T.odd hr ⟨bx, cl, cells, b1, c', b3, lq, lvs, hq, hvs, t, L, _, rfl, by walk_at "mem", by walk_at "mem", ok, hd6, hbr, ob, by omega, W, ?_⟩
    clear W ob
    intro x cells b1 c2 b3 D' H hx sD ob hc2 W
    have hp' : isP g.K CL CB p t ∈ D' := sD (by walk_at "mem")
    have fin : ∀ H, Wd ((bx, bxO cl b1 c2 b3) :: (cl, clO cells) :: (lq, .lst lvs) :: (hq, .lst hvs) :: L) D' H → ∃ x13 cells b1 c' b3, [some (.ref s), some (.ref bx), some (.int n), some v, some p, some (.ref lq), some (.ref hq), some (.ref pq), some (.ref tq), some (.ref aq), x10, x11, x12, some (V.int (0 + (i : Int)))] = [some (.ref s), some (.ref bx), some (.int n), some v, some p, some (.ref lq), some (.ref hq), some (.ref pq), some (.ref tq), some (.ref aq), x10, x11, x12, x13] ∧ BxOk cells b1 c' b3 c' ∧ c' ≤ c + 10 * ((i + 1 : Nat) : Int) ∧ Wd ((bx, bxO cl b1 c' b3) :: (cl, clO cells) :: (lq, .lst lvs) :: (hq, .lst hvs) :: L) (isSs lvs (lvP t []) :: isHs g.K hvs (brP t []) :: isP g.K CL CB p t :: isR g.K v t :: D) H :=
      fun H W => ⟨_, cells, b1, c2, b3, rfl, ob, by omega, W.arr spR sD⟩
    walk_at "rd"
    refine k_call T.refused hr ⟨p, t, x, _, _, rfl, hp', W, ?_⟩
    rcases hx with ⟨d, h1, h2, h3⟩ | ⟨a, h1, h2⟩
    · refine .inl ⟨d, h1, h2, h3, ?_⟩
      intro H W
      walk_at "rd"
      exact fin H W
    · refine .inr (.inl ⟨a, h1, h2, ?_⟩)
      intro H W
      walk_at "rd"
      exact fin H W
  clear W H ob
  rintro σ H ⟨x13, cells, b1, c', b3, rfl, ob, hc', W⟩
  have lpos := leaves_pos t ok
  walk_at "rd"
  obtain ⟨x, hx⟩ : ∃ x, lvs[0]? = some x := ⟨lvs[0]'(by omega), by simp⟩
  refine k_ix_l W (by walk_at "mem") (atI_nat (i := 0) hx) ?_
  obtain ⟨la, lpath, rfl, hlp, W1⟩ := W.itemS List.mem_cons_self hx
  obtain ⟨lat, lno⟩ := noBr_leaf (List.mem_of_getElem? hlp)
  have W2 := W1.der (F := isD g.K (.ref la) (.tuple (lpath.map PyData.int))) isD_stab fun B bb => .tup (SqT.of (bb (isI la (.tup (lpath.map V.int))) (by walk_at "mem"))) (dpAll_ints lpath)
  clear W W1
  walk_at "rd"
  refine k_call T.refused hr ⟨p, t, .ref la, _, _, rfl, by walk_at "mem", W2, .inl ⟨_, List.mem_cons_self, (shp_tuple (k := 0) (mem_map fun _ _ => shp_int)).up (by decide), lno, ?_⟩⟩
  clear W2 H
  intro H W
  walk_at "rd"
  rename_i t9
  have W1 := W.frzT (K := g.K) (ds := []) hasAll_nil
  clear W
  refine k_call T.refused hr ⟨p, t, .ref t9, _, _, rfl, by walk_at "mem", W1, .inr (.inr ⟨[], m, ab, ss, ps, List.mem_cons_self, by rw [et]; rfl, ?_⟩)⟩
  clear W1 H
  intro H W
  walk_at "rd"
  exact k H
set_option hygiene false
local macro_rules | `(tactic| walk_at "len") => `(tactic| first
  | (obtain ⟨rfl, _⟩ := h; rfl)
  | (obtain ⟨_, rfl, _⟩ := h; rfl)
  | (obtain ⟨_, _, rfl, _⟩ := h; rfl)
  | (obtain ⟨_, _, _, rfl, _⟩ := h; rfl)
  | (obtain ⟨_, _, _, _, rfl, _⟩ := h; rfl)
  | (obtain ⟨_, _, _, _, _, rfl, _⟩ := h; rfl)
  | (obtain ⟨_, _, _, _, _, _, rfl, _⟩ := h; rfl)
  | (obtain ⟨_, _, _, _, _, _, _, rfl, _⟩ := h; rfl)
  | (obtain ⟨_, _, _, _, _, _, _, _, rfl, _⟩ := h; rfl)
  | (obtain ⟨_, _, _, _, _, _, _, _, _, rfl, _⟩ := h; rfl)
  | (obtain ⟨_, _, _, _, _, _, _, _, _, _, rfl, _⟩ := h; rfl)
  | (obtain ⟨_, _, _, _, _, _, _, _, _, _, _, rfl, _⟩ := h; rfl)
  | (obtain ⟨_, _, _, _, _, _, _, _, _, _, _, _, rfl, _⟩ := h; rfl)
  | (obtain ⟨_, _, _, _, _, _, _, _, _, _, _, _, _, rfl, _⟩ := h; rfl)
  | (obtain ⟨_, _, _, _, _, _, _, _, _, _, _, _, _, _, rfl, _⟩ := h; rfl)
  | (obtain ⟨_, _, _, _, _, _, _, _, _, _, _, _, _, _, _, rfl, _⟩ := h; rfl)
  | (obtain ⟨_, _, _, _, _, _, _, _, _, _, _, _, _, _, _, _, rfl, _⟩ := h; rfl)
  | (obtain ⟨_, _, _, _, _, _, _, _, _, _, _, _, _, _, _, _, _, rfl, _⟩ := h; rfl)
  | (obtain ⟨_, _, _, _, _, _, _, _, _, _, _, _, _, _, _, _, _, _, rfl, _⟩ := h; rfl)
  | (obtain ⟨_, _, _, _, _, _, _, _, _, _, _, _, _, _, _, _, _, _, _, rfl, _⟩ := h; rfl)
  | (obtain ⟨_, _, _, _, _, _, _, _, _, _, _, _, _, _, _, _, _, _, _, _, rfl, _⟩ := h; rfl)
  | (obtain ⟨_, _, _, _, _, _, _, _, _, _, _, _, _, _, _, _, _, _, _, _, _, rfl, _⟩ := h; rfl)
  | (obtain ⟨_, _, _, _, _, _, _, _, _, _, _, _, _, _, _, _, _, _, _, _, _, _, rfl, _⟩ := h; rfl)
  | (obtain ⟨_, _, _, _, _, _, _, _, _, _, _, _, _, _, _, _, _, _, _, _, _, _, _, rfl, _⟩ := h; rfl)
  | (obtain ⟨_, _, _, _, _, _, _, _, _, _, _, _, _, _, _, _, _, _, _, _, _, _, _, _, rfl, _⟩ := h; rfl)
  | (obtain ⟨_, _, _, _, _, _, _, _, _, _, _, _, _, _, _, _, _, _, _, _, _, _, _, _, _, rfl, _⟩ := h; rfl))
set_option hygiene true
theorem ok_C {g : G} (D : Hd g) : Cls2 g (He.ga g.K "Leaf") (He.ga g.K "Branch") := ⟨D.c_Leaf, D.c_Branch, D.t_Leaf, D.t_Branch, D.g_Leaf, D.g_Branch, D.k_ll, D.k_lb, D.k_bl, D.k_bb, D.k_sl, D.k_sb, D.f_Leaf, D.f_Branch⟩
theorem ok_Cst {g : G} (D : Hd g) : Cst g := ⟨D.v_SEATS, D.v_SETS, D.v_MOST, D.v_DEEPEST, D.v_MANNERS⟩
theorem ok_word_of {g : G} (D : Hd g) : GF g 1 "word_of" (spWordOf g) := ⟨_, D.g_word_of, D.p_word_of.fk 0 (fun vs H Q E h => by walk_at "len") fun A vs H Q E hr h => w_word_of h⟩
theorem ok_fault {g : G} (D : Hd g) : GF g 2 "fault" (spFault81 g) := ⟨_, D.g_fault, D.p_fault.fk 1 (fun vs H Q E h => by walk_at "len") fun A vs H Q E hr h => w_fault81 (hr.mono (by decide)) (ok_word_of D) h⟩
theorem ok_looked {g : G} (D : Hd g) : GF g 3 "looked" (spLooked g) := ⟨_, D.g_looked, D.p_looked.fk 2 (fun vs H Q E h => by walk_at "len") fun A vs H Q E hr h => w_looked (hr.mono (by decide)) (ok_Cst D) (ok_fault D) h⟩
theorem ok_bits_of {g : G} (D : Hd g) : GF g 1 "bits_of" (spBitsOf g) := ⟨_, D.g_bits_of, D.p_bits_of.fk 0 (fun vs H Q E h => by walk_at "len") fun A vs H Q E hr h => w_bits_of h⟩
theorem ok_first_apart {g : G} (D : Hd g) : GF g 1 "first_apart" (spFirstApart g) := ⟨_, D.g_first_apart, D.p_first_apart.fk 0 (fun vs H Q E h => by walk_at "len") fun A vs H Q E hr h => w_first_apart h⟩
theorem ok_least_bit {g : G} (D : Hd g) : GF g 1 "least_bit" spLeastBit := ⟨_, D.g_least_bit, D.p_least_bit.fk 0 (fun vs H Q E h => by walk_at "len") fun A vs H Q E hr h => w_least_bit h⟩
theorem ok_meeting {g : G} (D : Hd g) : GF g 4 "meeting" (spMeeting g) := ⟨_, D.g_meeting, D.p_meeting.fk 3 (fun vs H Q E h => by walk_at "len") fun A vs H Q E hr h => w_meeting (k1 := 3) (hr.mono (by decide)) ((ok_looked D).up (by decide)) ((ok_bits_of D).up (by decide)) ((ok_first_apart D).up (by decide)) ((ok_least_bit D).up (by decide)) h⟩
theorem ok_set_words {g : G} (D : Hd g) : GF g 1 "set_words" (spSetWords g) := ⟨_, D.g_set_words, D.p_set_words.fk 0 (fun vs H Q E h => by walk_at "len") fun A vs H Q E hr h => w_set_words h⟩
theorem ok_above_fits {g : G} (D : Hd g) : GF g 1 "above_fits" (spAboveFits g) := ⟨_, D.g_above_fits, D.p_above_fits.fk 0 (fun vs H Q E h => by walk_at "len") fun A vs H Q E hr h => w_above_fits h⟩
theorem ok_sets_fit {g : G} (D : Hd g) : GF g 3 "sets_fit" (spSetsFit g) := ⟨_, D.g_sets_fit, D.p_sets_fit.fk 2 (fun vs H Q E h => by walk_at "len") fun A vs H Q E hr h => w_sets_fit (hr.mono (by decide)) (ok_Cst D) (ok_fault D) h⟩
theorem ok_pwords {g : G} (D : Hd g) : ∀ d, PM g (d + 1) (He.ga g.K "Leaf") (He.ga g.K "Branch") "words" (spWds g (He.ga g.K "Leaf") (He.ga g.K "Branch") d)
  | 0 => ⟨⟨_, D.m_Leaf_words, D.p_Leaf_words.fk 0 (fun vs H Q E h => by walk_at "len") fun A vs H Q E hr h => w_lf_words h⟩, ⟨_, D.m_Branch_words, D.p_Branch_words.fk 0 (fun vs H Q E h => by walk_at "len") fun A vs H Q E hr h => by
    obtain ⟨_, _, _, _, _, _, _, _, _, _, hd, _⟩ := h
    simp [Pn.deep] at hd⟩⟩
  | d + 1 => ⟨⟨_, D.m_Leaf_words, D.p_Leaf_words.fk (d + 1) (fun vs H Q E h => by walk_at "len") fun A vs H Q E hr h => w_lf_words h⟩, ⟨_, D.m_Branch_words, D.p_Branch_words.fk (d + 1) (fun vs H Q E h => by walk_at "len") fun A vs H Q E hr h => w_br_words hr (ok_C D) ((ok_set_words D).up (by omega)) (ok_pwords D d) h⟩⟩
theorem ok_phalls {g : G} (D : Hd g) : ∀ d, PM g (d + 1) (He.ga g.K "Leaf") (He.ga g.K "Branch") "halls" (spNum g (He.ga g.K "Leaf") (He.ga g.K "Branch") Pn.halls d)
  | 0 => ⟨⟨_, D.m_Leaf_halls, D.p_Leaf_halls.fk 0 (fun vs H Q E h => by walk_at "len") fun A vs H Q E hr h => w_lf_halls h⟩, ⟨_, D.m_Branch_halls, D.p_Branch_halls.fk 0 (fun vs H Q E h => by walk_at "len") fun A vs H Q E hr h => by
    obtain ⟨_, _, _, _, _, _, _, _, _, _, hd, _⟩ := h
    simp [Pn.deep] at hd⟩⟩
  | d + 1 => ⟨⟨_, D.m_Leaf_halls, D.p_Leaf_halls.fk (d + 1) (fun vs H Q E h => by walk_at "len") fun A vs H Q E hr h => w_lf_halls h⟩, ⟨_, D.m_Branch_halls, D.p_Branch_halls.fk (d + 1) (fun vs H Q E h => by walk_at "len") fun A vs H Q E hr h => w_br_halls hr (ok_C D) (ok_phalls D d) h⟩⟩
theorem ok_pdeep {g : G} (D : Hd g) : ∀ d, PM g (d + 1) (He.ga g.K "Leaf") (He.ga g.K "Branch") "deep" (spNum g (He.ga g.K "Leaf") (He.ga g.K "Branch") Pn.deep d)
  | 0 => ⟨⟨_, D.m_Leaf_deep, D.p_Leaf_deep.fk 0 (fun vs H Q E h => by walk_at "len") fun A vs H Q E hr h => w_lf_deep h⟩, ⟨_, D.m_Branch_deep, D.p_Branch_deep.fk 0 (fun vs H Q E h => by walk_at "len") fun A vs H Q E hr h => by
    obtain ⟨_, _, _, _, _, _, _, _, _, _, hd, _⟩ := h
    simp [Pn.deep] at hd⟩⟩
  | d + 1 => ⟨⟨_, D.m_Leaf_deep, D.p_Leaf_deep.fk (d + 1) (fun vs H Q E h => by walk_at "len") fun A vs H Q E hr h => w_lf_deep h⟩, ⟨_, D.m_Branch_deep, D.p_Branch_deep.fk (d + 1) (fun vs H Q E h => by walk_at "len") fun A vs H Q E hr h => w_br_deep hr (ok_C D) (ok_pdeep D d) h⟩⟩
theorem ok_plen {g : G} (D : Hd g) (d : Nat) : PM g (d + 2) (He.ga g.K "Leaf") (He.ga g.K "Branch") "__len__" (spNum g (He.ga g.K "Leaf") (He.ga g.K "Branch") Pn.leaves d) :=
  ⟨⟨_, D.m_Leaf_len, D.p_Leaf_len.fk (d + 1) (fun vs H Q E h => by walk_at "len") fun A vs H Q E hr h => w_lf_len h⟩, ⟨_, D.m_Branch_len, D.p_Branch_len.fk (d + 1) (fun vs H Q E h => by walk_at "len") fun A vs H Q E hr h => w_br_len hr (ok_C D) (ok_pwords D d) h⟩⟩
theorem ok_pstr {g : G} (D : Hd g) (d : Nat) : PM g (d + 2) (He.ga g.K "Leaf") (He.ga g.K "Branch") "__str__" (spTxt g (He.ga g.K "Leaf") (He.ga g.K "Branch") d) :=
  ⟨⟨_, D.m_Leaf_str, D.p_Leaf_str.fk (d + 1) (fun vs H Q E h => by walk_at "len") fun A vs H Q E hr h => w_lf_str h⟩, ⟨_, D.m_Branch_str, D.p_Branch_str.fk (d + 1) (fun vs H Q E h => by walk_at "len") fun A vs H Q E hr h => w_br_str hr (ok_C D) (ok_pwords D d) h⟩⟩
theorem ok_peq {g : G} (D : Hd g) (d : Nat) : PM g (d + 2) (He.ga g.K "Leaf") (He.ga g.K "Branch") "__eq__" (spEqP g (He.ga g.K "Leaf") (He.ga g.K "Branch") d) :=
  ⟨⟨_, D.m_Leaf_eq, D.p_Leaf_eq.fk (d + 1) (fun vs H Q E h => by walk_at "len") fun A vs H Q E hr h => w_lf_eq (ok_C D) h⟩, ⟨_, D.m_Branch_eq, D.p_Branch_eq.fk (d + 1) (fun vs H Q E h => by walk_at "len") fun A vs H Q E hr h => w_br_eq hr (ok_C D) (ok_pwords D d) h⟩⟩
theorem ok_pms {g : G} (D : Hd g) {k : Nat} (hk : 8 ≤ k) : PMs2 g k (He.ga g.K "Leaf") (He.ga g.K "Branch") 6 := ⟨⟨(ok_pwords D 6).up (by omega), (ok_phalls D 6).up (by omega), (ok_pdeep D 6).up (by omega), (ok_plen D 6).up (by omega)⟩, (ok_pstr D 6).up (by omega), (ok_peq D 6).up (by omega)⟩
theorem ok_first_wrong {g : G} (D : Hd g) : GF g 13 "first_wrong" (spFw g (He.ga g.K "Leaf") (He.ga g.K "Branch") 6) := ⟨_, D.g_first_wrong, D.p_first_wrong.fk 12 (fun vs H Q E h => by walk_at "len") fun A vs H Q E hr h => w_first_wrong (k1 := 8) (hr.mono (by decide)) (ok_C D) (ok_Cst D) (ok_pms D (by decide)).toPMs ((ok_above_fits D).up (by decide)) ((ok_sets_fit D).up (by decide)) ((ok_meeting D).up (by decide)) h⟩
theorem ok_mks {g : G} (D : Hd g) : Mks g 14 (He.ga g.K "Leaf") (He.ga g.K "Branch") := mks_of D.p_Branch_init D.i_Branch D.z_Leaf D.e_above D.e_sets fun A vs H Q E hr h => w_br_init hr (ok_C D) (ok_first_wrong D) h
theorem ok_law_box {g : G} (D : Hd g) : GF g 1 "_law_box" (spBoxF g) := ⟨_, D.g_law_box, D.p_law_box.fk 0 (fun vs H Q E h => by walk_at "len") fun A vs H Q E hr h => w_boxF h⟩
theorem ok_law_pick {g : G} (D : Hd g) : GF g 1 "_law_pick" spPick := ⟨_, D.g_law_pick, D.p_law_pick.fk 0 (fun vs H Q E h => by walk_at "len") fun A vs H Q E hr h => w_pick h⟩
theorem ok_law_some {g : G} (D : Hd g) : GF g 1 "_law_some" (spSome g) := ⟨_, D.g_law_some, D.p_law_some.fk 0 (fun vs H Q E h => by walk_at "len") fun A vs H Q E hr h => w_some h⟩
theorem ok_law_meet {g : G} (D : Hd g) : GF g 1 "_law_meet" (spMeet g) := ⟨_, D.g_law_meet, D.p_law_meet.fk 0 (fun vs H Q E h => by walk_at "len") fun A vs H Q E hr h => w_meet h⟩
theorem ok_law_sets {g : G} (D : Hd g) : GF g 2 "_law_sets" (spSets g) := ⟨_, D.g_law_sets, D.p_law_sets.fk 1 (fun vs H Q E h => by walk_at "len") fun A vs H Q E hr h => w_sets (hr.mono (by decide)) (ok_law_pick D) (ok_law_some D) (ok_law_meet D) h⟩
theorem ok_law_rep {g : G} (D : Hd g) : ∀ d, GF g (d + 3) "_law_rep" (spRep g d)
  | 0 => ⟨_, D.g_law_rep, D.p_law_rep.fk 2 (fun vs H Q E h => by walk_at "len") fun A vs H Q E hr h => by
    obtain ⟨_, _, _, _, _, _, _, _, _, _, _, _, h1, h2, _⟩ := h
    omega⟩
  | d + 1 => ⟨_, D.g_law_rep, D.p_law_rep.fk (d + 3) (fun vs H Q E h => by walk_at "len") fun A vs H Q E hr h => w_rep hr ((ok_law_pick D).up (by omega)) ((ok_law_sets D).up (by omega)) (ok_law_rep D d) h⟩
theorem ok_law_words {g : G} (D : Hd g) : ∀ d, GF g (d + 1) "_law_words" (spLWords g d)
  | 0 => ⟨_, D.g_law_words, D.p_law_words.fk 0 (fun vs H Q E h => by walk_at "len") fun A vs H Q E hr h => w_lwords hr (fun e he => by omega) h⟩
  | d + 1 => ⟨_, D.g_law_words, D.p_law_words.fk (d + 1) (fun vs H Q E h => by walk_at "len") fun A vs H Q E hr h => w_lwords hr (fun e he => by cases he; exact ok_law_words D d) h⟩
theorem ok_mas {g : G} (D : Hd g) : IK g 14 (He.ga g.K "Branch") 2 ["above", "sets"] (spBrInit g (He.ga g.K "Leaf") (He.ga g.K "Branch")) := mas_of D.p_Branch_init D.i_Branch fun A vs H Q E hr h => w_br_init hr (ok_C D) (ok_first_wrong D) h
theorem ok_gather {g : G} (D : Hd g) : ∀ d, GF g (d + 1) "gather" (spGather g (He.ga g.K "Leaf") (He.ga g.K "Branch") d)
  | 0 => ⟨_, D.g_gather, D.p_gather.fk 0 (fun vs H Q E h => by walk_at "len") fun A vs H Q E hr h => w_gather hr (ok_C D) (fun e he => by omega) h⟩
  | d + 1 => ⟨_, D.g_gather, D.p_gather.fk (d + 1) (fun vs H Q E h => by walk_at "len") fun A vs H Q E hr h => w_gather hr (ok_C D) (fun e he => by cases he; exact ok_gather D d) h⟩
theorem ok_places {g : G} (D : Hd g) : GF g 8 "places" (spPlaces g (He.ga g.K "Leaf") (He.ga g.K "Branch") 6) := ⟨_, D.g_places, D.p_places.fk 7 (fun vs H Q E h => by walk_at "len") fun A vs H Q E hr h => w_places (k1 := 7) (hr.mono (by decide)) (ok_gather D 6) h⟩
theorem ok_is_place {g : G} (D : Hd g) : GF g 1 "is_place" (spIsPl g) := ⟨_, D.g_is_place, D.p_is_place.fk 0 (fun vs H Q E h => by walk_at "len") fun A vs H Q E hr h => w_is_place h⟩
theorem ok_fpth {g : G} (D : Hd g) : Fk g 1 (spPth (He.ga g.K "NoPath") g) (He.ma g.K (He.ga g.K "NoPath") "__init__") := D.p_NoPath_init.fk 0 (fun vs H Q E h => by obtain ⟨_, _, _, _, rfl, _⟩ := h; rfl) fun A vs H Q E hr h => w_pth D.x_NoPath.ox D.xn_NoPath h
theorem ok_branch_at {g : G} (D : Hd g) : GF g 3 "branch_at" (spBrAt g (He.ga g.K "Leaf") (He.ga g.K "Branch") (He.ga g.K "NoPath")) := ⟨_, D.g_branch_at, D.p_branch_at.fk 2 (fun vs H Q E h => by walk_at "len") fun A vs H Q E hr h => w_branch_at (k1 := 1) hr (ok_C D) D.g_NoPath D.x_NoPath (ok_fpth D) (ok_is_place D) h⟩
theorem ok_branch_paths {g : G} (D : Hd g) : GF g 13 "branch_paths" (spBrPaths g (He.ga g.K "Leaf") (He.ga g.K "Branch") 6) := ⟨_, D.g_branch_paths, D.p_branch_paths.fk 12 (fun vs H Q E h => by walk_at "len") fun A vs H Q E hr h => w_branch_paths (k1 := 8) hr (ok_pms D (by decide)).toPMs.len (ok_places D) h⟩
theorem ok_law_made {g : G} (D : Hd g) : ∀ d, GF g (d + 16) "_law_made" (spMade83 g (He.ga g.K "Leaf") (He.ga g.K "Branch") d)
  | 0 => ⟨_, D.g_law_made, D.p_law_made.fk 15 (fun vs H Q E h => by walk_at "len") fun A vs H Q E hr h => w_made83 (k1 := 14) (k2 := 15) hr hr (ok_C D) (ok_mks D) (fun e he => by omega) h⟩
  | d + 1 => ⟨_, D.g_law_made, D.p_law_made.fk (d + 16) (fun vs H Q E h => by walk_at "len") fun A vs H Q E hr h => w_made83 (k1 := 14) (k2 := d + 16) (hr.mono (by omega)) hr (ok_C D) (ok_mks D) (fun e he => by cases he; exact ok_law_made D d) h⟩
theorem ok_law_shared {g : G} (D : Hd g) : ∀ d, GF g (d + 16) "_law_shared" (spShared g (He.ga g.K "Leaf") (He.ga g.K "Branch") d)
  | 0 => ⟨_, D.g_law_shared, D.p_law_shared.fk 15 (fun vs H Q E h => by walk_at "len") fun A vs H Q E hr h => w_shared (k1 := 14) (k2 := 15) hr hr (ok_C D) D.z_Leaf (ok_mas D) ((ok_law_words D 6).up (by decide)) (fun e he => by omega) h⟩
  | d + 1 => ⟨_, D.g_law_shared, D.p_law_shared.fk (d + 16) (fun vs H Q E h => by walk_at "len") fun A vs H Q E hr h => w_shared (k1 := 14) (k2 := d + 16) (hr.mono (by omega)) hr (ok_C D) D.z_Leaf (ok_mas D) ((ok_law_words D 6).up (by omega)) (fun e he => by cases he; exact ok_law_shared D d) h⟩
theorem ok_law_walk {g : G} (D : Hd g) : ∀ d, GF g (d + 1) "_law_walk" (spWalk g d)
  | 0 => ⟨_, D.g_law_walk, D.p_law_walk.fk 0 (fun vs H Q E h => by walk_at "len") fun A vs H Q E hr h => w_walk hr (fun e he => by omega) h⟩
  | d + 1 => ⟨_, D.g_law_walk, D.p_law_walk.fk (d + 1) (fun vs H Q E h => by walk_at "len") fun A vs H Q E hr h => w_walk hr (fun e he => by cases he; exact ok_law_walk D d) h⟩
theorem ok_law_paths {g : G} (D : Hd g) : GF g 1 "_law_paths" (spPaths g) := ⟨_, D.g_law_paths, D.p_law_paths.fk 0 (fun vs H Q E h => by walk_at "len") fun A vs H Q E hr h => w_paths h⟩
theorem ok_law_elsewhere {g : G} (D : Hd g) : GF g 16 "_law_elsewhere" (spElse g (He.ga g.K "Leaf") (He.ga g.K "Branch")) := ⟨_, D.g_law_elsewhere, D.p_law_elsewhere.fk 15 (fun vs H Q E h => by walk_at "len") fun A vs H Q E hr h => w_else (k1 := 14) hr (ok_C D) (ok_mks D).z ((ok_law_walk D 6).up (by decide)) ((ok_places D).up (by decide)) ((ok_law_paths D).up (by decide)) h⟩
theorem ok_Rf {g : G} (D : Hd g) : Rf g (He.ga g.K "NoPath") := ⟨rfl, D.xe_NoPath, D.xf_NoPath, D.xn_NoPath, D.xc_NoPath, ⟨_, D.g_SoleError, D.kc_NoPath_SoleError⟩, ⟨_, D.g_NoBranch, D.kc_NoPath_NoBranch⟩, ⟨_, D.g_BadText, D.kc_NoPath_BadText⟩⟩
theorem ok_law_refused {g : G} (D : Hd g) : GF g 4 "_law_refused" (spRef g (He.ga g.K "Leaf") (He.ga g.K "Branch")) := ⟨_, D.g_law_refused, D.p_law_refused.fk 3 (fun vs H Q E h => by walk_at "len") fun A vs H Q E hr h => w_refused hr (ok_Rf D) (ok_branch_at D) h⟩
theorem ok_law_odd {g : G} (D : Hd g) : GF g 2 "_law_odd" (spOdd g) := ⟨_, D.g_law_odd, D.p_law_odd.fk 1 (fun vs H Q E h => by walk_at "len") fun A vs H Q E hr h => w_odd (hr.mono (by decide)) (ok_law_pick D) h⟩
theorem ok_top85 {g : G} {A : Around} (D : Hd g) (hr : Room 26 A) : Top85 g A (He.ga g.K "Leaf") (He.ga g.K "Branch") (He.ga g.K "NoPath") 22 := ⟨hr, ok_C D, ok_pms D (by decide), ok_Rf D, ((ok_law_box D).up (by decide)), ((ok_law_pick D).up (by decide)), (ok_law_rep D 6).up (by decide), (ok_law_made D 6).up (by decide), (ok_law_shared D 6).up (by decide), (ok_law_words D 6).up (by decide), (ok_law_walk D 6).up (by decide), ((ok_places D).up (by decide)), ((ok_branch_paths D).up (by decide)), ((ok_law_paths D).up (by decide)), ((ok_law_elsewhere D).up (by decide)), ((ok_branch_at D).up (by decide)), ((ok_law_odd D).up (by decide)), ((ok_law_refused D).up (by decide))⟩
abbrev R : PySem.W.OpenRow := PySem.W.OpenLaw.row PySem.Challenge.rw_soleseat_k85_paths
abbrev hk : PySem.W.Hook := hookL 6 fa fn
def ob (s : PySem.W.SharedT) : He.AlD := obsLG 6 fa fn (HandSHeadRun.getT s)
theorem ob_eq (s : PySem.W.SharedT) : ob s = hk.obs s.abs := obsLG_eq (HandSHeadRun.getT_eq s)
def looseN : List PySem.Str := (PySem.Challenge.pw_soleseat_k85_paths.main.scope.names.map Prod.fst).filter fun x => !(x == ("law" : PySem.Str))
theorem run (w : World) : HandSHeadRun.RunEq R (PySem.W.view R.prog [52]) hk ob 8000 looseN w := by
  intro os
  kernel_rfl
end Ly
open PySem PySem.W PySem.Calls PyProof.Rows
theorem PySem.Challenge.cw_soleseat_k85_paths_holds : PySem.Challenge.rw_soleseat_k85_paths.Holds := by
  w_on; o_law
  refine HandSHeadRun.head_any (r := OpenLaw.row PySem.Challenge.rw_soleseat_k85_paths) (q := view (OpenLaw.row PySem.Challenge.rw_soleseat_k85_paths).prog [52]) (H := Ly.hk) (ob := Ly.ob) (M := 8000) (loose := Ly.looseN) (d := HandSHeadRun.topDef (OpenLaw.row PySem.Challenge.rw_soleseat_k85_paths).prog 52) (kwd := []) Ly.ob_eq
    (by kernel_rfl) (fun s => by kernel_rfl) Ly.run (by kernel_rfl) (by kernel_rfl) (by kernel_rfl) (by rfl) (by first | assumption | decide +kernel) (by decide +kernel) ⟨rfl, rfl, rfl, rfl, rfl, by decide +kernel⟩ ?hw ?hc
  case hw => w_witness2
  case hc =>
    refine Ly.walk_end (l := PySem.Challenge.rw_soleseat_k85_paths) (n := 63) (k := 27) (x := "script") rfl (by decide) (by kernel_rfl) ⟨rfl, by decide, by decide⟩ ?F
    intro w mg fa h Y N hmg0
    obtain ⟨K, KX, c⟩ := Y
    have hmg : mg ("law" : PySem.Str) = some (.ref fa) := by
      have e : (HandSHeadRun.topDef (OpenLaw.row PySem.Challenge.rw_soleseat_k85_paths).prog 52).name = ("law" : PySem.Str) := by kernel_rfl
      rw [← e]
      exact hmg0
    have D0 : Ly.Hd ⟨(PySem.Challenge.rw_soleseat_k85_paths).prog, w, K, mg, h⟩ := Ly.hd_of KX N c
    have e := hmg.symm.trans D0.g_law
    cases e
    obtain ⟨fd, F⟩ := c.def_ 30 rfl
    refine ⟨K, fd, Ly.spLaw81 ⟨(PySem.Challenge.rw_soleseat_k85_paths).prog, w, K, mg, h⟩, KX, fun s v => L2.FunD.bindsA (ps := ["script"]) F (fun _ _ _ _ _ _ us hl => match us, hl with | [_], _ => rfl) s [v] rfl, fun H a ns hl hb hS => ⟨a, ns, [], _, rfl, List.mem_cons_self, hb, by omega, Ly.start_wd hS, fun _ => rfl⟩, fun base KB NB => ?_⟩
    have D : Ly.Hd ⟨(PySem.Challenge.rw_soleseat_k85_paths).prog, w, K, mg, base⟩ := Ly.hd_of KB NB c
    exact L2.FunD.ok F Ly.sc_law_k85 (fun vs H Q E h => by obtain ⟨_, _, _, _, rfl, _⟩ := h; rfl) fun cdv A outer s H vs Q E hr h => ⟨_, (Ly.d_law_k85 D.top cdv A outer s H E hr).nox, Ly.w_law85 (E := E) (Ly.ok_top85 D hr) h⟩
