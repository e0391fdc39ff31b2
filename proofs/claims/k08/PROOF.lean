import PyProof.Rows.All
import Wide.All
import OpenK.AllK
import Wide.FinOn
import HandS.ForMost
import HandS.ForExc
import HandS.IsInst
import HandS.Defaults
import HandS.MakeKw
import HandS.Conv
import HandS.Wide
import HandS.WideMore
import HandS.Flow
import HandS.Style
import HandS.Head0
import HandS.Head1
import HandS.Head2
import HandS.HeadEnd
import HandS.HeadHook1
import HandS.HeadHook2
import HandS.HeadHook3
import HandS.HeadHook4
import HandS.EndBits
import PySem.Challenge.RW_fitwords_k08_held_against_each_other
set_option Elab.async false
set_option linter.all false
set_option maxRecDepth 100000
set_option maxHeartbeats 4000000
namespace Gx
open PySem PySem.Spec PyProof.Rows L2
/-! ### what is known of a heap: the cells that may change, and facts that stay -/
abbrev Fact := Hp → Prop
def Mn (f : Fact) : Prop := ∀ H H', Same H H' → f H → f H'
def ers (m : List Addr) (H : Hp) : Hp := fun a => if a ∈ m then none else H a
theorem ers_sub (m : List Addr) (H : Hp) : Same (ers m H) H := fun b o e => by
  unfold ers at e
  by_cases h : b ∈ m
  · rw [if_pos h] at e; cases e
  · rw [if_neg h] at e; exact e
theorem ers_out {m : List Addr} {H : Hp} {a : Addr} (h : a ∉ m) : ers m H a = H a := if_neg h
theorem ers_mono {m : List Addr} {H H' : Hp} (e : Same H H') : Same (ers m H) (ers m H') := fun b o q => by
  have hb : b ∉ m := fun h => by unfold ers at q; rw [if_pos h] at q; cases q
  rw [ers_out hb] at q ⊢
  exact e b o q
theorem ers_less {m m' : List Addr} {H : Hp} (h : ∀ a ∈ m', a ∈ m) : Same (ers m H) (ers m' H) := fun b o q => by
  have hb : b ∉ m := fun h => by unfold ers at q; rw [if_pos h] at q; cases q
  rw [ers_out hb] at q
  rw [ers_out fun z => hb (h b z)]
  exact q
abbrev Cell := Addr × (HO → Prop)
structure Kn (M : List Cell) (fs : List Fact) (H : Hp) : Prop where
  cel : ∀ x ∈ M, ∃ o, H x.1 = some o ∧ x.2 o
  nd : (M.map (·.1)).Nodup
  fac : ∀ f ∈ fs, Mn f ∧ f (ers (M.map (·.1)) H)
section
variable {M : List Cell} {fs fs' : List Fact} {f : Fact} {H H' : Hp} {p : Addr} {o : HO} {P P' : HO → Prop} {x y : Cell}
theorem Kn.get (k : Kn M fs H) (h : f ∈ fs) : f H := (k.fac f h).1 _ _ (ers_sub _ _) (k.fac f h).2
theorem Kn.same (k : Kn M fs H) (e : Same H H') : Kn M fs H' :=
  ⟨fun x hx => let ⟨o, h1, h2⟩ := k.cel x hx; ⟨o, e _ _ h1, h2⟩, k.nd, fun f hf => ⟨(k.fac f hf).1, (k.fac f hf).1 _ _ (ers_mono e) (k.fac f hf).2⟩⟩
theorem Kn.sub (k : Kn M fs H) (h : ∀ f ∈ fs', f ∈ fs) : Kn M fs' H := ⟨k.cel, k.nd, fun f hf => k.fac f (h f hf)⟩
theorem Kn.hd {gs : List Fact} (k : Kn M (f :: gs) H) (h : ∀ g ∈ fs, g ∈ gs) : Kn M (f :: fs) H := k.sub fun g hg => by
  rcases List.mem_cons.mp hg with e | e
  · rw [e]; exact List.mem_cons_self
  · exact List.mem_cons_of_mem _ (h g e)
theorem Kn.tl (k : Kn M (f :: fs) H) : Kn M fs H := k.sub fun _ h => List.mem_cons_of_mem _ h
theorem Kn.notin (k : Kn M fs H) (hp : H p = none) : p ∉ M.map (·.1) := fun h => by
  obtain ⟨x, hx, e⟩ := List.mem_map.mp h
  obtain ⟨o, h1, _⟩ := k.cel x hx
  rw [e, hp] at h1
  cases h1
theorem same_new (hp : H p = none) : Same H (upd H p o) := fun b u e => by
  rw [upd_ne (ne_of_none e hp)]
  exact e
theorem Kn.new (k : Kn M fs H) (hp : H p = none) (mn : Mn f) (h : ∀ G : Hp, G p = some o → f G) : Kn M (f :: fs) (upd H p o) := by
  have k2 := k.same (same_new (o := o) hp)
  refine ⟨k2.cel, k2.nd, fun g hg => ?_⟩
  rcases List.mem_cons.mp hg with rfl | hg
  · exact ⟨mn, h _ (by rw [ers_out (k.notin hp)]; exact upd_same)⟩
  · exact k2.fac g hg
theorem Kn.newM (k : Kn M fs H) (hp : H p = none) (h : P o) : Kn ((p, P) :: M) fs (upd H p o) := by
  have k2 := k.same (same_new (o := o) hp)
  refine ⟨fun x hx => ?_, List.nodup_cons.mpr ⟨k.notin hp, k.nd⟩, fun g hg => ?_⟩
  · rcases List.mem_cons.mp hx with rfl | hx
    · exact ⟨o, upd_same, h⟩
    · exact k2.cel x hx
  · refine ⟨(k.fac g hg).1, (k.fac g hg).1 _ _ (fun b u e => ?_) (k.fac g hg).2⟩
    have hb : b ∉ M.map (·.1) := fun h => by unfold ers at e; rw [if_pos h] at e; cases e
    rw [ers_out hb] at e
    have hbp : b ≠ p := ne_of_none e hp
    have hb2 : b ∉ ((p, P) :: M).map (·.1) := fun z => by
      rcases List.mem_cons.mp z with z | z
      · exact hbp z
      · exact hb z
    rw [ers_out hb2, upd_ne hbp]
    exact e
theorem Kn.set (k : Kn ((p, P) :: M) fs H) (h : P' o) : Kn ((p, P') :: M) fs (upd H p o) := by
  have nd := List.nodup_cons.mp k.nd
  refine ⟨fun x hx => ?_, k.nd, fun g hg => ?_⟩
  · rcases List.mem_cons.mp hx with rfl | hx
    · exact ⟨o, upd_same, h⟩
    · obtain ⟨u, h1, h2⟩ := k.cel x (List.mem_cons_of_mem _ hx)
      refine ⟨u, ?_, h2⟩
      rw [upd_ne fun e => nd.1 (List.mem_map.mpr ⟨x, hx, e⟩)]
      exact h1
  · refine ⟨(k.fac g hg).1, (k.fac g hg).1 _ _ (fun b u e => ?_) (k.fac g hg).2⟩
    have hb : b ∉ ((p, P) :: M).map (·.1) := fun h => by unfold ers at e; rw [if_pos h] at e; cases e
    rw [ers_out hb] at e
    have hb2 : b ∉ ((p, P') :: M).map (·.1) := hb
    rw [ers_out hb2, upd_ne fun z => hb (by rw [z]; exact List.mem_cons_self)]
    exact e
theorem Kn.freeze (k : Kn ((p, P) :: M) fs H) (mn : Mn f) (h : ∀ (G : Hp) o, G p = some o → P o → f G) : Kn M (f :: fs) H := by
  have nd := List.nodup_cons.mp k.nd
  refine ⟨fun x hx => k.cel x (List.mem_cons_of_mem _ hx), nd.2, fun g hg => ?_⟩
  rcases List.mem_cons.mp hg with rfl | hg
  · obtain ⟨o, h1, h2⟩ := k.cel _ List.mem_cons_self
    exact ⟨mn, h _ o (by rw [ers_out nd.1]; exact h1) h2⟩
  · exact ⟨(k.fac g hg).1, (k.fac g hg).1 _ _ (ers_less fun a ha => List.mem_cons_of_mem _ ha) (k.fac g hg).2⟩
theorem Kn.drop (k : Kn ((p, P) :: M) fs H) : Kn M fs H :=
  ⟨fun x hx => k.cel x (List.mem_cons_of_mem _ hx), (List.nodup_cons.mp k.nd).2, fun g hg => ⟨(k.fac g hg).1, (k.fac g hg).1 _ _ (ers_less fun a ha => List.mem_cons_of_mem _ ha) (k.fac g hg).2⟩⟩
theorem Kn.swap (k : Kn (x :: y :: M) fs H) : Kn (y :: x :: M) fs H := by
  have n1 := List.nodup_cons.mp k.nd
  have n2 := List.nodup_cons.mp n1.2
  refine ⟨fun z hz => k.cel z ?_, ?_, fun g hg => ⟨(k.fac g hg).1, (k.fac g hg).1 _ _ (ers_less ?_) (k.fac g hg).2⟩⟩
  · rcases List.mem_cons.mp hz with rfl | hz
    · exact List.mem_cons_of_mem _ List.mem_cons_self
    · rcases List.mem_cons.mp hz with rfl | hz
      · exact List.mem_cons_self
      · exact List.mem_cons_of_mem _ (List.mem_cons_of_mem _ hz)
  · refine List.nodup_cons.mpr ⟨fun z => ?_, List.nodup_cons.mpr ⟨fun z => n1.1 (List.mem_cons_of_mem _ z), n2.2⟩⟩
    rcases List.mem_cons.mp z with z | z
    · exact n1.1 (by rw [← z]; exact List.mem_cons_self)
    · exact n2.1 z
  · intro a ha
    rcases List.mem_cons.mp ha with rfl | ha
    · exact List.mem_cons_of_mem _ List.mem_cons_self
    · rcases List.mem_cons.mp ha with rfl | ha
      · exact List.mem_cons_self
      · exact List.mem_cons_of_mem _ (List.mem_cons_of_mem _ ha)
theorem Kn.cell (k : Kn ((p, P) :: M) fs H) : ∃ o, H p = some o ∧ P o := k.cel _ List.mem_cons_self
theorem Kn.weak (k : Kn ((p, P) :: M) fs H) (h : ∀ o, P o → P' o) : Kn ((p, P') :: M) fs H := by
  refine ⟨fun x hx => ?_, k.nd, k.fac⟩
  rcases List.mem_cons.mp hx with rfl | hx
  · obtain ⟨o, h1, h2⟩ := k.cell
    exact ⟨o, h1, h _ h2⟩
  · exact k.cel x (List.mem_cons_of_mem _ hx)
end
/-! ### the usual facts -/
section
variable {K : PySem.W.Frag} {H H' : Hp} {a p : Addr} {xs : List V} {M : List Cell} {fs : List Fact} {C : Addr}
theorem rd_same {u : HO} (e : Same H H') (h : Rd H a u) : Rd H' a u := by
  rcases h with h | ⟨o, h⟩
  · exact .inl (e _ _ h)
  · exact .inr ⟨o, e _ _ h⟩
theorem sqt_same (e : Same H H') (h : SqT K H a xs) : SqT K H' a xs := by
  rcases h with h | h
  · exact .inl (rd_same e h)
  · exact .inr h
def fT (K : PySem.W.Frag) (a : Addr) (xs : List V) : Fact := fun H => SqT K H a xs
def fL (K : PySem.W.Frag) (a : Addr) (xs : List V) : Fact := fun H => SqL K H a xs
/-- the object itself -/
def fO (a : Addr) (o : HO) : Fact := fun H => H a = some o
theorem mn_T : Mn (fT K a xs) := fun _ _ e h => sqt_same e h
theorem mn_L : Mn (fL K a xs) := fun _ _ e h => e.seq h
theorem mn_O {o : HO} : Mn (fO a o) := fun _ _ e h => e _ _ h
theorem Kn.newT (k : Kn M fs H) (hp : H p = none) : Kn M (fO p (.tup xs) :: fs) (upd H p (.tup xs)) := k.new hp mn_O fun _ e => e
theorem Kn.newL (k : Kn M fs H) (hp : H p = none) : Kn M (fO p (.lst xs) :: fs) (upd H p (.lst xs)) := k.new hp mn_O fun _ e => e
theorem Kn.sqt (k : Kn M fs H) (h : fO a (.tup xs) ∈ fs) : SqT K H a xs := SqT.of (k.get h)
theorem Kn.sqt' (k : Kn M fs H) (h : fT K a xs ∈ fs) : SqT K H a xs := k.get h
theorem Kn.sql (k : Kn M fs H) (h : fO a (.lst xs) ∈ fs) : SqL K H a xs := SqL.of (k.get h)
theorem Kn.sql' (k : Kn M fs H) (h : fL K a xs ∈ fs) : SqL K H a xs := k.get h
theorem Kn.obj {o : HO} (k : Kn M fs H) (h : fO a o ∈ fs) : H a = some o := k.get h
/-- an exact list in a cell -/
def isL (xs : List V) : HO → Prop := fun o => o = .lst xs
theorem Kn.newML (k : Kn M fs H) (hp : H p = none) : Kn ((p, isL xs) :: M) fs (upd H p (.lst xs)) := k.newM hp rfl
theorem Kn.frzL (k : Kn ((p, isL xs) :: M) fs H) : Kn M (fO p (.lst xs) :: fs) H := k.freeze mn_O fun _ _ e q => by rw [q] at e; exact e
theorem Kn.lst (k : Kn ((p, isL xs) :: M) fs H) : H p = some (.lst xs) := by
  obtain ⟨o, h1, h2⟩ := k.cell
  rw [h2] at h1
  exact h1
end
theorem sl {n : Nat} (h : n.ble 1000 = true) : n ≤ sizeLine := Nat.le_trans (Nat.le_of_ble_eq_true h) (by decide)
theorem lt1000 {n : Nat} (h : (n + 1).ble 1000 = true) : n < 1000 := Nat.le_of_ble_eq_true h
/-! ### answers to what a reading asks -/
section
variable {K : PySem.W.Frag} {H H' : Hp} {a p : Addr} {xs : List V} {M : List Cell} {fs : List Fact} {C : Addr} {G : Addr → Prop} {A B : Prop}
theorem br {c : Prop} [Decidable c] (h1 : c → A) (h2 : ¬ c → B) : if decide c = true then A else B := by
  by_cases h : c
  · rw [if_pos (decide_eq_true h)]; exact h1 h
  · rw [if_neg (by rw [decide_eq_false h]; exact Bool.false_ne_true)]; exact h2 h
theorem brn {c : Prop} [Decidable c] (h1 : ¬ c → A) (h2 : c → B) : if (!decide c) = true then A else B := by
  by_cases h : c
  · rw [if_neg (by rw [decide_eq_true h]; exact Bool.false_ne_true)]; exact h2 h
  · rw [if_pos (by rw [decide_eq_false h]; rfl)]; exact h1 h
theorem brb {b : Bool} (h1 : b = true → A) (h2 : b = false → B) : if b = true then A else B := by
  cases b with
  | true => rw [if_pos rfl]; exact h1 rfl
  | false => rw [if_neg Bool.false_ne_true]; exact h2 rfl
theorem brT {b : Bool} (h : b = true) (h1 : A) : if b = true then A else B := by rw [if_pos h]; exact h1
theorem brF {b : Bool} (h : b = false) (h1 : B) : if b = true then A else B := by rw [if_neg (by rw [h]; exact Bool.false_ne_true)]; exact h1
theorem atI_in {xs : List V} {r : Int} (h0 : 0 ≤ r) (h1 : r < (xs.length : Int)) : ∃ v, atI xs r = some v ∧ v ∈ xs := by
  have hl : r.toNat < xs.length := by omega
  refine ⟨xs[r.toNat], ?_, List.getElem_mem hl⟩
  have e : atI xs ((r.toNat : Nat) : Int) = some xs[r.toNat] := atI_nat (List.getElem?_eq_getElem hl)
  have er : ((r.toNat : Nat) : Int) = r := by omega
  rw [er] at e
  exact e
theorem atI_ints {ns : List Int} {r : Int} (h0 : 0 ≤ r) (h1 : r < (ns.length : Int)) : ∃ v, atI (ns.map V.int) r = some (.int v) ∧ v ∈ ns := by
  obtain ⟨v, e, hv⟩ := atI_in (xs := ns.map V.int) h0 (by rw [List.length_map]; exact h1)
  obtain ⟨n, hn, rfl⟩ := List.mem_map.mp hv
  exact ⟨n, e, hn⟩
end
/-! ### a def of the text, with its promise -/
section
variable {X : Cx} {P : Program} {w : World} {K : PySem.W.Frag} {mg : Str → Option Value} {base : Heap} {d : He.DefD} {CX : CXT} {k j : Nat} {ps : List Str} {sp : Sp}
/-- the def d keeps sp -/
structure DOk (P : Program) (w : World) (K : PySem.W.Frag) (mg : Str → Option Value) (base : Heap) (d : He.DefD) (CX : CXT) (k : Nat) (ps : List Str) (sp : Sp) : Prop where
  ex : ∃ fd, FunD K d.name d.qual d.params d.body d.scope (d.dvs K) (d.kws K) (He.fAd K d.at_) fd ∧ FnOk P w K mg base CX k (He.fAd K d.at_) fd ps sp
/-- what binds when every parameter is written -/
def BdN (d : He.DefD) (ps : List Str) : Prop := d.dfl = [] ∧ ∀ (kV doc pm : Value) (an : Option Addr) (cdv ct : Value) (us : List Value), us.length = ps.length → bindArgs (PySem.W.fnOf d.name d.qual d.params d.body d.scope .none kV doc pm an cdv ct) ⟨us, []⟩ = pure (ps.zip us)
theorem FunD.bdN {fd : FuncData} (F : FunD K d.name d.qual d.params d.body d.scope (d.dvs K) (d.kws K) (He.fAd K d.at_) fd) (h : BdN d ps) : Binds K fd ps [] := by
  have e : d.dvs K = [] := by unfold He.DefD.dvs; rw [h.1]; rfl
  rw [e] at F
  exact F.bindsN h.2
/-- f(e, ..), all parameters written -/
theorem pc {x : Str} {p pos : Pos} {e : Expr} {es : List Expr} {t : TA} (D : DOk X.prog X.w X.K X.mg X.base d CX0 k ps sp) (hm : X.mg x = some (.ref (He.fAd X.K d.at_))) (hb : BdN d ps) (hr : Room j X.A) (hj : k ≤ j) (ha : PA X (e :: es) t) (hg : Gl X x := by rfl)
    (hdb : (x == ("__debug__" : Str)) = false := by decide) (he : starEach (e :: es) X.env = (false, eval e X.env) :: starEach es X.env := by rfl) (hpl : (backTo pos (starEach es X.env)).any (·.1) = false := by rfl) :
    PE X (.Call (.Name x p) (e :: es) [] pos) (tCall sp [] E0 t) := by
  obtain ⟨fd, F, G⟩ := D.ex
  exact pe_call G (hr.mono hj) hg hm F.kp (FunD.bdN F hb) .nil pass0 ha hdb he hpl
/-- f(), no parameters -/
theorem pc0 {x : Str} {p pos : Pos} (D : DOk X.prog X.w X.K X.mg X.base d CX0 k ps sp) (hm : X.mg x = some (.ref (He.fAd X.K d.at_))) (hb : BdN d ps) (hr : Room j X.A) (hj : k ≤ j) (hg : Gl X x := by rfl)
    (hdb : (x == ("__debug__" : Str)) = false := by decide) : PE X (.Call (.Name x p) [] [] pos) (tCall sp [] E0 tNil) := by
  obtain ⟨fd, F, G⟩ := D.ex
  exact pe_call0 G (hr.mono hj) hg hm F.kp (FunD.bdN F hb) .nil pass0 hdb
/-- how a def with defaults is bound where some are left out (dv: the values of those) -/
def BdD (K : PySem.W.Frag) (d : He.DefD) (ps : List Str) (dv : List V) : Prop := ∀ fd, FunD K d.name d.qual d.params d.body d.scope (d.dvs K) (d.kws K) (He.fAd K d.at_) fd → ∃ ds, Vals dv ds ∧ Binds K fd ps ds
/-- f(e, ..), the last parameters left out -/
theorem pcD {x : Str} {p pos : Pos} {e : Expr} {es : List Expr} {t : TA} {dv : List V} (D : DOk X.prog X.w X.K X.mg X.base d CX0 k ps sp) (hm : X.mg x = some (.ref (He.fAd X.K d.at_))) (hb : BdD X.K d ps dv) (hr : Room j X.A) (hj : k ≤ j) (ha : PA X (e :: es) t) (hg : Gl X x := by rfl)
    (hdb : (x == ("__debug__" : Str)) = false := by decide) (he : starEach (e :: es) X.env = (false, eval e X.env) :: starEach es X.env := by rfl) (hpl : (backTo pos (starEach es X.env)).any (·.1) = false := by rfl) :
    PE X (.Call (.Name x p) (e :: es) [] pos) (tCall sp dv E0 t) := by
  obtain ⟨fd, F, G⟩ := D.ex
  obtain ⟨ds, hv, hbd⟩ := hb fd F
  exact pe_call G (hr.mono hj) hg hm F.kp hbd hv pass0 ha hdb he hpl
/-- C(e, ..) -/
theorem pmk {x : Str} {p pos : Pos} {e : Expr} {es : List Expr} {t : TA} {dv : List V} {C : Addr} (D : DOk X.prog X.w X.K X.mg X.base d CX0 k ps sp) (M : Mk X.K C (He.fAd X.K d.at_)) (hm : X.mg x = some (.ref C)) (hb : BdD X.K d ps dv) (hr : Room j X.A) (hj : k + 1 ≤ j) (ha : PA X (e :: es) t) (hg : Gl X x := by rfl)
    (hdb : (x == ("__debug__" : Str)) = false := by decide) (he : starEach (e :: es) X.env = (false, eval e X.env) :: starEach es X.env := by rfl) (hpl : (backTo pos (starEach es X.env)).any (·.1) = false := by rfl) :
    PE X (.Call (.Name x p) (e :: es) [] pos) (tMake C sp dv E0 t) := by
  obtain ⟨fd, F, G⟩ := D.ex
  obtain ⟨ds, hv, hbd⟩ := hb fd F
  exact pe_make M G (hr.mono hj) hg hm hbd hv pass0 ha hdb he hpl
/-- how keywords bind: n positional, the keywords ks; gV puts all in the parameters' order -/
def BdK (K : PySem.W.Frag) (d : He.DefD) (ps : List Str) (n : Nat) (ks : List Str) (gV : List V → List V → List V) : Prop := ∀ fd, FunD K d.name d.qual d.params d.body d.scope (d.dvs K) (d.kws K) (He.fAd K d.at_) fd → ∃ g, KBn K fd ps n ks g gV
section
variable {x : Str} {p pos : Pos} {e : Expr} {es : List Expr} {kws : List Keyword} {t tk : TA} {n : Nat} {ks : List Str} {gV : List V → List V → List V} {C : Addr}
theorem pmkK (D : DOk X.prog X.w X.K X.mg X.base d CX0 k ps sp) (M : Mk X.K C (He.fAd X.K d.at_)) (hm : X.mg x = some (.ref C)) (hb : BdK X.K d ps (n + 1) ks gV) (hr : Room j X.A) (hj : k + 1 ≤ j) (ha : PA X (e :: es) t) (hkw : PK X kws tk) (hg : Gl X x := by rfl)
    (hall : (backToKw pos (keywordEach kws X.env)).all (·.1.isSome) = true := by rfl) (hks : (backToKw pos (keywordEach kws X.env)).filterMap (·.1) = ks := by rfl)
    (hdb : (x == ("__debug__" : Str)) = false := by decide) (he : starEach (e :: es) X.env = (false, eval e X.env) :: starEach es X.env := by rfl)
    (hpl : ((backTo pos (starEach (e :: es) X.env)).any (·.1) || (backToKw pos (keywordEach kws X.env)).any (·.1.isNone)) = false := by rfl) :
    PE X (.Call (.Name x p) (e :: es) kws pos) (tMakeN C n ks.length sp gV E0 t tk) := by
  obtain ⟨fd, F, G⟩ := D.ex
  obtain ⟨g, hbd⟩ := hb fd F
  exact pe_makeN M G (hr.mono hj) hg hm hbd pass0 ha hkw hall hks hdb he hpl
theorem pcK (D : DOk X.prog X.w X.K X.mg X.base d CX0 k ps sp) (hm : X.mg x = some (.ref (He.fAd X.K d.at_))) (hb : BdK X.K d ps n ks gV) (hr : Room j X.A) (hj : k ≤ j) (ha : PA X (e :: es) t) (hkw : PK X kws tk) (hg : Gl X x := by rfl)
    (hall : (backToKw pos (keywordEach kws X.env)).all (·.1.isSome) = true := by rfl) (hks : (backToKw pos (keywordEach kws X.env)).filterMap (·.1) = ks := by rfl)
    (hdb : (x == ("__debug__" : Str)) = false := by decide) (he : starEach (e :: es) X.env = (false, eval e X.env) :: starEach es X.env := by rfl)
    (hpl : ((backTo pos (starEach (e :: es) X.env)).any (·.1) || (backToKw pos (keywordEach kws X.env)).any (·.1.isNone)) = false := by rfl) :
    PE X (.Call (.Name x p) (e :: es) kws pos) (tCallN n ks.length sp gV E0 t tk) := by
  obtain ⟨fd, F, G⟩ := D.ex
  obtain ⟨g, hbd⟩ := hb fd F
  exact pe_callN G (hr.mono hj) hg hm F.kp hbd pass0 ha hkw hall hks hdb he hpl
/-- keywords alone -/
theorem pcK0 (D : DOk X.prog X.w X.K X.mg X.base d CX0 k ps sp) (hm : X.mg x = some (.ref (He.fAd X.K d.at_))) (hb : BdK X.K d ps 0 ks gV) (hr : Room j X.A) (hj : k ≤ j) (hkw : PK X kws tk) (hg : Gl X x := by rfl)
    (hall : (backToKw pos (keywordEach kws X.env)).all (·.1.isSome) = true := by rfl) (hks : (backToKw pos (keywordEach kws X.env)).filterMap (·.1) = ks := by rfl)
    (hdb : (x == ("__debug__" : Str)) = false := by decide)
    (hpl : ((backTo pos (starEach [] X.env)).any (·.1) || (backToKw pos (keywordEach kws X.env)).any (·.1.isNone)) = false := by rfl) :
    PE X (.Call (.Name x p) [] kws pos) (tCallN 0 ks.length sp gV E0 tNil tk) := by
  obtain ⟨fd, F, G⟩ := D.ex
  obtain ⟨g, hbd⟩ := hb fd F
  refine ⟨fun pins s σ H Q I h => ?_⟩
  refine wpAny_Call_Name_kw (ld_glob I hg hm ?_ hdb)
  refine PySem.W.callWith_KW0 (h₀ := X.base) I.ok.mod.kin F.kp hall ?_ hpl
  refine thn (hkw.run pos pins s σ H _ I h) fun ws s2 ⟨zs, H2, I2, rz, l1, l2, q2⟩ => ⟨I2.kIn, ?_⟩
  rw [hks]
  exact run_fnN (us := []) (vs := []) G (hr.mono hj) hbd pass0 I2 .nil rz l1 l2 q2
end
end
end Gx

namespace Gx
open PySem PySem.Spec PyProof.Rows L2
/-! ### steps: what a reading asks, construct by construct -/
section
variable {K : PySem.W.Frag} {H : Hp} {σ : L2.St} {Q : VK} {QT : Bool → Hp → Prop} {QA : List V → Hp → Prop} {v x y : V} {i j : Int} {n : Nat} {ta tb te tc : TE} {t u : TT} {tA tR : TA} {r r' : R2} {tS uS : TS} {nx : L2.St → Hp → Prop} {rt : VK} {bk ct : L2.St → Hp → Prop} {a p C : Addr} {xs : List V} {M : List Cell} {fs : List Fact}
theorem s_var (h : σ[n]? = some (some v)) (k : Q v H) : tVar n σ H Q := ⟨v, h, k⟩
theorem s_c (k : Q v H) : tC v σ H Q := k
theorem s_op (k : ta σ H fun x H1 => tb σ H1 fun y H2 => r x y H2 Q) : tOp r ta tb σ H Q := k
theorem s_un {r : V → Hp → VK → Prop} (k : ta σ H fun x H1 => r x H1 Q) : tUn r ta σ H Q := k
theorem s_test (k : te σ H fun x H' => ∃ k, x = .bl k ∧ QT k H') : tTest te σ H QT := k
theorem s_B (k : te σ H fun x H' => ∃ k, x = .bl k ∧ QT k H') : tB te σ H QT := k
theorem s_bl {b : Bool} {R : Bool → Prop} (k : R b) : ∃ k, V.bl b = .bl k ∧ R k := ⟨b, rfl, k⟩
theorem s_and (k : t σ H fun c H1 => if c = true then u σ H1 QT else QT false H1) : tAnd t u σ H QT := k
theorem s_or (k : t σ H fun c H1 => if c = true then QT true H1 else u σ H1 QT) : tOr t u σ H QT := k
theorem s_not (k : t σ H fun c H1 => QT (!c) H1) : tNot t σ H QT := k
theorem s_andV (k : ta σ H fun x H1 => ∃ c, x = .bl c ∧ if c = true then tb σ H1 Q else Q (.bl false) H1) : tAndV ta tb σ H Q := k
theorem s_orV (k : ta σ H fun x H1 => ∃ c, x = .bl c ∧ if c = true then Q (.bl true) H1 else tb σ H1 Q) : tOrV ta tb σ H Q := k
theorem s_notV (k : ta σ H fun x H1 => ∃ c, x = .bl c ∧ Q (.bl (!c)) H1) : tNotV ta σ H Q := k
theorem s_if (k : t σ H fun c H1 => if c = true then ta σ H1 Q else tb σ H1 Q) : tIf t ta tb σ H Q := k
theorem s_cb {r : List V → Hp → VK → Prop} (k : tA σ H fun vs H1 => r vs H1 Q) : tCB r tA σ H Q := k
theorem s_nil (k : QA [] H) : tNil σ H QA := k
theorem s_cons (k : te σ H fun x H1 => tA σ H1 fun xs H2 => QA (x :: xs) H2) : tCons te tA σ H QA := k
theorem s_call {sp : Sp} {dvs : List V} {E : XK} (k : tA σ H fun vs H1 => sp (vs ++ dvs) H1 Q E) : tCall sp dvs E tA σ H Q := k
def RTup (xs : List V) (H : Hp) (Q : VK) : Prop := xs.length ≤ sizeLine ∧ ∀ p, H p = none → Q (.ref p) (upd H p (.tup xs))
def RLst (xs : List V) (H : Hp) (Q : VK) : Prop := xs.length ≤ sizeLine ∧ ∀ p, H p = none → Q (.ref p) (upd H p (.lst xs))
theorem s_tup (k : tA σ H fun xs H1 => RTup xs H1 Q) : tTup tA σ H Q := k
theorem s_lst (k : tA σ H fun xs H1 => RLst xs H1 Q) : tLst tA σ H Q := k
theorem r_tup (kn : Kn M fs H) (hl : xs.length ≤ sizeLine) (k : ∀ p, Kn M (fO p (.tup xs) :: fs) (upd H p (.tup xs)) → Q (.ref p) (upd H p (.tup xs))) : RTup xs H Q := ⟨hl, fun p hp => k p (kn.newT hp)⟩
theorem r_lst (kn : Kn M fs H) (hl : xs.length ≤ sizeLine) (k : ∀ p, Kn M (fO p (.lst xs) :: fs) (upd H p (.lst xs)) → Q (.ref p) (upd H p (.lst xs))) : RLst xs H Q := ⟨hl, fun p hp => k p (kn.newL hp)⟩
theorem r_lstM (kn : Kn M fs H) (hl : xs.length ≤ sizeLine) (k : ∀ p, Kn ((p, isL xs) :: M) fs (upd H p (.lst xs)) → Q (.ref p) (upd H p (.lst xs))) : RLst xs H Q := ⟨hl, fun p hp => k p (kn.newML hp)⟩
theorem s_seq (k : tS (Ends.mk (uS (Ends.mk nx rt bk ct)) rt bk ct) σ H) : tSeq tS uS (Ends.mk nx rt bk ct) σ H := k
theorem s_ret (k : te σ H rt) : tRet te (Ends.mk nx rt bk ct) σ H := k
theorem s_retN (k : rt .non H) : tRetN (Ends.mk nx rt bk ct) σ H := k
theorem s_next (k : nx σ H) : tNext (Ends.mk nx rt bk ct) σ H := k
theorem s_brk (k : bk σ H) : tBreak (Ends.mk nx rt bk ct) σ H := k
theorem s_cnt (k : ct σ H) : tCont (Ends.mk nx rt bk ct) σ H := k
theorem s_drop (k : te σ H fun _ H1 => nx σ H1) : tDrop te (Ends.mk nx rt bk ct) σ H := k
theorem s_ifS (k : t σ H fun b H1 => if b = true then tS (Ends.mk nx rt bk ct) σ H1 else uS (Ends.mk nx rt bk ct) σ H1) : tIfS t tS uS (Ends.mk nx rt bk ct) σ H := k
theorem s_asg {g : TG} (k : te σ H fun x H1 => g x σ H1 nx) : tAsg te g (Ends.mk nx rt bk ct) σ H := k
theorem g_name {w : L2.St → Hp → Prop} (k : w (σ.set n (some v)) H) : gName n v σ H w := k
theorem g_nameE {σ' : L2.St} {w : L2.St → Hp → Prop} (e : σ.set n (some v) = σ') (k : w σ' H) : gName n v σ H w := by subst e; exact k
def RPar (n m : Nat) (σ : L2.St) (nx : L2.St → Hp → Prop) (vs : List V) (H : Hp) : Prop := ∃ v w, vs = [v, w] ∧ nx ((σ.set n (some v)).set m (some w)) H
theorem r_par {m : Nat} {v w : V} {σ' : L2.St} (e : (σ.set n (some v)).set m (some w) = σ') (k : nx σ' H) : RPar n m σ nx [v, w] H := ⟨v, w, rfl, by rw [e]; exact k⟩
theorem s_par {m : Nat} (k : tA σ H fun vs H1 => RPar n m σ nx vs H1) : tPar n m tA (Ends.mk nx rt bk ct) σ H := k
theorem s_par2 {v w : V} {R : V → V → Prop} (k : R v w) : ∃ v' w', [v, w] = [v', w'] ∧ R v' w' := ⟨v, w, rfl, k⟩
-- operators by values
theorem s_I0 {g : Int → Int → V} (k : Q (g i j) H) : rI0 g (.int i) (.int j) H Q := ⟨i, j, rfl, rfl, k⟩
theorem s_I {c : Int → Int → Prop} {g : Int → Int → V} (hc : c i j) (k : Q (g i j) H) : rI c g (.int i) (.int j) H Q := ⟨i, j, rfl, rfl, hc, k⟩
theorem s_U {g : Int → V} (k : Q (g i) H) : rU g (.int i) H Q := ⟨i, rfl, k⟩
theorem dec_int : decide (V.int i = V.int j) = decide (i = j) := by
  by_cases e : i = j
  · rw [decide_eq_true e, decide_eq_true (congrArg V.int e)]
  · rw [decide_eq_false e, decide_eq_false fun z => e (V.int.inj z)]
theorem dec_bl {b c : Bool} : decide (V.bl b = V.bl c) = decide (b = c) := by
  cases b <;> cases c <;> decide
theorem dec_str {b c : Str} : decide (V.str b = V.str c) = decide (b = c) := by
  by_cases e : b = c
  · rw [decide_eq_true e, decide_eq_true (congrArg V.str e)]
  · rw [decide_eq_false e, decide_eq_false fun z => e (V.str.inj z)]
theorem s_eqI (k : Q (.bl (decide (i = j))) H) : rEq (.int i) (.int j) H Q := ⟨rfl, by rw [dec_int]; exact k⟩
theorem s_neI (k : Q (.bl (!decide (i = j))) H) : rNe (.int i) (.int j) H Q := ⟨rfl, by rw [dec_int]; exact k⟩
theorem s_eqB {b c : Bool} (k : Q (.bl (decide (b = c))) H) : rEq (.bl b) (.bl c) H Q := ⟨rfl, by rw [dec_bl]; exact k⟩
theorem s_neB {b c : Bool} (k : Q (.bl (!decide (b = c))) H) : rNe (.bl b) (.bl c) H Q := ⟨rfl, by rw [dec_bl]; exact k⟩
theorem s_eqS {b c : Str} (k : Q (.bl (decide (b = c))) H) : rEq (.str b) (.str c) H Q := ⟨rfl, by rw [dec_str]; exact k⟩
theorem s_neS {b c : Str} (k : Q (.bl (!decide (b = c))) H) : rNe (.str b) (.str c) H Q := ⟨rfl, by rw [dec_str]; exact k⟩
theorem s_ixTn {m : Nat} [OfNat Int m] (kn : Kn M fs H) (h : fO p (.tup xs) ∈ fs) (e : atI xs (OfNat.ofNat m) = some v) (k : Q v H) : rIxT K (.ref p) (.int (OfNat.ofNat m)) H Q := ⟨p, xs, _, v, rfl, rfl, kn.sqt h, e, k⟩
theorem s_ixLn {m : Nat} [OfNat Int m] (kn : Kn M fs H) (h : fO p (.lst xs) ∈ fs) (e : atI xs (OfNat.ofNat m) = some v) (k : Q v H) : rIxL K (.ref p) (.int (OfNat.ofNat m)) H Q := ⟨p, xs, _, v, rfl, rfl, kn.sql h, e, k⟩
theorem s_ixT (kn : Kn M fs H) (h : fO p (.tup xs) ∈ fs) (e : atI xs i = some v) (k : Q v H) : rIxT K (.ref p) (.int i) H Q := ⟨p, xs, i, v, rfl, rfl, kn.sqt h, e, k⟩
theorem s_ixL (kn : Kn M fs H) (h : fO p (.lst xs) ∈ fs) (e : atI xs i = some v) (k : Q v H) : rIxL K (.ref p) (.int i) H Q := ⟨p, xs, i, v, rfl, rfl, kn.sql h, e, k⟩
/-- an item at a drawn place of a list of ints -/
def unI : V → Int
  | .int i => i
  | _ => 0
theorem s_ixR (kn : Kn M fs H) (h : fO p (.lst xs) ∈ fs) (e : xs = (xs.map unI).map V.int) (h0 : 0 ≤ i) (h1 : i < (xs.length : Int)) (k : ∀ z, z ∈ xs.map unI → Q (.int z) H) : rIxL K (.ref p) (.int i) H Q := by
  obtain ⟨z, e2, hz⟩ := atI_ints (ns := xs.map unI) h0 (by rw [List.length_map]; exact h1)
  rw [← e] at e2
  exact ⟨p, xs, i, _, rfl, rfl, kn.sql h, e2, k z hz⟩
theorem s_setL (kn : Kn ((p, isL xs) :: M) fs H) {w : Hp → Prop} {m : Nat} (e : ixN xs.length i = some m) (k : Kn ((p, isL (xs.set m v)) :: M) fs (upd H p (.lst (xs.set m v))) → w (upd H p (.lst (xs.set m v)))) : rSetL (.ref p) (.int i) v H w :=
  ⟨p, xs, i, m, rfl, rfl, kn.lst, e, k (kn.set rfl)⟩
theorem g_sub {to ti : TE} {s : TSet} {w : L2.St → Hp → Prop} (k : to σ H fun o H1 => ti σ H1 fun i H2 => s o i v H2 fun H3 => w σ H3) : gSub to ti s v σ H w := k
theorem s_ixMn {m : Nat} [OfNat Int m] (kn : Kn ((p, isL xs) :: M) fs H) (e : atI xs (OfNat.ofNat m) = some v) (k : Q v H) : rIxL K (.ref p) (.int (OfNat.ofNat m)) H Q := ⟨p, xs, _, v, rfl, rfl, SqL.of kn.lst, e, k⟩
theorem s_ixM (kn : Kn ((p, isL xs) :: M) fs H) (e : atI xs i = some v) (k : Q v H) : rIxL K (.ref p) (.int i) H Q := ⟨p, xs, i, v, rfl, rfl, SqL.of kn.lst, e, k⟩
theorem s_self {α : Type} {z : α} {A : Prop} (k : A) : z = z ∧ A := ⟨rfl, k⟩
theorem s_ref {R : Addr → Prop} (k : R p) : ∃ q, V.ref p = .ref q ∧ R q := ⟨p, rfl, k⟩
theorem s_12 {R : Int → Int → Prop} (k : R i j) : ∃ a b, ([V.int i, V.int j] : List V) = [.int a, .int b] ∧ R a b := ⟨i, j, rfl, k⟩
theorem s_1 {R : Int → Prop} (k : R i) : ∃ a, ([V.int i] : List V) = [.int a] ∧ R a := ⟨i, rfl, k⟩
theorem g_tup {m : Nat} {gs : TGs} {w : L2.St → Hp → Prop} (kn : Kn M fs H) (h : fO p (.tup xs) ∈ fs) (hl : xs.length = m) (k : gs xs σ H w) : gTup K m gs (.ref p) σ H w := ⟨p, xs, rfl, kn.sqt h, hl, k⟩
theorem g_nil {w : L2.St → Hp → Prop} (k : w σ H) : gNil [] σ H w := ⟨rfl, k⟩
theorem g_cons {g : TG} {gs : TGs} {w : L2.St → Hp → Prop} (k : g v σ H fun σ' H' => gs xs σ' H' w) : gCons g gs (v :: xs) σ H w := ⟨v, xs, rfl, k⟩
theorem s_catT (kn : Kn M fs H) {ys : List V} {q : Addr} (h1 : fO p (.tup xs) ∈ fs) (h2 : fO q (.tup ys) ∈ fs) (n1 : xs ≠ []) (n2 : ys ≠ []) (hl : xs.length + ys.length ≤ sizeLine) (k : ∀ o, Kn M (fO o (.tup (xs ++ ys)) :: fs) (upd H o (.tup (xs ++ ys))) → Q (.ref o) (upd H o (.tup (xs ++ ys)))) : rCatT K (.ref p) (.ref q) H Q :=
  ⟨p, q, xs, ys, rfl, rfl, kn.sqt h1, kn.sqt h2, n1, hl, fun z => absurd z n2, fun _ o ho => k o (kn.newT ho)⟩
theorem s_lenL (kn : Kn M fs H) (h : fO p (.lst xs) ∈ fs) {R : List V → Prop} (k : R xs) : ∃ q ys, ([V.ref p] : List V) = [.ref q] ∧ (SqL K H q ys ∨ SqT K H q ys) ∧ R ys := ⟨p, xs, rfl, .inl (kn.sql h), k⟩
theorem s_lenL' (kn : Kn M fs H) (h : fL K p xs ∈ fs) {R : List V → Prop} (k : R xs) : ∃ q ys, ([V.ref p] : List V) = [.ref q] ∧ (SqL K H q ys ∨ SqT K H q ys) ∧ R ys := ⟨p, xs, rfl, .inl (kn.sql' h), k⟩
theorem s_lenT (kn : Kn M fs H) (h : fO p (.tup xs) ∈ fs) {R : List V → Prop} (k : R xs) : ∃ q ys, ([V.ref p] : List V) = [.ref q] ∧ (SqL K H q ys ∨ SqT K H q ys) ∧ R ys := ⟨p, xs, rfl, .inr (kn.sqt h), k⟩
theorem s_int1 {R : Int → Prop} {R' : Bool → Prop} (k : R i) : (∃ a, ([V.int i] : List V) = [.int a] ∧ R a) ∨ ∃ b, ([V.int i] : List V) = [.bl b] ∧ R' b := .inl ⟨i, rfl, k⟩
theorem s_intB {b : Bool} {R : Int → Prop} {R' : Bool → Prop} (k : R' b) : (∃ a, ([V.bl b] : List V) = [.int a] ∧ R a) ∨ ∃ c, ([V.bl b] : List V) = [.bl c] ∧ R' c := .inr ⟨b, rfl, k⟩
-- isinstance
theorem isiB {T A : String} {b : Bool} (ht : TyOf K H x (.type T)) (hk : kitB T A = some b) (k : Q (.bl b) H) : rIsi K [x, .ty A] H Q := ⟨x, .ty A, .type T, .type A, b, rfl, .ty A, .base ht, kit_ty hk, k⟩
theorem kB1 : kitB "int" "int" = some true := by decide +kernel
theorem kB2 : kitB "int" "bool" = some false := by decide +kernel
theorem kB3 : kitB "bool" "bool" = some true := by decide +kernel
theorem kB4 : kitB "bool" "int" = some true := by decide +kernel
theorem kB5 : kitB "str" "str" = some true := by decide +kernel
theorem kB6 : kitB "tuple" "tuple" = some true := by decide +kernel
theorem kB7 : kitB "NoneType" "bool" = some false := by decide +kernel
theorem kB8 : kitB "NoneType" "int" = some false := by decide +kernel
theorem kB9 : kitB "NoneType" "tuple" = some false := by decide +kernel
theorem kB10 : kitB "str" "int" = some false := by decide +kernel
theorem isi_int_int (k : Q (.bl true) H) : rIsi K [.int i, .ty "int"] H Q := isiB (.int i) kB1 k
theorem isi_int_bool (k : Q (.bl false) H) : rIsi K [.int i, .ty "bool"] H Q := isiB (.int i) kB2 k
theorem isi_bool_bool {b : Bool} (k : Q (.bl true) H) : rIsi K [.bl b, .ty "bool"] H Q := isiB (.bl b) kB3 k
theorem isi_str_str {b : Str} (k : Q (.bl true) H) : rIsi K [.str b, .ty "str"] H Q := isiB (.str b) kB5 k
theorem isi_tup_tup (kn : Kn M fs H) (h : fO p (.tup xs) ∈ fs) (k : Q (.bl true) H) : rIsi K [.ref p, .ty "tuple"] H Q := isiB (.tup (kn.obj h)) kB6 k
theorem isi_non_cls (e : PySem.W.kitOne K (.type "NoneType") (.ref C) = some false) (k : Q (.bl false) H) : rIsi K [.non, .ref C] H Q := ⟨.non, .ref C, _, _, false, rfl, .own C, .base .non, e, k⟩
/-- what makes an instance of C one of C -/
structure InsK (K : PySem.W.Frag) (C : Addr) : Prop where
  cl : Cls K C
  ha : PySem.W.findIn K (.ref C) "__class__" = some (some (.builtin "object.__class__"))
  hn : PySem.W.specialIn K (.builtin "object.__class__") "__get__" = some (some (.builtin "getset_descriptor.__get__"))
  htk : PySem.W.takesIn K (.builtin "object.__class__") = some true
  hm : PySem.W.mroIn K C (.type "object") = some true
theorem isi_ins_cls (I : InsK K C) {dx : Addr} {fl : List (Str × V)} (ho : H p = some (.ins C dx fl)) (k : Q (.bl true) H) : rIsi K [.ref p, .ref C] H Q :=
  ⟨.ref p, .ref C, .ref C, .ref C, true, rfl, .own C, .base (.ins ho I.cl I.ha I.hn I.htk I.hm), by unfold PySem.W.kitOne; rw [if_pos (by simp)], k⟩
theorem s_chain (k : ta σ H fun x H1 => tb σ H1 fun y H2 => r x y H2 fun z H3 => ∃ k, z = .bl k ∧ if k = true then tc σ H3 fun w H4 => r' y w H4 Q else Q (.bl false) H3) : tChain r r' ta tb tc σ H Q := by
  unfold tChain
  exact k
end
end Gx

namespace Gx
open PySem PySem.Spec PyProof.Rows L2
theorem Kn.exact {p : Addr} {Pr : HO → Prop} {M : List Cell} {fs : List Fact} {H : Hp} (k : Kn ((p, Pr) :: M) fs H) : ∃ o, Pr o ∧ Kn ((p, fun u => u = o) :: M) fs H := by
  obtain ⟨o, h1, h2⟩ := k.cell
  refine ⟨o, h2, fun x hx => ?_, k.nd, k.fac⟩
  rcases List.mem_cons.mp hx with rfl | hx
  · exact ⟨o, h1, rfl⟩
  · exact k.cel x (List.mem_cons_of_mem _ hx)
theorem Kn.cons {M : List Cell} {fs gs : List Fact} {H : Hp} (k : Kn M (gs ++ fs) H) : Kn M fs H := k.sub fun _ h => List.mem_append_right _ h
/-! ### fields, new instances -/
section
variable {K : PySem.W.Frag} {H : Hp} {σ : L2.St} {Q : VK} {E : XK} {v x y : V} {i j : Int} {n m : Nat} {ta tb te tc : TE} {tA tK : TA} {nx : L2.St → Hp → Prop} {rt : VK} {bk ct : L2.St → Hp → Prop} {a p C : Addr} {xs : List V} {M : List Cell} {fs : List Fact} {f : Str} {sp : Sp}
def RFld (K : PySem.W.Frag) (f : Str) (x : V) (H : Hp) (Q : VK) : Prop := ∃ a C dx fs v, x = .ref a ∧ H a = some (.ins C dx fs) ∧ Cls K C ∧ NoAttr K C f ∧ fs.lookup f = some v ∧ Q v H
theorem s_fld (k : ta σ H fun x H1 => RFld K f x H1 Q) : tFld K ta f σ H Q := k
def RSfld (K : PySem.W.Frag) (f : Str) (y x : V) (H : Hp) (Q : Hp → Prop) : Prop := ∃ a C dx fs, x = .ref a ∧ H a = some (.ins C dx fs) ∧ Cls K C ∧ NoAttr K C f ∧ fs.length < 1000 ∧ Q (upd H a (.ins C dx (putF f y fs)))
theorem s_sfld {tv : TE} (k : tv σ H fun y H1 => ta σ H1 fun x H2 => RSfld K f y x H2 fun H3 => nx σ H3) : sFld K ta tv f (Ends.mk nx rt bk ct) σ H := k
/-- an instance being made -/
def isI (C dx : Addr) (fl : List (Str × V)) : HO → Prop := fun o => o = .ins C dx fl
theorem r_sfld {dx : Addr} {fl : List (Str × V)} {W : Hp → Prop} (kn : Kn ((p, isI C dx fl) :: M) fs H) (c : Cls K C) (no : NoAttr K C f) (hl : fl.length < 1000) (k : ∀ H', Kn ((p, isI C dx (putF f y fl)) :: M) fs H' → W H') : RSfld K f y (.ref p) H W := by
  obtain ⟨o, h1, h2⟩ := kn.cell
  have h3 : o = .ins C dx fl := h2
  subst h3
  exact ⟨p, C, dx, fl, rfl, h1, c, no, hl, k _ (kn.set rfl)⟩
def RMk (C : Addr) (sp : Sp) (args : Addr → List V) (H : Hp) (Q : VK) (E : XK) : Prop := ∀ x dx, H x = none → H dx = none → dx ≠ x → sp (args x) (upd (upd H dx (.own x)) x (.ins C dx [])) (fun v H2 => v = .non ∧ Q (.ref x) H2) E
theorem s_make {dvs : List V} (k : tA σ H fun vs H1 => RMk C sp (fun x => .ref x :: (vs ++ dvs)) H1 Q E) : tMake C sp dvs E tA σ H Q := k
def RMkN (C : Addr) (n m : Nat) (sp : Sp) (gV : List V → List V → List V) (vs zs : List V) (H : Hp) (Q : VK) (E : XK) : Prop := vs.length = n ∧ zs.length = m ∧ RMk C sp (fun x => gV (.ref x :: vs) zs) H Q E
theorem s_makeN {gV : List V → List V → List V} (k : tA σ H fun vs H1 => tK σ H1 fun zs H2 => RMkN C n m sp gV vs zs H2 Q E) : tMakeN C n m sp gV E tA tK σ H Q := k
theorem r_mkN {gV : List V → List V → List V} {vs zs : List V} (h1 : vs.length = n) (h2 : zs.length = m) (k : RMk C sp (fun x => gV (.ref x :: vs) zs) H Q E) : RMkN C n m sp gV vs zs H Q E := ⟨h1, h2, k⟩
theorem Kn.newI (kn : Kn M fs H) {x dx : Addr} (hx : H x = none) (hdx : H dx = none) (ne : dx ≠ x) : Kn ((x, isI C dx []) :: M) fs (upd (upd H dx (.own x)) x (.ins C dx [])) := by
  have k1 : Kn M fs (upd H dx (.own x)) := kn.same (same_new hdx)
  exact k1.newM (by rw [upd_ne fun e => ne e.symm]; exact hx) rfl
theorem s_callN {gV : List V → List V → List V} (k : tA σ H fun vs H1 => tK σ H1 fun zs H2 => vs.length = n ∧ zs.length = m ∧ sp (gV vs zs) H2 Q E) : tCallN n m sp gV E tA tK σ H Q := k
theorem r_len2 {vs zs : List V} {A : Prop} (h1 : vs.length = n) (h2 : zs.length = m) (k : A) : vs.length = n ∧ zs.length = m ∧ A := ⟨h1, h2, k⟩
end
/-! ### loops -/
section
variable {K : PySem.W.Frag} {H : Hp} {σ : L2.St} {Q : VK} {v x : V} {tl : TE} {tA : TA} {g : TG} {tb : TS} {nx : L2.St → Hp → Prop} {rt : VK} {bk ct : L2.St → Hp → Prop} {a p : Addr} {xs : List V} {M : List Cell} {fs : List Fact}
/-- what a for over a thing asks once the thing is known -/
def RFor (J : It) (g : TG) (tb : TS) (nx : L2.St → Hp → Prop) (rt : VK) (bk ct : L2.St → Hp → Prop) (σ : L2.St) (H : Hp) : Prop :=
  ∃ W : Nat → Nat → L2.St → Hp → Prop, (∃ m, W 0 m σ H) ∧ ∀ i m σ H, W i m σ H →
  (J.stop i H ∧ nx σ H) ∨ (J.go i H ∧ ∃ N : L2.St → Hp → Prop, (∀ σ' H', N σ' H' → ∃ m', m' < m ∧ W (i + 1) m' σ' H') ∧ ∀ x H', J.yld i H x H' → g x σ H' fun σ2 H2 => tb (Ends.mk N rt nx N) σ2 H2)
def RForT (K : PySem.W.Frag) (g : TG) (tb : TS) (nx : L2.St → Hp → Prop) (rt : VK) (bk ct : L2.St → Hp → Prop) (σ : L2.St) (x : V) (H : Hp) : Prop := ∃ a, x = .ref a ∧ (∃ xs, SqT K H a xs) ∧ RFor (Itt K a) g tb nx rt bk ct σ H
def RForL (K : PySem.W.Frag) (g : TG) (tb : TS) (nx : L2.St → Hp → Prop) (rt : VK) (bk ct : L2.St → Hp → Prop) (σ : L2.St) (x : V) (H : Hp) : Prop := ∃ a, x = .ref a ∧ (∃ xs, SqL K H a xs) ∧ RFor (Itl K a) g tb nx rt bk ct σ H
theorem s_forT (k : tl σ H fun x H1 => RForT K g tb nx rt bk ct σ x H1) : tFor (iTup K tl) g tb (Ends.mk nx rt bk ct) σ H := k
theorem s_forL (k : tl σ H fun x H1 => RForL K g tb nx rt bk ct σ x H1) : tFor (iList K tl) g tb (Ends.mk nx rt bk ct) σ H := k
/-- a loop over known items, turn by turn; the thing that is walked stands still: S -/
def FU (S : Hp → Prop) (g : TG) (tb : TS) (nx : L2.St → Hp → Prop) (rt : VK) : List V → L2.St → Hp → Prop
  | [], σ, H => nx σ H
  | x :: r, σ, H => g x σ H fun σ2 H2 => tb (Ends.mk (fun σ3 H3 => S H3 ∧ FU S g tb nx rt r σ3 H3) rt nx (fun σ3 H3 => S H3 ∧ FU S g tb nx rt r σ3 H3)) σ2 H2
theorem fu_nil {S : Hp → Prop} (k : nx σ H) : FU S g tb nx rt [] σ H := k
theorem fu_cons {S : Hp → Prop} {r : List V} (k : g x σ H fun σ2 H2 => tb (Ends.mk (fun σ3 H3 => S H3 ∧ FU S g tb nx rt r σ3 H3) rt nx (fun σ3 H3 => S H3 ∧ FU S g tb nx rt r σ3 H3)) σ2 H2) : FU S g tb nx rt (x :: r) σ H := k
theorem drop_get {α : Type} {xs : List α} {i : Nat} {x : α} (h : xs[i]? = some x) : xs.drop i = x :: xs.drop (i + 1) := by
  have hl := (List.getElem?_eq_some_iff.mp h).1
  have e := (List.getElem?_eq_some_iff.mp h).2
  rw [List.drop_eq_getElem_cons hl, e]
theorem r_forTU (kn : Kn M fs H) (h : fO p (.tup xs) ∈ fs) (k : FU (fun H' => SqT K H' p xs) g tb nx rt xs σ H) : RForT K g tb nx rt bk ct σ (.ref p) H := by
  refine ⟨p, rfl, ⟨xs, kn.sqt h⟩, for_tup (D := Ends.mk nx rt bk ct) (xs := xs) (fun i σ H => SqT K H p xs ∧ FU (fun H' => SqT K H' p xs) g tb nx rt (xs.drop i) σ H) ⟨kn.sqt h, k⟩ (fun i σ H _ q => q.1) (fun i x σ H hx q => ?_) (fun σ H q => ?_)⟩
  · have q2 := q.2
    rw [drop_get hx] at q2
    exact q2
  · have q2 := q.2
    rw [List.drop_length] at q2
    exact q2
theorem r_forLU (kn : Kn M fs H) (h : fO p (.lst xs) ∈ fs) (k : FU (fun H' => SqL K H' p xs) g tb nx rt xs σ H) : RForL K g tb nx rt bk ct σ (.ref p) H := by
  refine ⟨p, rfl, ⟨xs, kn.sql h⟩, for_list (D := Ends.mk nx rt bk ct) (xs := xs) (fun i σ H => SqL K H p xs ∧ FU (fun H' => SqL K H' p xs) g tb nx rt (xs.drop i) σ H) ⟨kn.sql h, k⟩ (fun i σ H _ q => q.1) (fun i x σ H hx q => ?_) (fun σ H q => ?_)⟩
  · have q2 := q.2
    rw [drop_get hx] at q2
    exact q2
  · have q2 := q.2
    rw [List.drop_length] at q2
    exact q2
theorem fu_endT {S : Hp → Prop} {A : Prop} (h1 : S H) (k : A) : S H ∧ A := ⟨h1, k⟩
end
/-! ### slices, comprehensions -/
section
variable {K : PySem.W.Frag} {H : Hp} {σ : L2.St} {Q : VK} {v x : V} {te tl : TE} {t : TT} {tA : TA} {g : TG} {a p : Addr} {xs : List V} {M : List Cell} {fs : List Fact} {vs : List Nat}
/-- [e for x in xs]: the list at D in a cell of its own -/
def RLcL (K : PySem.W.Frag) (g : TG) (t : TT) (te : TE) (vs : List Nat) (σ : L2.St) (x : V) (H : Hp) (Q : VK) : Prop := ∃ a, x = .ref a ∧ (∃ xs, SqL K H a xs) ∧ ∀ D, H D = none → ∃ W : Nat → Nat → Hp → Prop, (∃ m, W 0 m (upd H D (.lst []))) ∧ ∀ i m H, W i m H →
  ((Itl K a).stop i H ∧ Q (.ref D) H) ∨ ((Itl K a).go i H ∧ ∃ Nx : Hp → Prop, (∀ H', Nx H' → ∃ m', m' < m ∧ W (i + 1) m' H') ∧ ∀ x H', (Itl K a).yld i H x H' → g x (wipe σ vs) H' fun σ2 H2 => wipe σ2 vs = wipe σ vs ∧ t σ2 H2 fun b H3 =>
    if b = true then te σ2 H3 fun y H4 => ∃ acc, H4 D = some (.lst acc) ∧ acc.length < sizeLine ∧ Nx (upd H4 D (.lst (acc ++ [y]))) else Nx H3)
theorem s_lcL (k : tl σ H fun x H1 => RLcL K g t te vs σ x H1 Q) : tLc (iList K tl) g t te vs σ H Q := k
def RLcR (g : TG) (t : TT) (te : TE) (vs : List Nat) (σ : L2.St) (lo : Int) (n : Nat) (H : Hp) (Q : VK) : Prop := ∀ D, H D = none → ∃ W : Nat → Nat → Hp → Prop, (∃ m, W 0 m (upd H D (.lst []))) ∧ ∀ i m H, W i m H →
  ((Itr lo n).stop i H ∧ Q (.ref D) H) ∨ ((Itr lo n).go i H ∧ ∃ Nx : Hp → Prop, (∀ H', Nx H' → ∃ m', m' < m ∧ W (i + 1) m' H') ∧ ∀ x H', (Itr lo n).yld i H x H' → g x (wipe σ vs) H' fun σ2 H2 => wipe σ2 vs = wipe σ vs ∧ t σ2 H2 fun b H3 =>
    if b = true then te σ2 H3 fun y H4 => ∃ acc, H4 D = some (.lst acc) ∧ acc.length < sizeLine ∧ Nx (upd H4 D (.lst (acc ++ [y]))) else Nx H3)
theorem s_lcR1 (k : tA σ H fun ws H1 => ∃ j : Int, ws = [.int j] ∧ -(2 ^ 62) ≤ j ∧ j < 2 ^ 62 ∧ RLcR g t te vs σ 0 j.toNat H1 Q) : tLc (iRng1 tA) g t te vs σ H Q := k
def PvF (M : List Cell) (fs : List Fact) (D : Addr) (Pv : Nat → List V → Prop) (i : Nat) (H : Hp) : Prop := ∃ acc, Pv i acc ∧ Kn ((D, isL acc) :: M) fs H
def RLcE (D : Addr) (N : Hp → Prop) (y : V) (H : Hp) : Prop := ∃ acc, H D = some (.lst acc) ∧ acc.length < sizeLine ∧ N (upd H D (.lst (acc ++ [y])))
theorem r_lcE {D : Addr} {acc : List V} {y : V} {i : Nat} {fs' : List Fact} {Pv : Nat → List V → Prop} (kn : Kn ((D, isL acc) :: M) fs' H) (hsub : ∀ f ∈ fs, f ∈ fs') (hl : acc.length < sizeLine) (k : Pv (i + 1) (acc ++ [y])) : RLcE D (PvF M fs D Pv (i + 1)) y H :=
  ⟨acc, kn.lst, hl, _, k, (kn.sub hsub).set rfl⟩
theorem r_lcL (kn : Kn M fs H) (hx : ∀ {M H}, Kn M fs H → SqL K H p xs) (Pv : Nat → List V → Prop) (h0 : Pv 0 [])
    (hs : ∀ i x D acc H', xs[i]? = some x → Pv i acc → Kn ((D, isL acc) :: M) fs H' → g x (wipe σ vs) H' fun σ2 H2 => wipe σ2 vs = wipe σ vs ∧ t σ2 H2 fun b H3 => if b = true then te σ2 H3 fun y H4 => RLcE D (PvF M fs D Pv (i + 1)) y H4 else PvF M fs D Pv (i + 1) H3)
    (hd : ∀ D acc H', Pv xs.length acc → Kn ((D, isL acc) :: M) fs H' → Q (.ref D) H') : RLcL K g t te vs σ (.ref p) H Q := by
  refine ⟨p, rfl, ⟨xs, hx kn⟩, fun D hD => lc_list (xs := xs) (PvF M fs D Pv) ⟨[], h0, kn.newML hD⟩ (fun i H' _ ⟨acc, _, k⟩ => hx k) (fun i x H' hi ⟨acc, q, k⟩ => hs i x D acc H' hi q k) fun H' ⟨acc, q, k⟩ => hd D acc H' q k⟩
theorem r_lcR {lo : Int} {n : Nat} (kn : Kn M fs H) (Pv : Nat → List V → Prop) (h0 : Pv 0 [])
    (hs : ∀ i D acc H', i < n → Pv i acc → Kn ((D, isL acc) :: M) fs H' → g (.int (lo + i)) (wipe σ vs) H' fun σ2 H2 => wipe σ2 vs = wipe σ vs ∧ t σ2 H2 fun b H3 => if b = true then te σ2 H3 fun y H4 => RLcE D (PvF M fs D Pv (i + 1)) y H4 else PvF M fs D Pv (i + 1) H3)
    (hd : ∀ D acc H', Pv n acc → Kn ((D, isL acc) :: M) fs H' → Q (.ref D) H') : RLcR g t te vs σ lo n H Q := by
  exact fun D hD => lc_range (PvF M fs D Pv) ⟨[], h0, kn.newML hD⟩ (fun i H' hi ⟨acc, q, k⟩ => hs i D acc H' hi q k) fun H' ⟨acc, q, k⟩ => hd D acc H' q k
theorem s_yes {QT : Bool → Hp → Prop} (k : QT true H) : tYes σ H QT := k
theorem s_iteT {A B : Prop} (k : A) : if true = true then A else B := by rw [if_pos rfl]; exact k
theorem s_iteF {A B : Prop} (k : B) : if false = true then A else B := by rw [if_neg Bool.false_ne_true]; exact k
theorem s_iteNT {A B : Prop} (k : B) : if (!true) = true then A else B := by rw [if_neg (by decide)]; exact k
theorem s_iteNF {A B : Prop} (k : A) : if (!false) = true then A else B := by rw [if_pos (by decide)]; exact k
theorem s_intE {i : Int} {R : Int → Prop} (k : R i) : ∃ a, V.int i = .int a ∧ R a := ⟨i, rfl, k⟩
theorem s_wipe {σ2 : L2.St} {A : Prop} (h : wipe σ2 vs = wipe σ vs) (k : A) : wipe σ2 vs = wipe σ vs ∧ A := ⟨h, k⟩
-- slices
theorem s_sl {r : V → Option Int → Option Int → Hp → VK → Prop} {tlo thi : TO} (k : te σ H fun x H1 => tlo σ H1 fun l H2 => thi σ H2 fun u H3 => r x l u H3 Q) : tSl r te tlo thi σ H Q := k
theorem s_noP {W : Option Int → Hp → Prop} (k : W none H) : tNoPart σ H W := k
theorem s_part {W : Option Int → Hp → Prop} (k : te σ H fun x H1 => ∃ i, x = .int i ∧ W (some i) H1) : tPart te σ H W := k
theorem s_slL {lo hi : Option Int} (kn : Kn M fs H) (h : fO p (.lst xs) ∈ fs) (k : ∀ q, Kn M (fO q (.lst (cutV xs lo hi)) :: fs) (upd H q (.lst (cutV xs lo hi))) → Q (.ref q) (upd H q (.lst (cutV xs lo hi)))) : rSlL K (.ref p) lo hi H Q := ⟨p, xs, rfl, kn.sql h, fun q hq => k q (kn.newL hq)⟩
theorem s_slL' {lo hi : Option Int} (kn : Kn M fs H) (h : fL K p xs ∈ fs) (k : ∀ q, Kn M (fO q (.lst (cutV xs lo hi)) :: fs) (upd H q (.lst (cutV xs lo hi))) → Q (.ref q) (upd H q (.lst (cutV xs lo hi)))) : rSlL K (.ref p) lo hi H Q := ⟨p, xs, rfl, kn.sql' h, fun q hq => k q (kn.newL hq)⟩
theorem s_ixL' {i : Int} (kn : Kn M fs H) (h : fL K p xs ∈ fs) (e : atI xs i = some v) (k : Q v H) : rIxL K (.ref p) (.int i) H Q := ⟨p, xs, i, v, rfl, rfl, kn.sql' h, e, k⟩
end
/-! ### spans -/
section
variable {K : PySem.W.Frag} {H : Hp} {σ : L2.St} {Q : VK} {E : XK} {v x y : V} {a p C : Addr} {xs : List V} {M : List Cell} {fs : List Fact} {f : Str} {s u l s' u' l' : Int}
def spanF (s u l : Int) : List (Str × V) := [("size", .int s), ("above", .int u), ("below", .int l), ("low", .int (s - l)), ("high", .int (s + u))]
/-- a Span of size s, above u, below l stands at p -/
def fS (C p : Addr) (s u l : Int) : Fact := fun H => ∃ dx, H p = some (.ins C dx (spanF s u l))
theorem mn_S : Mn (fS C p s u l) := fun _ _ e ⟨dx, h⟩ => ⟨dx, e _ _ h⟩
theorem r_fldS (kn : Kn M fs H) (h : fS C p s u l ∈ fs) (c : Cls K C) (no : NoAttr K C f) (e : (spanF s u l).lookup f = some v) (k : Q v H) : RFld K f (.ref p) H Q := by
  obtain ⟨dx, ho⟩ := kn.get h
  exact ⟨p, C, dx, _, v, rfl, ho, c, no, e, k⟩
theorem isi_span (I : InsK K C) (kn : Kn M fs H) (h : fS C p s u l ∈ fs) (k : Q (.bl true) H) : rIsi K [.ref p, .ref C] H Q := by
  obtain ⟨dx, ho⟩ := kn.get h
  exact isi_ins_cls I ho k
def spSpanInit (C : Addr) : Sp := fun vs H Q _ => ∃ (M : List Cell) (fs : List Fact) (x dx : Addr) (s u l : Int), vs = [.ref x, .int s, .int u, .int l] ∧ Kn ((x, isI C dx []) :: M) fs H ∧ 0 ≤ u + l ∧ ∀ H', Kn M (fS C x s u l :: fs) H' → Q .non H'
theorem r_mkS {args : Addr → List V} (kn : Kn M fs H) (e : ∀ x, args x = [.ref x, .int s, .int u, .int l]) (h0 : 0 ≤ u + l) (k : ∀ x H', Kn M (fS C x s u l :: fs) H' → Q (.ref x) H') : RMk C (spSpanInit C) args H Q E :=
  fun x dx hx hdx ne => ⟨M, fs, x, dx, s, u, l, e x, kn.newI hx hdx ne, h0, fun H' kn' => ⟨rfl, k x H' kn'⟩⟩
theorem Kn.frzS {dx : Addr} {fl : List (Str × V)} (kn : Kn ((p, isI C dx fl) :: M) fs H) (e : fl = spanF s u l) : Kn M (fS C p s u l :: fs) H := kn.freeze mn_S fun _ o h1 h2 => by
  have h3 : o = .ins C dx fl := h2
  rw [h3, e] at h1
  exact ⟨dx, h1⟩
end
end Gx
namespace Gx
open PySem PySem.Spec PyProof.Rows L2
theorem cutV_take3 {ns : List Int} : cutV (ns.map V.int) none (some 3) = (ns.take 3).map V.int := by
  have e1 : ∀ n, HT.sIx n 0 none = 0 := fun n => rfl
  unfold cutV
  rw [e1, List.drop_zero, List.map_take]
  show List.take (HT.sIx (ns.map V.int).length (ns.map V.int).length (some 3)) _ = _
  have e2 : HT.sIx (ns.map V.int).length (ns.map V.int).length (some 3) = min 3 (ns.map V.int).length := by
    unfold HT.sIx
    simp
  rw [e2]
  by_cases h : 3 ≤ (ns.map V.int).length
  · rw [Nat.min_eq_left h]
  · rw [Nat.min_eq_right (by omega), List.take_length, List.take_of_length_le (by omega)]
theorem s_sum {K : PySem.W.Frag} {H : Hp} {Q : VK} {M : List Cell} {fs : List Fact} {p : Addr} {ns : List Int} (kn : Kn M fs H) (h : fO p (.lst (ns.map V.int)) ∈ fs) (k : Q (.int ns.sum) H) : rSum K [.ref p] H Q := ⟨p, ns, rfl, kn.sql h, k⟩
theorem kbN {K : PySem.W.Frag} {d : He.DefD} {fd : FuncData} {ps : List Str} (F : FunD K d.name d.qual d.params d.body d.scope (d.dvs K) (d.kws K) (He.fAd K d.at_) fd) (n : Nat) (ks : List Str) (g : {α : Type} → List α → List α → List α)
    (hrel : ∀ {vs zs : List V} {us ws : List Value}, Vals vs us → Vals zs ws → Vals (g vs zs) (g us ws))
    (h : ∀ (kV doc pm : Value) (an : Option Addr) (cdv ct : Value) (us ws : List Value), us.length = n → ws.length = ks.length → bindArgs (PySem.W.fnOf d.name d.qual d.params d.body d.scope .none kV doc pm an cdv ct) ⟨us, ks.zip ws⟩ = pure (ps.zip (g us ws))) (hd : d.dfl = [] := by rfl) :
    KBn K fd ps n ks (fun us ws => g us ws) (fun vs zs => g vs zs) := by
  have e : d.dvs K = [] := by unfold He.DefD.dvs; rw [hd]; rfl
  rw [e] at F
  obtain ⟨oc, od, dV, kV, doc, pm, an, cdv, ct, osl, rfl, lk, hcd, hD, hK⟩ := F.ex
  rcases hD with ⟨_, rfl⟩ | ⟨e, _⟩
  · exact ⟨fun s us ws X l1 l2 => BindsTo.of_eq (h kV doc pm an cdv ct us ws l1 l2), fun r1 r2 => hrel r1 r2⟩
  · exact absurd rfl e
/-- the purse of a law -/
def Pur : HO → Prop := fun o => ∃ a b c : Int, o = .lst [.int a, .int b, .int c] ∧ 0 ≤ a ∧ a < 2147483399 ∧ 0 ≤ b
theorem Kn.pur {p : Addr} {M : List Cell} {fs : List Fact} {H : Hp} (k : Kn ((p, Pur) :: M) fs H) : ∃ a b c : Int, (0 ≤ a ∧ a < 2147483399 ∧ 0 ≤ b) ∧ Kn ((p, isL [.int a, .int b, .int c]) :: M) fs H := by
  obtain ⟨o, ⟨a, b, c, e, h⟩, k2⟩ := k.exact
  subst e
  exact ⟨a, b, c, h, k2⟩
theorem Kn.unpur {p : Addr} {M : List Cell} {fs : List Fact} {H : Hp} {a b c : Int} (k : Kn ((p, isL [.int a, .int b, .int c]) :: M) fs H) (h0 : 0 ≤ a) (h1 : a < 2147483399) (h2 : 0 ≤ b) : Kn ((p, Pur) :: M) fs H := k.weak fun o e => ⟨a, b, c, e, h0, h1, h2⟩
end Gx

namespace Gx
open PySem PySem.Spec PyProof.Rows L2
section
variable {X : Cx}
theorem c_max (hc : X.calm = true) : CallR X (.builtin "max") (fun xs H Q => ∃ i j, xs = [.int i, .int j] ∧ Q (.int (max i j)) H) := by
  intro pins s σ H xs us Q I r h
  refine call_max2 hc pins s σ H xs us Q I r ?_
  obtain ⟨i, j, e, q⟩ := h
  refine ⟨i, j, e, ?_⟩
  have e2 : (if j > i then j else i) = max i j := by split <;> omega
  rw [e2]
  exact q
theorem c_min (hc : X.calm = true) : CallR X (.builtin "min") (fun xs H Q => ∃ i j, xs = [.int i, .int j] ∧ Q (.int (min i j)) H) := by
  intro pins s σ H xs us Q I r h
  refine call_min2 hc pins s σ H xs us Q I r ?_
  obtain ⟨i, j, e, q⟩ := h
  refine ⟨i, j, e, ?_⟩
  have e2 : (if j < i then j else i) = min i j := by split <;> omega
  rw [e2]
  exact q
/-- a statement, then the rest, with a word between them -/
def tCut (t u : TS) : TS := fun D σ H => ∃ Mid : L2.St → Hp → Prop, t { D with nx := Mid } σ H ∧ ∀ σ' H', Mid σ' H' → u D σ' H'
theorem pss_cut {st : Stmt} {rest : List Stmt} {t u : TS} (h1 : PS X st t) (h2 : PSs X rest u) : PSs X (st :: rest) (tCut t u) := by
  refine ⟨fun pins s σ H D I h => ?_⟩
  obtain ⟨Mid, hm, hu⟩ := h
  refine wpAny_execs_cons (thn (h1.run pins s σ H { D with nx := Mid } I hm) fun f s1 q => ?_)
  cases f with
  | next =>
    obtain ⟨σ', H', I', q⟩ := q
    exact h2.run pins s1 σ' H' D I' (hu σ' H' q)
  | ret v => exact q
  | brk => exact q
  | cont => exact q
end
section
variable {K : PySem.W.Frag} {H : Hp} {σ : L2.St} {Q : VK} {te tb : TE} {tS uS : TS} {nx : L2.St → Hp → Prop} {rt : VK} {bk ct : L2.St → Hp → Prop} {p q : Addr} {xs ys : List V} {M : List Cell} {fs : List Fact}
theorem s_cut (Mid : L2.St → Hp → Prop) (k1 : tS (Ends.mk Mid rt bk ct) σ H) (k2 : ∀ σ' H', Mid σ' H' → uS (Ends.mk nx rt bk ct) σ' H') : tCut tS uS (Ends.mk nx rt bk ct) σ H := ⟨Mid, k1, k2⟩
/-- a and b, of which the second is known where the first is true: one way -/
theorem m_and {b1 b2 : Bool} (hb : b1 = true → ∀ Q' : VK, Q' (.bl b2) H → tb σ H Q') (k : Q (.bl (b1 && b2)) H) (hQ : ∀ v, (∀ Q' : VK, Q' v H → Q' v H) := by exact fun _ _ h => h) : if b1 = true then tb σ H Q else Q (.bl false) H := by
  cases b1 with
  | true => rw [if_pos rfl]; exact hb rfl Q k
  | false => rw [if_neg Bool.false_ne_true]; exact k
theorem m_or {b1 b2 : Bool} (hb : b1 = false → ∀ Q' : VK, Q' (.bl b2) H → tb σ H Q') (k : Q (.bl (b1 || b2)) H) : if b1 = true then Q (.bl true) H else tb σ H Q := by
  cases b1 with
  | true => rw [if_pos rfl]; exact k
  | false => rw [if_neg Bool.false_ne_true]; exact hb rfl Q k
theorem dpAll_ints : ∀ ns : List Int, DpAll K H (ns.map V.int) (ns.map PyData.int)
  | [] => .nil
  | n :: ns => .cons (.int n) (dpAll_ints ns)
theorem eqvAll_ints : ∀ ns ms : List Int, PyData.eqvAll (ns.map PyData.int) (ms.map PyData.int) = decide (ns = ms)
  | [], [] => rfl
  | [], _ :: _ => rfl
  | _ :: _, [] => rfl
  | n :: ns, m :: ms => by
    show (PyData.eqv (.int n) (.int m) && PyData.eqvAll (ns.map PyData.int) (ms.map PyData.int)) = _
    rw [eqvAll_ints ns ms]
    show ((n == m) && decide (ns = ms)) = _
    by_cases h1 : n = m
    · by_cases h2 : ns = ms
      · rw [h1, h2]; simp
      · simp [h1, h2]
    · simp [h1]
theorem s_eqTI (kn : Kn M fs H) (h1 : fO p (.tup xs) ∈ fs) (h2 : fO q (.tup ys) ∈ fs) (e1 : xs = (xs.map unI).map V.int) (e2 : ys = (ys.map unI).map V.int) (z1 : SeqAt.shaped (.tuple ((xs.map unI).map PyData.int)) = true) (z2 : SeqAt.shaped (.tuple ((ys.map unI).map PyData.int)) = true)
    (k : Q (.bl (decide (xs.map unI = ys.map unI))) H) : rEqD K (.ref p) (.ref q) H Q := by
  refine ⟨_, _, .tup (kn.sqt h1) (ds := (xs.map unI).map PyData.int) ?_, .tup (kn.sqt h2) (ds := (ys.map unI).map PyData.int) ?_, z1, z2, ?_⟩
  · have e := dpAll_ints (K := K) (H := H) (xs.map unI)
    rw [← e1] at e
    exact e
  · have e := dpAll_ints (K := K) (H := H) (ys.map unI)
    rw [← e2] at e
    exact e
  · show Q (.bl (PyData.eqvAll ((xs.map unI).map PyData.int) ((ys.map unI).map PyData.int))) H
    rw [eqvAll_ints]
    exact k
theorem Kn.init {a : Addr} {ns : List Int} (h : SqL K H a (ns.map V.int)) : Kn [] [fL K a (ns.map V.int)] H := by
  refine ⟨fun x hx => (nomatch hx), List.nodup_nil, fun f hf => ?_⟩
  rcases List.mem_cons.mp hf with rfl | hf
  · refine ⟨mn_L, ?_⟩
    have e : ers ([].map fun x : Cell => x.1) H = H := funext fun b => ers_out (by simp)
    rw [e]
    exact h
  · exact nomatch hf
theorem s_all {bs : List Bool} (kn : Kn M fs H) (h : fO p (.lst (bs.map V.bl)) ∈ fs) (k : Q (.bl (bs.all id)) H) : rAll K [.ref p] H Q := ⟨p, bs, rfl, kn.sql h, k⟩
theorem all_rep (n : Nat) : (List.replicate n true).all id = true := by
  induction n with
  | zero => rfl
  | succ n ih => rw [List.replicate_succ, List.all_cons, ih]; rfl
def spLaw (K : PySem.W.Frag) : Sp := fun vs H Q _ => ∃ (a : Addr) (ns : List Int), vs = [.ref a] ∧ SqL K H a (ns.map V.int) ∧ ns.length ≤ 63 ∧ ∀ H', Q (.bl true) H'
end
end Gx

namespace Hd
open PySem PySem.Spec PyProof.Rows L2
/-! ### the text by places -/
def top (i : Nat) : Stmt := PySem.Challenge.pw_fitwords_k08_held_against_each_other.main.body.getD i (.Pass ⟨0, 0, 0, 0⟩)
abbrev s__law_take : Stmt := top 40
abbrev s__law_measure : Stmt := top 41
abbrev s__law_allowed : Stmt := top 42
abbrev s__law_parts : Stmt := top 43
abbrev s__law_ends : Stmt := top 44
abbrev s__law_purse : Stmt := top 39
abbrev s__law_cell : Stmt := top 38
abbrev s_is_measure : Stmt := top 17
abbrev s_check_measure : Stmt := top 18
abbrev s_check_allowance : Stmt := top 30
abbrev s_Span___init__ : Stmt := inClass (top 31) 0
abbrev s_check_span : Stmt := top 32
abbrev s_span_of : Stmt := top 33
abbrev s_both : Stmt := top 34
abbrev s_within : Stmt := top 35
abbrev s_unlike : Stmt := top 36
abbrev s__law_cells : Stmt := top 45
abbrev s__law_is_true : Stmt := top 47
abbrev s__law_both_right : Stmt := top 48
abbrev s__law_unlike_right : Stmt := top 49
abbrev s__law_near : Stmt := top 46
abbrev s__law_right : Stmt := top 50
abbrev s_law : Stmt := top 51
def d__law_take : He.DefD := ⟨("_law_take", none), "_law_take", "_law_take", defArgs s__law_take, defBody s__law_take, defScope s__law_take, [], []⟩
def d__law_measure : He.DefD := ⟨("_law_measure", none), "_law_measure", "_law_measure", defArgs s__law_measure, defBody s__law_measure, defScope s__law_measure, [], []⟩
def d__law_allowed : He.DefD := ⟨("_law_allowed", none), "_law_allowed", "_law_allowed", defArgs s__law_allowed, defBody s__law_allowed, defScope s__law_allowed, [], []⟩
def d__law_parts : He.DefD := ⟨("_law_parts", none), "_law_parts", "_law_parts", defArgs s__law_parts, defBody s__law_parts, defScope s__law_parts, [], []⟩
def d__law_ends : He.DefD := ⟨("_law_ends", none), "_law_ends", "_law_ends", defArgs s__law_ends, defBody s__law_ends, defScope s__law_ends, [], []⟩
def d__law_purse : He.DefD := ⟨("_law_purse", none), "_law_purse", "_law_purse", defArgs s__law_purse, defBody s__law_purse, defScope s__law_purse, [], []⟩
def d__law_cell : He.DefD := ⟨("_law_cell", none), "_law_cell", "_law_cell", defArgs s__law_cell, defBody s__law_cell, defScope s__law_cell, [], []⟩
def d_is_measure : He.DefD := ⟨("is_measure", none), "is_measure", "is_measure", defArgs s_is_measure, defBody s_is_measure, defScope s_is_measure, [], []⟩
def d_check_measure : He.DefD := ⟨("check_measure", none), "check_measure", "check_measure", defArgs s_check_measure, defBody s_check_measure, defScope s_check_measure, [], []⟩
def d_check_allowance : He.DefD := ⟨("check_allowance", none), "check_allowance", "check_allowance", defArgs s_check_allowance, defBody s_check_allowance, defScope s_check_allowance, [], []⟩
def d_Span___init__ : He.DefD := ⟨("Span", some "__init__"), "__init__", "Span.__init__", defArgs s_Span___init__, defBody s_Span___init__, defScope s_Span___init__, [.int (0), .int (0)], []⟩
def d_check_span : He.DefD := ⟨("check_span", none), "check_span", "check_span", defArgs s_check_span, defBody s_check_span, defScope s_check_span, [], []⟩
def d_span_of : He.DefD := ⟨("span_of", none), "span_of", "span_of", defArgs s_span_of, defBody s_span_of, defScope s_span_of, [], []⟩
def d_both : He.DefD := ⟨("both", none), "both", "both", defArgs s_both, defBody s_both, defScope s_both, [], []⟩
def d_within : He.DefD := ⟨("within", none), "within", "within", defArgs s_within, defBody s_within, defScope s_within, [], []⟩
def d_unlike : He.DefD := ⟨("unlike", none), "unlike", "unlike", defArgs s_unlike, defBody s_unlike, defScope s_unlike, [], []⟩
def d__law_cells : He.DefD := ⟨("_law_cells", none), "_law_cells", "_law_cells", defArgs s__law_cells, defBody s__law_cells, defScope s__law_cells, [], []⟩
def d__law_is_true : He.DefD := ⟨("_law_is_true", none), "_law_is_true", "_law_is_true", defArgs s__law_is_true, defBody s__law_is_true, defScope s__law_is_true, [], []⟩
def d__law_both_right : He.DefD := ⟨("_law_both_right", none), "_law_both_right", "_law_both_right", defArgs s__law_both_right, defBody s__law_both_right, defScope s__law_both_right, [], []⟩
def d__law_unlike_right : He.DefD := ⟨("_law_unlike_right", none), "_law_unlike_right", "_law_unlike_right", defArgs s__law_unlike_right, defBody s__law_unlike_right, defScope s__law_unlike_right, [], []⟩
def d__law_near : He.DefD := ⟨("_law_near", none), "_law_near", "_law_near", defArgs s__law_near, defBody s__law_near, defScope s__law_near, [], []⟩
def d__law_right : He.DefD := ⟨("_law_right", none), "_law_right", "_law_right", defArgs s__law_right, defBody s__law_right, defScope s__law_right, [], []⟩
def d_law : He.DefD := ⟨("law", none), "law", "law", defArgs s_law, defBody s_law, defScope s_law, [], []⟩
def fn : List He.DefD := [d__law_take, d__law_measure, d__law_allowed, d__law_parts, d__law_ends, d__law_purse, d__law_cell, d_is_measure, d_check_measure, d_check_allowance, d_Span___init__, d_check_span, d_span_of, d_both, d_within, d_unlike, d__law_cells, d__law_is_true, d__law_both_right, d__law_unlike_right, d__law_near, d__law_right, d_law]
def fa : List He.Fa := [.glo "_law_take", .glo "_law_measure", .glo "_law_allowed", .glo "_law_parts", .glo "_law_ends", .glo "_law_purse", .glo "_law_cell", .glo "is_measure", .glo "check_measure", .glo "check_allowance", .glo "check_span", .glo "span_of", .glo "both", .glo "within", .glo "unlike", .glo "_law_cells", .glo "_law_is_true", .glo "_law_both_right", .glo "_law_unlike_right", .glo "_law_near", .glo "_law_right", .glo "law", .glo "FitError", .glo "NoMeasure", .glo "NoAllowance", .glo "NoSpan", .glo "RoomError", .glo "TooLong", .glo "Span", .free "abs", .free "len", .free "sum", .free "isinstance", .free "int", .free "bool", .free "max", .free "min", .free "range", .free "tuple", .free "str", .free "all", .cls "Span", .mkr "Span", .noat "Span" "size", .noat "Span" "above", .noat "Span" "below", .noat "Span" "low", .noat "Span" "high"]
def ex (K : PySem.W.Frag) : Bool := He.eqO (PySem.W.findIn K (.ref (He.ga K "Span")) "__class__") (some (some (.builtin "object.__class__"))) && (He.eqO (PySem.W.specialIn K (.builtin "object.__class__") "__get__") (some (some (.builtin "getset_descriptor.__get__"))) && (decide (PySem.W.takesIn K (.builtin "object.__class__") = some true) && (decide (PySem.W.mroIn K (He.ga K "Span") (.type "object") = some true) && (decide (PySem.W.kitOne K (.type "NoneType") (.ref (He.ga K "Span")) = some false) && (decide (PySem.W.kitOne K (.type "int") (.ref (He.ga K "Span")) = some false) && (decide (PySem.W.kitOne K (.type "bool") (.ref (He.ga K "Span")) = some false) && (decide (PySem.W.kitOne K (.type "str") (.ref (He.ga K "Span")) = some false) && (decide (PySem.W.kitOne K (.type "list") (.ref (He.ga K "Span")) = some false) && (decide (PySem.W.kitOne K (.type "tuple") (.ref (He.ga K "Span")) = some false) && (decide (PySem.W.kitOne K (.type "dict") (.ref (He.ga K "Span")) = some false)))))))))))
abbrev R : PySem.W.OpenRow := PySem.W.OpenLaw.row PySem.Challenge.rw_fitwords_k08_held_against_each_other
def loose0 : List Str := ["_wall", "FitError", "NoMeasure", "NoAllowance", "NoSpan", "RoomError", "TooLong", "INCH", "MOST_BY_WORDS", "ONES", "TEENS", "COUNTS", "TENS", "GREAT_SHARES", "SHARES", "is_measure", "check_measure", "minus_of", "by_parts", "by_inches", "doubled", "by_halves", "counted", "by_words", "TELLERS", "shown", "shown_span", "check_allowance", "Span", "check_span"]
def loose1 : List Str := ["span_of", "both", "within", "unlike", "_law_cell", "_law_purse", "_law_take", "_law_measure", "_law_allowed", "_law_parts", "_law_ends", "_law_cells", "_law_near", "_law_is_true", "_law_both_right", "_law_unlike_right", "_law_right"]
def loose : List Str := loose0 ++ loose1
def tabs : List He.Tab := []
abbrev hk : PySem.W.Hook := He.hookX 5 fa fn tabs [] ex
def ob (s : PySem.W.SharedT) : He.AlX := He.obsX 5 fa fn tabs [] ex (HandSHeadRun.getT s)
theorem ob_eq (s : PySem.W.SharedT) : ob s = hk.obs s.abs := He.obsX_eq (HandSHeadRun.getT_eq s)
abbrev RunAt (w : World) : Prop := HandSHeadRun.RunEq R (PySem.W.view R.prog [51]) hk ob 20000 loose w
theorem run (w : World) : RunAt w := by
  refine PySem.W.byRow2 (P := RunAt) "special-get-raises" (fun w => ?_) (fun w => ?_) w <;> (intro os; kernel_rfl)
structure Tx (K : PySem.W.Frag) (mg : Str → Option Value) : Prop where
  h : ∃ (w : World) (h : Heap), K.In h ∧ h.Ns mainGlobals mg ∧ He.SaysX fa fn tabs [] ex w h K
section
variable {K : PySem.W.Frag} {mg : Str → Option Value}
theorem Tx.g__law_take (T : Tx K mg) : mg "_law_take" = some (.ref (He.fAd K d__law_take.at_)) := by obtain ⟨w, h, X, G, c⟩ := T.h; exact He.glo_ok X G (c.t.d.fact 0 (f := .glo "_law_take") rfl)
theorem Tx.g__law_measure (T : Tx K mg) : mg "_law_measure" = some (.ref (He.fAd K d__law_measure.at_)) := by obtain ⟨w, h, X, G, c⟩ := T.h; exact He.glo_ok X G (c.t.d.fact 1 (f := .glo "_law_measure") rfl)
theorem Tx.g__law_allowed (T : Tx K mg) : mg "_law_allowed" = some (.ref (He.fAd K d__law_allowed.at_)) := by obtain ⟨w, h, X, G, c⟩ := T.h; exact He.glo_ok X G (c.t.d.fact 2 (f := .glo "_law_allowed") rfl)
theorem Tx.g__law_parts (T : Tx K mg) : mg "_law_parts" = some (.ref (He.fAd K d__law_parts.at_)) := by obtain ⟨w, h, X, G, c⟩ := T.h; exact He.glo_ok X G (c.t.d.fact 3 (f := .glo "_law_parts") rfl)
theorem Tx.g__law_ends (T : Tx K mg) : mg "_law_ends" = some (.ref (He.fAd K d__law_ends.at_)) := by obtain ⟨w, h, X, G, c⟩ := T.h; exact He.glo_ok X G (c.t.d.fact 4 (f := .glo "_law_ends") rfl)
theorem Tx.g__law_purse (T : Tx K mg) : mg "_law_purse" = some (.ref (He.fAd K d__law_purse.at_)) := by obtain ⟨w, h, X, G, c⟩ := T.h; exact He.glo_ok X G (c.t.d.fact 5 (f := .glo "_law_purse") rfl)
theorem Tx.g__law_cell (T : Tx K mg) : mg "_law_cell" = some (.ref (He.fAd K d__law_cell.at_)) := by obtain ⟨w, h, X, G, c⟩ := T.h; exact He.glo_ok X G (c.t.d.fact 6 (f := .glo "_law_cell") rfl)
theorem Tx.g_is_measure (T : Tx K mg) : mg "is_measure" = some (.ref (He.fAd K d_is_measure.at_)) := by obtain ⟨w, h, X, G, c⟩ := T.h; exact He.glo_ok X G (c.t.d.fact 7 (f := .glo "is_measure") rfl)
theorem Tx.g_check_measure (T : Tx K mg) : mg "check_measure" = some (.ref (He.fAd K d_check_measure.at_)) := by obtain ⟨w, h, X, G, c⟩ := T.h; exact He.glo_ok X G (c.t.d.fact 8 (f := .glo "check_measure") rfl)
theorem Tx.g_check_allowance (T : Tx K mg) : mg "check_allowance" = some (.ref (He.fAd K d_check_allowance.at_)) := by obtain ⟨w, h, X, G, c⟩ := T.h; exact He.glo_ok X G (c.t.d.fact 9 (f := .glo "check_allowance") rfl)
theorem Tx.g_check_span (T : Tx K mg) : mg "check_span" = some (.ref (He.fAd K d_check_span.at_)) := by obtain ⟨w, h, X, G, c⟩ := T.h; exact He.glo_ok X G (c.t.d.fact 10 (f := .glo "check_span") rfl)
theorem Tx.g_span_of (T : Tx K mg) : mg "span_of" = some (.ref (He.fAd K d_span_of.at_)) := by obtain ⟨w, h, X, G, c⟩ := T.h; exact He.glo_ok X G (c.t.d.fact 11 (f := .glo "span_of") rfl)
theorem Tx.g_both (T : Tx K mg) : mg "both" = some (.ref (He.fAd K d_both.at_)) := by obtain ⟨w, h, X, G, c⟩ := T.h; exact He.glo_ok X G (c.t.d.fact 12 (f := .glo "both") rfl)
theorem Tx.g_within (T : Tx K mg) : mg "within" = some (.ref (He.fAd K d_within.at_)) := by obtain ⟨w, h, X, G, c⟩ := T.h; exact He.glo_ok X G (c.t.d.fact 13 (f := .glo "within") rfl)
theorem Tx.g_unlike (T : Tx K mg) : mg "unlike" = some (.ref (He.fAd K d_unlike.at_)) := by obtain ⟨w, h, X, G, c⟩ := T.h; exact He.glo_ok X G (c.t.d.fact 14 (f := .glo "unlike") rfl)
theorem Tx.g__law_cells (T : Tx K mg) : mg "_law_cells" = some (.ref (He.fAd K d__law_cells.at_)) := by obtain ⟨w, h, X, G, c⟩ := T.h; exact He.glo_ok X G (c.t.d.fact 15 (f := .glo "_law_cells") rfl)
theorem Tx.g__law_is_true (T : Tx K mg) : mg "_law_is_true" = some (.ref (He.fAd K d__law_is_true.at_)) := by obtain ⟨w, h, X, G, c⟩ := T.h; exact He.glo_ok X G (c.t.d.fact 16 (f := .glo "_law_is_true") rfl)
theorem Tx.g__law_both_right (T : Tx K mg) : mg "_law_both_right" = some (.ref (He.fAd K d__law_both_right.at_)) := by obtain ⟨w, h, X, G, c⟩ := T.h; exact He.glo_ok X G (c.t.d.fact 17 (f := .glo "_law_both_right") rfl)
theorem Tx.g__law_unlike_right (T : Tx K mg) : mg "_law_unlike_right" = some (.ref (He.fAd K d__law_unlike_right.at_)) := by obtain ⟨w, h, X, G, c⟩ := T.h; exact He.glo_ok X G (c.t.d.fact 18 (f := .glo "_law_unlike_right") rfl)
theorem Tx.g__law_near (T : Tx K mg) : mg "_law_near" = some (.ref (He.fAd K d__law_near.at_)) := by obtain ⟨w, h, X, G, c⟩ := T.h; exact He.glo_ok X G (c.t.d.fact 19 (f := .glo "_law_near") rfl)
theorem Tx.g__law_right (T : Tx K mg) : mg "_law_right" = some (.ref (He.fAd K d__law_right.at_)) := by obtain ⟨w, h, X, G, c⟩ := T.h; exact He.glo_ok X G (c.t.d.fact 20 (f := .glo "_law_right") rfl)
theorem Tx.g_law (T : Tx K mg) : mg "law" = some (.ref (He.fAd K d_law.at_)) := by obtain ⟨w, h, X, G, c⟩ := T.h; exact He.glo_ok X G (c.t.d.fact 21 (f := .glo "law") rfl)
theorem Tx.g_FitError (T : Tx K mg) : mg "FitError" = some (.ref (He.ga K "FitError")) := by obtain ⟨w, h, X, G, c⟩ := T.h; exact He.glo_ok X G (c.t.d.fact 22 (f := .glo "FitError") rfl)
theorem Tx.g_NoMeasure (T : Tx K mg) : mg "NoMeasure" = some (.ref (He.ga K "NoMeasure")) := by obtain ⟨w, h, X, G, c⟩ := T.h; exact He.glo_ok X G (c.t.d.fact 23 (f := .glo "NoMeasure") rfl)
theorem Tx.g_NoAllowance (T : Tx K mg) : mg "NoAllowance" = some (.ref (He.ga K "NoAllowance")) := by obtain ⟨w, h, X, G, c⟩ := T.h; exact He.glo_ok X G (c.t.d.fact 24 (f := .glo "NoAllowance") rfl)
theorem Tx.g_NoSpan (T : Tx K mg) : mg "NoSpan" = some (.ref (He.ga K "NoSpan")) := by obtain ⟨w, h, X, G, c⟩ := T.h; exact He.glo_ok X G (c.t.d.fact 25 (f := .glo "NoSpan") rfl)
theorem Tx.g_RoomError (T : Tx K mg) : mg "RoomError" = some (.ref (He.ga K "RoomError")) := by obtain ⟨w, h, X, G, c⟩ := T.h; exact He.glo_ok X G (c.t.d.fact 26 (f := .glo "RoomError") rfl)
theorem Tx.g_TooLong (T : Tx K mg) : mg "TooLong" = some (.ref (He.ga K "TooLong")) := by obtain ⟨w, h, X, G, c⟩ := T.h; exact He.glo_ok X G (c.t.d.fact 27 (f := .glo "TooLong") rfl)
theorem Tx.g_Span (T : Tx K mg) : mg "Span" = some (.ref (He.ga K "Span")) := by obtain ⟨w, h, X, G, c⟩ := T.h; exact He.glo_ok X G (c.t.d.fact 28 (f := .glo "Span") rfl)
theorem Tx.f_abs (T : Tx K mg) : mg "abs" = none := by obtain ⟨w, h, X, G, c⟩ := T.h; exact He.free_ok X G (c.t.d.fact 29 (f := .free "abs") rfl)
theorem Tx.f_len (T : Tx K mg) : mg "len" = none := by obtain ⟨w, h, X, G, c⟩ := T.h; exact He.free_ok X G (c.t.d.fact 30 (f := .free "len") rfl)
theorem Tx.f_sum (T : Tx K mg) : mg "sum" = none := by obtain ⟨w, h, X, G, c⟩ := T.h; exact He.free_ok X G (c.t.d.fact 31 (f := .free "sum") rfl)
theorem Tx.f_isinstance (T : Tx K mg) : mg "isinstance" = none := by obtain ⟨w, h, X, G, c⟩ := T.h; exact He.free_ok X G (c.t.d.fact 32 (f := .free "isinstance") rfl)
theorem Tx.f_int (T : Tx K mg) : mg "int" = none := by obtain ⟨w, h, X, G, c⟩ := T.h; exact He.free_ok X G (c.t.d.fact 33 (f := .free "int") rfl)
theorem Tx.f_bool (T : Tx K mg) : mg "bool" = none := by obtain ⟨w, h, X, G, c⟩ := T.h; exact He.free_ok X G (c.t.d.fact 34 (f := .free "bool") rfl)
theorem Tx.f_max (T : Tx K mg) : mg "max" = none := by obtain ⟨w, h, X, G, c⟩ := T.h; exact He.free_ok X G (c.t.d.fact 35 (f := .free "max") rfl)
theorem Tx.f_min (T : Tx K mg) : mg "min" = none := by obtain ⟨w, h, X, G, c⟩ := T.h; exact He.free_ok X G (c.t.d.fact 36 (f := .free "min") rfl)
theorem Tx.f_range (T : Tx K mg) : mg "range" = none := by obtain ⟨w, h, X, G, c⟩ := T.h; exact He.free_ok X G (c.t.d.fact 37 (f := .free "range") rfl)
theorem Tx.f_tuple (T : Tx K mg) : mg "tuple" = none := by obtain ⟨w, h, X, G, c⟩ := T.h; exact He.free_ok X G (c.t.d.fact 38 (f := .free "tuple") rfl)
theorem Tx.f_str (T : Tx K mg) : mg "str" = none := by obtain ⟨w, h, X, G, c⟩ := T.h; exact He.free_ok X G (c.t.d.fact 39 (f := .free "str") rfl)
theorem Tx.f_all (T : Tx K mg) : mg "all" = none := by obtain ⟨w, h, X, G, c⟩ := T.h; exact He.free_ok X G (c.t.d.fact 40 (f := .free "all") rfl)
theorem Tx.cls_Span (T : Tx K mg) : Cls K (He.ga K "Span") := by obtain ⟨w, h, X, G, c⟩ := T.h; exact He.cls_ok (c.t.d.fact 41 (f := .cls "Span") rfl)
theorem Tx.mkr_Span (T : Tx K mg) : Mk K (He.ga K "Span") (He.fAd K d_Span___init__.at_) := by obtain ⟨w, h, X, G, c⟩ := T.h; exact He.mkr_ok (c.t.d.fact 42 (f := .mkr "Span") rfl)
theorem Tx.no_Span_size (T : Tx K mg) : NoAttr K (He.ga K "Span") "size" := by obtain ⟨w, h, X, G, c⟩ := T.h; exact He.noat_ok (c.t.d.fact 43 (f := .noat "Span" "size") rfl)
theorem Tx.no_Span_above (T : Tx K mg) : NoAttr K (He.ga K "Span") "above" := by obtain ⟨w, h, X, G, c⟩ := T.h; exact He.noat_ok (c.t.d.fact 44 (f := .noat "Span" "above") rfl)
theorem Tx.no_Span_below (T : Tx K mg) : NoAttr K (He.ga K "Span") "below" := by obtain ⟨w, h, X, G, c⟩ := T.h; exact He.noat_ok (c.t.d.fact 45 (f := .noat "Span" "below") rfl)
theorem Tx.no_Span_low (T : Tx K mg) : NoAttr K (He.ga K "Span") "low" := by obtain ⟨w, h, X, G, c⟩ := T.h; exact He.noat_ok (c.t.d.fact 46 (f := .noat "Span" "low") rfl)
theorem Tx.no_Span_high (T : Tx K mg) : NoAttr K (He.ga K "Span") "high" := by obtain ⟨w, h, X, G, c⟩ := T.h; exact He.noat_ok (c.t.d.fact 47 (f := .noat "Span" "high") rfl)
theorem Tx.df__law_take (T : Tx K mg) : ∃ fd, FunD K d__law_take.name d__law_take.qual d__law_take.params d__law_take.body d__law_take.scope (d__law_take.dvs K) (d__law_take.kws K) (He.fAd K d__law_take.at_) fd := by obtain ⟨w, h, X, G, c⟩ := T.h; exact c.t.d.def_ 0 (d := d__law_take) rfl
theorem Tx.df__law_measure (T : Tx K mg) : ∃ fd, FunD K d__law_measure.name d__law_measure.qual d__law_measure.params d__law_measure.body d__law_measure.scope (d__law_measure.dvs K) (d__law_measure.kws K) (He.fAd K d__law_measure.at_) fd := by obtain ⟨w, h, X, G, c⟩ := T.h; exact c.t.d.def_ 1 (d := d__law_measure) rfl
theorem Tx.df__law_allowed (T : Tx K mg) : ∃ fd, FunD K d__law_allowed.name d__law_allowed.qual d__law_allowed.params d__law_allowed.body d__law_allowed.scope (d__law_allowed.dvs K) (d__law_allowed.kws K) (He.fAd K d__law_allowed.at_) fd := by obtain ⟨w, h, X, G, c⟩ := T.h; exact c.t.d.def_ 2 (d := d__law_allowed) rfl
theorem Tx.df__law_parts (T : Tx K mg) : ∃ fd, FunD K d__law_parts.name d__law_parts.qual d__law_parts.params d__law_parts.body d__law_parts.scope (d__law_parts.dvs K) (d__law_parts.kws K) (He.fAd K d__law_parts.at_) fd := by obtain ⟨w, h, X, G, c⟩ := T.h; exact c.t.d.def_ 3 (d := d__law_parts) rfl
theorem Tx.df__law_ends (T : Tx K mg) : ∃ fd, FunD K d__law_ends.name d__law_ends.qual d__law_ends.params d__law_ends.body d__law_ends.scope (d__law_ends.dvs K) (d__law_ends.kws K) (He.fAd K d__law_ends.at_) fd := by obtain ⟨w, h, X, G, c⟩ := T.h; exact c.t.d.def_ 4 (d := d__law_ends) rfl
theorem Tx.df__law_purse (T : Tx K mg) : ∃ fd, FunD K d__law_purse.name d__law_purse.qual d__law_purse.params d__law_purse.body d__law_purse.scope (d__law_purse.dvs K) (d__law_purse.kws K) (He.fAd K d__law_purse.at_) fd := by obtain ⟨w, h, X, G, c⟩ := T.h; exact c.t.d.def_ 5 (d := d__law_purse) rfl
theorem Tx.df__law_cell (T : Tx K mg) : ∃ fd, FunD K d__law_cell.name d__law_cell.qual d__law_cell.params d__law_cell.body d__law_cell.scope (d__law_cell.dvs K) (d__law_cell.kws K) (He.fAd K d__law_cell.at_) fd := by obtain ⟨w, h, X, G, c⟩ := T.h; exact c.t.d.def_ 6 (d := d__law_cell) rfl
theorem Tx.df_is_measure (T : Tx K mg) : ∃ fd, FunD K d_is_measure.name d_is_measure.qual d_is_measure.params d_is_measure.body d_is_measure.scope (d_is_measure.dvs K) (d_is_measure.kws K) (He.fAd K d_is_measure.at_) fd := by obtain ⟨w, h, X, G, c⟩ := T.h; exact c.t.d.def_ 7 (d := d_is_measure) rfl
theorem Tx.df_check_measure (T : Tx K mg) : ∃ fd, FunD K d_check_measure.name d_check_measure.qual d_check_measure.params d_check_measure.body d_check_measure.scope (d_check_measure.dvs K) (d_check_measure.kws K) (He.fAd K d_check_measure.at_) fd := by obtain ⟨w, h, X, G, c⟩ := T.h; exact c.t.d.def_ 8 (d := d_check_measure) rfl
theorem Tx.df_check_allowance (T : Tx K mg) : ∃ fd, FunD K d_check_allowance.name d_check_allowance.qual d_check_allowance.params d_check_allowance.body d_check_allowance.scope (d_check_allowance.dvs K) (d_check_allowance.kws K) (He.fAd K d_check_allowance.at_) fd := by obtain ⟨w, h, X, G, c⟩ := T.h; exact c.t.d.def_ 9 (d := d_check_allowance) rfl
theorem Tx.df_Span___init__ (T : Tx K mg) : ∃ fd, FunD K d_Span___init__.name d_Span___init__.qual d_Span___init__.params d_Span___init__.body d_Span___init__.scope (d_Span___init__.dvs K) (d_Span___init__.kws K) (He.fAd K d_Span___init__.at_) fd := by obtain ⟨w, h, X, G, c⟩ := T.h; exact c.t.d.def_ 10 (d := d_Span___init__) rfl
theorem Tx.df_check_span (T : Tx K mg) : ∃ fd, FunD K d_check_span.name d_check_span.qual d_check_span.params d_check_span.body d_check_span.scope (d_check_span.dvs K) (d_check_span.kws K) (He.fAd K d_check_span.at_) fd := by obtain ⟨w, h, X, G, c⟩ := T.h; exact c.t.d.def_ 11 (d := d_check_span) rfl
theorem Tx.df_span_of (T : Tx K mg) : ∃ fd, FunD K d_span_of.name d_span_of.qual d_span_of.params d_span_of.body d_span_of.scope (d_span_of.dvs K) (d_span_of.kws K) (He.fAd K d_span_of.at_) fd := by obtain ⟨w, h, X, G, c⟩ := T.h; exact c.t.d.def_ 12 (d := d_span_of) rfl
theorem Tx.df_both (T : Tx K mg) : ∃ fd, FunD K d_both.name d_both.qual d_both.params d_both.body d_both.scope (d_both.dvs K) (d_both.kws K) (He.fAd K d_both.at_) fd := by obtain ⟨w, h, X, G, c⟩ := T.h; exact c.t.d.def_ 13 (d := d_both) rfl
theorem Tx.df_within (T : Tx K mg) : ∃ fd, FunD K d_within.name d_within.qual d_within.params d_within.body d_within.scope (d_within.dvs K) (d_within.kws K) (He.fAd K d_within.at_) fd := by obtain ⟨w, h, X, G, c⟩ := T.h; exact c.t.d.def_ 14 (d := d_within) rfl
theorem Tx.df_unlike (T : Tx K mg) : ∃ fd, FunD K d_unlike.name d_unlike.qual d_unlike.params d_unlike.body d_unlike.scope (d_unlike.dvs K) (d_unlike.kws K) (He.fAd K d_unlike.at_) fd := by obtain ⟨w, h, X, G, c⟩ := T.h; exact c.t.d.def_ 15 (d := d_unlike) rfl
theorem Tx.df__law_cells (T : Tx K mg) : ∃ fd, FunD K d__law_cells.name d__law_cells.qual d__law_cells.params d__law_cells.body d__law_cells.scope (d__law_cells.dvs K) (d__law_cells.kws K) (He.fAd K d__law_cells.at_) fd := by obtain ⟨w, h, X, G, c⟩ := T.h; exact c.t.d.def_ 16 (d := d__law_cells) rfl
theorem Tx.df__law_is_true (T : Tx K mg) : ∃ fd, FunD K d__law_is_true.name d__law_is_true.qual d__law_is_true.params d__law_is_true.body d__law_is_true.scope (d__law_is_true.dvs K) (d__law_is_true.kws K) (He.fAd K d__law_is_true.at_) fd := by obtain ⟨w, h, X, G, c⟩ := T.h; exact c.t.d.def_ 17 (d := d__law_is_true) rfl
theorem Tx.df__law_both_right (T : Tx K mg) : ∃ fd, FunD K d__law_both_right.name d__law_both_right.qual d__law_both_right.params d__law_both_right.body d__law_both_right.scope (d__law_both_right.dvs K) (d__law_both_right.kws K) (He.fAd K d__law_both_right.at_) fd := by obtain ⟨w, h, X, G, c⟩ := T.h; exact c.t.d.def_ 18 (d := d__law_both_right) rfl
theorem Tx.df__law_unlike_right (T : Tx K mg) : ∃ fd, FunD K d__law_unlike_right.name d__law_unlike_right.qual d__law_unlike_right.params d__law_unlike_right.body d__law_unlike_right.scope (d__law_unlike_right.dvs K) (d__law_unlike_right.kws K) (He.fAd K d__law_unlike_right.at_) fd := by obtain ⟨w, h, X, G, c⟩ := T.h; exact c.t.d.def_ 19 (d := d__law_unlike_right) rfl
theorem Tx.df__law_near (T : Tx K mg) : ∃ fd, FunD K d__law_near.name d__law_near.qual d__law_near.params d__law_near.body d__law_near.scope (d__law_near.dvs K) (d__law_near.kws K) (He.fAd K d__law_near.at_) fd := by obtain ⟨w, h, X, G, c⟩ := T.h; exact c.t.d.def_ 20 (d := d__law_near) rfl
theorem Tx.df__law_right (T : Tx K mg) : ∃ fd, FunD K d__law_right.name d__law_right.qual d__law_right.params d__law_right.body d__law_right.scope (d__law_right.dvs K) (d__law_right.kws K) (He.fAd K d__law_right.at_) fd := by obtain ⟨w, h, X, G, c⟩ := T.h; exact c.t.d.def_ 21 (d := d__law_right) rfl
theorem Tx.df_law (T : Tx K mg) : ∃ fd, FunD K d_law.name d_law.qual d_law.params d_law.body d_law.scope (d_law.dvs K) (d_law.kws K) (He.fAd K d_law.at_) fd := by obtain ⟨w, h, X, G, c⟩ := T.h; exact c.t.d.def_ 22 (d := d_law) rfl
theorem Tx.ex (T : Tx K mg) : ex K = true := by obtain ⟨w, h, X, G, c⟩ := T.h; exact c.more
theorem Tx.xs_Span (T : Tx K mg) : (He.eqO (PySem.W.findIn K (.ref (He.ga K "Span")) "__class__") (some (some (.builtin "object.__class__"))) && (He.eqO (PySem.W.specialIn K (.builtin "object.__class__") "__get__") (some (some (.builtin "getset_descriptor.__get__"))) && (decide (PySem.W.takesIn K (.builtin "object.__class__") = some true) && (decide (PySem.W.mroIn K (He.ga K "Span") (.type "object") = some true) && (decide (PySem.W.kitOne K (.type "NoneType") (.ref (He.ga K "Span")) = some false) && (decide (PySem.W.kitOne K (.type "int") (.ref (He.ga K "Span")) = some false) && (decide (PySem.W.kitOne K (.type "bool") (.ref (He.ga K "Span")) = some false) && (decide (PySem.W.kitOne K (.type "str") (.ref (He.ga K "Span")) = some false) && (decide (PySem.W.kitOne K (.type "list") (.ref (He.ga K "Span")) = some false) && (decide (PySem.W.kitOne K (.type "tuple") (.ref (He.ga K "Span")) = some false) && (decide (PySem.W.kitOne K (.type "dict") (.ref (He.ga K "Span")) = some false)))))))))))) = true := by have e := T.ex; unfold ex at e; exact e
theorem Tx.ins_Span (T : Tx K mg) : Gx.InsK K (He.ga K "Span") := by
  have e := T.xs_Span
  simp only [Bool.and_eq_true, decide_eq_true_eq] at e
  obtain ⟨h1, h2, h3, h4, _⟩ := e
  exact ⟨T.cls_Span, He.eqO_ok h1, He.eqO_ok h2, h3, h4⟩
theorem Tx.nk_NoneType_Span (T : Tx K mg) : PySem.W.kitOne K (.type "NoneType") (.ref (He.ga K "Span")) = some false := by
  have e := T.xs_Span
  simp only [Bool.and_eq_true, decide_eq_true_eq] at e
  obtain ⟨_, _, _, _, h, _⟩ := e
  exact h
theorem Tx.nk_int_Span (T : Tx K mg) : PySem.W.kitOne K (.type "int") (.ref (He.ga K "Span")) = some false := by
  have e := T.xs_Span
  simp only [Bool.and_eq_true, decide_eq_true_eq] at e
  obtain ⟨_, _, _, _, _, h, _⟩ := e
  exact h
theorem Tx.nk_bool_Span (T : Tx K mg) : PySem.W.kitOne K (.type "bool") (.ref (He.ga K "Span")) = some false := by
  have e := T.xs_Span
  simp only [Bool.and_eq_true, decide_eq_true_eq] at e
  obtain ⟨_, _, _, _, _, _, h, _⟩ := e
  exact h
theorem Tx.nk_str_Span (T : Tx K mg) : PySem.W.kitOne K (.type "str") (.ref (He.ga K "Span")) = some false := by
  have e := T.xs_Span
  simp only [Bool.and_eq_true, decide_eq_true_eq] at e
  obtain ⟨_, _, _, _, _, _, _, h, _⟩ := e
  exact h
theorem Tx.nk_list_Span (T : Tx K mg) : PySem.W.kitOne K (.type "list") (.ref (He.ga K "Span")) = some false := by
  have e := T.xs_Span
  simp only [Bool.and_eq_true, decide_eq_true_eq] at e
  obtain ⟨_, _, _, _, _, _, _, _, h, _⟩ := e
  exact h
theorem Tx.nk_tuple_Span (T : Tx K mg) : PySem.W.kitOne K (.type "tuple") (.ref (He.ga K "Span")) = some false := by
  have e := T.xs_Span
  simp only [Bool.and_eq_true, decide_eq_true_eq] at e
  obtain ⟨_, _, _, _, _, _, _, _, _, h, _⟩ := e
  exact h
theorem Tx.nk_dict_Span (T : Tx K mg) : PySem.W.kitOne K (.type "dict") (.ref (He.ga K "Span")) = some false := by
  have e := T.xs_Span
  simp only [Bool.and_eq_true, decide_eq_true_eq] at e
  obtain ⟨_, _, _, _, _, _, _, _, _, _, h⟩ := e
  exact h
end
theorem b__law_take : Gx.BdN d__law_take ["_law_purse_here", "_law_many"] := ⟨rfl, fun _ _ _ _ _ _ us hl => match us, hl with | [_, _], _ => rfl⟩
theorem b__law_measure : Gx.BdN d__law_measure ["_law_purse_here"] := ⟨rfl, fun _ _ _ _ _ _ us hl => match us, hl with | [_], _ => rfl⟩
theorem b__law_allowed : Gx.BdN d__law_allowed ["_law_purse_here", "_law_wide"] := ⟨rfl, fun _ _ _ _ _ _ us hl => match us, hl with | [_, _], _ => rfl⟩
theorem b__law_parts : Gx.BdN d__law_parts ["_law_purse_here", "_law_wide"] := ⟨rfl, fun _ _ _ _ _ _ us hl => match us, hl with | [_, _], _ => rfl⟩
theorem b__law_ends : Gx.BdN d__law_ends ["_law_parts_here"] := ⟨rfl, fun _ _ _ _ _ _ us hl => match us, hl with | [_], _ => rfl⟩
theorem b__law_purse : Gx.BdN d__law_purse ["_law_cell_here"] := ⟨rfl, fun _ _ _ _ _ _ us hl => match us, hl with | [_], _ => rfl⟩
theorem b__law_cell : Gx.BdN d__law_cell ["_law_script", "_law_k"] := ⟨rfl, fun _ _ _ _ _ _ us hl => match us, hl with | [_, _], _ => rfl⟩
theorem b_is_measure : Gx.BdN d_is_measure ["thing"] := ⟨rfl, fun _ _ _ _ _ _ us hl => match us, hl with | [_], _ => rfl⟩
theorem b_check_measure : Gx.BdN d_check_measure ["thing"] := ⟨rfl, fun _ _ _ _ _ _ us hl => match us, hl with | [_], _ => rfl⟩
theorem b_check_allowance : Gx.BdN d_check_allowance ["above", "below"] := ⟨rfl, fun _ _ _ _ _ _ us hl => match us, hl with | [_, _], _ => rfl⟩
theorem b_check_span : Gx.BdN d_check_span ["thing"] := ⟨rfl, fun _ _ _ _ _ _ us hl => match us, hl with | [_], _ => rfl⟩
theorem b_span_of : Gx.BdN d_span_of ["low", "high"] := ⟨rfl, fun _ _ _ _ _ _ us hl => match us, hl with | [_, _], _ => rfl⟩
theorem b_both : Gx.BdN d_both ["one", "other"] := ⟨rfl, fun _ _ _ _ _ _ us hl => match us, hl with | [_, _], _ => rfl⟩
theorem b_within : Gx.BdN d_within ["one", "other"] := ⟨rfl, fun _ _ _ _ _ _ us hl => match us, hl with | [_, _], _ => rfl⟩
theorem b_unlike : Gx.BdN d_unlike ["one", "other"] := ⟨rfl, fun _ _ _ _ _ _ us hl => match us, hl with | [_, _], _ => rfl⟩
theorem b__law_cells : Gx.BdN d__law_cells ["_law_script", "_law_few", "_law_upto"] := ⟨rfl, fun _ _ _ _ _ _ us hl => match us, hl with | [_, _, _], _ => rfl⟩
theorem b__law_is_true : Gx.BdN d__law_is_true ["_law_thing", "_law_due"] := ⟨rfl, fun _ _ _ _ _ _ us hl => match us, hl with | [_, _], _ => rfl⟩
theorem b__law_both_right : Gx.BdN d__law_both_right ["_law_told", "_law_low", "_law_high"] := ⟨rfl, fun _ _ _ _ _ _ us hl => match us, hl with | [_, _, _], _ => rfl⟩
theorem b__law_unlike_right : Gx.BdN d__law_unlike_right ["_law_told", "_law_first", "_law_second"] := ⟨rfl, fun _ _ _ _ _ _ us hl => match us, hl with | [_, _, _], _ => rfl⟩
theorem b__law_near : Gx.BdN d__law_near ["_law_purse_here", "_law_parts_here"] := ⟨rfl, fun _ _ _ _ _ _ us hl => match us, hl with | [_, _], _ => rfl⟩
theorem b__law_right : Gx.BdN d__law_right ["_law_purse_here"] := ⟨rfl, fun _ _ _ _ _ _ us hl => match us, hl with | [_], _ => rfl⟩
theorem b_law : Gx.BdN d_law ["_law_script"] := ⟨rfl, fun _ _ _ _ _ _ us hl => match us, hl with | [_], _ => rfl⟩
end Hd
namespace Gx
open PySem PySem.Spec PyProof.Rows L2 Hd
/-! ### the walk's own tactics -/
set_option hygiene false in
local macro_rules | `(tactic| walk_at "mem0") => `(tactic| first | with_reducible assumption | exact List.mem_cons_self | (refine List.mem_cons_of_mem _ ?_; walk_at "mem0"))
set_option hygiene false in
local macro_rules | `(tactic| walk_at "mem") => `(tactic| first | walk_at "mem0" | assumption)
set_option hygiene false in
local macro_rules | `(tactic| walk_at "s0") => `(tactic| first
  | ((with_reducible refine' s_var ?h ?_); (case h => exact rfl))
  | with_reducible refine s_c ?_
  | with_reducible refine s_cons ?_
  | with_reducible refine s_nil ?_
  | with_reducible refine s_op ?_
  | with_reducible refine s_I0 ?_
  | with_reducible refine s_call ?_
  | with_reducible refine s_cb ?_
  | with_reducible refine s_seq ?_
  | with_reducible refine s_asg ?_
  | ((with_reducible refine' g_nameE ?e ?_); (case e => simp only [wipe, List.map_cons, List.map_nil, List.set_cons_succ, List.set_cons_zero]; exact rfl))
  | with_reducible refine g_name ?_
  | with_reducible refine s_ret ?_
  | with_reducible refine s_ifS ?_
  | with_reducible refine s_test ?_
  | with_reducible refine s_B ?_
  | with_reducible refine s_bl ?_
  | with_reducible refine s_not ?_
  | with_reducible refine s_tup ?_
  | with_reducible refine s_lst ?_
  | ((with_reducible refine' s_ixTn kn ?m ?e ?_); (case m => walk_at "mem"); (case e => exact rfl))
  | ((with_reducible refine' s_ixLn kn ?m ?e ?_); (case m => walk_at "mem"); (case e => exact rfl))
  | ((with_reducible refine' s_ixMn kn ?e ?_); (case e => exact rfl))
  | ((with_reducible refine' s_ixR kn ?m ?e ?h0 ?h1 ?_); (case m => walk_at "mem"); (case e => exact rfl); (case h0 => omega); (case h1 => (simp only [List.length_cons, List.length_nil]; omega)); intro z hz; simp only [List.map, unI, List.mem_cons, List.not_mem_nil, or_false] at hz)
  | ((with_reducible refine' r_tup kn ?l ?_); (case l => exact sl rfl); clear kn; intro p kn)
  | ((with_reducible refine' s_setL kn ?e ?_); (case e => exact rfl); clear kn; intro kn)
  | ((with_reducible refine s_I ?c ?_); (case c => first | (show (0 : Int) < _; omega) | (unfold CMul; omega) | (unfold CDiv; omega)))
  | with_reducible refine s_eqI ?_
  | with_reducible refine s_neI ?_
  | with_reducible refine s_drop ?_
  | with_reducible refine s_par ?_
  | ((with_reducible refine' r_par ?e ?_); (case e => simp only [List.set_cons_succ, List.set_cons_zero]; exact rfl))
  | with_reducible refine s_next ?_
  | with_reducible refine g_sub ?_
  | with_reducible refine s_12 ?_
  | with_reducible refine s_1 ?_
  | with_reducible refine s_and ?_
  | with_reducible refine s_or ?_
  | with_reducible refine s_if ?_
  | with_reducible refine s_andV ?_
  | with_reducible refine s_orV ?_
  | with_reducible refine s_notV ?_
  | with_reducible refine s_chain ?_
  | with_reducible refine s_fld ?_
  | with_reducible refine s_sfld ?_
  | with_reducible refine s_self ?_
  | with_reducible refine s_ref ?_
  | with_reducible refine s_intE ?_
  | with_reducible refine s_int1 ?_
  | with_reducible refine s_intB ?_
  | with_reducible refine isi_int_int ?_
  | with_reducible refine isi_int_bool ?_
  | with_reducible refine isi_bool_bool ?_
  | with_reducible refine isi_str_str ?_
  | ((with_reducible refine' isi_tup_tup kn ?m ?_); (case m => walk_at "mem"))
  | ((with_reducible refine' isi_span ?I kn ?m ?_); (case m => walk_at "mem"); (case I => exact T.ins_Span))
  | ((with_reducible refine' isi_non_cls ?I ?_); (case I => exact T.nk_NoneType_Span))
  | ((with_reducible refine' r_fldS kn ?m ?c ?no ?e ?_); (case m => walk_at "mem"); (case c => exact T.cls_Span); (case no => (first | exact T.no_Span_size | exact T.no_Span_above | exact T.no_Span_below | exact T.no_Span_low | exact T.no_Span_high)); (case e => exact rfl))
  | ((with_reducible refine' r_sfld kn ?c ?no ?hl ?_); (case c => exact T.cls_Span); (case no => (first | exact T.no_Span_size | exact T.no_Span_above | exact T.no_Span_below | exact T.no_Span_low | exact T.no_Span_high)); (case hl => exact lt1000 rfl); clear kn; intro H kn)
  | with_reducible refine s_make ?_
  | with_reducible refine s_makeN ?_
  | ((with_reducible refine r_mkN ?h1 ?h2 ?_); (case h1 => exact rfl); (case h2 => exact rfl))
  | ((with_reducible refine' r_mkS kn ?e ?h0 ?_); (case e => exact fun _ => rfl); (case h0 => omega); clear kn; intro x H kn)
  | with_reducible refine s_callN ?_
  | ((with_reducible refine r_len2 ?h1 ?h2 ?_); (case h1 => exact rfl); (case h2 => exact rfl))
  | with_reducible refine s_forT ?_
  | with_reducible refine s_forL ?_
  | ((with_reducible refine' r_forTU kn ?m ?_); (case m => walk_at "mem"))
  | ((with_reducible refine' r_forLU kn ?m ?_); (case m => walk_at "mem"))
  | with_reducible refine fu_nil ?_
  | with_reducible refine fu_cons ?_
  | ((with_reducible refine' g_tup kn ?m ?hl ?_); (case m => walk_at "mem"); (case hl => exact rfl))
  | ((with_reducible refine' s_catT kn ?m1 ?m2 ?n1 ?n2 ?hl ?_); (case m1 => walk_at "mem"); (case m2 => walk_at "mem"); (case n1 => exact List.cons_ne_nil _ _); (case n2 => exact List.cons_ne_nil _ _); (case hl => exact sl rfl); clear kn; intro p kn)
  | ((with_reducible refine' s_lenL kn ?m ?_); (case m => walk_at "mem"))
  | ((with_reducible refine' s_lenL' kn ?m ?_); (case m => walk_at "mem"))
  | ((with_reducible refine' s_lenT kn ?m ?_); (case m => walk_at "mem"))
  | with_reducible refine s_yes ?_
  | ((with_reducible refine' s_eqTI kn ?m1 ?m2 ?e1 ?e2 ?z1 ?z2 ?_); (case m1 => walk_at "mem"); (case m2 => walk_at "mem"); (case e1 => exact rfl); (case e2 => exact rfl); (case z1 => exact rfl); (case z2 => exact rfl))
  | with_reducible refine s_iteT ?_
  | with_reducible refine s_iteF ?_
  | with_reducible refine s_iteNT ?_
  | with_reducible refine s_iteNF ?_
  | with_reducible refine s_sl ?_
  | with_reducible refine s_noP ?_
  | with_reducible refine s_part ?_
  | ((with_reducible refine' s_slL kn ?m ?_); (case m => walk_at "mem"); clear kn; intro p kn)
  | ((with_reducible refine' s_slL' kn ?m ?_); (case m => walk_at "mem"); clear kn; intro p kn)
  | with_reducible refine s_lcL ?_
  | with_reducible refine s_lcR1 ?_
  | with_reducible refine s_eqB ?_
  | with_reducible refine s_neB ?_
  | with_reducible refine s_eqS ?_
  | with_reducible refine s_neS ?_
  | with_reducible refine g_nil ?_
  | with_reducible refine g_cons ?_
  | with_reducible refine s_retN ?_
  | dsimp only)
set_option hygiene false in
local macro_rules | `(tactic| walk_at "s1") => `(tactic| first | walk_at "s0" | ((with_reducible refine' r_lst kn ?l ?_); (case l => exact sl rfl); clear kn; intro p kn))
set_option hygiene false in
local macro_rules | `(tactic| walk_at "s") => `(tactic| repeat walk_at "s1")
set_option hygiene false in
local macro_rules | `(tactic| walk_at "t") => `(tactic| repeat walk_at "s0")
set_option hygiene false in
local macro_rules | `(tactic| walk_at "take") => `(tactic| ((refine ⟨_, _, _, _, rfl, kn, ?n0, ?n1, fun r H2 r0 r1 kn2 => ?_⟩); (case n0 => omega); (case n1 => omega); clear kn; have kn := kn2; clear kn2))
set_option hygiene false in
local macro_rules | `(tactic| walk_at "tl") => `(tactic| first | exact hf | (refine List.mem_cons_of_mem _ ?_; walk_at "tl"))
set_option hygiene false in
local macro_rules | `(tactic| walk_at "keep1") => `(tactic| first | walk_at "tl" | (rcases List.mem_cons.mp hf with e | hf2; (· rw [e]; walk_at "mem"); (clear hf; have hf := hf2; clear hf2; walk_at "keep1")))
set_option hygiene false in
local macro_rules | `(tactic| walk_at "keep") => `(tactic| (intro f hf; walk_at "keep1"))
set_option hygiene false in
local macro_rules | `(tactic| walk_at "measure") => `(tactic| ((refine ⟨_, _, _, rfl, kn, fun r H2 r0 r1 kn2 => ?_⟩); clear kn; have kn := kn2; clear kn2))
set_option hygiene false in
local macro_rules | `(tactic| walk_at "allowed") => `(tactic| ((refine ⟨_, _, _, _, rfl, kn, ?n0, ?n1, fun t u l H2 r0 r1 r2 kn2 => ?_⟩); (case n0 => omega); (case n1 => omega); clear kn; have kn := kn2; clear kn2))
set_option hygiene false in
local macro_rules | `(tactic| walk_at "chs") => `(tactic| ((refine' ⟨_, _, _, _, _, _, rfl, kn, ?m, ?_⟩); (case m => walk_at "mem")))
set_option hygiene false in
local macro_rules | `(tactic| walk_at "mand") => `(tactic| ((refine' m_and (fun hb Q' q => ?hb) ?_); (case hb => walk_at "s"; exact q)))
set_option hygiene false in
local macro_rules | `(tactic| walk_at "mor") => `(tactic| ((refine' m_or (fun hb Q' q => ?hb) ?_); (case hb => walk_at "s"; exact q)))
set_option hygiene false in
local macro_rules | `(tactic| walk_at "next") => `(tactic| ((refine And.intro ?h ?_); (case h => (first | exact kn.sqt (by walk_at "mem") | exact kn.sql (by walk_at "mem"))); walk_at "s"))
set_option hygiene false in
local macro_rules | `(tactic| walk_at "parts") => `(tactic| ((refine ⟨_, _, _, _, rfl, kn, ?n0, ?n1, fun t s u l H2 r0 r1 r2 r3 kn2 => ?_⟩); (case n0 => omega); (case n1 => omega); clear kn; have kn := kn2; clear kn2))
set_option hygiene false in
local macro_rules | `(tactic| walk_at "ends") => `(tactic| ((refine' ⟨_, _, _, _, _, _, rfl, kn, ?m, fun t H2 kn2 => ?_⟩); (case m => walk_at "mem"); clear kn; have kn := kn2; clear kn2))
set_option hygiene false in
local macro_rules | `(tactic| walk_at "ixw") => `(tactic| first
  | ((with_reducible refine' s_ixT kn ?m ?e ?_); (case m => walk_at "mem"); (case e => exact rfl))
  | ((with_reducible refine' s_ixL kn ?m ?e ?_); (case m => walk_at "mem"); (case e => exact rfl)))
set_option hygiene false in
local macro_rules | `(tactic| walk_at "bothN1") => `(tactic| ((refine' ⟨_, _, _, _, _, _, _, _, _, _, max (s - l) (a - c), min (s + u) (a + b), rfl, kn, ?m1, ?m2, ?e1, ?e2, fun _ x H2 kn2 => ?_, fun h => absurd h (by omega)⟩); (case m1 => walk_at "mem"); (case m2 => walk_at "mem"); (case e1 => omega); (case e2 => omega); clear kn; have kn := kn2; clear kn2))
set_option hygiene false in
local macro_rules | `(tactic| walk_at "bothN0") => `(tactic| ((refine' ⟨_, _, _, _, _, _, _, _, _, _, max (s - l) (a - c), min (s + u) (a + b), rfl, kn, ?m1, ?m2, ?e1, ?e2, fun h => absurd h hh, fun _ H2 kn2 => ?_⟩); (case m1 => walk_at "mem"); (case m2 => walk_at "mem"); (case e1 => omega); (case e2 => omega); clear kn; have kn := kn2; clear kn2))
set_option hygiene false in
local macro_rules | `(tactic| walk_at "bothR1") => `(tactic| ((refine' ⟨_, _, _, _, _, rfl, kn, .inr ⟨_, rfl, hh, ?m⟩, fun H2 kn2 => ?_⟩); (case m => walk_at "mem"); clear kn; have kn := kn2; clear kn2; walk_at "s"))
set_option hygiene false in
local macro_rules | `(tactic| walk_at "bothR0") => `(tactic| ((refine ⟨_, _, _, _, _, rfl, kn, .inl ⟨rfl, by omega⟩, fun H2 kn2 => ?_⟩); clear kn; have kn := kn2; clear kn2; walk_at "s"))
set_option hygiene false in
local macro_rules | `(tactic| walk_at "within") => `(tactic| ((refine' ⟨_, _, _, _, _, _, _, _, _, _, rfl, kn, ?m1, ?m2, fun bb hb H2 kn2 => ?_⟩); (case m1 => walk_at "mem"); (case m2 => walk_at "mem"); clear kn; have kn := kn2; clear kn2))
set_option hygiene false in
local macro_rules | `(tactic| walk_at "istrue") => `(tactic| refine ⟨_, _, rfl, by rw [hb]; simp, ?_⟩)
set_option hygiene false in
local macro_rules | `(tactic| walk_at "unlike") => `(tactic| ((refine' ⟨_, _, _, _, _, _, _, _, _, _, rfl, kn, ?m1, ?m2, ?o1, ?o2, fun e1 e2 H2 kn2 => ?_, fun who m t2 H2 ok kn2 => ?_⟩); (case m1 => walk_at "mem"); (case m2 => walk_at "mem"); (case o1 => omega); (case o2 => omega); all_goals (clear kn; have kn := kn2; clear kn2)))
set_option hygiene false in
local macro_rules | `(tactic| walk_at "unlikeR0") => `(tactic| (walk_at "s"; (refine' ⟨_, _, _, _, _, _, _, _, _, rfl, kn, ?m1, ?m2, ?o1, ?o2, .inl ⟨rfl, ?e1, ?e2⟩, fun H2 kn2 => ?_⟩); (case m1 => walk_at "mem"); (case m2 => walk_at "mem"); (case o1 => omega); (case o2 => omega); (case e1 => omega); (case e2 => omega); clear kn; have kn := kn2; clear kn2; walk_at "s"; exact ⟨_, _, _, _, _, _, _, _, _, rfl, kn.sub (by walk_at "keep")⟩))
set_option hygiene false in
local macro_rules | `(tactic| walk_at "unlikeR1") => `(tactic| (walk_at "s"; (refine' ⟨_, _, _, _, _, _, _, _, _, rfl, kn, ?m1, ?m2, ?o1, ?o2, .inr ⟨_, _, _, rfl, ?m3, ok⟩, fun H2 kn2 => ?_⟩); (case m1 => walk_at "mem"); (case m2 => walk_at "mem"); (case m3 => walk_at "mem"); (case o1 => omega); (case o2 => omega); clear kn; have kn := kn2; clear kn2; walk_at "s"; exact ⟨_, _, _, _, _, _, _, _, _, rfl, kn.sub (by walk_at "keep")⟩))
/-! ### promises -/
def spTake : Sp := fun vs H Q _ => ∃ (M : List Cell) (fs : List Fact) (p : Addr) (n : Int), vs = [.ref p, .int n] ∧ Kn ((p, Pur) :: M) fs H ∧ 0 < n ∧ n < 1073741824 ∧
  ∀ (r : Int) (H' : Hp), 0 ≤ r → r < n → Kn ((p, Pur) :: M) fs H' → Q (.int r) H'
def spMeasure : Sp := fun vs H Q _ => ∃ (M : List Cell) (fs : List Fact) (p : Addr), vs = [.ref p] ∧ Kn ((p, Pur) :: M) fs H ∧
  ∀ (r : Int) (H' : Hp), -990000 ≤ r → r ≤ 990000 → Kn ((p, Pur) :: M) fs H' → Q (.int r) H'
def spAllowed : Sp := fun vs H Q _ => ∃ (M : List Cell) (fs : List Fact) (p : Addr) (n : Int), vs = [.ref p, .int n] ∧ Kn ((p, Pur) :: M) fs H ∧ 0 ≤ n ∧ n ≤ 100000 ∧
  ∀ (t : Addr) (u l : Int) (H' : Hp), 0 ≤ u + l → u + l ≤ n + 4 → -40 ≤ u ∧ u ≤ n + 50 → Kn ((p, Pur) :: M) (fO t (.tup [.int u, .int l]) :: fs) H' → Q (.ref t) H'
def spParts : Sp := fun vs H Q _ => ∃ (M : List Cell) (fs : List Fact) (p : Addr) (n : Int), vs = [.ref p, .int n] ∧ Kn ((p, Pur) :: M) fs H ∧ 0 ≤ n ∧ n ≤ 100000 ∧
  ∀ (t : Addr) (s u l : Int) (H' : Hp), -990000 ≤ s ∧ s ≤ 990000 → 0 ≤ u + l → u + l ≤ n + 4 → -40 ≤ u ∧ u ≤ n + 50 → Kn ((p, Pur) :: M) (fO t (.tup [.int s, .int u, .int l]) :: fs) H' → Q (.ref t) H'
def spEnds : Sp := fun vs H Q _ => ∃ (M : List Cell) (fs : List Fact) (p : Addr) (s u l : Int), vs = [.ref p] ∧ Kn M fs H ∧ fO p (.tup [.int s, .int u, .int l]) ∈ fs ∧
  ∀ (t : Addr) (H' : Hp), Kn M (fO t (.tup [.int (s - l), .int (s + u)]) :: fs) H' → Q (.ref t) H'
def spPurse : Sp := fun vs H Q _ => ∃ (M : List Cell) (fs : List Fact) (n : Int), vs = [.int n] ∧ Kn M fs H ∧
  ∀ (p : Addr) (H' : Hp), Kn ((p, Pur) :: M) fs H' → Q (.ref p) H'
def spCell (K : PySem.W.Frag) : Sp := fun vs H Q _ => ∃ (M : List Cell) (fs : List Fact) (p : Addr) (ns : List Int) (j : Int), vs = [.ref p, .int j] ∧ Kn M fs H ∧ fL K p (ns.map V.int) ∈ fs ∧ ns.length ≤ 63 ∧ 0 ≤ j ∧ j < 100 ∧
  ∀ (z : Int) (H' : Hp), Kn M fs H' → Q (.int z) H'
def spIsM : Sp := fun vs H Q _ => ∃ (i : Int), vs = [.int i] ∧ Q (.bl true) H
def spChM : Sp := fun vs H Q _ => ∃ (i : Int), vs = [.int i] ∧ Q .non H
def spChA : Sp := fun vs H Q _ => ∃ (i j : Int), vs = [.int i, .int j] ∧ 0 ≤ i + j ∧ Q .non H
def spChS (C : Addr) : Sp := fun vs H Q _ => ∃ (M : List Cell) (fs : List Fact) (x : Addr) (s u l : Int), vs = [.ref x] ∧ Kn M fs H ∧ fS C x s u l ∈ fs ∧ Q .non H
def spSpanOf (C : Addr) : Sp := fun vs H Q _ => ∃ (M : List Cell) (fs : List Fact) (lo hi : Int), vs = [.int lo, .int hi] ∧ Kn M fs H ∧ lo ≤ hi ∧ ∀ x H', Kn M (fS C x lo (hi - lo) 0 :: fs) H' → Q (.ref x) H'
def spBoth (C : Addr) : Sp := fun vs H Q _ => ∃ (M : List Cell) (fs : List Fact) (p q : Addr) (s u l s' u' l' lo hi : Int), vs = [.ref p, .ref q] ∧ Kn M fs H ∧ fS C p s u l ∈ fs ∧ fS C q s' u' l' ∈ fs ∧
  lo = max (s - l) (s' - l') ∧ hi = min (s + u) (s' + u') ∧ (lo ≤ hi → ∀ x H', Kn M (fS C x lo (hi - lo) 0 :: fs) H' → Q (.ref x) H') ∧
  (hi < lo → ∀ H', Kn M fs H' → Q .non H')
def spWithin (C : Addr) : Sp := fun vs H Q _ => ∃ (M : List Cell) (fs : List Fact) (p q : Addr) (s u l s' u' l' : Int), vs = [.ref p, .ref q] ∧ Kn M fs H ∧ fS C p s u l ∈ fs ∧ fS C q s' u' l' ∈ fs ∧
  ∀ b : Bool, (b = true ↔ s' - l' ≤ s - l ∧ s + u ≤ s' + u') → ∀ H', Kn M fs H' → Q (.bl b) H'
/-- which of two lets by a measure alone -/
def UnlikeOk (a b a' b' : Int) (who : Str) (m : Int) : Prop := (who = "one" ∧ (a < a' ∨ b' < b) ∧ (a ≤ m ∧ m ≤ b) ∧ ¬ (a' ≤ m ∧ m ≤ b')) ∨ (who = "other" ∧ ¬ (a < a' ∨ b' < b) ∧ (a' ≤ m ∧ m ≤ b') ∧ ¬ (a ≤ m ∧ m ≤ b))
def spUnlike (C : Addr) : Sp := fun vs H Q _ => ∃ (M : List Cell) (fs : List Fact) (p q : Addr) (s u l s' u' l' : Int), vs = [.ref p, .ref q] ∧ Kn M fs H ∧ fS C p s u l ∈ fs ∧ fS C q s' u' l' ∈ fs ∧ 0 ≤ u + l ∧ 0 ≤ u' + l' ∧
  (s - l = s' - l' → s + u = s' + u' → ∀ H', Kn M fs H' → Q .non H') ∧
  ∀ (who : Str) (m : Int) (t : Addr) (H' : Hp), UnlikeOk (s - l) (s + u) (s' - l') (s' + u') who m → Kn M (fO t (.tup [.str who, .int m]) :: fs) H' → Q (.ref t) H'
def spCells (K : PySem.W.Frag) : Sp := fun vs H Q _ => ∃ (M : List Cell) (fs : List Fact) (p : Addr) (ns : List Int) (i j : Int), vs = [.ref p, .int i, .int j] ∧ Kn M fs H ∧ fL K p (ns.map V.int) ∈ fs ∧ ns.length ≤ 63 ∧ 0 ≤ i ∧ i ≤ 12 ∧ 0 ≤ j ∧ j ≤ 40 ∧
  ∀ (D : Addr) (zs : List Int) (H' : Hp), zs.length ≤ 40 → Kn M (fO D (.lst (zs.map V.int)) :: fs) H' → Q (.ref D) H'
theorem fin_dec {H : Hp} {Q : VK} {c : Prop} [Decidable c] (h : c) (k : Q (.bl true) H) : Q (.bl (decide c)) H := by rw [decide_eq_true h]; exact k
theorem fin_ndec {H : Hp} {Q : VK} {c : Prop} [Decidable c] (h : ¬ c) (k : Q (.bl true) H) : Q (.bl (!decide c)) H := by rw [decide_eq_false h]; exact k
def spIsTrue : Sp := fun vs H Q _ => ∃ (b c : Bool), vs = [.bl b, .bl c] ∧ (b = true ↔ c = true) ∧ Q (.bl true) H
def spBothRight (C : Addr) : Sp := fun vs H Q _ => ∃ (M : List Cell) (fs : List Fact) (v : V) (lo hi : Int), vs = [v, .int lo, .int hi] ∧ Kn M fs H ∧ ((v = .non ∧ hi < lo) ∨ ∃ x, v = .ref x ∧ lo ≤ hi ∧ fS C x lo (hi - lo) 0 ∈ fs) ∧ ∀ H', Kn M fs H' → Q (.bl true) H'
def spUnlikeRight : Sp := fun vs H Q _ => ∃ (M : List Cell) (fs : List Fact) (v : V) (p q : Addr) (a b a' b' : Int), vs = [v, .ref p, .ref q] ∧ Kn M fs H ∧ fO p (.tup [.int a, .int b]) ∈ fs ∧ fO q (.tup [.int a', .int b']) ∈ fs ∧ a ≤ b ∧ a' ≤ b' ∧
  ((v = .non ∧ a = a' ∧ b = b') ∨ ∃ t who m, v = .ref t ∧ fO t (.tup [.str who, .int m]) ∈ fs ∧ UnlikeOk a b a' b' who m) ∧ ∀ H', Kn M fs H' → Q (.bl true) H'
def spNear : Sp := fun vs H Q _ => ∃ (M : List Cell) (fs : List Fact) (p q : Addr) (s u l : Int), vs = [.ref p, .ref q] ∧ Kn ((p, Pur) :: M) fs H ∧ fO q (.tup [.int s, .int u, .int l]) ∈ fs ∧ 0 ≤ u + l ∧
  ∀ (t : Addr) (s' u' l' : Int) (H' : Hp), 0 ≤ u' + l' → Kn ((p, Pur) :: M) (fO t (.tup [.int s', .int u', .int l']) :: fs) H' → Q (.ref t) H'
def spRight : Sp := fun vs H Q _ => ∃ (M : List Cell) (fs : List Fact) (p : Addr), vs = [.ref p] ∧ Kn ((p, Pur) :: M) fs H ∧ ∀ H', Kn ((p, Pur) :: M) fs H' → Q (.bl true) H'
def MdR (C : Addr) (M : List Cell) (fs : List Fact) (p : Addr) (s u l a b c : Int) (σ : L2.St) (H : Hp) : Prop := ∃ (t q x y f g : Addr) (v3 v4 v5 : Option V), σ = [some (.ref p), some (.ref t), some (.ref q), v3, v4, v5, some (.ref x), some (.ref y), some (.ref f), some (.ref g), some (.int (max (s - l) (a - c))), some (.int (min (s + u) (a + b)))] ∧
  Kn ((p, Pur) :: M) (fS C x s u l :: fS C y a b c :: fO t (.tup [.int s, .int u, .int l]) :: fO q (.tup [.int a, .int b, .int c]) :: fO f (.tup [.int (s - l), .int (s + u)]) :: fO g (.tup [.int (a - c), .int (a + b)]) :: fs) H
/-! ### bindings -/
section
variable {K : PySem.W.Frag}
theorem bd_Span___init___4 : Gx.BdD K d_Span___init__ ["self", "size", "above", "below"] [] := fun fd F => F.binds1 4 2 (List.cons_ne_nil _ _) (by rfl) fun _ _ _ _ _ _ _ us its h1 h2 => match us, its, h1, h2 with | [_, _, _, _], [_, _], _, _ => ⟨_, rfl, rfl⟩
theorem bk_Span___init___2_above : Gx.BdK K d_Span___init__ ["self", "size", "above", "below"] 2 ["above"] (fun us ws => (fun its => us ++ (ws.drop 0).take 1 ++ (its.drop 1).take 1) ((d_Span___init__).dvs K)) := fun fd F => by
  obtain ⟨its, h⟩ := F.kbindsD (ps := ["self", "size", "above", "below"]) 2 ["above"] (fun us its ws => us ++ (ws.drop 0).take 1 ++ (its.drop 1).take 1) (List.cons_ne_nil _ _) (fun r1 r2 r3 => ((r1.append ((r3.drop 0).take 1)).append ((r2.drop 1).take 1))) (fun _ _ _ _ _ _ _ us its ws h1 h2 h3 => match us, its, ws, h1, h2, h3 with | [_, _], [_, _], [_], _, _, _ => ⟨_, rfl, rfl⟩)
  exact ⟨_, h⟩
theorem bk_both_0_other_one : Gx.BdK K d_both ["one", "other"] 0 ["other", "one"] (fun us ws => us ++ (ws.drop 1).take 1 ++ (ws.drop 0).take 1) := fun fd F => ⟨_, Gx.kbN F 0 ["other", "one"] (fun us ws => us ++ (ws.drop 1).take 1 ++ (ws.drop 0).take 1) (fun r1 r3 => ((r1.append ((r3.drop 1).take 1)).append ((r3.drop 0).take 1))) fun _ _ _ _ _ _ us ws h1 h2 => match us, ws, h1, h2 with | [], [_, _], _, _ => rfl⟩
theorem bk_unlike_0_other_one : Gx.BdK K d_unlike ["one", "other"] 0 ["other", "one"] (fun us ws => us ++ (ws.drop 1).take 1 ++ (ws.drop 0).take 1) := fun fd F => ⟨_, Gx.kbN F 0 ["other", "one"] (fun us ws => us ++ (ws.drop 1).take 1 ++ (ws.drop 0).take 1) (fun r1 r3 => ((r1.append ((r3.drop 1).take 1)).append ((r3.drop 0).take 1))) fun _ _ _ _ _ _ us ws h1 h2 => match us, ws, h1, h2 with | [], [_, _], _, _ => rfl⟩
theorem bk_within_0_other_one : Gx.BdK K d_within ["one", "other"] 0 ["other", "one"] (fun us ws => us ++ (ws.drop 1).take 1 ++ (ws.drop 0).take 1) := fun fd F => ⟨_, Gx.kbN F 0 ["other", "one"] (fun us ws => us ++ (ws.drop 1).take 1 ++ (ws.drop 0).take 1) (fun r1 r3 => ((r1.append ((r3.drop 1).take 1)).append ((r3.drop 0).take 1))) fun _ _ _ _ _ _ us ws h1 h2 => match us, ws, h1, h2 with | [], [_, _], _, _ => rfl⟩
end
/-! ### the defs -/
section
variable {P : Program} {w : World} {K : PySem.W.Frag} {mg : Str → Option Value} {base : Heap}
theorem sc__law_take : FnScope ["_law_purse_here", "_law_many", "_law_old", "_law_taken"] ["_law_purse_here", "_law_many"] (defScope s__law_take) := ⟨rfl, rfl, rfl, by decide +kernel, rfl, by decide +kernel, by decide +kernel⟩
theorem st__law_take (v0 : V) (v1 : V) : L2.start ["_law_purse_here", "_law_many", "_law_old", "_law_taken"] [v0, v1] = [some v0, some v1, none, none] := rfl
theorem ok__law_take (T : Tx K mg) : DOk P w K mg base d__law_take CX0 1 ["_law_purse_here", "_law_many"] spTake := by
  obtain ⟨fd, F⟩ := T.df__law_take
  refine ⟨fd, F, F.ok sc__law_take (fun vs H Q E h => ?_) (fun cdv A outer s H vs Q E hr h => ⟨_, PSs.nox (pss_cons (ps_asg (pe_op op_add (pe_ix ix_list (pv 0) pe_int (fun _ _ => rfl)) pe_int) (pg_sub (pv 0) pe_int set_list))
      (pss_cons (ps_set (i := 2) sc__law_take.nd rfl (Or.inl rfl) (pe_ix ix_list (pv 0) pe_int (fun _ _ => rfl)))
      (pss_cons (ps_asg (pe_op op_mod (pe_op op_add (pe_op op_add (pe_op op_mul (pv 2) (pe_op op_add (pe_op op_mod (pv 2) pe_int) pe_int)) (pe_op op_mul pe_int (pe_ix ix_list (pv 0) pe_int (fun _ _ => rfl)))) pe_int) pe_int) (pg_sub (pv 0) pe_int set_list))
      (pss_cons (ps_if (pt_cmpR op_gt (pe_ix ix_list (pv 0) pe_int (fun _ _ => rfl)) pe_int (nomark _)) (pss_cons (ps_set (i := 3) sc__law_take.nd rfl (Or.inl rfl) (pe_op op_mod (pe_ix ix_list (pv 0) pe_int (fun _ _ => rfl)) (pv 1)))
      (pss_cons (ps_asg (pe_op op_fdiv (pe_ix ix_list (pv 0) pe_int (fun _ _ => rfl)) (pv 1)) (pg_sub (pv 0) pe_int set_list))
      (pss_one (ps_ret (pv 3))))) pss_nil)
      (pss_one (ps_ret (pe_op op_mod (pe_op op_fdiv (pe_ix ix_list (pv 0) pe_int (fun _ _ => rfl)) pe_int) (pv 1)))))))), ?_⟩)⟩
  · obtain ⟨_, _, p, n, rfl, _⟩ := h; rfl
  · obtain ⟨M, fs, p, n, rfl, kn, n0, n1, k⟩ := h
    rw [st__law_take]
    obtain ⟨a, b, c, ⟨a0, a1, b0⟩, kn⟩ := kn.pur
    walk_at "s"
    refine br (fun h => ?_) (fun h => ?_)
    · walk_at "s"
      refine k _ _ ?_ ?_ (kn.unpur ?_ ?_ ?_)
      · exact Int.emod_nonneg _ (by omega)
      · exact Int.emod_lt_of_pos _ n0
      · exact Int.emod_nonneg _ (by omega)
      · exact Int.emod_lt_of_pos _ (by omega)
      · exact Int.ediv_nonneg b0 (by omega)
    · walk_at "s"
      refine k _ _ ?_ ?_ (kn.unpur ?_ ?_ ?_)
      · exact Int.emod_nonneg _ (by omega)
      · exact Int.emod_lt_of_pos _ n0
      · exact Int.emod_nonneg _ (by omega)
      · exact Int.emod_lt_of_pos _ (by omega)
      · exact b0
theorem sc__law_measure : FnScope ["_law_purse_here", "_law_wide"] ["_law_purse_here"] (defScope s__law_measure) := ⟨rfl, rfl, rfl, by decide +kernel, rfl, by decide +kernel, by decide +kernel⟩
theorem st__law_measure (v0 : V) : L2.start ["_law_purse_here", "_law_wide"] [v0] = [some v0, none] := rfl
theorem ok__law_measure (T : Tx K mg) : DOk P w K mg base d__law_measure CX0 2 ["_law_purse_here"] spMeasure := by
  have o__law_take : DOk P w K mg base d__law_take CX0 1 ["_law_purse_here", "_law_many"] spTake := ok__law_take T
  obtain ⟨fd, F⟩ := T.df__law_measure
  refine ⟨fd, F, F.ok sc__law_measure (fun vs H Q E h => ?_) (fun cdv A outer s H vs Q E hr h => ⟨_, PSs.nox (pss_cons (ps_set (i := 1) sc__law_measure.nd rfl (Or.inl rfl) (pe_ix ix_list (pe_lst (pa_cons pe_int (pa_cons pe_int (pa_cons pe_int (pa_cons pe_int pa_nil))))) (pc o__law_take T.g__law_take b__law_take hr (by decide) (pa_cons (pv 0) (pa_cons pe_int pa_nil))) (fun _ _ => rfl)))
      (pss_one (ps_ret (pe_op op_sub (pc o__law_take T.g__law_take b__law_take hr (by decide) (pa_cons (pv 0) (pa_cons (pe_op op_add (pe_op op_mul pe_int (pv 1)) pe_int) pa_nil))) (pv 1))))), ?_⟩)⟩
  · obtain ⟨_, _, p, rfl, _⟩ := h; rfl
  · obtain ⟨M, fs, p, rfl, kn, k⟩ := h
    rw [st__law_measure]
    walk_at "s"
    walk_at "take"
    walk_at "s"
    walk_at "take"
    walk_at "s"
    exact k _ _ (by omega) (by omega) kn.tl
theorem sc__law_allowed : FnScope ["_law_purse_here", "_law_wide", "_law_spread", "_law_pick", "_law_more"] ["_law_purse_here", "_law_wide"] (defScope s__law_allowed) := ⟨rfl, rfl, rfl, by decide +kernel, rfl, by decide +kernel, by decide +kernel⟩
theorem st__law_allowed (v0 : V) (v1 : V) : L2.start ["_law_purse_here", "_law_wide", "_law_spread", "_law_pick", "_law_more"] [v0, v1] = [some v0, some v1, none, none, none] := rfl
theorem ok__law_allowed (T : Tx K mg) : DOk P w K mg base d__law_allowed CX0 2 ["_law_purse_here", "_law_wide"] spAllowed := by
  have o__law_take : DOk P w K mg base d__law_take CX0 1 ["_law_purse_here", "_law_many"] spTake := ok__law_take T
  obtain ⟨fd, F⟩ := T.df__law_allowed
  refine ⟨fd, F, F.ok sc__law_allowed (fun vs H Q E h => ?_) (fun cdv A outer s H vs Q E hr h => ⟨_, PSs.nox (pss_cons (ps_set (i := 2) sc__law_allowed.nd rfl (Or.inl rfl) (pc o__law_take T.g__law_take b__law_take hr (by decide) (pa_cons (pv 0) (pa_cons (pe_ix ix_list (pe_lst (pa_cons pe_int (pa_cons pe_int (pa_cons (pe_op op_add (pv 1) pe_int) pa_nil)))) (pc o__law_take T.g__law_take b__law_take hr (by decide) (pa_cons (pv 0) (pa_cons pe_int pa_nil))) (fun _ _ => rfl)) pa_nil))))
      (pss_cons (ps_set (i := 3) sc__law_allowed.nd rfl (Or.inl rfl) (pc o__law_take T.g__law_take b__law_take hr (by decide) (pa_cons (pv 0) (pa_cons pe_int pa_nil))))
      (pss_cons (ps_set (i := 4) sc__law_allowed.nd rfl (Or.inl rfl) (pe_ix ix_list (pe_lst (pa_cons (pv 2) (pa_cons pe_int (pa_cons (pc o__law_take T.g__law_take b__law_take hr (by decide) (pa_cons (pv 0) (pa_cons (pe_op op_add (pv 2) pe_int) pa_nil))) (pa_cons (pe_op op_sub pe_int (pc o__law_take T.g__law_take b__law_take hr (by decide) (pa_cons (pv 0) (pa_cons pe_int pa_nil)))) (pa_cons (pe_op op_add (pv 2) (pc o__law_take T.g__law_take b__law_take hr (by decide) (pa_cons (pv 0) (pa_cons pe_int pa_nil)))) pa_nil)))))) (pv 3) (fun _ _ => rfl)))
      (pss_one (ps_ret (pe_tup (pa_cons (pv 4) (pa_cons (pe_op op_sub (pv 2) (pv 4)) pa_nil)))))))), ?_⟩)⟩
  · obtain ⟨_, _, p, n, rfl, _⟩ := h; rfl
  · obtain ⟨M, fs, p, n, rfl, kn, n0, n1, k⟩ := h
    rw [st__law_allowed]
    walk_at "s"
    walk_at "take"
    walk_at "s"
    walk_at "take"
    walk_at "s"
    walk_at "take"
    walk_at "s"
    walk_at "take"
    walk_at "s"
    walk_at "take"
    walk_at "s"
    walk_at "take"
    walk_at "s"
    refine k _ _ _ _ ?_ ?_ ?_ (kn.hd ?_)
    · omega
    · omega
    · omega
    · walk_at "keep"
theorem sc__law_parts : FnScope ["_law_purse_here", "_law_wide"] ["_law_purse_here", "_law_wide"] (defScope s__law_parts) := ⟨rfl, rfl, rfl, by decide +kernel, rfl, by decide +kernel, by decide +kernel⟩
theorem st__law_parts (v0 : V) (v1 : V) : L2.start ["_law_purse_here", "_law_wide"] [v0, v1] = [some v0, some v1] := rfl
theorem ok__law_parts (T : Tx K mg) : DOk P w K mg base d__law_parts CX0 3 ["_law_purse_here", "_law_wide"] spParts := by
  have o__law_measure : DOk P w K mg base d__law_measure CX0 2 ["_law_purse_here"] spMeasure := ok__law_measure T
  have o__law_allowed : DOk P w K mg base d__law_allowed CX0 2 ["_law_purse_here", "_law_wide"] spAllowed := ok__law_allowed T
  obtain ⟨fd, F⟩ := T.df__law_parts
  refine ⟨fd, F, F.ok sc__law_parts (fun vs H Q E h => ?_) (fun cdv A outer s H vs Q E hr h => ⟨_, PSs.nox (pss_one (ps_ret (pe_op op_catT (pe_tup (pa_cons (pc o__law_measure T.g__law_measure b__law_measure hr (by decide) (pa_cons (pv 0) pa_nil)) pa_nil)) (pc o__law_allowed T.g__law_allowed b__law_allowed hr (by decide) (pa_cons (pv 0) (pa_cons (pv 1) pa_nil)))))), ?_⟩)⟩
  · obtain ⟨_, _, p, n, rfl, _⟩ := h; rfl
  · obtain ⟨M, fs, p, n, rfl, kn, n0, n1, k⟩ := h
    rw [st__law_parts]
    walk_at "s"
    walk_at "measure"
    walk_at "s"
    walk_at "allowed"
    walk_at "s"
    refine k _ _ _ _ _ ?_ ?_ ?_ ?_ (kn.hd ?_)
    · omega
    · omega
    · omega
    · omega
    · walk_at "keep"
theorem sc__law_ends : FnScope ["_law_parts_here"] ["_law_parts_here"] (defScope s__law_ends) := ⟨rfl, rfl, rfl, by decide +kernel, rfl, by decide +kernel, by decide +kernel⟩
theorem st__law_ends (v0 : V) : L2.start ["_law_parts_here"] [v0] = [some v0] := rfl
theorem ok__law_ends (T : Tx K mg) : DOk P w K mg base d__law_ends CX0 1 ["_law_parts_here"] spEnds := by
  obtain ⟨fd, F⟩ := T.df__law_ends
  refine ⟨fd, F, F.ok sc__law_ends (fun vs H Q E h => ?_) (fun cdv A outer s H vs Q E hr h => ⟨_, PSs.nox (pss_one (ps_ret (pe_tup (pa_cons (pe_op op_sub (pe_ix ix_tup (pv 0) pe_int (fun _ _ => rfl)) (pe_ix ix_tup (pv 0) pe_int (fun _ _ => rfl))) (pa_cons (pe_op op_add (pe_ix ix_tup (pv 0) pe_int (fun _ _ => rfl)) (pe_ix ix_tup (pv 0) pe_int (fun _ _ => rfl))) pa_nil))))), ?_⟩)⟩
  · obtain ⟨_, _, p, _, _, _, rfl, _⟩ := h; rfl
  · obtain ⟨M, fs, p, s, u, l, rfl, kn, m, k⟩ := h
    rw [st__law_ends]
    walk_at "s"
    exact k _ _ kn
theorem sc__law_purse : FnScope ["_law_cell_here", "_law_digits"] ["_law_cell_here"] (defScope s__law_purse) := ⟨rfl, rfl, rfl, by decide +kernel, rfl, by decide +kernel, by decide +kernel⟩
theorem st__law_purse (v0 : V) : L2.start ["_law_cell_here", "_law_digits"] [v0] = [some v0, none] := rfl
theorem ok__law_purse (T : Tx K mg) : DOk P w K mg base d__law_purse CX0 1 ["_law_cell_here"] spPurse := by
  obtain ⟨fd, F⟩ := T.df__law_purse
  refine ⟨fd, F, F.ok sc__law_purse (fun vs H Q E h => ?_) (fun cdv A outer s H vs Q E hr h => ⟨_, PSs.nox (pss_cons (ps_set (i := 1) sc__law_purse.nd rfl (Or.inl rfl) pe_int)
      (pss_cons (ps_if (PW.pt (pw_or (pt_cmpR op_lt (pv 0) pe_int (nomark _)) (pw_or1 (pt_cmpR op_ge (pv 0) (pe_op op_pow pe_int pe_int) (nomark _))))) (pss_one (ps_set (i := 1) sc__law_purse.nd rfl (Or.inl rfl) (pe_callB (call_abs) (by rfl) T.f_abs (by decide +kernel) (pa_cons (pv 0) pa_nil)))) pss_nil)
      (pss_one (ps_ret (pe_lst (pa_cons (pe_op op_mod (pv 0) pe_int) (pa_cons (pv 1) (pa_cons pe_int pa_nil)))))))), ?_⟩)⟩
  · obtain ⟨_, _, n, rfl, _⟩ := h; rfl
  · obtain ⟨M, fs, n, rfl, kn, k⟩ := h
    rw [st__law_purse]
    have fin : ∀ b : Int, 0 ≤ b → RLst [.int (n % 2147483399), .int b, .int 0] H Q := fun b hb => r_lstM kn (sl rfl) fun p kn => k p _ (kn.unpur (Int.emod_nonneg _ (by omega)) (Int.emod_lt_of_pos _ (by omega)) hb)
    walk_at "t"
    refine br (fun h => ?_) (fun h => ?_)
    · walk_at "t"
      exact fin _ (by split <;> omega)
    · walk_at "t"
      refine s_I (show CPow 10 18 by unfold CPow; decide) ?_
      walk_at "t"
      refine br (fun h2 => ?_) (fun h2 => ?_)
      · walk_at "t"
        exact fin _ (by split <;> omega)
      · walk_at "t"
        exact fin _ (by omega)
theorem sc__law_cell : FnScope ["_law_script", "_law_k"] ["_law_script", "_law_k"] (defScope s__law_cell) := ⟨rfl, rfl, rfl, by decide +kernel, rfl, by decide +kernel, by decide +kernel⟩
theorem st__law_cell (v0 : V) (v1 : V) : L2.start ["_law_script", "_law_k"] [v0, v1] = [some v0, some v1] := rfl
theorem ok__law_cell (T : Tx K mg) : DOk P w K mg base d__law_cell CX0 1 ["_law_script", "_law_k"] (spCell K) := by
  obtain ⟨fd, F⟩ := T.df__law_cell
  refine ⟨fd, F, F.ok sc__law_cell (fun vs H Q E h => ?_) (fun cdv A outer s H vs Q E hr h => ⟨_, PSs.nox (pss_cons (ps_if (pt_cmpR op_lt (pv 1) (pe_callB (call_len_seq) (by rfl) T.f_len (by decide +kernel) (pa_cons (pv 0) pa_nil)) (nomark _)) (pss_one (ps_ret (pe_ix ix_list (pv 0) (pv 1) (fun _ _ => rfl)))) pss_nil)
      (pss_one (ps_ret (pe_op op_add (pe_op op_add (pe_op op_mul (pe_callB (cr_sum rfl) (by rfl) T.f_sum (by decide +kernel) (pa_cons (pe_slice sl_list (pv 0) po_none (po_some pe_int)) pa_nil)) pe_int) (pe_op op_mul pe_int (pe_op op_add (pv 1) pe_int))) pe_int)))), ?_⟩)⟩
  · obtain ⟨_, _, p, ns, j, rfl, _⟩ := h; rfl
  · obtain ⟨M, fs, p, ns, j, rfl, kn, m, hl, j0, j1, k⟩ := h
    rw [st__law_cell]
    walk_at "s"
    refine br (fun h => ?_) (fun h => ?_)
    · walk_at "s"
      obtain ⟨z, e, hz⟩ := atI_ints (ns := ns) (r := j) j0 (by simpa using h)
      refine s_ixL' kn m e ?_
      exact k _ _ kn
    · walk_at "s"
      refine s_sum kn (ns := ns.take 3) (by rw [← cutV_take3]; walk_at "mem") ?_
      walk_at "s"
      exact k _ _ kn.tl
theorem sc_is_measure : FnScope ["thing"] ["thing"] (defScope s_is_measure) := ⟨rfl, rfl, rfl, by decide +kernel, rfl, by decide +kernel, by decide +kernel⟩
theorem st_is_measure (v0 : V) : L2.start ["thing"] [v0] = [some v0] := rfl
theorem ok_is_measure (T : Tx K mg) : DOk P w K mg base d_is_measure CX0 1 ["thing"] spIsM := by
  obtain ⟨fd, F⟩ := T.df_is_measure
  refine ⟨fd, F, F.ok sc_is_measure (fun vs H Q E h => ?_) (fun cdv A outer s H vs Q E hr h => ⟨_, PSs.nox (pss_one (ps_ret (pe_and (pe_callB (call_isi) (by rfl) T.f_isinstance (by decide +kernel) (pa_cons (pv 0) (pa_cons (pe_bltn (v := .ty "int") (u := .type "int") (by rfl) T.f_int (by decide +kernel) rfl) pa_nil))) (pe_one (pe_not (pe_callB (call_isi) (by rfl) T.f_isinstance (by decide +kernel) (pa_cons (pv 0) (pa_cons (pe_bltn (v := .ty "bool") (u := .type "bool") (by rfl) T.f_bool (by decide +kernel) rfl) pa_nil)))))))), ?_⟩)⟩
  · obtain ⟨i, rfl, _⟩ := h; rfl
  · obtain ⟨i, rfl, k⟩ := h
    rw [st_is_measure]
    walk_at "s"
    exact k
theorem sc_check_measure : FnScope ["thing"] ["thing"] (defScope s_check_measure) := ⟨rfl, rfl, rfl, by decide +kernel, rfl, by decide +kernel, by decide +kernel⟩
theorem st_check_measure (v0 : V) : L2.start ["thing"] [v0] = [some v0] := rfl
theorem ok_check_measure (T : Tx K mg) : DOk P w K mg base d_check_measure CX0 2 ["thing"] spChM := by
  have o_is_measure : DOk P w K mg base d_is_measure CX0 1 ["thing"] spIsM := ok_is_measure T
  obtain ⟨fd, F⟩ := T.df_check_measure
  refine ⟨fd, F, F.ok sc_check_measure (fun vs H Q E h => ?_) (fun cdv A outer s H vs Q E hr h => ⟨_, PSs.nox (pss_one (ps_if (pt_not (pt_val (pc o_is_measure T.g_is_measure b_is_measure hr (by decide) (pa_cons (pv 0) pa_nil)))) (pss_one ps_never) pss_nil)), ?_⟩)⟩
  · obtain ⟨i, rfl, _⟩ := h; rfl
  · obtain ⟨i, rfl, k⟩ := h
    rw [st_check_measure]
    walk_at "s"
    refine ⟨_, rfl, ?_⟩
    walk_at "s"
    exact k
theorem sc_check_allowance : FnScope ["above", "below"] ["above", "below"] (defScope s_check_allowance) := ⟨rfl, rfl, rfl, by decide +kernel, rfl, by decide +kernel, by decide +kernel⟩
theorem st_check_allowance (v0 : V) (v1 : V) : L2.start ["above", "below"] [v0, v1] = [some v0, some v1] := rfl
theorem ok_check_allowance (T : Tx K mg) : DOk P w K mg base d_check_allowance CX0 2 ["above", "below"] spChA := by
  have o_is_measure : DOk P w K mg base d_is_measure CX0 1 ["thing"] spIsM := ok_is_measure T
  obtain ⟨fd, F⟩ := T.df_check_allowance
  refine ⟨fd, F, F.ok sc_check_allowance (fun vs H Q E h => ?_) (fun cdv A outer s H vs Q E hr h => ⟨_, PSs.nox (pss_one (ps_if (PW.pt (pw_or (pt_not (pt_val (pc o_is_measure T.g_is_measure b_is_measure hr (by decide) (pa_cons (pv 0) pa_nil)))) (pw_or (pt_not (pt_val (pc o_is_measure T.g_is_measure b_is_measure hr (by decide) (pa_cons (pv 1) pa_nil)))) (pw_or1 (pt_cmpR op_lt (pe_op op_add (pv 0) (pv 1)) pe_int (nomark _)))))) (pss_one ps_never) pss_nil)), ?_⟩)⟩
  · obtain ⟨i, j, rfl, _⟩ := h; rfl
  · obtain ⟨i, j, rfl, h0, k⟩ := h
    rw [st_check_allowance]
    walk_at "s"
    refine ⟨_, rfl, ?_⟩
    walk_at "s"
    refine ⟨_, rfl, ?_⟩
    walk_at "s"
    refine br (fun h => (by omega)) (fun h => ?_)
    walk_at "s"
    exact k
theorem sc_Span___init__ : FnScope ["self", "size", "above", "below"] ["self", "size", "above", "below"] (defScope s_Span___init__) := ⟨rfl, rfl, rfl, by decide +kernel, rfl, by decide +kernel, by decide +kernel⟩
theorem st_Span___init__ (v0 : V) (v1 : V) (v2 : V) (v3 : V) : L2.start ["self", "size", "above", "below"] [v0, v1, v2, v3] = [some v0, some v1, some v2, some v3] := rfl
theorem ok_Span___init__ (T : Tx K mg) : DOk P w K mg base d_Span___init__ CX0 3 ["self", "size", "above", "below"] (spSpanInit (He.ga K "Span")) := by
  have o_check_measure : DOk P w K mg base d_check_measure CX0 2 ["thing"] spChM := ok_check_measure T
  have o_check_allowance : DOk P w K mg base d_check_allowance CX0 2 ["above", "below"] spChA := ok_check_allowance T
  obtain ⟨fd, F⟩ := T.df_Span___init__
  refine ⟨fd, F, F.ok sc_Span___init__ (fun vs H Q E h => ?_) (fun cdv A outer s H vs Q E hr h => ⟨_, PSs.nox (pss_cons (ps_expr (pc o_check_measure T.g_check_measure b_check_measure hr (by decide) (pa_cons (pv 1) pa_nil)))
      (pss_cons (ps_expr (pc o_check_allowance T.g_check_allowance b_check_allowance hr (by decide) (pa_cons (pv 2) (pa_cons (pv 3) pa_nil))))
      (pss_cons (ps_fld (pv 0) (pv 1) rfl)
      (pss_cons (ps_fld (pv 0) (pv 2) rfl)
      (pss_cons (ps_fld (pv 0) (pv 3) rfl)
      (pss_cons (ps_fld (pv 0) (pe_op op_sub (pv 1) (pv 3)) rfl)
      (pss_one (ps_fld (pv 0) (pe_op op_add (pv 1) (pv 2)) rfl)))))))), ?_⟩)⟩
  · obtain ⟨_, _, x, dx, _, _, _, rfl, _⟩ := h; rfl
  · obtain ⟨M, fs, x, dx, s, u, l, rfl, kn, h0, k⟩ := h
    rw [st_Span___init__]
    walk_at "s"
    refine ⟨_, rfl, ?_⟩
    walk_at "s"
    refine ⟨_, _, rfl, h0, ?_⟩
    walk_at "s"
    exact k _ (kn.frzS rfl)
theorem sc_check_span : FnScope ["thing"] ["thing"] (defScope s_check_span) := ⟨rfl, rfl, rfl, by decide +kernel, rfl, by decide +kernel, by decide +kernel⟩
theorem st_check_span (v0 : V) : L2.start ["thing"] [v0] = [some v0] := rfl
theorem ok_check_span (T : Tx K mg) : DOk P w K mg base d_check_span CX0 1 ["thing"] (spChS (He.ga K "Span")) := by
  obtain ⟨fd, F⟩ := T.df_check_span
  refine ⟨fd, F, F.ok sc_check_span (fun vs H Q E h => ?_) (fun cdv A outer s H vs Q E hr h => ⟨_, PSs.nox (pss_one (ps_if (pt_not (pt_val (pe_callB (call_isi) (by rfl) T.f_isinstance (by decide +kernel) (pa_cons (pv 0) (pa_cons (pe_glob (v := .ref (He.ga K "Span")) rfl T.g_Span rfl) pa_nil))))) (pss_one ps_never) pss_nil)), ?_⟩)⟩
  · obtain ⟨_, _, x, _, _, _, rfl, _⟩ := h; rfl
  · obtain ⟨M, fs, x, s, u, l, rfl, kn, m, k⟩ := h
    rw [st_check_span]
    walk_at "s"
    exact k
theorem sc_span_of : FnScope ["low", "high"] ["low", "high"] (defScope s_span_of) := ⟨rfl, rfl, rfl, by decide +kernel, rfl, by decide +kernel, by decide +kernel⟩
theorem st_span_of (v0 : V) (v1 : V) : L2.start ["low", "high"] [v0, v1] = [some v0, some v1] := rfl
theorem ok_span_of (T : Tx K mg) : DOk P w K mg base d_span_of CX0 5 ["low", "high"] (spSpanOf (He.ga K "Span")) := by
  have o_Span___init__ : DOk P w K mg base d_Span___init__ CX0 3 ["self", "size", "above", "below"] (spSpanInit (He.ga K "Span")) := ok_Span___init__ T
  obtain ⟨fd, F⟩ := T.df_span_of
  refine ⟨fd, F, F.ok sc_span_of (fun vs H Q E h => ?_) (fun cdv A outer s H vs Q E hr h => ⟨_, PSs.nox (pss_one (ps_ret (pmkK o_Span___init__ T.mkr_Span T.g_Span bk_Span___init___2_above hr (by decide) (pa_cons (pv 0) pa_nil) (pk_cons (pe_op op_sub (pv 1) (pv 0)) pk_nil)))), ?_⟩)⟩
  · obtain ⟨_, _, lo, hi, rfl, _⟩ := h; rfl
  · obtain ⟨M, fs, lo, hi, rfl, kn, h0, k⟩ := h
    rw [st_span_of]
    walk_at "s"
    exact k _ _ kn
theorem sc_both : FnScope ["one", "other", "low", "high"] ["one", "other"] (defScope s_both) := ⟨rfl, rfl, rfl, by decide +kernel, rfl, by decide +kernel, by decide +kernel⟩
theorem st_both (v0 : V) (v1 : V) : L2.start ["one", "other", "low", "high"] [v0, v1] = [some v0, some v1, none, none] := rfl
theorem ok_both (T : Tx K mg) : DOk P w K mg base d_both CX0 6 ["one", "other"] (spBoth (He.ga K "Span")) := by
  have o_check_span : DOk P w K mg base d_check_span CX0 1 ["thing"] (spChS (He.ga K "Span")) := ok_check_span T
  have o_span_of : DOk P w K mg base d_span_of CX0 5 ["low", "high"] (spSpanOf (He.ga K "Span")) := ok_span_of T
  obtain ⟨fd, F⟩ := T.df_both
  refine ⟨fd, F, F.ok sc_both (fun vs H Q E h => ?_) (fun cdv A outer s H vs Q E hr h => ⟨_, PSs.nox (pss_cons (ps_expr (pc o_check_span T.g_check_span b_check_span hr (by decide) (pa_cons (pv 0) pa_nil)))
      (pss_cons (ps_expr (pc o_check_span T.g_check_span b_check_span hr (by decide) (pa_cons (pv 1) pa_nil)))
      (pss_cons (ps_par (i := 2) (j := 3) (by rfl) sc_both.nd rfl rfl (by decide) rfl rfl (pa_cons (pe_callB (c_max rfl) (by rfl) T.f_max (by decide +kernel) (pa_cons (pe_fld (pv 0) rfl) (pa_cons (pe_fld (pv 1) rfl) pa_nil))) (pa_cons (pe_callB (c_min rfl) (by rfl) T.f_min (by decide +kernel) (pa_cons (pe_fld (pv 0) rfl) (pa_cons (pe_fld (pv 1) rfl) pa_nil))) pa_nil)) (by rfl))
      (pss_one (ps_ret (pe_ifExp (pt_cmpR op_le (pv 2) (pv 3) (nomark _)) (pc o_span_of T.g_span_of b_span_of hr (by decide) (pa_cons (pv 2) (pa_cons (pv 3) pa_nil))) pe_non)))))), ?_⟩)⟩
  · obtain ⟨_, _, p, q, _, _, _, _, _, _, _, _, rfl, _⟩ := h; rfl
  · obtain ⟨M, fs, p, q, s, u, l, s', u', l', lo, hi, rfl, kn, m1, m2, elo, ehi, k1, k2⟩ := h
    rw [st_both]
    subst elo ehi
    walk_at "s"
    walk_at "chs"
    walk_at "s"
    walk_at "chs"
    walk_at "s"
    refine br (fun h => ?_) (fun h => ?_)
    · walk_at "s"
      refine ⟨_, _, _, _, rfl, kn, h, fun x H2 kn2 => k1 h x H2 kn2⟩
    · walk_at "s"
      exact k2 (by omega) _ kn
theorem sc_within : FnScope ["one", "other"] ["one", "other"] (defScope s_within) := ⟨rfl, rfl, rfl, by decide +kernel, rfl, by decide +kernel, by decide +kernel⟩
theorem st_within (v0 : V) (v1 : V) : L2.start ["one", "other"] [v0, v1] = [some v0, some v1] := rfl
theorem ok_within (T : Tx K mg) : DOk P w K mg base d_within CX0 2 ["one", "other"] (spWithin (He.ga K "Span")) := by
  have o_check_span : DOk P w K mg base d_check_span CX0 1 ["thing"] (spChS (He.ga K "Span")) := ok_check_span T
  obtain ⟨fd, F⟩ := T.df_within
  refine ⟨fd, F, F.ok sc_within (fun vs H Q E h => ?_) (fun cdv A outer s H vs Q E hr h => ⟨_, PSs.nox (pss_cons (ps_expr (pc o_check_span T.g_check_span b_check_span hr (by decide) (pa_cons (pv 0) pa_nil)))
      (pss_cons (ps_expr (pc o_check_span T.g_check_span b_check_span hr (by decide) (pa_cons (pv 1) pa_nil)))
      (pss_one (ps_ret (pe_and (pe_cmpR op_le (pe_fld (pv 1) rfl) (pe_fld (pv 0) rfl) (nomark _)) (pe_one (pe_cmpR op_le (pe_fld (pv 0) rfl) (pe_fld (pv 1) rfl) (nomark _)))))))), ?_⟩)⟩
  · obtain ⟨_, _, p, q, _, _, _, _, _, _, rfl, _⟩ := h; rfl
  · obtain ⟨M, fs, p, q, s, u, l, s', u', l', rfl, kn, m1, m2, k⟩ := h
    rw [st_within]
    walk_at "s"
    walk_at "chs"
    walk_at "s"
    walk_at "chs"
    walk_at "s"
    walk_at "mand"
    exact k _ (by simp) _ kn
theorem sc_unlike : FnScope ["one", "other", "who", "this", "that"] ["one", "other"] (defScope s_unlike) := ⟨rfl, rfl, rfl, by decide +kernel, rfl, by decide +kernel, by decide +kernel⟩
theorem st_unlike (v0 : V) (v1 : V) : L2.start ["one", "other", "who", "this", "that"] [v0, v1] = [some v0, some v1, none, none, none] := rfl
theorem ok_unlike (T : Tx K mg) : DOk P w K mg base d_unlike CX0 2 ["one", "other"] (spUnlike (He.ga K "Span")) := by
  have o_check_span : DOk P w K mg base d_check_span CX0 1 ["thing"] (spChS (He.ga K "Span")) := ok_check_span T
  obtain ⟨fd, F⟩ := T.df_unlike
  refine ⟨fd, F, F.ok sc_unlike (fun vs H Q E h => ?_) (fun cdv A outer s H vs Q E hr h => ⟨_, PSs.nox (pss_cons (ps_expr (pc o_check_span T.g_check_span b_check_span hr (by decide) (pa_cons (pv 0) pa_nil)))
      (pss_cons (ps_expr (pc o_check_span T.g_check_span b_check_span hr (by decide) (pa_cons (pv 1) pa_nil)))
      (pss_cons (ps_for PassesOwn.never rfl (pi_tup (pe_tup (pa_cons (pe_tup (pa_cons pe_str (pa_cons (pv 0) (pa_cons (pv 1) pa_nil)))) (pa_cons (pe_tup (pa_cons pe_str (pa_cons (pv 1) (pa_cons (pv 0) pa_nil)))) pa_nil)))) (pg_tup rfl (pgs_cons (pg_name (i := 2) sc_unlike.nd rfl (Or.inl rfl)) (pgs_cons (pg_name (i := 3) sc_unlike.nd rfl (Or.inl rfl)) (pgs_cons (pg_name (i := 4) sc_unlike.nd rfl (Or.inl rfl)) pgs_nil))))
      (pss_cons (ps_if (pt_cmpR op_lt (pe_fld (pv 3) rfl) (pe_fld (pv 4) rfl) (nomark _)) (pss_one (ps_ret (pe_tup (pa_cons (pv 2) (pa_cons (pe_fld (pv 3) rfl) pa_nil))))) pss_nil)
      (pss_one (ps_if (pt_cmpR op_gt (pe_fld (pv 3) rfl) (pe_fld (pv 4) rfl) (nomark _)) (pss_one (ps_ret (pe_tup (pa_cons (pv 2) (pa_cons (pe_fld (pv 3) rfl) pa_nil))))) pss_nil))))
      (pss_one (ps_ret pe_non))))), ?_⟩)⟩
  · obtain ⟨_, _, p, q, _, _, _, _, _, _, rfl, _⟩ := h; rfl
  · obtain ⟨M, fs, p, q, s, u, l, s', u', l', rfl, kn, m1, m2, h1, h2, k1, k2⟩ := h
    rw [st_unlike]
    walk_at "s"
    walk_at "chs"
    walk_at "s"
    walk_at "chs"
    walk_at "s"
    refine br (fun c1 => ?_) (fun c1 => ?_)
    · walk_at "s"
      exact k2 _ _ _ _ (.inl ⟨rfl, by omega, by omega, by omega⟩) (kn.hd (by walk_at "keep"))
    walk_at "s"
    refine br (fun c2 => ?_) (fun c2 => ?_)
    · walk_at "s"
      exact k2 _ _ _ _ (.inl ⟨rfl, by omega, by omega, by omega⟩) (kn.hd (by walk_at "keep"))
    walk_at "s"
    walk_at "next"
    refine br (fun c3 => ?_) (fun c3 => ?_)
    · walk_at "s"
      exact k2 _ _ _ _ (.inr ⟨rfl, by omega, by omega, by omega⟩) (kn.hd (by walk_at "keep"))
    walk_at "s"
    refine br (fun c4 => ?_) (fun c4 => ?_)
    · walk_at "s"
      exact k2 _ _ _ _ (.inr ⟨rfl, by omega, by omega, by omega⟩) (kn.hd (by walk_at "keep"))
    walk_at "s"
    walk_at "next"
    exact k1 (by omega) (by omega) _ (kn.sub (by walk_at "keep"))
theorem sc__law_cells : FnScope ["_law_script", "_law_few", "_law_upto", "_law_k"] ["_law_script", "_law_few", "_law_upto"] (defScope s__law_cells) := ⟨rfl, rfl, rfl, by decide +kernel, rfl, by decide +kernel, by decide +kernel⟩
theorem st__law_cells (v0 : V) (v1 : V) (v2 : V) : L2.start ["_law_script", "_law_few", "_law_upto", "_law_k"] [v0, v1, v2] = [some v0, some v1, some v2, none] := rfl
theorem ok__law_cells (T : Tx K mg) : DOk P w K mg base d__law_cells CX0 2 ["_law_script", "_law_few", "_law_upto"] (spCells K) := by
  have o__law_cell : DOk P w K mg base d__law_cell CX0 1 ["_law_script", "_law_k"] (spCell K) := ok__law_cell T
  obtain ⟨fd, F⟩ := T.df__law_cells
  refine ⟨fd, F, F.ok sc__law_cells (fun vs H Q E h => ?_) (fun cdv A outer s H vs Q E hr h => ⟨_, PSs.nox (pss_one (ps_ret (pe_lc (own := [("_law_k", 3)]) (g := gName 3) (tt := tYes) rfl sc__law_cells.nd (pi_range1 (by rfl) T.f_range (pa_cons (pe_callB (c_max rfl) (by rfl) T.f_max (by decide +kernel) (pa_cons (pv 1) (pa_cons (pe_callB (c_min rfl) (by rfl) T.f_min (by decide +kernel) (pa_cons (pv 2) (pa_cons (pe_callB (call_len_seq) (by rfl) T.f_len (by decide +kernel) (pa_cons (pv 0) pa_nil)) pa_nil))) pa_nil))) pa_nil)) (blkOk_by (N := ["_law_script", "_law_few", "_law_upto", "_law_k"]) (sc := defScope s__law_cells) (own := [("_law_k", 3)]) (by decide +kernel)) (fun _ _ _ _ _ => (pg_name (i := 3) sc__law_cells.nd rfl (Or.inl rfl))) (fun _ _ _ _ _ => pts_nil) (fun _ _ _ _ _ => (pc o__law_cell T.g__law_cell b__law_cell hr (by decide) (pa_cons (pv 0) (pa_cons (pv 3) pa_nil))))))), ?_⟩)⟩
  · obtain ⟨_, _, p, ns, i, j, rfl, _⟩ := h; rfl
  · obtain ⟨M, fs, p, ns, i, j, rfl, kn, m, hl, i0, i1, j0, j1, k⟩ := h
    rw [st__law_cells]
    walk_at "s"
    refine ⟨by omega, by omega, ?_⟩
    refine r_lcR kn (fun i acc => ∃ zs : List Int, acc = zs.map V.int ∧ zs.length = i) ⟨[], rfl, rfl⟩ ?_ ?_
    · rintro i D acc H' hi ⟨zs, rfl, hz⟩ kn
      walk_at "s"
      refine s_wipe rfl ?_
      walk_at "s"
      refine ⟨_, _, _, ns, _, rfl, kn, m, hl, by omega, by omega, fun z H2 kn2 => ?_⟩
      refine r_lcE kn2 (fun _ h => h) ?_ ⟨zs ++ [z], by simp, by simp [hz]⟩
      rw [List.length_map]
      exact Nat.lt_of_le_of_lt (show zs.length ≤ 100 by omega) (by decide)
    · rintro D acc H' ⟨zs, rfl, hz⟩ kn
      exact k _ _ _ (by omega) kn.frzL
theorem sc__law_is_true : FnScope ["_law_thing", "_law_due"] ["_law_thing", "_law_due"] (defScope s__law_is_true) := ⟨rfl, rfl, rfl, by decide +kernel, rfl, by decide +kernel, by decide +kernel⟩
theorem st__law_is_true (v0 : V) (v1 : V) : L2.start ["_law_thing", "_law_due"] [v0, v1] = [some v0, some v1] := rfl
theorem ok__law_is_true (T : Tx K mg) : DOk P w K mg base d__law_is_true CX0 1 ["_law_thing", "_law_due"] spIsTrue := by
  obtain ⟨fd, F⟩ := T.df__law_is_true
  refine ⟨fd, F, F.ok sc__law_is_true (fun vs H Q E h => ?_) (fun cdv A outer s H vs Q E hr h => ⟨_, PSs.nox (pss_one (ps_ret (pe_and (pe_callB (call_isi) (by rfl) T.f_isinstance (by decide +kernel) (pa_cons (pv 0) (pa_cons (pe_bltn (v := .ty "bool") (u := .type "bool") (by rfl) T.f_bool (by decide +kernel) rfl) pa_nil))) (pe_one (pe_cmpR op_eq (pv 0) (pv 1) (nomark _)))))), ?_⟩)⟩
  · obtain ⟨_, _, rfl, _⟩ := h; rfl
  · obtain ⟨b, c, rfl, e, k⟩ := h
    rw [st__law_is_true]
    walk_at "s"
    exact fin_dec (by cases b <;> cases c <;> simp_all) k
theorem sc__law_both_right : FnScope ["_law_told", "_law_low", "_law_high"] ["_law_told", "_law_low", "_law_high"] (defScope s__law_both_right) := ⟨rfl, rfl, rfl, by decide +kernel, rfl, by decide +kernel, by decide +kernel⟩
theorem st__law_both_right (v0 : V) (v1 : V) (v2 : V) : L2.start ["_law_told", "_law_low", "_law_high"] [v0, v1, v2] = [some v0, some v1, some v2] := rfl
theorem ok__law_both_right (T : Tx K mg) : DOk P w K mg base d__law_both_right CX0 1 ["_law_told", "_law_low", "_law_high"] (spBothRight (He.ga K "Span")) := by
  obtain ⟨fd, F⟩ := T.df__law_both_right
  refine ⟨fd, F, F.ok sc__law_both_right (fun vs H Q E h => ?_) (fun cdv A outer s H vs Q E hr h => ⟨_, PSs.nox (pss_cons (ps_if (pt_cmpR op_gt (pv 1) (pv 2) (nomark _)) (pss_one (ps_ret (pe_cmpR op_isN (pv 0) pe_non (nomark _)))) pss_nil)
      (pss_cons (ps_if (pt_not (pt_val (pe_callB (call_isi) (by rfl) T.f_isinstance (by decide +kernel) (pa_cons (pv 0) (pa_cons (pe_glob (v := .ref (He.ga K "Span")) rfl T.g_Span rfl) pa_nil))))) (pss_one (ps_ret pe_bl)) pss_nil)
      (pss_one (ps_ret (pe_cmpR (op_eqD hr.units) (pe_tup (pa_cons (pe_fld (pv 0) rfl) (pa_cons (pe_fld (pv 0) rfl) (pa_cons (pe_fld (pv 0) rfl) (pa_cons (pe_fld (pv 0) rfl) (pa_cons (pe_fld (pv 0) rfl) pa_nil)))))) (pe_tup (pa_cons (pv 1) (pa_cons (pe_op op_sub (pv 2) (pv 1)) (pa_cons pe_int (pa_cons (pv 1) (pa_cons (pv 2) pa_nil)))))) (nomark _)))))), ?_⟩)⟩
  · obtain ⟨_, _, v, lo, hi, rfl, _⟩ := h; rfl
  · obtain ⟨M, fs, v, lo, hi, rfl, kn, hv, k⟩ := h
    rw [st__law_both_right]
    walk_at "s"
    refine br (fun h => ?_) (fun h => ?_)
    · rcases hv with ⟨rfl, _⟩ | ⟨x, rfl, h2, _⟩
      · walk_at "s"
        exact fin_dec rfl (k _ kn)
      · omega
    · rcases hv with ⟨rfl, _⟩ | ⟨x, rfl, h2, m⟩
      · omega
      · walk_at "s"
        exact fin_dec (by simp [unI]; omega) (k _ (kn.sub (by walk_at "keep")))
theorem sc__law_unlike_right : FnScope ["_law_told", "_law_first", "_law_second", "_law_alone", "_law_mine", "_law_yours"] ["_law_told", "_law_first", "_law_second"] (defScope s__law_unlike_right) := ⟨rfl, rfl, rfl, by decide +kernel, rfl, by decide +kernel, by decide +kernel⟩
theorem st__law_unlike_right (v0 : V) (v1 : V) (v2 : V) : L2.start ["_law_told", "_law_first", "_law_second", "_law_alone", "_law_mine", "_law_yours"] [v0, v1, v2] = [some v0, some v1, some v2, none, none, none] := rfl
theorem ok__law_unlike_right (T : Tx K mg) : DOk P w K mg base d__law_unlike_right CX0 1 ["_law_told", "_law_first", "_law_second"] spUnlikeRight := by
  obtain ⟨fd, F⟩ := T.df__law_unlike_right
  refine ⟨fd, F, F.ok sc__law_unlike_right (fun vs H Q E h => ?_) (fun cdv A outer s H vs Q E hr h => ⟨_, PSs.nox (pss_cons (ps_if (pt_cmpR (op_eqD hr.units) (pv 1) (pv 2) (nomark _)) (pss_one (ps_ret (pe_cmpR op_isN (pv 0) pe_non (nomark _)))) pss_nil)
      (pss_cons (ps_if (PW.pt (pw_or (pt_not (pt_val (pe_callB (call_isi) (by rfl) T.f_isinstance (by decide +kernel) (pa_cons (pv 0) (pa_cons (pe_bltn (v := .ty "tuple") (u := .type "tuple") (by rfl) T.f_tuple (by decide +kernel) rfl) pa_nil))))) (pw_or (pt_cmpR op_ne (pe_callB (call_len_seq) (by rfl) T.f_len (by decide +kernel) (pa_cons (pv 0) pa_nil)) pe_int (nomark _)) (pw_or1 (pt_not (pt_val (pe_callB (call_isi) (by rfl) T.f_isinstance (by decide +kernel) (pa_cons (pe_ix ix_tup (pv 0) pe_int (fun _ _ => rfl)) (pa_cons (pe_bltn (v := .ty "str") (u := .type "str") (by rfl) T.f_str (by decide +kernel) rfl) pa_nil))))))))) (pss_one (ps_ret pe_bl)) pss_nil)
      (pss_cons (ps_if (PW.pt (pw_or (pt_not (pt_val (pe_callB (call_isi) (by rfl) T.f_isinstance (by decide +kernel) (pa_cons (pe_ix ix_tup (pv 0) pe_int (fun _ _ => rfl)) (pa_cons (pe_bltn (v := .ty "int") (u := .type "int") (by rfl) T.f_int (by decide +kernel) rfl) pa_nil))))) (pw_or1 (pt_val (pe_callB (call_isi) (by rfl) T.f_isinstance (by decide +kernel) (pa_cons (pe_ix ix_tup (pv 0) pe_int (fun _ _ => rfl)) (pa_cons (pe_bltn (v := .ty "bool") (u := .type "bool") (by rfl) T.f_bool (by decide +kernel) rfl) pa_nil))))))) (pss_one (ps_ret pe_bl)) pss_nil)
      (pss_cons (ps_set (i := 3) sc__law_unlike_right.nd rfl (Or.inl rfl) (pe_or (pe_cmpR op_lt (pe_ix ix_tup (pv 1) pe_int (fun _ _ => rfl)) (pe_ix ix_tup (pv 2) pe_int (fun _ _ => rfl)) (nomark _)) (pe_one (pe_cmpR op_gt (pe_ix ix_tup (pv 1) pe_int (fun _ _ => rfl)) (pe_ix ix_tup (pv 2) pe_int (fun _ _ => rfl)) (nomark _)))))
      (pss_cons (ps_if (pt_cmpR op_ne (pe_ix ix_tup (pv 0) pe_int (fun _ _ => rfl)) (pe_ix ix_list (pe_lst (pa_cons pe_str (pa_cons pe_str pa_nil))) (pe_callTy (call_int1) (by rfl) T.f_int (by decide +kernel) (pa_cons (pv 3) pa_nil)) (fun _ _ => rfl)) (nomark _)) (pss_one (ps_ret pe_bl)) pss_nil)
      (pss_cons (ps_asg (pe_ix ix_list (pe_lst (pa_cons (pe_tup (pa_cons (pv 2) (pa_cons (pv 1) pa_nil))) (pa_cons (pe_tup (pa_cons (pv 1) (pa_cons (pv 2) pa_nil))) pa_nil))) (pe_callTy (call_int1) (by rfl) T.f_int (by decide +kernel) (pa_cons (pv 3) pa_nil)) (fun _ _ => rfl)) (pg_tup rfl (pgs_cons (pg_name (i := 4) sc__law_unlike_right.nd rfl (Or.inl rfl)) (pgs_cons (pg_name (i := 5) sc__law_unlike_right.nd rfl (Or.inl rfl)) pgs_nil))))
      (pss_one (ps_ret (pe_and (pe_chain op_le op_le (pe_ix ix_tup (pv 4) pe_int (fun _ _ => rfl)) (pe_ix ix_tup (pv 0) pe_int (fun _ _ => rfl)) (pe_ix ix_tup (pv 4) pe_int (fun _ _ => rfl))) (pe_one (pe_not (pe_chain op_le op_le (pe_ix ix_tup (pv 5) pe_int (fun _ _ => rfl)) (pe_ix ix_tup (pv 0) pe_int (fun _ _ => rfl)) (pe_ix ix_tup (pv 5) pe_int (fun _ _ => rfl)))))))))))))), ?_⟩)⟩
  · obtain ⟨_, _, v, p, q, _, _, _, _, rfl, _⟩ := h; rfl
  · obtain ⟨M, fs, v, p, q, a, b, a', b', rfl, kn, m1, m2, o1, o2, hv, k⟩ := h
    rw [st__law_unlike_right]
    walk_at "s"
    refine br (fun h => ?_) (fun h => ?_)
    · simp [unI] at h
      rcases hv with ⟨rfl, _⟩ | ⟨t, who, m, rfl, m3, u⟩
      · walk_at "s"
        exact fin_dec rfl (k _ kn)
      · unfold UnlikeOk at u
        omega
    rcases hv with ⟨rfl, h1, h2⟩ | ⟨t, who, m, rfl, m3, u⟩
    · exact absurd (by simp [unI]; omega) h
    walk_at "s"
    refine brn (fun h => absurd rfl h) (fun _ => ?_)
    walk_at "s"
    walk_at "mor"
    walk_at "s"
    rcases u with ⟨rfl, c1, c2, c3⟩ | ⟨rfl, c1, c2, c3⟩
    · have e : (decide (a < a') || decide (b' < b)) = true := by simp; omega
      rw [e]
      walk_at "s"
      walk_at "ixw"
      walk_at "s"
      refine brn (fun h => absurd rfl h) (fun _ => ?_)
      walk_at "s"
      walk_at "ixw"
      walk_at "s"
      refine br (fun _ => ?_) (fun h => by omega)
      walk_at "s"
      refine br (fun _ => ?_) (fun h => by omega)
      walk_at "s"
      refine br (fun _ => ?_) (fun _ => ?_)
      · walk_at "s"
        exact fin_ndec (by omega) (k _ (kn.sub (by walk_at "keep")))
      · walk_at "s"
        exact k _ (kn.sub (by walk_at "keep"))
    · have e : (decide (a < a') || decide (b' < b)) = false := by simp; omega
      rw [e]
      walk_at "s"
      walk_at "ixw"
      walk_at "s"
      refine brn (fun h => absurd rfl h) (fun _ => ?_)
      walk_at "s"
      walk_at "ixw"
      walk_at "s"
      refine br (fun _ => ?_) (fun h => by omega)
      walk_at "s"
      refine br (fun _ => ?_) (fun h => by omega)
      walk_at "s"
      refine br (fun _ => ?_) (fun _ => ?_)
      · walk_at "s"
        exact fin_ndec (by omega) (k _ (kn.sub (by walk_at "keep")))
      · walk_at "s"
        exact k _ (kn.sub (by walk_at "keep"))
theorem sc__law_near : FnScope ["_law_purse_here", "_law_parts_here", "_law_wide", "_law_starts", "_law_start", "_law_end", "_law_over", "_law_low", "_law_high", "_law_pick", "_law_step"] ["_law_purse_here", "_law_parts_here"] (defScope s__law_near) := ⟨rfl, rfl, rfl, by decide +kernel, rfl, by decide +kernel, by decide +kernel⟩
theorem st__law_near (v0 : V) (v1 : V) : L2.start ["_law_purse_here", "_law_parts_here", "_law_wide", "_law_starts", "_law_start", "_law_end", "_law_over", "_law_low", "_law_high", "_law_pick", "_law_step"] [v0, v1] = [some v0, some v1, none, none, none, none, none, none, none, none, none] := rfl
theorem ok__law_near (T : Tx K mg) : DOk P w K mg base d__law_near CX0 2 ["_law_purse_here", "_law_parts_here"] spNear := by
  have o__law_ends : DOk P w K mg base d__law_ends CX0 1 ["_law_parts_here"] spEnds := ok__law_ends T
  have o__law_take : DOk P w K mg base d__law_take CX0 1 ["_law_purse_here", "_law_many"] spTake := ok__law_take T
  obtain ⟨fd, F⟩ := T.df__law_near
  refine ⟨fd, F, F.ok sc__law_near (fun vs H Q E h => ?_) (fun cdv A outer s H vs Q E hr h => ⟨_, PSs.nox (pss_cons (ps_asg (pc o__law_ends T.g__law_ends b__law_ends hr (by decide) (pa_cons (pv 1) pa_nil)) (pg_tup rfl (pgs_cons (pg_name (i := 7) sc__law_near.nd rfl (Or.inl rfl)) (pgs_cons (pg_name (i := 8) sc__law_near.nd rfl (Or.inl rfl)) pgs_nil))))
      (pss_cons (ps_par (i := 9) (j := 10) (by rfl) sc__law_near.nd rfl rfl (by decide) rfl rfl (pa_cons (pc o__law_take T.g__law_take b__law_take hr (by decide) (pa_cons (pv 0) (pa_cons pe_int pa_nil))) (pa_cons (pc o__law_take T.g__law_take b__law_take hr (by decide) (pa_cons (pv 0) (pa_cons pe_int pa_nil))) pa_nil)) (by rfl))
      (pss_cons (ps_set (i := 2) sc__law_near.nd rfl (Or.inl rfl) (pc o__law_take T.g__law_take b__law_take hr (by decide) (pa_cons (pv 0) (pa_cons (pe_ix ix_list (pe_lst (pa_cons pe_int (pa_cons pe_int pa_nil))) (pc o__law_take T.g__law_take b__law_take hr (by decide) (pa_cons (pv 0) (pa_cons pe_int pa_nil))) (fun _ _ => rfl)) pa_nil))))
      (pss_cons (ps_set (i := 3) sc__law_near.nd rfl (Or.inl rfl) (pe_lst (pa_cons (pe_op op_add (pe_op op_add (pv 8) pe_int) (pv 10)) (pa_cons (pv 8) (pa_cons (pv 7) (pa_cons (pe_op op_sub (pv 8) (pv 2)) (pa_cons (pe_op op_sub (pv 7) (pv 10)) (pa_cons (pe_op op_add (pv 7) (pv 10)) (pa_cons (pe_op op_sub (pe_op op_sub (pv 7) (pv 2)) (pv 10)) (pa_cons (pv 7) pa_nil))))))))))
      (pss_cons (ps_set (i := 4) sc__law_near.nd rfl (Or.inl rfl) (pe_ix ix_list (pv 3) (pv 9) (fun _ _ => rfl)))
      (pss_cons (ps_set (i := 5) sc__law_near.nd rfl (Or.inl rfl) (pe_ix ix_list (pe_lst (pa_cons (pe_op op_add (pv 4) (pv 2)) (pa_cons (pv 8) (pa_cons (pe_op op_add (pv 8) (pv 10)) pa_nil)))) (pc o__law_take T.g__law_take b__law_take hr (by decide) (pa_cons (pv 0) (pa_cons pe_int pa_nil))) (fun _ _ => rfl)))
      (pss_cons (ps_set (i := 5) sc__law_near.nd rfl (Or.inl rfl) (pe_callB (c_min rfl) (by rfl) T.f_min (by decide +kernel) (pa_cons (pe_op op_add (pv 4) pe_int) (pa_cons (pe_callB (c_max rfl) (by rfl) T.f_max (by decide +kernel) (pa_cons (pv 4) (pa_cons (pv 5) pa_nil))) pa_nil))))
      (pss_cons (ps_if (pt_cmpR op_eq (pv 9) pe_int (nomark _)) (pss_one (ps_set (i := 5) sc__law_near.nd rfl (Or.inl rfl) (pv 8))) pss_nil)
      (pss_cons (ps_set (i := 6) sc__law_near.nd rfl (Or.inl rfl) (pe_op op_sub (pc o__law_take T.g__law_take b__law_take hr (by decide) (pa_cons (pv 0) (pa_cons pe_int pa_nil))) pe_int))
      (pss_one (ps_ret (pe_tup (pa_cons (pe_op op_sub (pv 5) (pv 6)) (pa_cons (pv 6) (pa_cons (pe_op op_sub (pe_op op_sub (pv 5) (pv 6)) (pv 4)) pa_nil))))))))))))))), ?_⟩)⟩
  · obtain ⟨_, _, p, q, _, _, _, rfl, _⟩ := h; rfl
  · obtain ⟨M, fs, p, q, s, u, l, rfl, kn, m, h0, k⟩ := h
    rw [st__law_near]
    walk_at "s"
    walk_at "ends"
    walk_at "s"
    walk_at "take"
    have hp0 := r0
    have hp1 := r1
    by_cases h7 : r = 7
    · subst h7
      walk_at "s"
      walk_at "take"
      walk_at "s"
      walk_at "take"
      walk_at "s"
      walk_at "take"
      walk_at "s"
      walk_at "take"
      walk_at "s"
      refine br (fun h => ?_) (fun h => absurd rfl h)
      walk_at "s"
      walk_at "take"
      walk_at "s"
      refine k _ _ _ _ _ ?_ (kn.hd (by walk_at "keep"))
      omega
    · walk_at "s"
      walk_at "take"
      walk_at "s"
      walk_at "take"
      walk_at "s"
      walk_at "take"
      walk_at "s"
      walk_at "take"
      walk_at "s"
      refine br (fun h => absurd h h7) (fun h => ?_)
      walk_at "s"
      walk_at "take"
      walk_at "s"
      refine k _ _ _ _ _ ?_ (kn.hd (by walk_at "keep"))
      omega
theorem sc__law_right : FnScope ["_law_purse_here", "_law_parts_here", "_law_near_here", "_law_told", "_law_inner", "_law_outer", "_law_hole", "_law_peg", "_law_first", "_law_second", "_law_low", "_law_high"] ["_law_purse_here"] (defScope s__law_right) := ⟨rfl, rfl, rfl, by decide +kernel, rfl, by decide +kernel, by decide +kernel⟩
theorem st__law_right (v0 : V) : L2.start ["_law_purse_here", "_law_parts_here", "_law_near_here", "_law_told", "_law_inner", "_law_outer", "_law_hole", "_law_peg", "_law_first", "_law_second", "_law_low", "_law_high"] [v0] = [some v0, none, none, none, none, none, none, none, none, none, none, none] := rfl
theorem ok__law_right (T : Tx K mg) : DOk P w K mg base d__law_right CX0 7 ["_law_purse_here"] (spRight) := by
  have o__law_parts : DOk P w K mg base d__law_parts CX0 3 ["_law_purse_here", "_law_wide"] spParts := ok__law_parts T
  have o__law_near : DOk P w K mg base d__law_near CX0 2 ["_law_purse_here", "_law_parts_here"] spNear := ok__law_near T
  have o__law_take : DOk P w K mg base d__law_take CX0 1 ["_law_purse_here", "_law_many"] spTake := ok__law_take T
  have o_Span___init__ : DOk P w K mg base d_Span___init__ CX0 3 ["self", "size", "above", "below"] (spSpanInit (He.ga K "Span")) := ok_Span___init__ T
  have o__law_ends : DOk P w K mg base d__law_ends CX0 1 ["_law_parts_here"] spEnds := ok__law_ends T
  have o_both : DOk P w K mg base d_both CX0 6 ["one", "other"] (spBoth (He.ga K "Span")) := ok_both T
  have o__law_both_right : DOk P w K mg base d__law_both_right CX0 1 ["_law_told", "_law_low", "_law_high"] (spBothRight (He.ga K "Span")) := ok__law_both_right T
  have o_within : DOk P w K mg base d_within CX0 2 ["one", "other"] (spWithin (He.ga K "Span")) := ok_within T
  have o__law_is_true : DOk P w K mg base d__law_is_true CX0 1 ["_law_thing", "_law_due"] spIsTrue := ok__law_is_true T
  have o_unlike : DOk P w K mg base d_unlike CX0 2 ["one", "other"] (spUnlike (He.ga K "Span")) := ok_unlike T
  have o__law_unlike_right : DOk P w K mg base d__law_unlike_right CX0 1 ["_law_told", "_law_first", "_law_second"] spUnlikeRight := ok__law_unlike_right T
  obtain ⟨fd, F⟩ := T.df__law_right
  refine ⟨fd, F, F.ok sc__law_right (fun vs H Q E h => ?_) (fun cdv A outer s H vs Q E hr h => ⟨_, PSs.nox (pss_cons (ps_set (i := 1) sc__law_right.nd rfl (Or.inl rfl) (pc o__law_parts T.g__law_parts b__law_parts hr (by decide) (pa_cons (pv 0) (pa_cons pe_int pa_nil))))
      (pss_cons (ps_set (i := 2) sc__law_right.nd rfl (Or.inl rfl) (pc o__law_near T.g__law_near b__law_near hr (by decide) (pa_cons (pv 0) (pa_cons (pv 1) pa_nil))))
      (pss_cut (ps_if (pt_cmpR op_eq (pc o__law_take T.g__law_take b__law_take hr (by decide) (pa_cons (pv 0) (pa_cons pe_int pa_nil))) pe_int (nomark _)) (pss_one (ps_set (i := 2) sc__law_right.nd rfl (Or.inl rfl) (pc o__law_parts T.g__law_parts b__law_parts hr (by decide) (pa_cons (pv 0) (pa_cons pe_int pa_nil))))) pss_nil)
      (pss_cons (ps_par (i := 6) (j := 7) (by rfl) sc__law_right.nd rfl rfl (by decide) rfl rfl (pa_cons (pmk o_Span___init__ T.mkr_Span T.g_Span bd_Span___init___4 hr (by decide) (pa_cons (pe_ix ix_tup (pv 1) pe_int (fun _ _ => rfl)) (pa_cons (pe_ix ix_tup (pv 1) pe_int (fun _ _ => rfl)) (pa_cons (pe_ix ix_tup (pv 1) pe_int (fun _ _ => rfl)) pa_nil)))) (pa_cons (pmk o_Span___init__ T.mkr_Span T.g_Span bd_Span___init___4 hr (by decide) (pa_cons (pe_ix ix_tup (pv 2) pe_int (fun _ _ => rfl)) (pa_cons (pe_ix ix_tup (pv 2) pe_int (fun _ _ => rfl)) (pa_cons (pe_ix ix_tup (pv 2) pe_int (fun _ _ => rfl)) pa_nil)))) pa_nil)) (by rfl))
      (pss_cons (ps_par (i := 8) (j := 9) (by rfl) sc__law_right.nd rfl rfl (by decide) rfl rfl (pa_cons (pc o__law_ends T.g__law_ends b__law_ends hr (by decide) (pa_cons (pv 1) pa_nil)) (pa_cons (pc o__law_ends T.g__law_ends b__law_ends hr (by decide) (pa_cons (pv 2) pa_nil)) pa_nil)) (by rfl))
      (pss_cons (ps_par (i := 10) (j := 11) (by rfl) sc__law_right.nd rfl rfl (by decide) rfl rfl (pa_cons (pe_callB (c_max rfl) (by rfl) T.f_max (by decide +kernel) (pa_cons (pe_ix ix_tup (pv 8) pe_int (fun _ _ => rfl)) (pa_cons (pe_ix ix_tup (pv 9) pe_int (fun _ _ => rfl)) pa_nil))) (pa_cons (pe_callB (c_min rfl) (by rfl) T.f_min (by decide +kernel) (pa_cons (pe_ix ix_tup (pv 8) pe_int (fun _ _ => rfl)) (pa_cons (pe_ix ix_tup (pv 9) pe_int (fun _ _ => rfl)) pa_nil))) pa_nil)) (by rfl))
      (pss_cut (ps_for PassesOwn.never rfl (pi_list (pe_lst (pa_cons (pc o_both T.g_both b_both hr (by decide) (pa_cons (pv 6) (pa_cons (pv 7) pa_nil))) (pa_cons (pc o_both T.g_both b_both hr (by decide) (pa_cons (pv 7) (pa_cons (pv 6) pa_nil))) (pa_cons (pcK0 o_both T.g_both bk_both_0_other_one hr (by decide) (pk_cons (pv 7) (pk_cons (pv 6) pk_nil))) pa_nil))))) (pg_name (i := 3) sc__law_right.nd rfl (Or.inl rfl))
      (pss_one (ps_if (pt_not (pt_val (pc o__law_both_right T.g__law_both_right b__law_both_right hr (by decide) (pa_cons (pv 3) (pa_cons (pv 10) (pa_cons (pv 11) pa_nil)))))) (pss_one (ps_ret pe_bl)) pss_nil)))
      (pss_cons (ps_set (i := 4) sc__law_right.nd rfl (Or.inl rfl) (pe_and (pe_cmpR op_le (pe_ix ix_tup (pv 9) pe_int (fun _ _ => rfl)) (pe_ix ix_tup (pv 8) pe_int (fun _ _ => rfl)) (nomark _)) (pe_one (pe_cmpR op_le (pe_ix ix_tup (pv 8) pe_int (fun _ _ => rfl)) (pe_ix ix_tup (pv 9) pe_int (fun _ _ => rfl)) (nomark _)))))
      (pss_cons (ps_set (i := 5) sc__law_right.nd rfl (Or.inl rfl) (pe_and (pe_cmpR op_le (pe_ix ix_tup (pv 8) pe_int (fun _ _ => rfl)) (pe_ix ix_tup (pv 9) pe_int (fun _ _ => rfl)) (nomark _)) (pe_one (pe_cmpR op_le (pe_ix ix_tup (pv 9) pe_int (fun _ _ => rfl)) (pe_ix ix_tup (pv 8) pe_int (fun _ _ => rfl)) (nomark _)))))
      (pss_cut (ps_if (PW.pt (pw_or (pt_not (pt_val (pc o__law_is_true T.g__law_is_true b__law_is_true hr (by decide) (pa_cons (pc o_within T.g_within b_within hr (by decide) (pa_cons (pv 6) (pa_cons (pv 7) pa_nil))) (pa_cons (pv 4) pa_nil))))) (pw_or1 (pt_not (pt_val (pc o__law_is_true T.g__law_is_true b__law_is_true hr (by decide) (pa_cons (pcK0 o_within T.g_within bk_within_0_other_one hr (by decide) (pk_cons (pv 6) (pk_cons (pv 7) pk_nil))) (pa_cons (pv 5) pa_nil)))))))) (pss_one (ps_ret pe_bl)) pss_nil)
      (pss_cut (ps_if (pt_not (pt_val (pc o__law_unlike_right T.g__law_unlike_right b__law_unlike_right hr (by decide) (pa_cons (pc o_unlike T.g_unlike b_unlike hr (by decide) (pa_cons (pv 6) (pa_cons (pv 7) pa_nil))) (pa_cons (pv 8) (pa_cons (pv 9) pa_nil)))))) (pss_one (ps_ret pe_bl)) pss_nil)
      (pss_cut (ps_if (pt_not (pt_val (pc o__law_unlike_right T.g__law_unlike_right b__law_unlike_right hr (by decide) (pa_cons (pc o_unlike T.g_unlike b_unlike hr (by decide) (pa_cons (pv 7) (pa_cons (pv 6) pa_nil))) (pa_cons (pv 9) (pa_cons (pv 8) pa_nil)))))) (pss_one (ps_ret pe_bl)) pss_nil)
      (pss_cut (ps_if (PW.pt (pw_or (pt_not (pt_val (pc o__law_unlike_right T.g__law_unlike_right b__law_unlike_right hr (by decide) (pa_cons (pcK0 o_unlike T.g_unlike bk_unlike_0_other_one hr (by decide) (pk_cons (pv 7) (pk_cons (pv 6) pk_nil))) (pa_cons (pv 8) (pa_cons (pv 9) pa_nil)))))) (pw_or1 (pt_cmpR op_notN (pc o_unlike T.g_unlike b_unlike hr (by decide) (pa_cons (pv 6) (pa_cons (pv 6) pa_nil))) pe_non (nomark _))))) (pss_one (ps_ret pe_bl)) pss_nil)
      (pss_cut (ps_if (PW.pt (pw_or (pt_not (pt_val (pc o__law_both_right T.g__law_both_right b__law_both_right hr (by decide) (pa_cons (pc o_both T.g_both b_both hr (by decide) (pa_cons (pv 6) (pa_cons (pv 6) pa_nil))) (pa_cons (pe_ix ix_tup (pv 8) pe_int (fun _ _ => rfl)) (pa_cons (pe_ix ix_tup (pv 8) pe_int (fun _ _ => rfl)) pa_nil)))))) (pw_or1 (pt_not (pt_val (pc o__law_is_true T.g__law_is_true b__law_is_true hr (by decide) (pa_cons (pc o_within T.g_within b_within hr (by decide) (pa_cons (pv 7) (pa_cons (pv 7) pa_nil))) (pa_cons pe_bl pa_nil)))))))) (pss_one (ps_ret pe_bl)) pss_nil)
      (pss_one (ps_ret (pe_cmpR (op_eqD hr.units) (pe_tup (pa_cons (pe_fld (pv 6) rfl) (pa_cons (pe_fld (pv 6) rfl) (pa_cons (pe_fld (pv 6) rfl) (pa_cons (pe_fld (pv 7) rfl) (pa_cons (pe_fld (pv 7) rfl) (pa_cons (pe_fld (pv 7) rfl) pa_nil))))))) (pe_op op_catT (pv 1) (pv 2)) (nomark _)))))))))))))))))), ?_⟩)⟩
  · obtain ⟨_, _, p, rfl, _⟩ := h; rfl
  · obtain ⟨M, fs, p, rfl, kn, k⟩ := h
    rw [st__law_right]
    walk_at "s"
    walk_at "parts"
    walk_at "s"
    refine' ⟨_, _, _, _, _, _, _, rfl, kn, ?m, r1, fun q a b c H2 g0 kn2 => ?_⟩
    case m => walk_at "mem"
    clear kn; have kn := kn2; clear kn2
    walk_at "s"
    refine s_cut (fun σ' H' => ∃ (q : Addr) (a b c : Int), σ' = [some (.ref p), some (.ref t), some (.ref q), none, none, none, none, none, none, none, none, none] ∧ 0 ≤ b + c ∧ Kn ((p, Pur) :: M) (fO q (.tup [.int a, .int b, .int c]) :: fO t (.tup [.int s, .int u, .int l]) :: fs) H') ?_ ?_
    · walk_at "s"
      walk_at "take"
      walk_at "s"
      refine br (fun _ => ?_) (fun _ => ?_)
      · walk_at "s"
        walk_at "parts"
        walk_at "s"
        exact ⟨_, _, _, _, rfl, by omega, kn.hd (by walk_at "keep")⟩
      · walk_at "s"
        exact ⟨_, _, _, _, rfl, by omega, kn⟩
    clear kn g0
    rintro σ' H' ⟨q, a, b, c, rfl, g0, kn⟩
    walk_at "s"
    walk_at "ends"
    walk_at "s"
    walk_at "ends"
    walk_at "s"
    refine s_cut (MdR (He.ga K "Span") M fs p s u l a b c) ?_ ?_
    · by_cases hh : max (s - l) (a - c) ≤ min (s + u) (a + b)
      · walk_at "s"
        walk_at "bothN1"
        walk_at "s"
        walk_at "bothN1"
        walk_at "s"
        walk_at "bothN1"
        walk_at "s"
        walk_at "bothR1"
        walk_at "next"
        walk_at "bothR1"
        walk_at "next"
        walk_at "bothR1"
        walk_at "next"
        exact ⟨_, _, _, _, _, _, _, _, _, rfl, kn.sub (by walk_at "keep")⟩
      · walk_at "s"
        walk_at "bothN0"
        walk_at "s"
        walk_at "bothN0"
        walk_at "s"
        walk_at "bothN0"
        walk_at "s"
        walk_at "bothR0"
        walk_at "next"
        walk_at "bothR0"
        walk_at "next"
        walk_at "bothR0"
        walk_at "next"
        exact ⟨_, _, _, _, _, _, _, _, _, rfl, kn.sub (by walk_at "keep")⟩
    clear kn
    rintro σ' H' ⟨t, q, x, y, ff, gg, v3, v4, v5, rfl, kn⟩
    walk_at "s"
    walk_at "mand"
    walk_at "s"
    walk_at "mand"
    walk_at "s"
    refine s_cut (MdR (He.ga K "Span") M fs p s u l a b c) ?_ ?_
    · walk_at "s"
      walk_at "within"
      walk_at "s"
      walk_at "istrue"
      walk_at "s"
      walk_at "within"
      walk_at "s"
      walk_at "istrue"
      walk_at "s"
      exact ⟨_, _, _, _, _, _, _, _, _, rfl, kn.sub (by walk_at "keep")⟩
    clear kn
    rintro σ' H' ⟨t, q, x, y, ff, gg, v3, v4, v5, rfl, kn⟩
    refine s_cut (MdR (He.ga K "Span") M fs p s u l a b c) ?_ ?_
    · walk_at "s"
      walk_at "unlike"
      · walk_at "unlikeR0"
      · walk_at "unlikeR1"
    clear kn
    rintro σ' H' ⟨t, q, x, y, ff, gg, v3, v4, v5, rfl, kn⟩
    refine s_cut (MdR (He.ga K "Span") M fs p s u l a b c) ?_ ?_
    · walk_at "s"
      walk_at "unlike"
      · walk_at "unlikeR0"
      · walk_at "unlikeR1"
    clear kn
    rintro σ' H' ⟨t, q, x, y, ff, gg, v3, v4, v5, rfl, kn⟩
    refine s_cut (MdR (He.ga K "Span") M fs p s u l a b c) ?_ ?_
    · walk_at "s"
      walk_at "unlike"
      · walk_at "s"
        refine' ⟨_, _, _, _, _, _, _, _, _, rfl, kn, ?m1, ?m2, ?o1, ?o2, .inl ⟨rfl, ?e1, ?e2⟩, fun H2 kn2 => ?_⟩
        case m1 => walk_at "mem"
        case m2 => walk_at "mem"
        case e1 => omega
        case e2 => omega
        case o1 => omega
        case o2 => omega
        clear kn; have kn := kn2; clear kn2
        walk_at "s"
        walk_at "unlike"
        · walk_at "s"
          refine brn (fun h => absurd rfl h) (fun _ => ?_)
          walk_at "s"
          exact ⟨_, _, _, _, _, _, _, _, _, rfl, kn.sub (by walk_at "keep")⟩
        · exfalso; unfold UnlikeOk at ok; omega
      · walk_at "s"
        refine' ⟨_, _, _, _, _, _, _, _, _, rfl, kn, ?m1, ?m2, ?o1, ?o2, .inr ⟨_, _, _, rfl, ?m3, ok⟩, fun H2 kn2 => ?_⟩
        case m1 => walk_at "mem"
        case m2 => walk_at "mem"
        case m3 => walk_at "mem"
        case o1 => omega
        case o2 => omega
        clear kn; have kn := kn2; clear kn2
        walk_at "s"
        walk_at "unlike"
        · walk_at "s"
          refine brn (fun h => absurd rfl h) (fun _ => ?_)
          walk_at "s"
          exact ⟨_, _, _, _, _, _, _, _, _, rfl, kn.sub (by walk_at "keep")⟩
        · exfalso; unfold UnlikeOk at ok; omega
    clear kn
    rintro σ' H' ⟨t, q, x, y, ff, gg, v3, v4, v5, rfl, kn⟩
    refine s_cut (MdR (He.ga K "Span") M fs p s u l a b c) ?_ ?_
    · walk_at "s"
      have hh : s - l ≤ s + u := by omega
      refine' ⟨_, _, _, _, _, _, _, _, _, _, s - l, s + u, rfl, kn, ?m1, ?m2, ?e1, ?e2, fun _ x H2 kn2 => ?_, fun h => absurd h (by omega)⟩
      case m1 => walk_at "mem"
      case m2 => walk_at "mem"
      case e1 => omega
      case e2 => omega
      clear kn; have kn := kn2; clear kn2
      walk_at "s"
      walk_at "bothR1"
      walk_at "within"
      walk_at "s"
      refine ⟨_, _, rfl, by rw [hb]; simp, ?_⟩
      walk_at "s"
      exact ⟨_, _, _, _, _, _, _, _, _, rfl, kn.sub (by walk_at "keep")⟩
    clear kn
    rintro σ' H' ⟨t, q, x, y, ff, gg, v3, v4, v5, rfl, kn⟩
    walk_at "s"
    exact fin_dec rfl (k _ (kn.sub (by walk_at "keep")))
theorem sc_law : FnScope ["_law_script", "_law_cell_here"] ["_law_script"] (defScope s_law) := ⟨rfl, rfl, rfl, by decide +kernel, rfl, by decide +kernel, by decide +kernel⟩
theorem st_law (v0 : V) : L2.start ["_law_script", "_law_cell_here"] [v0] = [some v0, none] := rfl
theorem ok_law (T : Tx K mg) : DOk P w K mg base d_law CX0 9 ["_law_script"] (spLaw K) := by
  have o__law_cells : DOk P w K mg base d__law_cells CX0 2 ["_law_script", "_law_few", "_law_upto"] (spCells K) := ok__law_cells T
  have o__law_purse : DOk P w K mg base d__law_purse CX0 1 ["_law_cell_here"] spPurse := ok__law_purse T
  have o__law_right : DOk P w K mg base d__law_right CX0 7 ["_law_purse_here"] (spRight) := ok__law_right T
  obtain ⟨fd, F⟩ := T.df_law
  refine ⟨fd, F, F.ok sc_law (fun vs H Q E h => ?_) (fun cdv A outer s H vs Q E hr h => ⟨_, PSs.nox (pss_one (ps_ret (pe_callB (cr_all rfl) (by rfl) T.f_all (by decide +kernel) (pa_cons (pe_lc (own := [("_law_cell_here", 1)]) (g := gName 1) (tt := tYes) rfl sc_law.nd (pi_list (pc o__law_cells T.g__law_cells b__law_cells hr (by decide) (pa_cons (pv 0) (pa_cons pe_int (pa_cons pe_int pa_nil))))) (blkOk_by (N := ["_law_script", "_law_cell_here"]) (sc := defScope s_law) (own := [("_law_cell_here", 1)]) (by decide +kernel)) (fun _ _ _ _ _ => (pg_name (i := 1) sc_law.nd rfl (Or.inl rfl))) (fun _ _ _ _ _ => pts_nil) (fun _ _ _ _ _ => (pc o__law_right T.g__law_right b__law_right hr (by decide) (pa_cons (pc o__law_purse T.g__law_purse b__law_purse hr (by decide) (pa_cons (pv 1) pa_nil)) pa_nil)))) pa_nil)))), ?_⟩)⟩
  · obtain ⟨a, ns, rfl, _⟩ := h; rfl
  · obtain ⟨a, ns, rfl, hS, hlen, k⟩ := h
    rw [st_law]
    have kn := Kn.init hS
    walk_at "s"
    refine ⟨_, _, _, ns, _, _, rfl, kn, List.mem_cons_self, hlen, by omega, by omega, by omega, by omega, fun D zs H2 hz kn2 => ?_⟩
    clear kn
    refine r_lcL kn2 (xs := zs.map V.int) (fun kn => kn.sql List.mem_cons_self) (fun i acc => acc = (List.replicate i true).map V.bl) rfl ?_ ?_
    · rintro i x D acc H' hi rfl kn
      obtain ⟨z, rfl⟩ : ∃ z, x = V.int z := by
        rw [List.getElem?_map] at hi
        cases e : zs[i]? with
        | none => rw [e] at hi; cases hi
        | some z => rw [e] at hi; exact ⟨z, (Option.some.inj hi).symm⟩
      have hl : i < 40 := by
        have := (List.getElem?_eq_some_iff.mp hi).1
        rw [List.length_map] at this
        omega
      walk_at "s"
      refine s_wipe rfl ?_
      walk_at "s"
      refine ⟨_, _, _, rfl, kn, fun p H3 kn3 => ?_⟩
      walk_at "s"
      refine ⟨_, _, _, rfl, kn3, fun H4 kn4 => ?_⟩
      refine r_lcE kn4.drop (fun _ h => h) ?_ (by rw [List.replicate_succ', List.map_append]; rfl)
      rw [List.length_map, List.length_replicate]
      exact Nat.lt_of_le_of_lt (show i ≤ 100 by omega) (by decide)
    · rintro D acc H' rfl kn
      have kn := kn.frzL
      walk_at "s"
      refine s_all kn List.mem_cons_self ?_
      rw [all_rep]
      exact k _
end
end Gx
namespace Gx
open PySem PySem.Spec PyProof.Rows L2
theorem funD_uniq {K : PySem.W.Frag} {x qual : Str} {params : Arguments} {body : List Stmt} {scope : Scope} {dvs : List V} {kws : List (Str × V)} {f : Addr} {fd fd' : FuncData} (F : FunD K x qual params body scope dvs kws f fd) (F' : FunD K x qual params body scope dvs kws f fd') : fd = fd' := by
  obtain ⟨oc, od, dV, kV, doc, pm, an, cdv, ct, osl, _, lk, _⟩ := F.ex
  obtain ⟨oc', od', dV', kV', doc', pm', an', cdv', ct', osl', _, lk', _⟩ := F'.ex
  rw [lk] at lk'
  have e := Option.some.inj lk'
  injection e with e1 e2 e3 e4
  injection e3
end Gx
open PySem PySem.W PySem.Calls PyProof.Rows
set_option maxRecDepth 100000 in
set_option maxHeartbeats 0 in
theorem PySem.Challenge.cw_fitwords_k08_held_against_each_other_holds : PySem.Challenge.rw_fitwords_k08_held_against_each_other.Holds := by
  w_on; o_law
  refine HandSHeadRun.head_any (r := OpenLaw.row PySem.Challenge.rw_fitwords_k08_held_against_each_other) (q := view (OpenLaw.row PySem.Challenge.rw_fitwords_k08_held_against_each_other).prog [51]) (H := Hd.hk) (ob := Hd.ob) (M := 20000) (loose := Hd.loose) (d := HandSHeadRun.topDef (OpenLaw.row PySem.Challenge.rw_fitwords_k08_held_against_each_other).prog 51) (kwd := []) Hd.ob_eq
    (by kernel_rfl) (fun s => by kernel_rfl) Hd.run (by kernel_rfl) (by kernel_rfl) (by kernel_rfl) (by rfl) (by first | assumption | decide +kernel) (by decide +kernel) ⟨rfl, rfl, rfl, rfl, rfl, by decide +kernel⟩ ?hw ?hc
  case hw => w_witness2
  case hc =>
    refine L2.walk_ofE (l := PySem.Challenge.rw_fitwords_k08_held_against_each_other) (n := 63) (k := 9) (x := "_law_script") (CX := L2.CX0) rfl (by decide) (by kernel_rfl) ⟨rfl, by decide, by decide⟩ ?F (fun _ _ _ _ z => z)
    intro w mg fa h Y G hmg0
    obtain ⟨K, KX, c⟩ := Y
    have hmg : mg ("law" : PySem.Str) = some (.ref fa) := by
      have e : (HandSHeadRun.topDef (OpenLaw.row PySem.Challenge.rw_fitwords_k08_held_against_each_other).prog 51).name = ("law" : PySem.Str) := by kernel_rfl
      rw [← e]
      exact hmg0
    have T : Hd.Tx K mg := ⟨w, h, KX, G, c⟩
    have e := hmg.symm.trans T.g_law
    cases e
    obtain ⟨fd, F⟩ := T.df_law
    refine ⟨K, fd, Gx.spLaw K, KX, fun s u => ?_, fun H a ns hl _ hS => ⟨a, ns, rfl, hS, hl, fun _ => rfl⟩, fun base _ _ => ?_⟩
    · have b := L2.FunD.bindsA (ps := ["_law_script"]) F fun _ _ _ _ _ _ us hl => match us, hl with | [_], _ => rfl
      exact b s [u] rfl
    · obtain ⟨fd', F', G'⟩ := Gx.ok_law (P := (PySem.Challenge.rw_fitwords_k08_held_against_each_other).prog) (w := w) (base := base) T
      rw [Gx.funD_uniq F F']
      exact G'
#print axioms PySem.Challenge.cw_fitwords_k08_held_against_each_other_holds
