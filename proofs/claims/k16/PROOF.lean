import PyProof.Rows.All
import Wide.All
import OpenK.AllK
import Wide.FinOn
import HandS.ForMost
import HandS.ForExc
import HandS.IsInst
import HandS.Defaults
import HandS.MakeKw
import HandS.Conv
import HandS.Wide
import HandS.WideMore
import HandS.Flow
import HandS.Style
import HandS.Head0
import HandS.Head1
import HandS.Head2
import HandS.HeadEnd
import HandS.HeadHook1
import HandS.HeadHook2
import HandS.HeadHook3
import HandS.HeadHook4
import HandS.EndBits
import HandS.Zip
import PySem.Challenge.RW_fitwords_k16_how_pegs_go
set_option Elab.async false
set_option linter.all false
set_option maxRecDepth 100000
set_option maxHeartbeats 4000000
namespace Gx
open PySem PySem.Spec PyProof.Rows L2
/-! ### what is known of a heap: the cells that may change, and facts that stay -/
abbrev Fact := Hp → Prop
def Mn (f : Fact) : Prop := ∀ H H', Same H H' → f H → f H'
def ers (m : List Addr) (H : Hp) : Hp := fun a => if a ∈ m then none else H a
theorem ers_sub (m : List Addr) (H : Hp) : Same (ers m H) H := fun b o e => by
  unfold ers at e
  by_cases h : b ∈ m
  · rw [if_pos h] at e; cases e
  · rw [if_neg h] at e; exact e
theorem ers_out {m : List Addr} {H : Hp} {a : Addr} (h : a ∉ m) : ers m H a = H a := if_neg h
theorem ers_mono {m : List Addr} {H H' : Hp} (e : Same H H') : Same (ers m H) (ers m H') := fun b o q => by
  have hb : b ∉ m := fun h => by unfold ers at q; rw [if_pos h] at q; cases q
  rw [ers_out hb] at q ⊢
  exact e b o q
theorem ers_less {m m' : List Addr} {H : Hp} (h : ∀ a ∈ m', a ∈ m) : Same (ers m H) (ers m' H) := fun b o q => by
  have hb : b ∉ m := fun h => by unfold ers at q; rw [if_pos h] at q; cases q
  rw [ers_out hb] at q
  rw [ers_out fun z => hb (h b z)]
  exact q
abbrev Cell := Addr × (HO → Prop)
structure Kn (M : List Cell) (fs : List Fact) (H : Hp) : Prop where
  cel : ∀ x ∈ M, ∃ o, H x.1 = some o ∧ x.2 o
  nd : (M.map (·.1)).Nodup
  fac : ∀ f ∈ fs, Mn f ∧ f (ers (M.map (·.1)) H)
section
variable {M : List Cell} {fs fs' : List Fact} {f : Fact} {H H' : Hp} {p : Addr} {o : HO} {P P' : HO → Prop} {x y : Cell}
theorem Kn.get (k : Kn M fs H) (h : f ∈ fs) : f H := (k.fac f h).1 _ _ (ers_sub _ _) (k.fac f h).2
theorem Kn.same (k : Kn M fs H) (e : Same H H') : Kn M fs H' :=
  ⟨fun x hx => let ⟨o, h1, h2⟩ := k.cel x hx; ⟨o, e _ _ h1, h2⟩, k.nd, fun f hf => ⟨(k.fac f hf).1, (k.fac f hf).1 _ _ (ers_mono e) (k.fac f hf).2⟩⟩
theorem Kn.sub (k : Kn M fs H) (h : ∀ f ∈ fs', f ∈ fs) : Kn M fs' H := ⟨k.cel, k.nd, fun f hf => k.fac f (h f hf)⟩
theorem Kn.hd {gs : List Fact} (k : Kn M (f :: gs) H) (h : ∀ g ∈ fs, g ∈ gs) : Kn M (f :: fs) H := k.sub fun g hg => by
  rcases List.mem_cons.mp hg with e | e
  · rw [e]; exact List.mem_cons_self
  · exact List.mem_cons_of_mem _ (h g e)
theorem Kn.tl (k : Kn M (f :: fs) H) : Kn M fs H := k.sub fun _ h => List.mem_cons_of_mem _ h
theorem Kn.notin (k : Kn M fs H) (hp : H p = none) : p ∉ M.map (·.1) := fun h => by
  obtain ⟨x, hx, e⟩ := List.mem_map.mp h
  obtain ⟨o, h1, _⟩ := k.cel x hx
  rw [e, hp] at h1
  cases h1
theorem same_new (hp : H p = none) : Same H (upd H p o) := fun b u e => by
  rw [upd_ne (ne_of_none e hp)]
  exact e
theorem Kn.new (k : Kn M fs H) (hp : H p = none) (mn : Mn f) (h : ∀ G : Hp, G p = some o → f G) : Kn M (f :: fs) (upd H p o) := by
  have k2 := k.same (same_new (o := o) hp)
  refine ⟨k2.cel, k2.nd, fun g hg => ?_⟩
  rcases List.mem_cons.mp hg with rfl | hg
  · exact ⟨mn, h _ (by rw [ers_out (k.notin hp)]; exact upd_same)⟩
  · exact k2.fac g hg
theorem Kn.newM (k : Kn M fs H) (hp : H p = none) (h : P o) : Kn ((p, P) :: M) fs (upd H p o) := by
  have k2 := k.same (same_new (o := o) hp)
  refine ⟨fun x hx => ?_, List.nodup_cons.mpr ⟨k.notin hp, k.nd⟩, fun g hg => ?_⟩
  · rcases List.mem_cons.mp hx with rfl | hx
    · exact ⟨o, upd_same, h⟩
    · exact k2.cel x hx
  · refine ⟨(k.fac g hg).1, (k.fac g hg).1 _ _ (fun b u e => ?_) (k.fac g hg).2⟩
    have hb : b ∉ M.map (·.1) := fun h => by unfold ers at e; rw [if_pos h] at e; cases e
    rw [ers_out hb] at e
    have hbp : b ≠ p := ne_of_none e hp
    have hb2 : b ∉ ((p, P) :: M).map (·.1) := fun z => by
      rcases List.mem_cons.mp z with z | z
      · exact hbp z
      · exact hb z
    rw [ers_out hb2, upd_ne hbp]
    exact e
theorem Kn.set (k : Kn ((p, P) :: M) fs H) (h : P' o) : Kn ((p, P') :: M) fs (upd H p o) := by
  have nd := List.nodup_cons.mp k.nd
  refine ⟨fun x hx => ?_, k.nd, fun g hg => ?_⟩
  · rcases List.mem_cons.mp hx with rfl | hx
    · exact ⟨o, upd_same, h⟩
    · obtain ⟨u, h1, h2⟩ := k.cel x (List.mem_cons_of_mem _ hx)
      refine ⟨u, ?_, h2⟩
      rw [upd_ne fun e => nd.1 (List.mem_map.mpr ⟨x, hx, e⟩)]
      exact h1
  · refine ⟨(k.fac g hg).1, (k.fac g hg).1 _ _ (fun b u e => ?_) (k.fac g hg).2⟩
    have hb : b ∉ ((p, P) :: M).map (·.1) := fun h => by unfold ers at e; rw [if_pos h] at e; cases e
    rw [ers_out hb] at e
    have hb2 : b ∉ ((p, P') :: M).map (·.1) := hb
    rw [ers_out hb2, upd_ne fun z => hb (by rw [z]; exact List.mem_cons_self)]
    exact e
theorem Kn.freeze (k : Kn ((p, P) :: M) fs H) (mn : Mn f) (h : ∀ (G : Hp) o, G p = some o → P o → f G) : Kn M (f :: fs) H := by
  have nd := List.nodup_cons.mp k.nd
  refine ⟨fun x hx => k.cel x (List.mem_cons_of_mem _ hx), nd.2, fun g hg => ?_⟩
  rcases List.mem_cons.mp hg with rfl | hg
  · obtain ⟨o, h1, h2⟩ := k.cel _ List.mem_cons_self
    exact ⟨mn, h _ o (by rw [ers_out nd.1]; exact h1) h2⟩
  · exact ⟨(k.fac g hg).1, (k.fac g hg).1 _ _ (ers_less fun a ha => List.mem_cons_of_mem _ ha) (k.fac g hg).2⟩
theorem Kn.drop (k : Kn ((p, P) :: M) fs H) : Kn M fs H :=
  ⟨fun x hx => k.cel x (List.mem_cons_of_mem _ hx), (List.nodup_cons.mp k.nd).2, fun g hg => ⟨(k.fac g hg).1, (k.fac g hg).1 _ _ (ers_less fun a ha => List.mem_cons_of_mem _ ha) (k.fac g hg).2⟩⟩
theorem Kn.swap (k : Kn (x :: y :: M) fs H) : Kn (y :: x :: M) fs H := by
  have n1 := List.nodup_cons.mp k.nd
  have n2 := List.nodup_cons.mp n1.2
  refine ⟨fun z hz => k.cel z ?_, ?_, fun g hg => ⟨(k.fac g hg).1, (k.fac g hg).1 _ _ (ers_less ?_) (k.fac g hg).2⟩⟩
  · rcases List.mem_cons.mp hz with rfl | hz
    · exact List.mem_cons_of_mem _ List.mem_cons_self
    · rcases List.mem_cons.mp hz with rfl | hz
      · exact List.mem_cons_self
      · exact List.mem_cons_of_mem _ (List.mem_cons_of_mem _ hz)
  · refine List.nodup_cons.mpr ⟨fun z => ?_, List.nodup_cons.mpr ⟨fun z => n1.1 (List.mem_cons_of_mem _ z), n2.2⟩⟩
    rcases List.mem_cons.mp z with z | z
    · exact n1.1 (by rw [← z]; exact List.mem_cons_self)
    · exact n2.1 z
  · intro a ha
    rcases List.mem_cons.mp ha with rfl | ha
    · exact List.mem_cons_of_mem _ List.mem_cons_self
    · rcases List.mem_cons.mp ha with rfl | ha
      · exact List.mem_cons_self
      · exact List.mem_cons_of_mem _ (List.mem_cons_of_mem _ ha)
theorem Kn.cell (k : Kn ((p, P) :: M) fs H) : ∃ o, H p = some o ∧ P o := k.cel _ List.mem_cons_self
theorem Kn.weak (k : Kn ((p, P) :: M) fs H) (h : ∀ o, P o → P' o) : Kn ((p, P') :: M) fs H := by
  refine ⟨fun x hx => ?_, k.nd, k.fac⟩
  rcases List.mem_cons.mp hx with rfl | hx
  · obtain ⟨o, h1, h2⟩ := k.cell
    exact ⟨o, h1, h _ h2⟩
  · exact k.cel x (List.mem_cons_of_mem _ hx)
end
/-! ### the usual facts -/
section
variable {K : PySem.W.Frag} {H H' : Hp} {a p : Addr} {xs : List V} {M : List Cell} {fs : List Fact} {C : Addr}
theorem rd_same {u : HO} (e : Same H H') (h : Rd H a u) : Rd H' a u := by
  rcases h with h | ⟨o, h⟩
  · exact .inl (e _ _ h)
  · exact .inr ⟨o, e _ _ h⟩
theorem sqt_same (e : Same H H') (h : SqT K H a xs) : SqT K H' a xs := by
  rcases h with h | h
  · exact .inl (rd_same e h)
  · exact .inr h
def fT (K : PySem.W.Frag) (a : Addr) (xs : List V) : Fact := fun H => SqT K H a xs
def fL (K : PySem.W.Frag) (a : Addr) (xs : List V) : Fact := fun H => SqL K H a xs
/-- the object itself -/
def fO (a : Addr) (o : HO) : Fact := fun H => H a = some o
theorem mn_T : Mn (fT K a xs) := fun _ _ e h => sqt_same e h
theorem mn_L : Mn (fL K a xs) := fun _ _ e h => e.seq h
theorem mn_O {o : HO} : Mn (fO a o) := fun _ _ e h => e _ _ h
theorem Kn.newT (k : Kn M fs H) (hp : H p = none) : Kn M (fO p (.tup xs) :: fs) (upd H p (.tup xs)) := k.new hp mn_O fun _ e => e
theorem Kn.newL (k : Kn M fs H) (hp : H p = none) : Kn M (fO p (.lst xs) :: fs) (upd H p (.lst xs)) := k.new hp mn_O fun _ e => e
theorem Kn.sqt (k : Kn M fs H) (h : fO a (.tup xs) ∈ fs) : SqT K H a xs := SqT.of (k.get h)
theorem Kn.sqt' (k : Kn M fs H) (h : fT K a xs ∈ fs) : SqT K H a xs := k.get h
theorem Kn.sql (k : Kn M fs H) (h : fO a (.lst xs) ∈ fs) : SqL K H a xs := SqL.of (k.get h)
theorem Kn.sql' (k : Kn M fs H) (h : fL K a xs ∈ fs) : SqL K H a xs := k.get h
theorem Kn.obj {o : HO} (k : Kn M fs H) (h : fO a o ∈ fs) : H a = some o := k.get h
/-- an exact list in a cell -/
def isL (xs : List V) : HO → Prop := fun o => o = .lst xs
theorem Kn.newML (k : Kn M fs H) (hp : H p = none) : Kn ((p, isL xs) :: M) fs (upd H p (.lst xs)) := k.newM hp rfl
theorem Kn.frzL (k : Kn ((p, isL xs) :: M) fs H) : Kn M (fO p (.lst xs) :: fs) H := k.freeze mn_O fun _ _ e q => by rw [q] at e; exact e
theorem Kn.lst (k : Kn ((p, isL xs) :: M) fs H) : H p = some (.lst xs) := by
  obtain ⟨o, h1, h2⟩ := k.cell
  rw [h2] at h1
  exact h1
end
theorem sl {n : Nat} (h : n.ble 1000 = true) : n ≤ sizeLine := Nat.le_trans (Nat.le_of_ble_eq_true h) (by decide)
theorem sllt {n : Nat} (h : (n + 1).ble 1000 = true) : n < sizeLine := Nat.lt_of_lt_of_le (Nat.le_of_ble_eq_true h) (by decide)
theorem lt1000 {n : Nat} (h : (n + 1).ble 1000 = true) : n < 1000 := Nat.le_of_ble_eq_true h
/-! ### answers to what a reading asks -/
section
variable {K : PySem.W.Frag} {H H' : Hp} {a p : Addr} {xs : List V} {M : List Cell} {fs : List Fact} {C : Addr} {G : Addr → Prop} {A B : Prop}
theorem br {c : Prop} [Decidable c] (h1 : c → A) (h2 : ¬ c → B) : if decide c = true then A else B := by
  by_cases h : c
  · rw [if_pos (decide_eq_true h)]; exact h1 h
  · rw [if_neg (by rw [decide_eq_false h]; exact Bool.false_ne_true)]; exact h2 h
theorem brn {c : Prop} [Decidable c] (h1 : ¬ c → A) (h2 : c → B) : if (!decide c) = true then A else B := by
  by_cases h : c
  · rw [if_neg (by rw [decide_eq_true h]; exact Bool.false_ne_true)]; exact h2 h
  · rw [if_pos (by rw [decide_eq_false h]; rfl)]; exact h1 h
theorem brb {b : Bool} (h1 : b = true → A) (h2 : b = false → B) : if b = true then A else B := by
  cases b with
  | true => rw [if_pos rfl]; exact h1 rfl
  | false => rw [if_neg Bool.false_ne_true]; exact h2 rfl
theorem brT {b : Bool} (h : b = true) (h1 : A) : if b = true then A else B := by rw [if_pos h]; exact h1
theorem brF {b : Bool} (h : b = false) (h1 : B) : if b = true then A else B := by rw [if_neg (by rw [h]; exact Bool.false_ne_true)]; exact h1
theorem atI_in {xs : List V} {r : Int} (h0 : 0 ≤ r) (h1 : r < (xs.length : Int)) : ∃ v, atI xs r = some v ∧ v ∈ xs := by
  have hl : r.toNat < xs.length := by omega
  refine ⟨xs[r.toNat], ?_, List.getElem_mem hl⟩
  have e : atI xs ((r.toNat : Nat) : Int) = some xs[r.toNat] := atI_nat (List.getElem?_eq_getElem hl)
  have er : ((r.toNat : Nat) : Int) = r := by omega
  rw [er] at e
  exact e
theorem atI_ints {ns : List Int} {r : Int} (h0 : 0 ≤ r) (h1 : r < (ns.length : Int)) : ∃ v, atI (ns.map V.int) r = some (.int v) ∧ v ∈ ns := by
  obtain ⟨v, e, hv⟩ := atI_in (xs := ns.map V.int) h0 (by rw [List.length_map]; exact h1)
  obtain ⟨n, hn, rfl⟩ := List.mem_map.mp hv
  exact ⟨n, e, hn⟩
end
/-! ### a def of the text, with its promise -/
section
variable {X : Cx} {P : Program} {w : World} {K : PySem.W.Frag} {mg : Str → Option Value} {base : Heap} {d : He.DefD} {CX : CXT} {k j : Nat} {ps : List Str} {sp : Sp}
/-- the def d keeps sp -/
structure DOk (P : Program) (w : World) (K : PySem.W.Frag) (mg : Str → Option Value) (base : Heap) (d : He.DefD) (CX : CXT) (k : Nat) (ps : List Str) (sp : Sp) : Prop where
  ex : ∃ fd, FunD K d.name d.qual d.params d.body d.scope (d.dvs K) (d.kws K) (He.fAd K d.at_) fd ∧ FnOk P w K mg base CX k (He.fAd K d.at_) fd ps sp
/-- what binds when every parameter is written -/
def BdN (d : He.DefD) (ps : List Str) : Prop := d.dfl = [] ∧ ∀ (kV doc pm : Value) (an : Option Addr) (cdv ct : Value) (us : List Value), us.length = ps.length → bindArgs (PySem.W.fnOf d.name d.qual d.params d.body d.scope .none kV doc pm an cdv ct) ⟨us, []⟩ = pure (ps.zip us)
theorem FunD.bdN {fd : FuncData} (F : FunD K d.name d.qual d.params d.body d.scope (d.dvs K) (d.kws K) (He.fAd K d.at_) fd) (h : BdN d ps) : Binds K fd ps [] := by
  have e : d.dvs K = [] := by unfold He.DefD.dvs; rw [h.1]; rfl
  rw [e] at F
  exact F.bindsN h.2
/-- f(e, ..), all parameters written -/
theorem pc {x : Str} {p pos : Pos} {e : Expr} {es : List Expr} {t : TA} (D : DOk X.prog X.w X.K X.mg X.base d CX0 k ps sp) (hm : X.mg x = some (.ref (He.fAd X.K d.at_))) (hb : BdN d ps) (hr : Room j X.A) (hj : k ≤ j) (ha : PA X (e :: es) t) (hg : Gl X x := by rfl)
    (hdb : (x == ("__debug__" : Str)) = false := by decide) (he : starEach (e :: es) X.env = (false, eval e X.env) :: starEach es X.env := by rfl) (hpl : (backTo pos (starEach es X.env)).any (·.1) = false := by rfl) :
    PE X (.Call (.Name x p) (e :: es) [] pos) (tCall sp [] E0 t) := by
  obtain ⟨fd, F, G⟩ := D.ex
  exact pe_call G (hr.mono hj) hg hm F.kp (FunD.bdN F hb) .nil pass0 ha hdb he hpl
/-- f(), no parameters -/
theorem pc0 {x : Str} {p pos : Pos} (D : DOk X.prog X.w X.K X.mg X.base d CX0 k ps sp) (hm : X.mg x = some (.ref (He.fAd X.K d.at_))) (hb : BdN d ps) (hr : Room j X.A) (hj : k ≤ j) (hg : Gl X x := by rfl)
    (hdb : (x == ("__debug__" : Str)) = false := by decide) : PE X (.Call (.Name x p) [] [] pos) (tCall sp [] E0 tNil) := by
  obtain ⟨fd, F, G⟩ := D.ex
  exact pe_call0 G (hr.mono hj) hg hm F.kp (FunD.bdN F hb) .nil pass0 hdb
/-- how a def with defaults is bound where some are left out (dv: the values of those) -/
def BdD (K : PySem.W.Frag) (d : He.DefD) (ps : List Str) (dv : List V) : Prop := ∀ fd, FunD K d.name d.qual d.params d.body d.scope (d.dvs K) (d.kws K) (He.fAd K d.at_) fd → ∃ ds, Vals dv ds ∧ Binds K fd ps ds
/-- f(e, ..), the last parameters left out -/
theorem pcD {x : Str} {p pos : Pos} {e : Expr} {es : List Expr} {t : TA} {dv : List V} (D : DOk X.prog X.w X.K X.mg X.base d CX0 k ps sp) (hm : X.mg x = some (.ref (He.fAd X.K d.at_))) (hb : BdD X.K d ps dv) (hr : Room j X.A) (hj : k ≤ j) (ha : PA X (e :: es) t) (hg : Gl X x := by rfl)
    (hdb : (x == ("__debug__" : Str)) = false := by decide) (he : starEach (e :: es) X.env = (false, eval e X.env) :: starEach es X.env := by rfl) (hpl : (backTo pos (starEach es X.env)).any (·.1) = false := by rfl) :
    PE X (.Call (.Name x p) (e :: es) [] pos) (tCall sp dv E0 t) := by
  obtain ⟨fd, F, G⟩ := D.ex
  obtain ⟨ds, hv, hbd⟩ := hb fd F
  exact pe_call G (hr.mono hj) hg hm F.kp hbd hv pass0 ha hdb he hpl
/-- C(e, ..) -/
theorem pmk {x : Str} {p pos : Pos} {e : Expr} {es : List Expr} {t : TA} {dv : List V} {C : Addr} (D : DOk X.prog X.w X.K X.mg X.base d CX0 k ps sp) (M : Mk X.K C (He.fAd X.K d.at_)) (hm : X.mg x = some (.ref C)) (hb : BdD X.K d ps dv) (hr : Room j X.A) (hj : k + 1 ≤ j) (ha : PA X (e :: es) t) (hg : Gl X x := by rfl)
    (hdb : (x == ("__debug__" : Str)) = false := by decide) (he : starEach (e :: es) X.env = (false, eval e X.env) :: starEach es X.env := by rfl) (hpl : (backTo pos (starEach es X.env)).any (·.1) = false := by rfl) :
    PE X (.Call (.Name x p) (e :: es) [] pos) (tMake C sp dv E0 t) := by
  obtain ⟨fd, F, G⟩ := D.ex
  obtain ⟨ds, hv, hbd⟩ := hb fd F
  exact pe_make M G (hr.mono hj) hg hm hbd hv pass0 ha hdb he hpl
/-- how keywords bind: n positional, the keywords ks; gV puts all in the parameters' order -/
def BdK (K : PySem.W.Frag) (d : He.DefD) (ps : List Str) (n : Nat) (ks : List Str) (gV : List V → List V → List V) : Prop := ∀ fd, FunD K d.name d.qual d.params d.body d.scope (d.dvs K) (d.kws K) (He.fAd K d.at_) fd → ∃ g, KBn K fd ps n ks g gV
section
variable {x : Str} {p pos : Pos} {e : Expr} {es : List Expr} {kws : List Keyword} {t tk : TA} {n : Nat} {ks : List Str} {gV : List V → List V → List V} {C : Addr}
theorem pmkK (D : DOk X.prog X.w X.K X.mg X.base d CX0 k ps sp) (M : Mk X.K C (He.fAd X.K d.at_)) (hm : X.mg x = some (.ref C)) (hb : BdK X.K d ps (n + 1) ks gV) (hr : Room j X.A) (hj : k + 1 ≤ j) (ha : PA X (e :: es) t) (hkw : PK X kws tk) (hg : Gl X x := by rfl)
    (hall : (backToKw pos (keywordEach kws X.env)).all (·.1.isSome) = true := by rfl) (hks : (backToKw pos (keywordEach kws X.env)).filterMap (·.1) = ks := by rfl)
    (hdb : (x == ("__debug__" : Str)) = false := by decide) (he : starEach (e :: es) X.env = (false, eval e X.env) :: starEach es X.env := by rfl)
    (hpl : ((backTo pos (starEach (e :: es) X.env)).any (·.1) || (backToKw pos (keywordEach kws X.env)).any (·.1.isNone)) = false := by rfl) :
    PE X (.Call (.Name x p) (e :: es) kws pos) (tMakeN C n ks.length sp gV E0 t tk) := by
  obtain ⟨fd, F, G⟩ := D.ex
  obtain ⟨g, hbd⟩ := hb fd F
  exact pe_makeN M G (hr.mono hj) hg hm hbd pass0 ha hkw hall hks hdb he hpl
theorem pcK (D : DOk X.prog X.w X.K X.mg X.base d CX0 k ps sp) (hm : X.mg x = some (.ref (He.fAd X.K d.at_))) (hb : BdK X.K d ps n ks gV) (hr : Room j X.A) (hj : k ≤ j) (ha : PA X (e :: es) t) (hkw : PK X kws tk) (hg : Gl X x := by rfl)
    (hall : (backToKw pos (keywordEach kws X.env)).all (·.1.isSome) = true := by rfl) (hks : (backToKw pos (keywordEach kws X.env)).filterMap (·.1) = ks := by rfl)
    (hdb : (x == ("__debug__" : Str)) = false := by decide) (he : starEach (e :: es) X.env = (false, eval e X.env) :: starEach es X.env := by rfl)
    (hpl : ((backTo pos (starEach (e :: es) X.env)).any (·.1) || (backToKw pos (keywordEach kws X.env)).any (·.1.isNone)) = false := by rfl) :
    PE X (.Call (.Name x p) (e :: es) kws pos) (tCallN n ks.length sp gV E0 t tk) := by
  obtain ⟨fd, F, G⟩ := D.ex
  obtain ⟨g, hbd⟩ := hb fd F
  exact pe_callN G (hr.mono hj) hg hm F.kp hbd pass0 ha hkw hall hks hdb he hpl
/-- keywords alone -/
theorem pcK0 (D : DOk X.prog X.w X.K X.mg X.base d CX0 k ps sp) (hm : X.mg x = some (.ref (He.fAd X.K d.at_))) (hb : BdK X.K d ps 0 ks gV) (hr : Room j X.A) (hj : k ≤ j) (hkw : PK X kws tk) (hg : Gl X x := by rfl)
    (hall : (backToKw pos (keywordEach kws X.env)).all (·.1.isSome) = true := by rfl) (hks : (backToKw pos (keywordEach kws X.env)).filterMap (·.1) = ks := by rfl)
    (hdb : (x == ("__debug__" : Str)) = false := by decide)
    (hpl : ((backTo pos (starEach [] X.env)).any (·.1) || (backToKw pos (keywordEach kws X.env)).any (·.1.isNone)) = false := by rfl) :
    PE X (.Call (.Name x p) [] kws pos) (tCallN 0 ks.length sp gV E0 tNil tk) := by
  obtain ⟨fd, F, G⟩ := D.ex
  obtain ⟨g, hbd⟩ := hb fd F
  refine ⟨fun pins s σ H Q I h => ?_⟩
  refine wpAny_Call_Name_kw (ld_glob I hg hm ?_ hdb)
  refine PySem.W.callWith_KW0 (h₀ := X.base) I.ok.mod.kin F.kp hall ?_ hpl
  refine thn (hkw.run pos pins s σ H _ I h) fun ws s2 ⟨zs, H2, I2, rz, l1, l2, q2⟩ => ⟨I2.kIn, ?_⟩
  rw [hks]
  exact run_fnN (us := []) (vs := []) G (hr.mono hj) hbd pass0 I2 .nil rz l1 l2 q2
end
end
end Gx

namespace Gx
open PySem PySem.Spec PyProof.Rows L2
/-! ### steps: what a reading asks, construct by construct -/
section
variable {K : PySem.W.Frag} {H : Hp} {σ : L2.St} {Q : VK} {QT : Bool → Hp → Prop} {QA : List V → Hp → Prop} {v x y : V} {i j : Int} {n : Nat} {ta tb te tc : TE} {t u : TT} {tA tR : TA} {r r' : R2} {tS uS : TS} {nx : L2.St → Hp → Prop} {rt : VK} {bk ct : L2.St → Hp → Prop} {a p C : Addr} {xs : List V} {M : List Cell} {fs : List Fact}
theorem s_var (h : σ[n]? = some (some v)) (k : Q v H) : tVar n σ H Q := ⟨v, h, k⟩
theorem s_c (k : Q v H) : tC v σ H Q := k
theorem s_op (k : ta σ H fun x H1 => tb σ H1 fun y H2 => r x y H2 Q) : tOp r ta tb σ H Q := k
theorem s_un {r : V → Hp → VK → Prop} (k : ta σ H fun x H1 => r x H1 Q) : tUn r ta σ H Q := k
theorem s_test (k : te σ H fun x H' => ∃ k, x = .bl k ∧ QT k H') : tTest te σ H QT := k
theorem s_B (k : te σ H fun x H' => ∃ k, x = .bl k ∧ QT k H') : tB te σ H QT := k
theorem s_bl {b : Bool} {R : Bool → Prop} (k : R b) : ∃ k, V.bl b = .bl k ∧ R k := ⟨b, rfl, k⟩
theorem s_and (k : t σ H fun c H1 => if c = true then u σ H1 QT else QT false H1) : tAnd t u σ H QT := k
theorem s_or (k : t σ H fun c H1 => if c = true then QT true H1 else u σ H1 QT) : tOr t u σ H QT := k
theorem s_not (k : t σ H fun c H1 => QT (!c) H1) : tNot t σ H QT := k
theorem s_andV (k : ta σ H fun x H1 => ∃ c, x = .bl c ∧ if c = true then tb σ H1 Q else Q (.bl false) H1) : tAndV ta tb σ H Q := k
theorem s_orV (k : ta σ H fun x H1 => ∃ c, x = .bl c ∧ if c = true then Q (.bl true) H1 else tb σ H1 Q) : tOrV ta tb σ H Q := k
theorem s_notV (k : ta σ H fun x H1 => ∃ c, x = .bl c ∧ Q (.bl (!c)) H1) : tNotV ta σ H Q := k
theorem s_if (k : t σ H fun c H1 => if c = true then ta σ H1 Q else tb σ H1 Q) : tIf t ta tb σ H Q := k
theorem s_cb {r : List V → Hp → VK → Prop} (k : tA σ H fun vs H1 => r vs H1 Q) : tCB r tA σ H Q := k
theorem s_nil (k : QA [] H) : tNil σ H QA := k
theorem s_cons (k : te σ H fun x H1 => tA σ H1 fun xs H2 => QA (x :: xs) H2) : tCons te tA σ H QA := k
theorem s_call {sp : Sp} {dvs : List V} {E : XK} (k : tA σ H fun vs H1 => sp (vs ++ dvs) H1 Q E) : tCall sp dvs E tA σ H Q := k
def RTup (xs : List V) (H : Hp) (Q : VK) : Prop := xs.length ≤ sizeLine ∧ ∀ p, H p = none → Q (.ref p) (upd H p (.tup xs))
def RLst (xs : List V) (H : Hp) (Q : VK) : Prop := xs.length ≤ sizeLine ∧ ∀ p, H p = none → Q (.ref p) (upd H p (.lst xs))
theorem s_tup (k : tA σ H fun xs H1 => RTup xs H1 Q) : tTup tA σ H Q := k
theorem s_lst (k : tA σ H fun xs H1 => RLst xs H1 Q) : tLst tA σ H Q := k
theorem r_tup (kn : Kn M fs H) (hl : xs.length ≤ sizeLine) (k : ∀ p, Kn M (fO p (.tup xs) :: fs) (upd H p (.tup xs)) → Q (.ref p) (upd H p (.tup xs))) : RTup xs H Q := ⟨hl, fun p hp => k p (kn.newT hp)⟩
theorem r_lst (kn : Kn M fs H) (hl : xs.length ≤ sizeLine) (k : ∀ p, Kn M (fO p (.lst xs) :: fs) (upd H p (.lst xs)) → Q (.ref p) (upd H p (.lst xs))) : RLst xs H Q := ⟨hl, fun p hp => k p (kn.newL hp)⟩
theorem r_lstM (kn : Kn M fs H) (hl : xs.length ≤ sizeLine) (k : ∀ p, Kn ((p, isL xs) :: M) fs (upd H p (.lst xs)) → Q (.ref p) (upd H p (.lst xs))) : RLst xs H Q := ⟨hl, fun p hp => k p (kn.newML hp)⟩
theorem s_seq (k : tS (Ends.mk (uS (Ends.mk nx rt bk ct)) rt bk ct) σ H) : tSeq tS uS (Ends.mk nx rt bk ct) σ H := k
theorem s_ret (k : te σ H rt) : tRet te (Ends.mk nx rt bk ct) σ H := k
theorem s_retN (k : rt .non H) : tRetN (Ends.mk nx rt bk ct) σ H := k
theorem s_next (k : nx σ H) : tNext (Ends.mk nx rt bk ct) σ H := k
theorem s_brk (k : bk σ H) : tBreak (Ends.mk nx rt bk ct) σ H := k
theorem s_cnt (k : ct σ H) : tCont (Ends.mk nx rt bk ct) σ H := k
theorem s_drop (k : te σ H fun _ H1 => nx σ H1) : tDrop te (Ends.mk nx rt bk ct) σ H := k
theorem s_ifS (k : t σ H fun b H1 => if b = true then tS (Ends.mk nx rt bk ct) σ H1 else uS (Ends.mk nx rt bk ct) σ H1) : tIfS t tS uS (Ends.mk nx rt bk ct) σ H := k
theorem s_asg {g : TG} (k : te σ H fun x H1 => g x σ H1 nx) : tAsg te g (Ends.mk nx rt bk ct) σ H := k
theorem g_name {w : L2.St → Hp → Prop} (k : w (σ.set n (some v)) H) : gName n v σ H w := k
theorem g_nameE {σ' : L2.St} {w : L2.St → Hp → Prop} (e : σ.set n (some v) = σ') (k : w σ' H) : gName n v σ H w := by subst e; exact k
def RPar (n m : Nat) (σ : L2.St) (nx : L2.St → Hp → Prop) (vs : List V) (H : Hp) : Prop := ∃ v w, vs = [v, w] ∧ nx ((σ.set n (some v)).set m (some w)) H
theorem r_par {m : Nat} {v w : V} {σ' : L2.St} (e : (σ.set n (some v)).set m (some w) = σ') (k : nx σ' H) : RPar n m σ nx [v, w] H := ⟨v, w, rfl, by rw [e]; exact k⟩
theorem s_par {m : Nat} (k : tA σ H fun vs H1 => RPar n m σ nx vs H1) : tPar n m tA (Ends.mk nx rt bk ct) σ H := k
theorem s_par2 {v w : V} {R : V → V → Prop} (k : R v w) : ∃ v' w', [v, w] = [v', w'] ∧ R v' w' := ⟨v, w, rfl, k⟩
-- operators by values
theorem s_I0 {g : Int → Int → V} (k : Q (g i j) H) : rI0 g (.int i) (.int j) H Q := ⟨i, j, rfl, rfl, k⟩
theorem s_I {c : Int → Int → Prop} {g : Int → Int → V} (hc : c i j) (k : Q (g i j) H) : rI c g (.int i) (.int j) H Q := ⟨i, j, rfl, rfl, hc, k⟩
theorem s_U {g : Int → V} (k : Q (g i) H) : rU g (.int i) H Q := ⟨i, rfl, k⟩
theorem dec_int : decide (V.int i = V.int j) = decide (i = j) := by
  by_cases e : i = j
  · rw [decide_eq_true e, decide_eq_true (congrArg V.int e)]
  · rw [decide_eq_false e, decide_eq_false fun z => e (V.int.inj z)]
theorem dec_bl {b c : Bool} : decide (V.bl b = V.bl c) = decide (b = c) := by
  cases b <;> cases c <;> decide
theorem dec_str {b c : Str} : decide (V.str b = V.str c) = decide (b = c) := by
  by_cases e : b = c
  · rw [decide_eq_true e, decide_eq_true (congrArg V.str e)]
  · rw [decide_eq_false e, decide_eq_false fun z => e (V.str.inj z)]
theorem s_eqI (k : Q (.bl (decide (i = j))) H) : rEq (.int i) (.int j) H Q := ⟨rfl, by rw [dec_int]; exact k⟩
theorem s_neI (k : Q (.bl (!decide (i = j))) H) : rNe (.int i) (.int j) H Q := ⟨rfl, by rw [dec_int]; exact k⟩
theorem s_eqB {b c : Bool} (k : Q (.bl (decide (b = c))) H) : rEq (.bl b) (.bl c) H Q := ⟨rfl, by rw [dec_bl]; exact k⟩
theorem s_neB {b c : Bool} (k : Q (.bl (!decide (b = c))) H) : rNe (.bl b) (.bl c) H Q := ⟨rfl, by rw [dec_bl]; exact k⟩
theorem s_eqS {b c : Str} (k : Q (.bl (decide (b = c))) H) : rEq (.str b) (.str c) H Q := ⟨rfl, by rw [dec_str]; exact k⟩
theorem s_neS {b c : Str} (k : Q (.bl (!decide (b = c))) H) : rNe (.str b) (.str c) H Q := ⟨rfl, by rw [dec_str]; exact k⟩
theorem s_ixTn {m : Nat} [OfNat Int m] (kn : Kn M fs H) (h : fO p (.tup xs) ∈ fs) (e : atI xs (OfNat.ofNat m) = some v) (k : Q v H) : rIxT K (.ref p) (.int (OfNat.ofNat m)) H Q := ⟨p, xs, _, v, rfl, rfl, kn.sqt h, e, k⟩
theorem s_ixLn {m : Nat} [OfNat Int m] (kn : Kn M fs H) (h : fO p (.lst xs) ∈ fs) (e : atI xs (OfNat.ofNat m) = some v) (k : Q v H) : rIxL K (.ref p) (.int (OfNat.ofNat m)) H Q := ⟨p, xs, _, v, rfl, rfl, kn.sql h, e, k⟩
theorem s_ixT (kn : Kn M fs H) (h : fO p (.tup xs) ∈ fs) (e : atI xs i = some v) (k : Q v H) : rIxT K (.ref p) (.int i) H Q := ⟨p, xs, i, v, rfl, rfl, kn.sqt h, e, k⟩
theorem s_ixL (kn : Kn M fs H) (h : fO p (.lst xs) ∈ fs) (e : atI xs i = some v) (k : Q v H) : rIxL K (.ref p) (.int i) H Q := ⟨p, xs, i, v, rfl, rfl, kn.sql h, e, k⟩
/-- an item at a drawn place of a list of ints -/
def unI : V → Int
  | .int i => i
  | _ => 0
theorem s_ixR (kn : Kn M fs H) (h : fO p (.lst xs) ∈ fs) (e : xs = (xs.map unI).map V.int) (h0 : 0 ≤ i) (h1 : i < (xs.length : Int)) (k : ∀ z, z ∈ xs.map unI → Q (.int z) H) : rIxL K (.ref p) (.int i) H Q := by
  obtain ⟨z, e2, hz⟩ := atI_ints (ns := xs.map unI) h0 (by rw [List.length_map]; exact h1)
  rw [← e] at e2
  exact ⟨p, xs, i, _, rfl, rfl, kn.sql h, e2, k z hz⟩
theorem s_setL (kn : Kn ((p, isL xs) :: M) fs H) {w : Hp → Prop} {m : Nat} (e : ixN xs.length i = some m) (k : Kn ((p, isL (xs.set m v)) :: M) fs (upd H p (.lst (xs.set m v))) → w (upd H p (.lst (xs.set m v)))) : rSetL (.ref p) (.int i) v H w :=
  ⟨p, xs, i, m, rfl, rfl, kn.lst, e, k (kn.set rfl)⟩
theorem g_sub {to ti : TE} {s : TSet} {w : L2.St → Hp → Prop} (k : to σ H fun o H1 => ti σ H1 fun i H2 => s o i v H2 fun H3 => w σ H3) : gSub to ti s v σ H w := k
theorem s_ixMn {m : Nat} [OfNat Int m] (kn : Kn ((p, isL xs) :: M) fs H) (e : atI xs (OfNat.ofNat m) = some v) (k : Q v H) : rIxL K (.ref p) (.int (OfNat.ofNat m)) H Q := ⟨p, xs, _, v, rfl, rfl, SqL.of kn.lst, e, k⟩
theorem s_ixM (kn : Kn ((p, isL xs) :: M) fs H) (e : atI xs i = some v) (k : Q v H) : rIxL K (.ref p) (.int i) H Q := ⟨p, xs, i, v, rfl, rfl, SqL.of kn.lst, e, k⟩
theorem s_self {α : Type} {z : α} {A : Prop} (k : A) : z = z ∧ A := ⟨rfl, k⟩
theorem s_ref {R : Addr → Prop} (k : R p) : ∃ q, V.ref p = .ref q ∧ R q := ⟨p, rfl, k⟩
theorem s_12 {R : Int → Int → Prop} (k : R i j) : ∃ a b, ([V.int i, V.int j] : List V) = [.int a, .int b] ∧ R a b := ⟨i, j, rfl, k⟩
theorem s_1 {R : Int → Prop} (k : R i) : ∃ a, ([V.int i] : List V) = [.int a] ∧ R a := ⟨i, rfl, k⟩
theorem g_tup {m : Nat} {gs : TGs} {w : L2.St → Hp → Prop} (kn : Kn M fs H) (h : fO p (.tup xs) ∈ fs) (hl : xs.length = m) (k : gs xs σ H w) : gTup K m gs (.ref p) σ H w := ⟨p, xs, rfl, kn.sqt h, hl, k⟩
theorem g_nil {w : L2.St → Hp → Prop} (k : w σ H) : gNil [] σ H w := ⟨rfl, k⟩
theorem g_cons {g : TG} {gs : TGs} {w : L2.St → Hp → Prop} (k : g v σ H fun σ' H' => gs xs σ' H' w) : gCons g gs (v :: xs) σ H w := ⟨v, xs, rfl, k⟩
theorem s_catT (kn : Kn M fs H) {ys : List V} {q : Addr} (h1 : fO p (.tup xs) ∈ fs) (h2 : fO q (.tup ys) ∈ fs) (n1 : xs ≠ []) (n2 : ys ≠ []) (hl : xs.length + ys.length ≤ sizeLine) (k : ∀ o, Kn M (fO o (.tup (xs ++ ys)) :: fs) (upd H o (.tup (xs ++ ys))) → Q (.ref o) (upd H o (.tup (xs ++ ys)))) : rCatT K (.ref p) (.ref q) H Q :=
  ⟨p, q, xs, ys, rfl, rfl, kn.sqt h1, kn.sqt h2, n1, hl, fun z => absurd z n2, fun _ o ho => k o (kn.newT ho)⟩
theorem s_lenL (kn : Kn M fs H) (h : fO p (.lst xs) ∈ fs) {R : List V → Prop} (k : R xs) : ∃ q ys, ([V.ref p] : List V) = [.ref q] ∧ (SqL K H q ys ∨ SqT K H q ys) ∧ R ys := ⟨p, xs, rfl, .inl (kn.sql h), k⟩
theorem s_lenL' (kn : Kn M fs H) (h : fL K p xs ∈ fs) {R : List V → Prop} (k : R xs) : ∃ q ys, ([V.ref p] : List V) = [.ref q] ∧ (SqL K H q ys ∨ SqT K H q ys) ∧ R ys := ⟨p, xs, rfl, .inl (kn.sql' h), k⟩
theorem s_lenT (kn : Kn M fs H) (h : fO p (.tup xs) ∈ fs) {R : List V → Prop} (k : R xs) : ∃ q ys, ([V.ref p] : List V) = [.ref q] ∧ (SqL K H q ys ∨ SqT K H q ys) ∧ R ys := ⟨p, xs, rfl, .inr (kn.sqt h), k⟩
theorem s_int1 {R : Int → Prop} {R' : Bool → Prop} (k : R i) : (∃ a, ([V.int i] : List V) = [.int a] ∧ R a) ∨ ∃ b, ([V.int i] : List V) = [.bl b] ∧ R' b := .inl ⟨i, rfl, k⟩
theorem s_intB {b : Bool} {R : Int → Prop} {R' : Bool → Prop} (k : R' b) : (∃ a, ([V.bl b] : List V) = [.int a] ∧ R a) ∨ ∃ c, ([V.bl b] : List V) = [.bl c] ∧ R' c := .inr ⟨b, rfl, k⟩
-- isinstance
theorem isiB {T A : String} {b : Bool} (ht : TyOf K H x (.type T)) (hk : kitB T A = some b) (k : Q (.bl b) H) : rIsi K [x, .ty A] H Q := ⟨x, .ty A, .type T, .type A, b, rfl, .ty A, .base ht, kit_ty hk, k⟩
theorem kB1 : kitB "int" "int" = some true := by decide +kernel
theorem kB2 : kitB "int" "bool" = some false := by decide +kernel
theorem kB3 : kitB "bool" "bool" = some true := by decide +kernel
theorem kB4 : kitB "bool" "int" = some true := by decide +kernel
theorem kB5 : kitB "str" "str" = some true := by decide +kernel
theorem kB6 : kitB "tuple" "tuple" = some true := by decide +kernel
theorem kB7 : kitB "NoneType" "bool" = some false := by decide +kernel
theorem kB8 : kitB "NoneType" "int" = some false := by decide +kernel
theorem kB9 : kitB "NoneType" "tuple" = some false := by decide +kernel
theorem kB10 : kitB "str" "int" = some false := by decide +kernel
theorem isi_int_int (k : Q (.bl true) H) : rIsi K [.int i, .ty "int"] H Q := isiB (.int i) kB1 k
theorem isi_int_bool (k : Q (.bl false) H) : rIsi K [.int i, .ty "bool"] H Q := isiB (.int i) kB2 k
theorem isi_bool_bool {b : Bool} (k : Q (.bl true) H) : rIsi K [.bl b, .ty "bool"] H Q := isiB (.bl b) kB3 k
theorem isi_str_str {b : Str} (k : Q (.bl true) H) : rIsi K [.str b, .ty "str"] H Q := isiB (.str b) kB5 k
theorem isi_tup_tup (kn : Kn M fs H) (h : fO p (.tup xs) ∈ fs) (k : Q (.bl true) H) : rIsi K [.ref p, .ty "tuple"] H Q := isiB (.tup (kn.obj h)) kB6 k
theorem isi_non_cls (e : PySem.W.kitOne K (.type "NoneType") (.ref C) = some false) (k : Q (.bl false) H) : rIsi K [.non, .ref C] H Q := ⟨.non, .ref C, _, _, false, rfl, .own C, .base .non, e, k⟩
/-- what makes an instance of C one of C -/
structure InsK (K : PySem.W.Frag) (C : Addr) : Prop where
  cl : Cls K C
  ha : PySem.W.findIn K (.ref C) "__class__" = some (some (.builtin "object.__class__"))
  hn : PySem.W.specialIn K (.builtin "object.__class__") "__get__" = some (some (.builtin "getset_descriptor.__get__"))
  htk : PySem.W.takesIn K (.builtin "object.__class__") = some true
  hm : PySem.W.mroIn K C (.type "object") = some true
theorem isi_ins_cls (I : InsK K C) {dx : Addr} {fl : List (Str × V)} (ho : H p = some (.ins C dx fl)) (k : Q (.bl true) H) : rIsi K [.ref p, .ref C] H Q :=
  ⟨.ref p, .ref C, .ref C, .ref C, true, rfl, .own C, .base (.ins ho I.cl I.ha I.hn I.htk I.hm), by unfold PySem.W.kitOne; rw [if_pos (by simp)], k⟩
theorem s_chain (k : ta σ H fun x H1 => tb σ H1 fun y H2 => r x y H2 fun z H3 => ∃ k, z = .bl k ∧ if k = true then tc σ H3 fun w H4 => r' y w H4 Q else Q (.bl false) H3) : tChain r r' ta tb tc σ H Q := by
  unfold tChain
  exact k
end
end Gx

namespace Gx
open PySem PySem.Spec PyProof.Rows L2
theorem Kn.exact {p : Addr} {Pr : HO → Prop} {M : List Cell} {fs : List Fact} {H : Hp} (k : Kn ((p, Pr) :: M) fs H) : ∃ o, Pr o ∧ Kn ((p, fun u => u = o) :: M) fs H := by
  obtain ⟨o, h1, h2⟩ := k.cell
  refine ⟨o, h2, fun x hx => ?_, k.nd, k.fac⟩
  rcases List.mem_cons.mp hx with rfl | hx
  · exact ⟨o, h1, rfl⟩
  · exact k.cel x (List.mem_cons_of_mem _ hx)
theorem Kn.cons {M : List Cell} {fs gs : List Fact} {H : Hp} (k : Kn M (gs ++ fs) H) : Kn M fs H := k.sub fun _ h => List.mem_append_right _ h
/-! ### fields, new instances -/
section
variable {K : PySem.W.Frag} {H : Hp} {σ : L2.St} {Q : VK} {E : XK} {v x y : V} {i j : Int} {n m : Nat} {ta tb te tc : TE} {tA tK : TA} {nx : L2.St → Hp → Prop} {rt : VK} {bk ct : L2.St → Hp → Prop} {a p C : Addr} {xs : List V} {M : List Cell} {fs : List Fact} {f : Str} {sp : Sp}
def RFld (K : PySem.W.Frag) (f : Str) (x : V) (H : Hp) (Q : VK) : Prop := ∃ a C dx fs v, x = .ref a ∧ H a = some (.ins C dx fs) ∧ Cls K C ∧ NoAttr K C f ∧ fs.lookup f = some v ∧ Q v H
theorem s_fld (k : ta σ H fun x H1 => RFld K f x H1 Q) : tFld K ta f σ H Q := k
def RSfld (K : PySem.W.Frag) (f : Str) (y x : V) (H : Hp) (Q : Hp → Prop) : Prop := ∃ a C dx fs, x = .ref a ∧ H a = some (.ins C dx fs) ∧ Cls K C ∧ NoAttr K C f ∧ fs.length < 1000 ∧ Q (upd H a (.ins C dx (putF f y fs)))
theorem s_sfld {tv : TE} (k : tv σ H fun y H1 => ta σ H1 fun x H2 => RSfld K f y x H2 fun H3 => nx σ H3) : sFld K ta tv f (Ends.mk nx rt bk ct) σ H := k
/-- an instance being made -/
def isI (C dx : Addr) (fl : List (Str × V)) : HO → Prop := fun o => o = .ins C dx fl
theorem r_sfld {dx : Addr} {fl : List (Str × V)} {W : Hp → Prop} (kn : Kn ((p, isI C dx fl) :: M) fs H) (c : Cls K C) (no : NoAttr K C f) (hl : fl.length < 1000) (k : ∀ H', Kn ((p, isI C dx (putF f y fl)) :: M) fs H' → W H') : RSfld K f y (.ref p) H W := by
  obtain ⟨o, h1, h2⟩ := kn.cell
  have h3 : o = .ins C dx fl := h2
  subst h3
  exact ⟨p, C, dx, fl, rfl, h1, c, no, hl, k _ (kn.set rfl)⟩
def RMk (C : Addr) (sp : Sp) (args : Addr → List V) (H : Hp) (Q : VK) (E : XK) : Prop := ∀ x dx, H x = none → H dx = none → dx ≠ x → sp (args x) (upd (upd H dx (.own x)) x (.ins C dx [])) (fun v H2 => v = .non ∧ Q (.ref x) H2) E
theorem s_make {dvs : List V} (k : tA σ H fun vs H1 => RMk C sp (fun x => .ref x :: (vs ++ dvs)) H1 Q E) : tMake C sp dvs E tA σ H Q := k
def RMkN (C : Addr) (n m : Nat) (sp : Sp) (gV : List V → List V → List V) (vs zs : List V) (H : Hp) (Q : VK) (E : XK) : Prop := vs.length = n ∧ zs.length = m ∧ RMk C sp (fun x => gV (.ref x :: vs) zs) H Q E
theorem s_makeN {gV : List V → List V → List V} (k : tA σ H fun vs H1 => tK σ H1 fun zs H2 => RMkN C n m sp gV vs zs H2 Q E) : tMakeN C n m sp gV E tA tK σ H Q := k
theorem r_mkN {gV : List V → List V → List V} {vs zs : List V} (h1 : vs.length = n) (h2 : zs.length = m) (k : RMk C sp (fun x => gV (.ref x :: vs) zs) H Q E) : RMkN C n m sp gV vs zs H Q E := ⟨h1, h2, k⟩
theorem Kn.newI (kn : Kn M fs H) {x dx : Addr} (hx : H x = none) (hdx : H dx = none) (ne : dx ≠ x) : Kn ((x, isI C dx []) :: M) fs (upd (upd H dx (.own x)) x (.ins C dx [])) := by
  have k1 : Kn M fs (upd H dx (.own x)) := kn.same (same_new hdx)
  exact k1.newM (by rw [upd_ne fun e => ne e.symm]; exact hx) rfl
theorem s_callN {gV : List V → List V → List V} (k : tA σ H fun vs H1 => tK σ H1 fun zs H2 => vs.length = n ∧ zs.length = m ∧ sp (gV vs zs) H2 Q E) : tCallN n m sp gV E tA tK σ H Q := k
theorem r_len2 {vs zs : List V} {A : Prop} (h1 : vs.length = n) (h2 : zs.length = m) (k : A) : vs.length = n ∧ zs.length = m ∧ A := ⟨h1, h2, k⟩
end
/-! ### loops -/
section
variable {K : PySem.W.Frag} {H : Hp} {σ : L2.St} {Q : VK} {v x : V} {tl : TE} {tA : TA} {g : TG} {tb : TS} {nx : L2.St → Hp → Prop} {rt : VK} {bk ct : L2.St → Hp → Prop} {a p : Addr} {xs : List V} {M : List Cell} {fs : List Fact}
/-- what a for over a thing asks once the thing is known -/
def RFor (J : It) (g : TG) (tb : TS) (nx : L2.St → Hp → Prop) (rt : VK) (bk ct : L2.St → Hp → Prop) (σ : L2.St) (H : Hp) : Prop :=
  ∃ W : Nat → Nat → L2.St → Hp → Prop, (∃ m, W 0 m σ H) ∧ ∀ i m σ H, W i m σ H →
  (J.stop i H ∧ nx σ H) ∨ (J.go i H ∧ ∃ N : L2.St → Hp → Prop, (∀ σ' H', N σ' H' → ∃ m', m' < m ∧ W (i + 1) m' σ' H') ∧ ∀ x H', J.yld i H x H' → g x σ H' fun σ2 H2 => tb (Ends.mk N rt nx N) σ2 H2)
def RForT (K : PySem.W.Frag) (g : TG) (tb : TS) (nx : L2.St → Hp → Prop) (rt : VK) (bk ct : L2.St → Hp → Prop) (σ : L2.St) (x : V) (H : Hp) : Prop := ∃ a, x = .ref a ∧ (∃ xs, SqT K H a xs) ∧ RFor (Itt K a) g tb nx rt bk ct σ H
def RForL (K : PySem.W.Frag) (g : TG) (tb : TS) (nx : L2.St → Hp → Prop) (rt : VK) (bk ct : L2.St → Hp → Prop) (σ : L2.St) (x : V) (H : Hp) : Prop := ∃ a, x = .ref a ∧ (∃ xs, SqL K H a xs) ∧ RFor (Itl K a) g tb nx rt bk ct σ H
theorem s_forT (k : tl σ H fun x H1 => RForT K g tb nx rt bk ct σ x H1) : tFor (iTup K tl) g tb (Ends.mk nx rt bk ct) σ H := k
theorem s_forL (k : tl σ H fun x H1 => RForL K g tb nx rt bk ct σ x H1) : tFor (iList K tl) g tb (Ends.mk nx rt bk ct) σ H := k
/-- a loop over known items, turn by turn; the thing that is walked stands still: S -/
def FU (S : Hp → Prop) (g : TG) (tb : TS) (nx : L2.St → Hp → Prop) (rt : VK) : List V → L2.St → Hp → Prop
  | [], σ, H => nx σ H
  | x :: r, σ, H => g x σ H fun σ2 H2 => tb (Ends.mk (fun σ3 H3 => S H3 ∧ FU S g tb nx rt r σ3 H3) rt nx (fun σ3 H3 => S H3 ∧ FU S g tb nx rt r σ3 H3)) σ2 H2
theorem fu_nil {S : Hp → Prop} (k : nx σ H) : FU S g tb nx rt [] σ H := k
theorem fu_cons {S : Hp → Prop} {r : List V} (k : g x σ H fun σ2 H2 => tb (Ends.mk (fun σ3 H3 => S H3 ∧ FU S g tb nx rt r σ3 H3) rt nx (fun σ3 H3 => S H3 ∧ FU S g tb nx rt r σ3 H3)) σ2 H2) : FU S g tb nx rt (x :: r) σ H := k
theorem drop_get {α : Type} {xs : List α} {i : Nat} {x : α} (h : xs[i]? = some x) : xs.drop i = x :: xs.drop (i + 1) := by
  have hl := (List.getElem?_eq_some_iff.mp h).1
  have e := (List.getElem?_eq_some_iff.mp h).2
  rw [List.drop_eq_getElem_cons hl, e]
theorem r_forTU (kn : Kn M fs H) (h : fO p (.tup xs) ∈ fs) (k : FU (fun H' => SqT K H' p xs) g tb nx rt xs σ H) : RForT K g tb nx rt bk ct σ (.ref p) H := by
  refine ⟨p, rfl, ⟨xs, kn.sqt h⟩, for_tup (D := Ends.mk nx rt bk ct) (xs := xs) (fun i σ H => SqT K H p xs ∧ FU (fun H' => SqT K H' p xs) g tb nx rt (xs.drop i) σ H) ⟨kn.sqt h, k⟩ (fun i σ H _ q => q.1) (fun i x σ H hx q => ?_) (fun σ H q => ?_)⟩
  · have q2 := q.2
    rw [drop_get hx] at q2
    exact q2
  · have q2 := q.2
    rw [List.drop_length] at q2
    exact q2
theorem r_forLU (kn : Kn M fs H) (h : fO p (.lst xs) ∈ fs) (k : FU (fun H' => SqL K H' p xs) g tb nx rt xs σ H) : RForL K g tb nx rt bk ct σ (.ref p) H := by
  refine ⟨p, rfl, ⟨xs, kn.sql h⟩, for_list (D := Ends.mk nx rt bk ct) (xs := xs) (fun i σ H => SqL K H p xs ∧ FU (fun H' => SqL K H' p xs) g tb nx rt (xs.drop i) σ H) ⟨kn.sql h, k⟩ (fun i σ H _ q => q.1) (fun i x σ H hx q => ?_) (fun σ H q => ?_)⟩
  · have q2 := q.2
    rw [drop_get hx] at q2
    exact q2
  · have q2 := q.2
    rw [List.drop_length] at q2
    exact q2
theorem fu_endT {S : Hp → Prop} {A : Prop} (h1 : S H) (k : A) : S H ∧ A := ⟨h1, k⟩
end
/-! ### slices, comprehensions -/
section
variable {K : PySem.W.Frag} {H : Hp} {σ : L2.St} {Q : VK} {v x : V} {te tl : TE} {t : TT} {tA : TA} {g : TG} {a p : Addr} {xs : List V} {M : List Cell} {fs : List Fact} {vs : List Nat}
/-- [e for x in xs]: the list at D in a cell of its own -/
def RLcL (K : PySem.W.Frag) (g : TG) (t : TT) (te : TE) (vs : List Nat) (σ : L2.St) (x : V) (H : Hp) (Q : VK) : Prop := ∃ a, x = .ref a ∧ (∃ xs, SqL K H a xs) ∧ ∀ D, H D = none → ∃ W : Nat → Nat → Hp → Prop, (∃ m, W 0 m (upd H D (.lst []))) ∧ ∀ i m H, W i m H →
  ((Itl K a).stop i H ∧ Q (.ref D) H) ∨ ((Itl K a).go i H ∧ ∃ Nx : Hp → Prop, (∀ H', Nx H' → ∃ m', m' < m ∧ W (i + 1) m' H') ∧ ∀ x H', (Itl K a).yld i H x H' → g x (wipe σ vs) H' fun σ2 H2 => wipe σ2 vs = wipe σ vs ∧ t σ2 H2 fun b H3 =>
    if b = true then te σ2 H3 fun y H4 => ∃ acc, H4 D = some (.lst acc) ∧ acc.length < sizeLine ∧ Nx (upd H4 D (.lst (acc ++ [y]))) else Nx H3)
theorem s_lcL (k : tl σ H fun x H1 => RLcL K g t te vs σ x H1 Q) : tLc (iList K tl) g t te vs σ H Q := k
def RLcR (g : TG) (t : TT) (te : TE) (vs : List Nat) (σ : L2.St) (lo : Int) (n : Nat) (H : Hp) (Q : VK) : Prop := ∀ D, H D = none → ∃ W : Nat → Nat → Hp → Prop, (∃ m, W 0 m (upd H D (.lst []))) ∧ ∀ i m H, W i m H →
  ((Itr lo n).stop i H ∧ Q (.ref D) H) ∨ ((Itr lo n).go i H ∧ ∃ Nx : Hp → Prop, (∀ H', Nx H' → ∃ m', m' < m ∧ W (i + 1) m' H') ∧ ∀ x H', (Itr lo n).yld i H x H' → g x (wipe σ vs) H' fun σ2 H2 => wipe σ2 vs = wipe σ vs ∧ t σ2 H2 fun b H3 =>
    if b = true then te σ2 H3 fun y H4 => ∃ acc, H4 D = some (.lst acc) ∧ acc.length < sizeLine ∧ Nx (upd H4 D (.lst (acc ++ [y]))) else Nx H3)
theorem s_lcR1 (k : tA σ H fun ws H1 => ∃ j : Int, ws = [.int j] ∧ -(2 ^ 62) ≤ j ∧ j < 2 ^ 62 ∧ RLcR g t te vs σ 0 j.toNat H1 Q) : tLc (iRng1 tA) g t te vs σ H Q := k
def PvF (M : List Cell) (fs : List Fact) (D : Addr) (Pv : Nat → List V → Prop) (i : Nat) (H : Hp) : Prop := ∃ acc, Pv i acc ∧ Kn ((D, isL acc) :: M) fs H
def RLcE (D : Addr) (N : Hp → Prop) (y : V) (H : Hp) : Prop := ∃ acc, H D = some (.lst acc) ∧ acc.length < sizeLine ∧ N (upd H D (.lst (acc ++ [y])))
theorem r_lcE {D : Addr} {acc : List V} {y : V} {i : Nat} {fs' : List Fact} {Pv : Nat → List V → Prop} (kn : Kn ((D, isL acc) :: M) fs' H) (hsub : ∀ f ∈ fs, f ∈ fs') (hl : acc.length < sizeLine) (k : Pv (i + 1) (acc ++ [y])) : RLcE D (PvF M fs D Pv (i + 1)) y H :=
  ⟨acc, kn.lst, hl, _, k, (kn.sub hsub).set rfl⟩
theorem r_lcL (kn : Kn M fs H) (hx : ∀ {M H}, Kn M fs H → SqL K H p xs) (Pv : Nat → List V → Prop) (h0 : Pv 0 [])
    (hs : ∀ i x D acc H', xs[i]? = some x → Pv i acc → Kn ((D, isL acc) :: M) fs H' → g x (wipe σ vs) H' fun σ2 H2 => wipe σ2 vs = wipe σ vs ∧ t σ2 H2 fun b H3 => if b = true then te σ2 H3 fun y H4 => RLcE D (PvF M fs D Pv (i + 1)) y H4 else PvF M fs D Pv (i + 1) H3)
    (hd : ∀ D acc H', Pv xs.length acc → Kn ((D, isL acc) :: M) fs H' → Q (.ref D) H') : RLcL K g t te vs σ (.ref p) H Q := by
  refine ⟨p, rfl, ⟨xs, hx kn⟩, fun D hD => lc_list (xs := xs) (PvF M fs D Pv) ⟨[], h0, kn.newML hD⟩ (fun i H' _ ⟨acc, _, k⟩ => hx k) (fun i x H' hi ⟨acc, q, k⟩ => hs i x D acc H' hi q k) fun H' ⟨acc, q, k⟩ => hd D acc H' q k⟩
theorem r_lcR {lo : Int} {n : Nat} (kn : Kn M fs H) (Pv : Nat → List V → Prop) (h0 : Pv 0 [])
    (hs : ∀ i D acc H', i < n → Pv i acc → Kn ((D, isL acc) :: M) fs H' → g (.int (lo + i)) (wipe σ vs) H' fun σ2 H2 => wipe σ2 vs = wipe σ vs ∧ t σ2 H2 fun b H3 => if b = true then te σ2 H3 fun y H4 => RLcE D (PvF M fs D Pv (i + 1)) y H4 else PvF M fs D Pv (i + 1) H3)
    (hd : ∀ D acc H', Pv n acc → Kn ((D, isL acc) :: M) fs H' → Q (.ref D) H') : RLcR g t te vs σ lo n H Q := by
  exact fun D hD => lc_range (PvF M fs D Pv) ⟨[], h0, kn.newML hD⟩ (fun i H' hi ⟨acc, q, k⟩ => hs i D acc H' hi q k) fun H' ⟨acc, q, k⟩ => hd D acc H' q k
theorem s_yes {QT : Bool → Hp → Prop} (k : QT true H) : tYes σ H QT := k
theorem s_iteT {A B : Prop} (k : A) : if true = true then A else B := by rw [if_pos rfl]; exact k
theorem s_iteF {A B : Prop} (k : B) : if false = true then A else B := by rw [if_neg Bool.false_ne_true]; exact k
theorem s_iteNT {A B : Prop} (k : B) : if (!true) = true then A else B := by rw [if_neg (by decide)]; exact k
theorem s_iteNF {A B : Prop} (k : A) : if (!false) = true then A else B := by rw [if_pos (by decide)]; exact k
theorem s_intE {i : Int} {R : Int → Prop} (k : R i) : ∃ a, V.int i = .int a ∧ R a := ⟨i, rfl, k⟩
theorem s_wipe {σ2 : L2.St} {A : Prop} (h : wipe σ2 vs = wipe σ vs) (k : A) : wipe σ2 vs = wipe σ vs ∧ A := ⟨h, k⟩
-- slices
theorem s_sl {r : V → Option Int → Option Int → Hp → VK → Prop} {tlo thi : TO} (k : te σ H fun x H1 => tlo σ H1 fun l H2 => thi σ H2 fun u H3 => r x l u H3 Q) : tSl r te tlo thi σ H Q := k
theorem s_noP {W : Option Int → Hp → Prop} (k : W none H) : tNoPart σ H W := k
theorem s_part {W : Option Int → Hp → Prop} (k : te σ H fun x H1 => ∃ i, x = .int i ∧ W (some i) H1) : tPart te σ H W := k
theorem s_slL {lo hi : Option Int} (kn : Kn M fs H) (h : fO p (.lst xs) ∈ fs) (k : ∀ q, Kn M (fO q (.lst (cutV xs lo hi)) :: fs) (upd H q (.lst (cutV xs lo hi))) → Q (.ref q) (upd H q (.lst (cutV xs lo hi)))) : rSlL K (.ref p) lo hi H Q := ⟨p, xs, rfl, kn.sql h, fun q hq => k q (kn.newL hq)⟩
theorem s_slL' {lo hi : Option Int} (kn : Kn M fs H) (h : fL K p xs ∈ fs) (k : ∀ q, Kn M (fO q (.lst (cutV xs lo hi)) :: fs) (upd H q (.lst (cutV xs lo hi))) → Q (.ref q) (upd H q (.lst (cutV xs lo hi)))) : rSlL K (.ref p) lo hi H Q := ⟨p, xs, rfl, kn.sql' h, fun q hq => k q (kn.newL hq)⟩
theorem s_ixL' {i : Int} (kn : Kn M fs H) (h : fL K p xs ∈ fs) (e : atI xs i = some v) (k : Q v H) : rIxL K (.ref p) (.int i) H Q := ⟨p, xs, i, v, rfl, rfl, kn.sql' h, e, k⟩
end
/-! ### spans -/
section
variable {K : PySem.W.Frag} {H : Hp} {σ : L2.St} {Q : VK} {E : XK} {v x y : V} {a p C : Addr} {xs : List V} {M : List Cell} {fs : List Fact} {f : Str} {s u l s' u' l' : Int}
def spanF (s u l : Int) : List (Str × V) := [("size", .int s), ("above", .int u), ("below", .int l), ("low", .int (s - l)), ("high", .int (s + u))]
/-- a Span of size s, above u, below l stands at p -/
def fS (C p : Addr) (s u l : Int) : Fact := fun H => ∃ dx, H p = some (.ins C dx (spanF s u l))
theorem mn_S : Mn (fS C p s u l) := fun _ _ e ⟨dx, h⟩ => ⟨dx, e _ _ h⟩
theorem r_fldS (kn : Kn M fs H) (h : fS C p s u l ∈ fs) (c : Cls K C) (no : NoAttr K C f) (e : (spanF s u l).lookup f = some v) (k : Q v H) : RFld K f (.ref p) H Q := by
  obtain ⟨dx, ho⟩ := kn.get h
  exact ⟨p, C, dx, _, v, rfl, ho, c, no, e, k⟩
theorem isi_span (I : InsK K C) (kn : Kn M fs H) (h : fS C p s u l ∈ fs) (k : Q (.bl true) H) : rIsi K [.ref p, .ref C] H Q := by
  obtain ⟨dx, ho⟩ := kn.get h
  exact isi_ins_cls I ho k
def spSpanInit (C : Addr) : Sp := fun vs H Q _ => ∃ (M : List Cell) (fs : List Fact) (x dx : Addr) (s u l : Int), vs = [.ref x, .int s, .int u, .int l] ∧ Kn ((x, isI C dx []) :: M) fs H ∧ 0 ≤ u + l ∧ ∀ H', Kn M (fS C x s u l :: fs) H' → Q .non H'
theorem r_mkS {args : Addr → List V} (kn : Kn M fs H) (e : ∀ x, args x = [.ref x, .int s, .int u, .int l]) (h0 : 0 ≤ u + l) (k : ∀ x H', Kn M (fS C x s u l :: fs) H' → Q (.ref x) H') : RMk C (spSpanInit C) args H Q E :=
  fun x dx hx hdx ne => ⟨M, fs, x, dx, s, u, l, e x, kn.newI hx hdx ne, h0, fun H' kn' => ⟨rfl, k x H' kn'⟩⟩
theorem Kn.frzS {dx : Addr} {fl : List (Str × V)} (kn : Kn ((p, isI C dx fl) :: M) fs H) (e : fl = spanF s u l) : Kn M (fS C p s u l :: fs) H := kn.freeze mn_S fun _ o h1 h2 => by
  have h3 : o = .ins C dx fl := h2
  rw [h3, e] at h1
  exact ⟨dx, h1⟩
end
end Gx
namespace Gx
open PySem PySem.Spec PyProof.Rows L2
theorem cutV_take3 {ns : List Int} : cutV (ns.map V.int) none (some 3) = (ns.take 3).map V.int := by
  have e1 : ∀ n, HT.sIx n 0 none = 0 := fun n => rfl
  unfold cutV
  rw [e1, List.drop_zero, List.map_take]
  show List.take (HT.sIx (ns.map V.int).length (ns.map V.int).length (some 3)) _ = _
  have e2 : HT.sIx (ns.map V.int).length (ns.map V.int).length (some 3) = min 3 (ns.map V.int).length := by
    unfold HT.sIx
    simp
  rw [e2]
  by_cases h : 3 ≤ (ns.map V.int).length
  · rw [Nat.min_eq_left h]
  · rw [Nat.min_eq_right (by omega), List.take_length, List.take_of_length_le (by omega)]
theorem s_sum {K : PySem.W.Frag} {H : Hp} {Q : VK} {M : List Cell} {fs : List Fact} {p : Addr} {ns : List Int} (kn : Kn M fs H) (h : fO p (.lst (ns.map V.int)) ∈ fs) (k : Q (.int ns.sum) H) : rSum K [.ref p] H Q := ⟨p, ns, rfl, kn.sql h, k⟩
theorem kbN {K : PySem.W.Frag} {d : He.DefD} {fd : FuncData} {ps : List Str} (F : FunD K d.name d.qual d.params d.body d.scope (d.dvs K) (d.kws K) (He.fAd K d.at_) fd) (n : Nat) (ks : List Str) (g : {α : Type} → List α → List α → List α)
    (hrel : ∀ {vs zs : List V} {us ws : List Value}, Vals vs us → Vals zs ws → Vals (g vs zs) (g us ws))
    (h : ∀ (kV doc pm : Value) (an : Option Addr) (cdv ct : Value) (us ws : List Value), us.length = n → ws.length = ks.length → bindArgs (PySem.W.fnOf d.name d.qual d.params d.body d.scope .none kV doc pm an cdv ct) ⟨us, ks.zip ws⟩ = pure (ps.zip (g us ws))) (hd : d.dfl = [] := by rfl) :
    KBn K fd ps n ks (fun us ws => g us ws) (fun vs zs => g vs zs) := by
  have e : d.dvs K = [] := by unfold He.DefD.dvs; rw [hd]; rfl
  rw [e] at F
  obtain ⟨oc, od, dV, kV, doc, pm, an, cdv, ct, osl, rfl, lk, hcd, hD, hK⟩ := F.ex
  rcases hD with ⟨_, rfl⟩ | ⟨e, _⟩
  · exact ⟨fun s us ws X l1 l2 => BindsTo.of_eq (h kV doc pm an cdv ct us ws l1 l2), fun r1 r2 => hrel r1 r2⟩
  · exact absurd rfl e
/-- the purse of a law -/
def Pur : HO → Prop := fun o => ∃ a b c : Int, o = .lst [.int a, .int b, .int c] ∧ 0 ≤ a ∧ a < 2147483399 ∧ 0 ≤ b
theorem Kn.pur {p : Addr} {M : List Cell} {fs : List Fact} {H : Hp} (k : Kn ((p, Pur) :: M) fs H) : ∃ a b c : Int, (0 ≤ a ∧ a < 2147483399 ∧ 0 ≤ b) ∧ Kn ((p, isL [.int a, .int b, .int c]) :: M) fs H := by
  obtain ⟨o, ⟨a, b, c, e, h⟩, k2⟩ := k.exact
  subst e
  exact ⟨a, b, c, h, k2⟩
theorem Kn.unpur {p : Addr} {M : List Cell} {fs : List Fact} {H : Hp} {a b c : Int} (k : Kn ((p, isL [.int a, .int b, .int c]) :: M) fs H) (h0 : 0 ≤ a) (h1 : a < 2147483399) (h2 : 0 ≤ b) : Kn ((p, Pur) :: M) fs H := k.weak fun o e => ⟨a, b, c, e, h0, h1, h2⟩
end Gx

namespace Gx
open PySem PySem.Spec PyProof.Rows L2
section
variable {X : Cx}
theorem c_max (hc : X.calm = true) : CallR X (.builtin "max") (fun xs H Q => ∃ i j, xs = [.int i, .int j] ∧ Q (.int (max i j)) H) := by
  intro pins s σ H xs us Q I r h
  refine call_max2 hc pins s σ H xs us Q I r ?_
  obtain ⟨i, j, e, q⟩ := h
  refine ⟨i, j, e, ?_⟩
  have e2 : (if j > i then j else i) = max i j := by split <;> omega
  rw [e2]
  exact q
theorem c_min (hc : X.calm = true) : CallR X (.builtin "min") (fun xs H Q => ∃ i j, xs = [.int i, .int j] ∧ Q (.int (min i j)) H) := by
  intro pins s σ H xs us Q I r h
  refine call_min2 hc pins s σ H xs us Q I r ?_
  obtain ⟨i, j, e, q⟩ := h
  refine ⟨i, j, e, ?_⟩
  have e2 : (if j < i then j else i) = min i j := by split <;> omega
  rw [e2]
  exact q
/-- a statement, then the rest, with a word between them -/
def tCut (t u : TS) : TS := fun D σ H => ∃ Mid : L2.St → Hp → Prop, t { D with nx := Mid } σ H ∧ ∀ σ' H', Mid σ' H' → u D σ' H'
theorem pss_cut {st : Stmt} {rest : List Stmt} {t u : TS} (h1 : PS X st t) (h2 : PSs X rest u) : PSs X (st :: rest) (tCut t u) := by
  refine ⟨fun pins s σ H D I h => ?_⟩
  obtain ⟨Mid, hm, hu⟩ := h
  refine wpAny_execs_cons (thn (h1.run pins s σ H { D with nx := Mid } I hm) fun f s1 q => ?_)
  cases f with
  | next =>
    obtain ⟨σ', H', I', q⟩ := q
    exact h2.run pins s1 σ' H' D I' (hu σ' H' q)
  | ret v => exact q
  | brk => exact q
  | cont => exact q
end
section
variable {K : PySem.W.Frag} {H : Hp} {σ : L2.St} {Q : VK} {te tb : TE} {tS uS : TS} {nx : L2.St → Hp → Prop} {rt : VK} {bk ct : L2.St → Hp → Prop} {p q : Addr} {xs ys : List V} {M : List Cell} {fs : List Fact}
theorem s_cut (Mid : L2.St → Hp → Prop) (k1 : tS (Ends.mk Mid rt bk ct) σ H) (k2 : ∀ σ' H', Mid σ' H' → uS (Ends.mk nx rt bk ct) σ' H') : tCut tS uS (Ends.mk nx rt bk ct) σ H := ⟨Mid, k1, k2⟩
/-- a and b, of which the second is known where the first is true: one way -/
theorem m_and {b1 b2 : Bool} (hb : b1 = true → ∀ Q' : VK, Q' (.bl b2) H → tb σ H Q') (k : Q (.bl (b1 && b2)) H) (hQ : ∀ v, (∀ Q' : VK, Q' v H → Q' v H) := by exact fun _ _ h => h) : if b1 = true then tb σ H Q else Q (.bl false) H := by
  cases b1 with
  | true => rw [if_pos rfl]; exact hb rfl Q k
  | false => rw [if_neg Bool.false_ne_true]; exact k
theorem m_or {b1 b2 : Bool} (hb : b1 = false → ∀ Q' : VK, Q' (.bl b2) H → tb σ H Q') (k : Q (.bl (b1 || b2)) H) : if b1 = true then Q (.bl true) H else tb σ H Q := by
  cases b1 with
  | true => rw [if_pos rfl]; exact k
  | false => rw [if_neg Bool.false_ne_true]; exact hb rfl Q k
theorem dpAll_ints : ∀ ns : List Int, DpAll K H (ns.map V.int) (ns.map PyData.int)
  | [] => .nil
  | n :: ns => .cons (.int n) (dpAll_ints ns)
theorem eqvAll_ints : ∀ ns ms : List Int, PyData.eqvAll (ns.map PyData.int) (ms.map PyData.int) = decide (ns = ms)
  | [], [] => rfl
  | [], _ :: _ => rfl
  | _ :: _, [] => rfl
  | n :: ns, m :: ms => by
    show (PyData.eqv (.int n) (.int m) && PyData.eqvAll (ns.map PyData.int) (ms.map PyData.int)) = _
    rw [eqvAll_ints ns ms]
    show ((n == m) && decide (ns = ms)) = _
    by_cases h1 : n = m
    · by_cases h2 : ns = ms
      · rw [h1, h2]; simp
      · simp [h1, h2]
    · simp [h1]
theorem s_eqTI (kn : Kn M fs H) (h1 : fO p (.tup xs) ∈ fs) (h2 : fO q (.tup ys) ∈ fs) (e1 : xs = (xs.map unI).map V.int) (e2 : ys = (ys.map unI).map V.int) (z1 : SeqAt.shaped (.tuple ((xs.map unI).map PyData.int)) = true) (z2 : SeqAt.shaped (.tuple ((ys.map unI).map PyData.int)) = true)
    (k : Q (.bl (decide (xs.map unI = ys.map unI))) H) : rEqD K (.ref p) (.ref q) H Q := by
  refine ⟨_, _, .tup (kn.sqt h1) (ds := (xs.map unI).map PyData.int) ?_, .tup (kn.sqt h2) (ds := (ys.map unI).map PyData.int) ?_, z1, z2, ?_⟩
  · have e := dpAll_ints (K := K) (H := H) (xs.map unI)
    rw [← e1] at e
    exact e
  · have e := dpAll_ints (K := K) (H := H) (ys.map unI)
    rw [← e2] at e
    exact e
  · show Q (.bl (PyData.eqvAll ((xs.map unI).map PyData.int) ((ys.map unI).map PyData.int))) H
    rw [eqvAll_ints]
    exact k
theorem Kn.init {a : Addr} {ns : List Int} (h : SqL K H a (ns.map V.int)) : Kn [] [fL K a (ns.map V.int)] H := by
  refine ⟨fun x hx => (nomatch hx), List.nodup_nil, fun f hf => ?_⟩
  rcases List.mem_cons.mp hf with rfl | hf
  · refine ⟨mn_L, ?_⟩
    have e : ers ([].map fun x : Cell => x.1) H = H := funext fun b => ers_out (by simp)
    rw [e]
    exact h
  · exact nomatch hf
theorem s_all {bs : List Bool} (kn : Kn M fs H) (h : fO p (.lst (bs.map V.bl)) ∈ fs) (k : Q (.bl (bs.all id)) H) : rAll K [.ref p] H Q := ⟨p, bs, rfl, kn.sql h, k⟩
theorem all_rep (n : Nat) : (List.replicate n true).all id = true := by
  induction n with
  | zero => rfl
  | succ n ih => rw [List.replicate_succ, List.all_cons, ih]; rfl
def spLaw (K : PySem.W.Frag) : Sp := fun vs H Q _ => ∃ (a : Addr) (ns : List Int), vs = [.ref a] ∧ SqL K H a (ns.map V.int) ∧ ns.length ≤ 63 ∧ ∀ H', Q (.bl true) H'
end
end Gx

namespace Gx
open PySem PySem.Spec PyProof.Rows L2
/-! ### instances of any class, by their fields -/
section
variable {K : PySem.W.Frag} {H : Hp} {σ : L2.St} {Q : VK} {E : XK} {v x y : V} {a p C : Addr} {xs : List V} {M : List Cell} {fs : List Fact} {f : Str} {fl : List (Str × V)} {g : Fact}
def fN (C p : Addr) (fl : List (Str × V)) : Fact := fun H => ∃ dx, H p = some (.ins C dx fl)
theorem mn_N : Mn (fN C p fl) := fun _ _ e ⟨dx, h⟩ => ⟨dx, e _ _ h⟩
theorem r_fldN (kn : Kn M fs H) (h : fN C p fl ∈ fs) (c : Cls K C) (no : NoAttr K C f) (e : fl.lookup f = some v) (k : Q v H) : RFld K f (.ref p) H Q := by
  obtain ⟨dx, ho⟩ := kn.get h
  exact ⟨p, C, dx, _, v, rfl, ho, c, no, e, k⟩
theorem isi_N (I : InsK K C) (kn : Kn M fs H) (h : fN C p fl ∈ fs) (k : Q (.bl true) H) : rIsi K [.ref p, .ref C] H Q := by
  obtain ⟨dx, ho⟩ := kn.get h
  exact isi_ins_cls I ho k
theorem Kn.frzN {dx : Addr} {fl' : List (Str × V)} (kn : Kn ((p, isI C dx fl) :: M) fs H) (e : fl = fl') : Kn M (fN C p fl' :: fs) H := kn.freeze mn_N fun _ o h1 h2 => by
  have h3 : o = .ins C dx fl := h2
  rw [h3, e] at h1
  exact ⟨dx, h1⟩
theorem Kn.raw (k : Kn M fs H) (h : g ∈ fs) : g (ers (M.map (·.1)) H) := (k.fac g h).2
theorem Kn.more (k : Kn M fs H) (mn : Mn g) (h : g (ers (M.map (·.1)) H)) : Kn M (g :: fs) H := ⟨k.cel, k.nd, fun f hf => by
  rcases List.mem_cons.mp hf with rfl | hf
  · exact ⟨mn, h⟩
  · exact k.fac f hf⟩
/-- an int or None -/
abbrev vO : Option Int → V
  | none => .non
  | some r => .int r
/-- fields as they are handed in -/
def spInit3 (C : Addr) (n1 n2 n3 : Str) : Sp := fun vs H Q _ => ∃ (M : List Cell) (fs : List Fact) (x dx : Addr) (a b c : V), vs = [.ref x, a, b, c] ∧ Kn ((x, isI C dx []) :: M) fs H ∧ ∀ H', Kn M (fN C x [(n1, a), (n2, b), (n3, c)] :: fs) H' → Q .non H'
theorem r_mk3 {n1 n2 n3 : Str} {a b c : V} {args : Addr → List V} (kn : Kn M fs H) (e : ∀ x, args x = [.ref x, a, b, c]) (k : ∀ x H', Kn M (fN C x [(n1, a), (n2, b), (n3, c)] :: fs) H' → Q (.ref x) H') : RMk C (spInit3 C n1 n2 n3) args H Q E :=
  fun x dx hx hdx ne => ⟨M, fs, x, dx, a, b, c, e x, kn.newI hx hdx ne, fun H' kn' => ⟨rfl, k x H' kn'⟩⟩
end
/-! ### gaps and limits -/
def goB (g f : Int) (o : Option Int) : Bool := decide (f ≤ g) && (match o with | none => true | some r => decide (g ≤ r))
def sureB (lo hi f : Int) (o : Option Int) : Bool := decide (f ≤ lo) && (match o with | none => true | some r => decide (hi ≤ r))
def neverB (lo hi f : Int) (o : Option Int) : Bool := decide (hi < f) || (match o with | none => false | some r => decide (r < lo))
def wordOf (lo hi f : Int) (o : Option Int) : Str := if sureB lo hi f o then "sure" else if neverB lo hi f o then "never" else "may"
/-- the limits are in order -/
def LimOk (f : Int) (o : Option Int) : Prop := ∀ r, o = some r → f ≤ r
abbrev vA : Option (Addr × Int × Int) → V
  | none => .non
  | some (t, _, _) => .ref t
/-- two measures, in the hole and of the peg -/
def In2 (hl hh pl ph a b : Int) : Prop := hl ≤ a ∧ a ≤ hh ∧ pl ≤ b ∧ b ≤ ph
structure GoesOk (hl hh pl ph f : Int) (o : Option Int) (g : Option (Addr × Int × Int)) : Prop where
  non : g = none ↔ neverB (hl - ph) (hh - pl) f o = true
  som : ∀ t a b, g = some (t, a, b) → In2 hl hh pl ph a b ∧ goB (a - b) f o = true
structure FailsOk (hl hh pl ph f : Int) (o : Option Int) (g : Option (Addr × Int × Int)) : Prop where
  non : g = none ↔ sureB (hl - ph) (hh - pl) f o = true
  som : ∀ t a b, g = some (t, a, b) → In2 hl hh pl ph a b ∧ goB (a - b) f o = false
/-- the two of a case stand at t -/
def TupOf (H : Hp) (g : Option (Addr × Int × Int)) : Prop := ∀ t a b, g = some (t, a, b) → H t = some (.tup [.int a, .int b])
theorem TupOf.none {H : Hp} : TupOf H none := fun _ _ _ e => nomatch e
theorem TupOf.some {H : Hp} {t : Addr} {a b : Int} (h : H t = .some (.tup [.int a, .int b])) : TupOf H (.some (t, a, b)) := fun _ _ _ e => by cases e; exact h
def fTup (g : Option (Addr × Int × Int)) : Fact := fun H => TupOf H g
theorem mn_Tup {g : Option (Addr × Int × Int)} : Mn (fTup g) := fun _ _ e h t a b q => e _ _ (h t a b q)
def fitFl (w : Str) (g e : V) : List (Str × V) := [("word", .str w), ("goes", g), ("fails", e)]
/-- a right Fit of a hole, a peg, limits stands at x -/
def fFit (C x : Addr) (hl hh pl ph f : Int) (o : Option Int) : Fact := fun H => ∃ g e, GoesOk hl hh pl ph f o g ∧ FailsOk hl hh pl ph f o e ∧ TupOf H g ∧ TupOf H e ∧ fN C x (fitFl (wordOf (hl - ph) (hh - pl) f o) (vA g) (vA e)) H
theorem mn_Fit {C x : Addr} {hl hh pl ph f : Int} {o : Option Int} : Mn (fFit C x hl hh pl ph f o) := fun _ _ e ⟨g, b, h1, h2, h3, h4, h5⟩ => ⟨g, b, h1, h2, mn_Tup _ _ e h3, mn_Tup _ _ e h4, mn_N _ _ e h5⟩
theorem Kn.fit {C x : Addr} {hl hh pl ph f : Int} {o : Option Int} {g e : Option (Addr × Int × Int)} {w : Str} {M : List Cell} {fs : List Fact} {H : Hp} (k : Kn M fs H) (hg : GoesOk hl hh pl ph f o g) (he : FailsOk hl hh pl ph f o e)
    (tg : fTup g ∈ fs) (te : fTup e ∈ fs) (hx : fN C x (fitFl w (vA g) (vA e)) ∈ fs) (hw : w = wordOf (hl - ph) (hh - pl) f o) : Kn M (fFit C x hl hh pl ph f o :: fs) H :=
  k.more mn_Fit ⟨g, e, hg, he, k.raw tg, k.raw te, by rw [← hw]; exact k.raw hx⟩
theorem Kn.tupN {M : List Cell} {fs : List Fact} {H : Hp} (k : Kn M fs H) : Kn M (fTup none :: fs) H := k.more mn_Tup TupOf.none
theorem Kn.tupS {M : List Cell} {fs : List Fact} {H : Hp} {t : Addr} {a b : Int} (k : Kn M fs H) (h : fO t (.tup [.int a, .int b]) ∈ fs) : Kn M (fTup (some (t, a, b)) :: fs) H := k.more mn_Tup (TupOf.some (k.raw h))
end Gx

namespace Gx
open PySem PySem.Spec PyProof.Rows L2
section
variable {K : PySem.W.Frag} {H : Hp} {σ : L2.St} {Q : VK} {v x : V} {te tl : TE} {t : TT} {tA : TA} {g : TG} {tb : TS} {nx : L2.St → Hp → Prop} {rt : VK} {bk ct : L2.St → Hp → Prop} {a p q : Addr} {xs ys : List V} {M : List Cell} {fs : List Fact} {vs : List Nat} {i : Int}
/-! ### comprehensions that keep facts of what they make -/
def PvG (M : List Cell) (fs : List Fact) (D : Addr) (Pv : Nat → List V → List Fact → Prop) (i : Nat) (H : Hp) : Prop := ∃ acc gs, Pv i acc gs ∧ Kn ((D, isL acc) :: M) (gs ++ fs) H
theorem r_lcG {D : Addr} {acc : List V} {y : V} {i : Nat} {fs' gs : List Fact} {Pv : Nat → List V → List Fact → Prop} (kn : Kn ((D, isL acc) :: M) fs' H) (hsub : ∀ f ∈ gs ++ fs, f ∈ fs') (hl : acc.length < sizeLine) (k : Pv (i + 1) (acc ++ [y]) gs) : RLcE D (PvG M fs D Pv (i + 1)) y H :=
  ⟨acc, kn.lst, hl, _, gs, k, (kn.sub hsub).set rfl⟩
theorem r_lcLG (kn : Kn M fs H) (hx : ∀ {M gs H}, Kn M (gs ++ fs) H → SqL K H p xs) (Pv : Nat → List V → List Fact → Prop) (h0 : Pv 0 [] [])
    (hs : ∀ i x D acc gs H', xs[i]? = some x → Pv i acc gs → Kn ((D, isL acc) :: M) (gs ++ fs) H' → g x (wipe σ vs) H' fun σ2 H2 => wipe σ2 vs = wipe σ vs ∧ t σ2 H2 fun b H3 => if b = true then te σ2 H3 fun y H4 => RLcE D (PvG M fs D Pv (i + 1)) y H4 else PvG M fs D Pv (i + 1) H3)
    (hd : ∀ D acc gs H', Pv xs.length acc gs → Kn ((D, isL acc) :: M) (gs ++ fs) H' → Q (.ref D) H') : RLcL K g t te vs σ (.ref p) H Q := by
  refine ⟨p, rfl, ⟨xs, hx (gs := []) kn⟩, fun D hD => lc_list (xs := xs) (PvG M fs D Pv) ⟨[], [], h0, kn.newML hD⟩ (fun i H' _ ⟨acc, gs, _, k⟩ => hx k) (fun i x H' hi ⟨acc, gs, q, k⟩ => hs i x D acc gs H' hi q k) fun H' ⟨acc, gs, q, k⟩ => hd D acc gs H' q k⟩
theorem r_lcRG {lo : Int} {n : Nat} (kn : Kn M fs H) (Pv : Nat → List V → List Fact → Prop) (h0 : Pv 0 [] [])
    (hs : ∀ i D acc gs H', i < n → Pv i acc gs → Kn ((D, isL acc) :: M) (gs ++ fs) H' → g (.int (lo + i)) (wipe σ vs) H' fun σ2 H2 => wipe σ2 vs = wipe σ vs ∧ t σ2 H2 fun b H3 => if b = true then te σ2 H3 fun y H4 => RLcE D (PvG M fs D Pv (i + 1)) y H4 else PvG M fs D Pv (i + 1) H3)
    (hd : ∀ D acc gs H', Pv n acc gs → Kn ((D, isL acc) :: M) (gs ++ fs) H' → Q (.ref D) H') : RLcR g t te vs σ lo n H Q := by
  exact fun D hD => lc_range (PvG M fs D Pv) ⟨[], [], h0, kn.newML hD⟩ (fun i H' hi ⟨acc, gs, q, k⟩ => hs i D acc gs H' hi q k) fun H' ⟨acc, gs, q, k⟩ => hd D acc gs H' q k
theorem s_lcR2 (k : tA σ H fun ws H1 => ∃ i j : Int, ws = [.int i, .int j] ∧ (-(2 ^ 62) ≤ i ∧ i < 2 ^ 62 ∧ -(2 ^ 62) ≤ j ∧ j < 2 ^ 62) ∧ RLcR g t te vs σ i (j - i).toNat H1 Q) : tLc (iRng2 tA) g t te vs σ H Q := k
/-- over a tuple -/
def RLcT (K : PySem.W.Frag) (g : TG) (t : TT) (te : TE) (vs : List Nat) (σ : L2.St) (x : V) (H : Hp) (Q : VK) : Prop := ∃ a, x = .ref a ∧ (∃ xs, SqT K H a xs) ∧ ∀ D, H D = none → ∃ W : Nat → Nat → Hp → Prop, (∃ m, W 0 m (upd H D (.lst []))) ∧ ∀ i m H, W i m H →
  ((Itt K a).stop i H ∧ Q (.ref D) H) ∨ ((Itt K a).go i H ∧ ∃ Nx : Hp → Prop, (∀ H', Nx H' → ∃ m', m' < m ∧ W (i + 1) m' H') ∧ ∀ x H', (Itt K a).yld i H x H' → g x (wipe σ vs) H' fun σ2 H2 => wipe σ2 vs = wipe σ vs ∧ t σ2 H2 fun b H3 =>
    if b = true then te σ2 H3 fun y H4 => ∃ acc, H4 D = some (.lst acc) ∧ acc.length < sizeLine ∧ Nx (upd H4 D (.lst (acc ++ [y]))) else Nx H3)
theorem s_lcT (k : tl σ H fun x H1 => RLcT K g t te vs σ x H1 Q) : tLc (iTup K tl) g t te vs σ H Q := k
theorem r_lcTG (kn : Kn M fs H) (hx : ∀ {M gs H}, Kn M (gs ++ fs) H → SqT K H p xs) (Pv : Nat → List V → List Fact → Prop) (h0 : Pv 0 [] [])
    (hs : ∀ i x D acc gs H', xs[i]? = some x → Pv i acc gs → Kn ((D, isL acc) :: M) (gs ++ fs) H' → g x (wipe σ vs) H' fun σ2 H2 => wipe σ2 vs = wipe σ vs ∧ t σ2 H2 fun b H3 => if b = true then te σ2 H3 fun y H4 => RLcE D (PvG M fs D Pv (i + 1)) y H4 else PvG M fs D Pv (i + 1) H3)
    (hd : ∀ D acc gs H', Pv xs.length acc gs → Kn ((D, isL acc) :: M) (gs ++ fs) H' → Q (.ref D) H') : RLcT K g t te vs σ (.ref p) H Q := by
  refine ⟨p, rfl, ⟨xs, hx (gs := []) kn⟩, fun D hD => lc_tup (xs := xs) (PvG M fs D Pv) ⟨[], [], h0, kn.newML hD⟩ (fun i H' _ ⟨acc, gs, _, k⟩ => hx k) (fun i x H' hi ⟨acc, gs, q, k⟩ => hs i x D acc gs H' hi q k) fun H' ⟨acc, gs, q, k⟩ => hd D acc gs H' q k⟩
/-! ### loops by an invariant -/
theorem r_forLP (kn : Kn M fs H) (h : SqL K H p xs) (Pv : Nat → L2.St → Hp → Prop) (h0 : Pv 0 σ H) (hl : ∀ i σ' H', i ≤ xs.length → Pv i σ' H' → SqL K H' p xs)
    (hs : ∀ i x σ' H', xs[i]? = some x → Pv i σ' H' → g x σ' H' fun σ2 H2 => tb (Ends.mk (Pv (i + 1)) rt nx (Pv (i + 1))) σ2 H2) (hd : ∀ σ' H', Pv xs.length σ' H' → nx σ' H') : RForL K g tb nx rt bk ct σ (.ref p) H :=
  ⟨p, rfl, ⟨xs, h⟩, for_list (D := Ends.mk nx rt bk ct) (xs := xs) Pv h0 hl hs hd⟩
def RForR (g : TG) (tb : TS) (nx : L2.St → Hp → Prop) (rt : VK) (σ : L2.St) (lo : Int) (n : Nat) (H : Hp) : Prop := RFor (Itr lo n) g tb nx rt nx nx σ H
theorem s_forR1 (k : tA σ H fun ws H1 => ∃ j : Int, ws = [.int j] ∧ -(2 ^ 62) ≤ j ∧ j < 2 ^ 62 ∧ RForR g tb nx rt σ 0 j.toNat H1) : tFor (iRng1 tA) g tb (Ends.mk nx rt bk ct) σ H := k
theorem s_forR2 (k : tA σ H fun ws H1 => ∃ i j : Int, ws = [.int i, .int j] ∧ (-(2 ^ 62) ≤ i ∧ i < 2 ^ 62 ∧ -(2 ^ 62) ≤ j ∧ j < 2 ^ 62) ∧ RForR g tb nx rt σ i (j - i).toNat H1) : tFor (iRng2 tA) g tb (Ends.mk nx rt bk ct) σ H := k
theorem r_forR {lo : Int} {n : Nat} (Pv : Nat → L2.St → Hp → Prop) (h0 : Pv 0 σ H)
    (hs : ∀ i σ' H', i < n → Pv i σ' H' → g (.int (lo + i)) σ' H' fun σ2 H2 => tb (Ends.mk (Pv (i + 1)) rt nx (Pv (i + 1))) σ2 H2) (hd : ∀ σ' H', Pv n σ' H' → nx σ' H') : RForR g tb nx rt σ lo n H :=
  for_range (D := Ends.mk nx rt nx nx) Pv h0 hs hd
/-! ### zip of two tuples of two -/
def RZip (K : PySem.W.Frag) (g : TG) (tb : TS) (nx : L2.St → Hp → Prop) (rt : VK) (σ : L2.St) (ws : List V) (H : Hp) : Prop := ∃ a b xs ys, ws = [.ref a, .ref b] ∧ ((SqL K H a xs ∧ SqL K H b ys ∧ RFor (Itz K a b) g tb nx rt nx nx σ H) ∨ (SqT K H a xs ∧ SqT K H b ys ∧ RFor (RZ.ItzT K a b) g tb nx rt nx nx σ H))
theorem s_zip (k : tA σ H fun ws H1 => RZip K g tb nx rt σ ws H1) : tFor (RZ.iZipA K tA) g tb (Ends.mk nx rt bk ct) σ H := k
def FZ (S : Hp → Prop) (g : TG) (tb : TS) (nx : L2.St → Hp → Prop) (rt : VK) : List (V × V) → L2.St → Hp → Prop
  | [], σ, H => nx σ H
  | w :: r, σ, H => ∀ T, H T = none → g (.ref T) σ (upd H T (.tup [w.1, w.2])) fun σ2 H2 => tb (Ends.mk (fun σ3 H3 => S H3 ∧ FZ S g tb nx rt r σ3 H3) rt nx (fun σ3 H3 => S H3 ∧ FZ S g tb nx rt r σ3 H3)) σ2 H2
theorem fz_nil {S : Hp → Prop} (k : nx σ H) : FZ S g tb nx rt [] σ H := k
theorem fz_cons {S : Hp → Prop} {y : V} {r : List (V × V)} (kn : Kn M fs H) (k : ∀ T, Kn M (fO T (.tup [x, y]) :: fs) (upd H T (.tup [x, y])) → g (.ref T) σ (upd H T (.tup [x, y])) fun σ2 H2 => tb (Ends.mk (fun σ3 H3 => S H3 ∧ FZ S g tb nx rt r σ3 H3) rt nx (fun σ3 H3 => S H3 ∧ FZ S g tb nx rt r σ3 H3)) σ2 H2) : FZ S g tb nx rt ((x, y) :: r) σ H := fun T hT => k T (kn.newT hT)
theorem r_zipT (kn : Kn M fs H) (h1 : fO p (.tup xs) ∈ fs) (h2 : fO q (.tup ys) ∈ fs) (hl : xs.length = ys.length) (k : FZ (fun H' => SqT K H' p xs ∧ SqT K H' q ys) g tb nx rt (xs.zip ys) σ H) : RZip K g tb nx rt σ [.ref p, .ref q] H := by
  refine ⟨p, q, xs, ys, rfl, .inr ⟨kn.sqt h1, kn.sqt h2, RZ.for_zipT (D := Ends.mk nx rt nx nx) hl (fun i σ H => (SqT K H p xs ∧ SqT K H q ys) ∧ FZ (fun H' => SqT K H' p xs ∧ SqT K H' q ys) g tb nx rt ((xs.zip ys).drop i) σ H) ⟨⟨kn.sqt h1, kn.sqt h2⟩, k⟩ (fun i σ H q => q.1) (fun i x y T σ H hx hy q hT => ?_) (fun σ H q => ?_)⟩⟩
  · have q2 := q.2
    have hz : (xs.zip ys)[i]? = some (x, y) := by
      rw [List.getElem?_zip_eq_some]
      exact ⟨hx, hy⟩
    rw [drop_get hz] at q2
    exact q2 T hT
  · have q2 := q.2
    have e : (xs.zip ys).length ≤ xs.length := by rw [List.length_zip]; omega
    rw [List.drop_eq_nil_of_le e] at q2
    exact q2
/-! ### items, sums of lists, growing lists -/
theorem s_ixA (kn : Kn M fs H) (h : fO p (.lst xs) ∈ fs) (h0 : 0 ≤ i) (h1 : i < (xs.length : Int)) (k : ∀ v, v ∈ xs → Q v H) : rIxL K (.ref p) (.int i) H Q := by
  obtain ⟨z, e2, hz⟩ := atI_in h0 h1
  exact ⟨p, xs, i, _, rfl, rfl, kn.sql h, e2, k z hz⟩
theorem s_cat (kn : Kn M fs H) (h1 : fO p (.lst xs) ∈ fs) (h2 : fO q (.lst ys) ∈ fs) (hl : xs.length + ys.length ≤ sizeLine) (k : ∀ o, Kn M (fO o (.lst (xs ++ ys)) :: fs) (upd H o (.lst (xs ++ ys))) → Q (.ref o) (upd H o (.lst (xs ++ ys)))) : rCat (.ref p) (.ref q) H Q :=
  ⟨p, q, xs, ys, rfl, rfl, kn.obj h1, kn.obj h2, hl, fun o ho => k o (kn.newL ho)⟩
theorem s_min {ns : List Int} (kn : Kn M fs H) (h : SqL K H p (ns.map V.int)) (h0 : 0 < ns.length) (k : ∀ m, m ∈ ns → (∀ y, y ∈ ns → m ≤ y) → Q (.int m) H) : rMin K [.ref p] H Q := ⟨p, ns, rfl, h, h0, k⟩
theorem s_max {ns : List Int} (kn : Kn M fs H) (h : SqL K H p (ns.map V.int)) (h0 : 0 < ns.length) (k : ∀ m, m ∈ ns → (∀ y, y ∈ ns → y ≤ m) → Q (.int m) H) : rMax K [.ref p] H Q := ⟨p, ns, rfl, h, h0, k⟩
theorem s_any {bs : List Bool} (kn : Kn M fs H) (h : fO p (.lst (bs.map V.bl)) ∈ fs) (k : Q (.bl (bs.any id)) H) : rAny K [.ref p] H Q := ⟨p, bs, rfl, kn.sql h, k⟩
def RBM (K : PySem.W.Frag) (T : String) (r : V → List V → Hp → VK → Prop) (tA : TA) (σ : L2.St) (x : V) (H : Hp) (Q : VK) : Prop := tyV K T x H ∧ tA σ H fun xs H2 => r x xs H2 Q
theorem s_bm {T : String} {r : V → List V → Hp → VK → Prop} {to : TE} (k : to σ H fun x H1 => RBM K T r tA σ x H1 Q) : tBM K T r to tA σ H Q := k
theorem r_bmL {r : V → List V → Hp → VK → Prop} (kn : Kn ((p, isL xs) :: M) fs H) (k : tA σ H fun ws H2 => r (.ref p) ws H2 Q) : RBM K "list" r tA σ (.ref p) H Q := ⟨Or.inl ⟨rfl, _, SqL.of kn.lst⟩, k⟩
theorem s_app (kn : Kn ((p, isL xs) :: M) fs H) (hl : xs.length < sizeLine) (k : Kn ((p, isL (xs ++ [x])) :: M) fs (upd H p (.lst (xs ++ [x]))) → Q .non (upd H p (.lst (xs ++ [x])))) : rAppend (.ref p) [x] H Q := ⟨p, xs, x, rfl, rfl, kn.lst, hl, k (kn.set rfl)⟩
theorem s_ext (kn : Kn ((p, isL xs) :: M) fs H) (h : fO q (.lst ys) ∈ fs) (hl : xs.length + ys.length ≤ sizeLine) (k : Kn ((p, isL (xs ++ ys)) :: M) fs (upd H p (.lst (xs ++ ys))) → Q .non (upd H p (.lst (xs ++ ys)))) : rExtend (.ref p) [.ref q] H Q := ⟨p, q, xs, ys, rfl, rfl, kn.lst, kn.obj h, hl, k (kn.set rfl)⟩
/-- a sum of a growing list and another, that grows on -/
theorem s_catC (kn : Kn ((p, isL xs) :: M) fs H) (h2 : fO q (.lst ys) ∈ fs) (hl : xs.length + ys.length ≤ sizeLine) (k : ∀ o, Kn ((o, isL (xs ++ ys)) :: M) fs (upd H o (.lst (xs ++ ys))) → Q (.ref o) (upd H o (.lst (xs ++ ys)))) : rCat (.ref p) (.ref q) H Q :=
  ⟨p, q, xs, ys, rfl, rfl, kn.lst, kn.obj h2, hl, fun o ho => k o (kn.drop.newML ho)⟩
theorem Kn.lref {ls ks : List Addr} (kn : Kn ((p, isL (ls.map V.ref ++ ks.map V.ref)) :: M) fs H) : Kn ((p, isL ((ls ++ ks).map V.ref)) :: M) fs H := by
  rw [List.map_append]
  exact kn
theorem Kn.box {P : List Fact → Prop} (kn : Kn M fs H) (h : P fs) : ∃ FS, P FS ∧ Kn M FS H := ⟨fs, h, kn⟩
theorem x_sum {X : Cx} {K : PySem.W.Frag} (hk : X.K = K) (hc : X.calm = true) : CallR X (.builtin "sum") (rSum K) := by
  subst hk
  exact cr_sum hc
theorem x_any {X : Cx} {K : PySem.W.Frag} (hk : X.K = K) (hc : X.calm = true) : CallR X (.builtin "any") (rAny K) := by
  subst hk
  exact cr_any hc
theorem x_all {X : Cx} {K : PySem.W.Frag} (hk : X.K = K) (hc : X.calm = true) : CallR X (.builtin "all") (rAll K) := by
  subst hk
  exact cr_all hc
theorem x_min {X : Cx} {K : PySem.W.Frag} (hk : X.K = K) (hc : X.calm = true) : CallR X (.builtin "min") (rMin K) := by
  subst hk
  exact cr_min hc
theorem x_max {X : Cx} {K : PySem.W.Frag} (hk : X.K = K) (hc : X.calm = true) : CallR X (.builtin "max") (rMax K) := by
  subst hk
  exact cr_max hc
theorem small_le {n m : Nat} (h : n ≤ m) (hm : m ≤ 100000) : n ≤ sizeLine := Nat.le_trans (Nat.le_trans h hm) (by decide)
theorem small_lt {n m : Nat} (h : n ≤ m) (hm : m ≤ 100000) : n < sizeLine := Nat.lt_of_le_of_lt (Nat.le_trans h hm) (by decide)
end
end Gx

namespace Hd
open PySem PySem.Spec PyProof.Rows L2
/-! ### the text by places -/
def top (i : Nat) : Stmt := PySem.Challenge.pw_fitwords_k16_how_pegs_go.main.body.getD i (.Pass ⟨0, 0, 0, 0⟩)
abbrev s__law_take : Stmt := top 42
abbrev s__law_allowed : Stmt := top 43
abbrev s__law_ends : Stmt := top 46
abbrev s__law_purse : Stmt := top 41
abbrev s__law_cell : Stmt := top 40
abbrev s_is_measure : Stmt := top 18
abbrev s_check_measure : Stmt := top 19
abbrev s_check_allowance : Stmt := top 31
abbrev s_Span___init__ : Stmt := inClass (top 32) 0
abbrev s_check_span : Stmt := top 33
abbrev s_check_limits : Stmt := top 35
abbrev s_Fit___init__ : Stmt := inClass (top 36) 0
abbrev s_with_gap : Stmt := top 37
abbrev s_fit : Stmt := top 38
abbrev s__law_few : Stmt := top 45
abbrev s__law_small : Stmt := top 44
abbrev s__law_bounds : Stmt := top 48
abbrev s__law_goes : Stmt := top 49
abbrev s__law_whole : Stmt := top 47
abbrev s__law_span : Stmt := top 52
abbrev s__law_word : Stmt := top 53
abbrev s__law_case_right : Stmt := top 50
abbrev s__law_fit_right : Stmt := top 51
abbrev s__law_asked : Stmt := top 54
abbrev s__law_few_right : Stmt := top 55
abbrev s__law_great_right : Stmt := top 56
abbrev s_law : Stmt := top 57
def d__law_take : He.DefD := ⟨("_law_take", none), "_law_take", "_law_take", defArgs s__law_take, defBody s__law_take, defScope s__law_take, [], []⟩
def d__law_allowed : He.DefD := ⟨("_law_allowed", none), "_law_allowed", "_law_allowed", defArgs s__law_allowed, defBody s__law_allowed, defScope s__law_allowed, [], []⟩
def d__law_ends : He.DefD := ⟨("_law_ends", none), "_law_ends", "_law_ends", defArgs s__law_ends, defBody s__law_ends, defScope s__law_ends, [], []⟩
def d__law_purse : He.DefD := ⟨("_law_purse", none), "_law_purse", "_law_purse", defArgs s__law_purse, defBody s__law_purse, defScope s__law_purse, [], []⟩
def d__law_cell : He.DefD := ⟨("_law_cell", none), "_law_cell", "_law_cell", defArgs s__law_cell, defBody s__law_cell, defScope s__law_cell, [], []⟩
def d_is_measure : He.DefD := ⟨("is_measure", none), "is_measure", "is_measure", defArgs s_is_measure, defBody s_is_measure, defScope s_is_measure, [], []⟩
def d_check_measure : He.DefD := ⟨("check_measure", none), "check_measure", "check_measure", defArgs s_check_measure, defBody s_check_measure, defScope s_check_measure, [], []⟩
def d_check_allowance : He.DefD := ⟨("check_allowance", none), "check_allowance", "check_allowance", defArgs s_check_allowance, defBody s_check_allowance, defScope s_check_allowance, [], []⟩
def d_Span___init__ : He.DefD := ⟨("Span", some "__init__"), "__init__", "Span.__init__", defArgs s_Span___init__, defBody s_Span___init__, defScope s_Span___init__, [.int (0), .int (0)], []⟩
def d_check_span : He.DefD := ⟨("check_span", none), "check_span", "check_span", defArgs s_check_span, defBody s_check_span, defScope s_check_span, [], []⟩
def d_check_limits : He.DefD := ⟨("check_limits", none), "check_limits", "check_limits", defArgs s_check_limits, defBody s_check_limits, defScope s_check_limits, [], []⟩
def d_Fit___init__ : He.DefD := ⟨("Fit", some "__init__"), "__init__", "Fit.__init__", defArgs s_Fit___init__, defBody s_Fit___init__, defScope s_Fit___init__, [], []⟩
def d_with_gap : He.DefD := ⟨("with_gap", none), "with_gap", "with_gap", defArgs s_with_gap, defBody s_with_gap, defScope s_with_gap, [], []⟩
def d_fit : He.DefD := ⟨("fit", none), "fit", "fit", defArgs s_fit, defBody s_fit, defScope s_fit, [.int (0), .non], []⟩
def d__law_few : He.DefD := ⟨("_law_few", none), "_law_few", "_law_few", defArgs s__law_few, defBody s__law_few, defScope s__law_few, [], []⟩
def d__law_small : He.DefD := ⟨("_law_small", none), "_law_small", "_law_small", defArgs s__law_small, defBody s__law_small, defScope s__law_small, [], []⟩
def d__law_bounds : He.DefD := ⟨("_law_bounds", none), "_law_bounds", "_law_bounds", defArgs s__law_bounds, defBody s__law_bounds, defScope s__law_bounds, [], []⟩
def d__law_goes : He.DefD := ⟨("_law_goes", none), "_law_goes", "_law_goes", defArgs s__law_goes, defBody s__law_goes, defScope s__law_goes, [], []⟩
def d__law_whole : He.DefD := ⟨("_law_whole", none), "_law_whole", "_law_whole", defArgs s__law_whole, defBody s__law_whole, defScope s__law_whole, [], []⟩
def d__law_span : He.DefD := ⟨("_law_span", none), "_law_span", "_law_span", defArgs s__law_span, defBody s__law_span, defScope s__law_span, [], []⟩
def d__law_word : He.DefD := ⟨("_law_word", none), "_law_word", "_law_word", defArgs s__law_word, defBody s__law_word, defScope s__law_word, [], []⟩
def d__law_case_right : He.DefD := ⟨("_law_case_right", none), "_law_case_right", "_law_case_right", defArgs s__law_case_right, defBody s__law_case_right, defScope s__law_case_right, [], []⟩
def d__law_fit_right : He.DefD := ⟨("_law_fit_right", none), "_law_fit_right", "_law_fit_right", defArgs s__law_fit_right, defBody s__law_fit_right, defScope s__law_fit_right, [], []⟩
def d__law_asked : He.DefD := ⟨("_law_asked", none), "_law_asked", "_law_asked", defArgs s__law_asked, defBody s__law_asked, defScope s__law_asked, [], []⟩
def d__law_few_right : He.DefD := ⟨("_law_few_right", none), "_law_few_right", "_law_few_right", defArgs s__law_few_right, defBody s__law_few_right, defScope s__law_few_right, [], []⟩
def d__law_great_right : He.DefD := ⟨("_law_great_right", none), "_law_great_right", "_law_great_right", defArgs s__law_great_right, defBody s__law_great_right, defScope s__law_great_right, [], []⟩
def d_law : He.DefD := ⟨("law", none), "law", "law", defArgs s_law, defBody s_law, defScope s_law, [], []⟩
def fn : List He.DefD := [d__law_take, d__law_allowed, d__law_ends, d__law_purse, d__law_cell, d_is_measure, d_check_measure, d_check_allowance, d_Span___init__, d_check_span, d_check_limits, d_Fit___init__, d_with_gap, d_fit, d__law_few, d__law_small, d__law_bounds, d__law_goes, d__law_whole, d__law_span, d__law_word, d__law_case_right, d__law_fit_right, d__law_asked, d__law_few_right, d__law_great_right, d_law]
def fa : List He.Fa := [.glo "_law_take", .glo "_law_allowed", .glo "_law_ends", .glo "_law_purse", .glo "_law_cell", .glo "is_measure", .glo "check_measure", .glo "check_allowance", .glo "check_span", .glo "check_limits", .glo "with_gap", .glo "fit", .glo "_law_few", .glo "_law_small", .glo "_law_bounds", .glo "_law_goes", .glo "_law_whole", .glo "_law_span", .glo "_law_word", .glo "_law_case_right", .glo "_law_fit_right", .glo "_law_asked", .glo "_law_few_right", .glo "_law_great_right", .glo "law", .glo "FitError", .glo "NoMeasure", .glo "NoAllowance", .glo "NoSpan", .glo "NoLimits", .glo "RoomError", .glo "TooLong", .glo "Span", .glo "Fit", .free "abs", .free "len", .free "sum", .free "isinstance", .free "int", .free "bool", .free "min", .free "max", .free "all", .free "any", .free "zip", .free "tuple", .free "str", .free "range", .cls "Span", .mkr "Span", .noat "Span" "size", .noat "Span" "above", .noat "Span" "below", .noat "Span" "low", .noat "Span" "high", .cls "Fit", .mkr "Fit", .noat "Fit" "word", .noat "Fit" "goes", .noat "Fit" "fails"]
def ex_Span (K : PySem.W.Frag) : Bool := He.eqO (PySem.W.findIn K (.ref (He.ga K "Span")) "__class__") (some (some (.builtin "object.__class__"))) && (He.eqO (PySem.W.specialIn K (.builtin "object.__class__") "__get__") (some (some (.builtin "getset_descriptor.__get__"))) && (decide (PySem.W.takesIn K (.builtin "object.__class__") = some true) && (decide (PySem.W.mroIn K (He.ga K "Span") (.type "object") = some true) && (decide (PySem.W.kitOne K (.type "NoneType") (.ref (He.ga K "Span")) = some false) && (decide (PySem.W.kitOne K (.type "int") (.ref (He.ga K "Span")) = some false) && (decide (PySem.W.kitOne K (.type "bool") (.ref (He.ga K "Span")) = some false) && (decide (PySem.W.kitOne K (.type "str") (.ref (He.ga K "Span")) = some false) && (decide (PySem.W.kitOne K (.type "list") (.ref (He.ga K "Span")) = some false) && (decide (PySem.W.kitOne K (.type "tuple") (.ref (He.ga K "Span")) = some false) && (decide (PySem.W.kitOne K (.type "dict") (.ref (He.ga K "Span")) = some false)))))))))))
def ex_Fit (K : PySem.W.Frag) : Bool := He.eqO (PySem.W.findIn K (.ref (He.ga K "Fit")) "__class__") (some (some (.builtin "object.__class__"))) && (He.eqO (PySem.W.specialIn K (.builtin "object.__class__") "__get__") (some (some (.builtin "getset_descriptor.__get__"))) && (decide (PySem.W.takesIn K (.builtin "object.__class__") = some true) && (decide (PySem.W.mroIn K (He.ga K "Fit") (.type "object") = some true) && (decide (PySem.W.kitOne K (.type "NoneType") (.ref (He.ga K "Fit")) = some false) && (decide (PySem.W.kitOne K (.type "int") (.ref (He.ga K "Fit")) = some false) && (decide (PySem.W.kitOne K (.type "bool") (.ref (He.ga K "Fit")) = some false) && (decide (PySem.W.kitOne K (.type "str") (.ref (He.ga K "Fit")) = some false) && (decide (PySem.W.kitOne K (.type "list") (.ref (He.ga K "Fit")) = some false) && (decide (PySem.W.kitOne K (.type "tuple") (.ref (He.ga K "Fit")) = some false) && (decide (PySem.W.kitOne K (.type "dict") (.ref (He.ga K "Fit")) = some false)))))))))))
def ex (K : PySem.W.Frag) : Bool := ex_Span K && (ex_Fit K)
abbrev R : PySem.W.OpenRow := PySem.W.OpenLaw.row PySem.Challenge.rw_fitwords_k16_how_pegs_go
def loose0 : List Str := ["_wall", "FitError", "NoMeasure", "NoAllowance", "NoSpan", "NoLimits", "RoomError", "TooLong", "INCH", "MOST_BY_WORDS", "ONES", "TEENS", "COUNTS", "TENS", "GREAT_SHARES", "SHARES", "is_measure", "check_measure", "minus_of", "by_parts", "by_inches", "doubled", "by_halves", "counted", "by_words", "TELLERS", "shown", "shown_span", "check_allowance", "Span"]
def loose1 : List Str := ["check_span", "check_limits", "Fit", "with_gap", "fit", "_law_cell", "_law_purse", "_law_take", "_law_allowed", "_law_small", "_law_few", "_law_ends", "_law_whole", "_law_bounds", "_law_goes", "_law_case_right", "_law_fit_right", "_law_span", "_law_word", "_law_asked", "_law_few_right", "_law_great_right"]
def loose : List Str := loose0 ++ loose1
def tabs : List He.Tab := []
abbrev hk : PySem.W.Hook := He.hookX 5 fa fn tabs [] ex
def ob (s : PySem.W.SharedT) : He.AlX := He.obsX 5 fa fn tabs [] ex (HandSHeadRun.getT s)
theorem ob_eq (s : PySem.W.SharedT) : ob s = hk.obs s.abs := He.obsX_eq (HandSHeadRun.getT_eq s)
abbrev RunAt (w : World) : Prop := HandSHeadRun.RunEq R (PySem.W.view R.prog [57]) hk ob 20000 loose w
theorem run (w : World) : RunAt w := by
  refine PySem.W.byRow2 (P := RunAt) "special-get-raises" (fun w => ?_) (fun w => ?_) w <;> (intro os; kernel_rfl)
structure Tx (K : PySem.W.Frag) (mg : Str → Option Value) : Prop where
  h : ∃ (w : World) (h : Heap), K.In h ∧ h.Ns mainGlobals mg ∧ He.SaysX fa fn tabs [] ex w h K
section
variable {K : PySem.W.Frag} {mg : Str → Option Value}
theorem Tx.g__law_take (T : Tx K mg) : mg "_law_take" = some (.ref (He.fAd K d__law_take.at_)) := by obtain ⟨w, h, X, G, c⟩ := T.h; exact He.glo_ok X G (c.t.d.fact 0 (f := .glo "_law_take") rfl)
theorem Tx.g__law_allowed (T : Tx K mg) : mg "_law_allowed" = some (.ref (He.fAd K d__law_allowed.at_)) := by obtain ⟨w, h, X, G, c⟩ := T.h; exact He.glo_ok X G (c.t.d.fact 1 (f := .glo "_law_allowed") rfl)
theorem Tx.g__law_ends (T : Tx K mg) : mg "_law_ends" = some (.ref (He.fAd K d__law_ends.at_)) := by obtain ⟨w, h, X, G, c⟩ := T.h; exact He.glo_ok X G (c.t.d.fact 2 (f := .glo "_law_ends") rfl)
theorem Tx.g__law_purse (T : Tx K mg) : mg "_law_purse" = some (.ref (He.fAd K d__law_purse.at_)) := by obtain ⟨w, h, X, G, c⟩ := T.h; exact He.glo_ok X G (c.t.d.fact 3 (f := .glo "_law_purse") rfl)
theorem Tx.g__law_cell (T : Tx K mg) : mg "_law_cell" = some (.ref (He.fAd K d__law_cell.at_)) := by obtain ⟨w, h, X, G, c⟩ := T.h; exact He.glo_ok X G (c.t.d.fact 4 (f := .glo "_law_cell") rfl)
theorem Tx.g_is_measure (T : Tx K mg) : mg "is_measure" = some (.ref (He.fAd K d_is_measure.at_)) := by obtain ⟨w, h, X, G, c⟩ := T.h; exact He.glo_ok X G (c.t.d.fact 5 (f := .glo "is_measure") rfl)
theorem Tx.g_check_measure (T : Tx K mg) : mg "check_measure" = some (.ref (He.fAd K d_check_measure.at_)) := by obtain ⟨w, h, X, G, c⟩ := T.h; exact He.glo_ok X G (c.t.d.fact 6 (f := .glo "check_measure") rfl)
theorem Tx.g_check_allowance (T : Tx K mg) : mg "check_allowance" = some (.ref (He.fAd K d_check_allowance.at_)) := by obtain ⟨w, h, X, G, c⟩ := T.h; exact He.glo_ok X G (c.t.d.fact 7 (f := .glo "check_allowance") rfl)
theorem Tx.g_check_span (T : Tx K mg) : mg "check_span" = some (.ref (He.fAd K d_check_span.at_)) := by obtain ⟨w, h, X, G, c⟩ := T.h; exact He.glo_ok X G (c.t.d.fact 8 (f := .glo "check_span") rfl)
theorem Tx.g_check_limits (T : Tx K mg) : mg "check_limits" = some (.ref (He.fAd K d_check_limits.at_)) := by obtain ⟨w, h, X, G, c⟩ := T.h; exact He.glo_ok X G (c.t.d.fact 9 (f := .glo "check_limits") rfl)
theorem Tx.g_with_gap (T : Tx K mg) : mg "with_gap" = some (.ref (He.fAd K d_with_gap.at_)) := by obtain ⟨w, h, X, G, c⟩ := T.h; exact He.glo_ok X G (c.t.d.fact 10 (f := .glo "with_gap") rfl)
theorem Tx.g_fit (T : Tx K mg) : mg "fit" = some (.ref (He.fAd K d_fit.at_)) := by obtain ⟨w, h, X, G, c⟩ := T.h; exact He.glo_ok X G (c.t.d.fact 11 (f := .glo "fit") rfl)
theorem Tx.g__law_few (T : Tx K mg) : mg "_law_few" = some (.ref (He.fAd K d__law_few.at_)) := by obtain ⟨w, h, X, G, c⟩ := T.h; exact He.glo_ok X G (c.t.d.fact 12 (f := .glo "_law_few") rfl)
theorem Tx.g__law_small (T : Tx K mg) : mg "_law_small" = some (.ref (He.fAd K d__law_small.at_)) := by obtain ⟨w, h, X, G, c⟩ := T.h; exact He.glo_ok X G (c.t.d.fact 13 (f := .glo "_law_small") rfl)
theorem Tx.g__law_bounds (T : Tx K mg) : mg "_law_bounds" = some (.ref (He.fAd K d__law_bounds.at_)) := by obtain ⟨w, h, X, G, c⟩ := T.h; exact He.glo_ok X G (c.t.d.fact 14 (f := .glo "_law_bounds") rfl)
theorem Tx.g__law_goes (T : Tx K mg) : mg "_law_goes" = some (.ref (He.fAd K d__law_goes.at_)) := by obtain ⟨w, h, X, G, c⟩ := T.h; exact He.glo_ok X G (c.t.d.fact 15 (f := .glo "_law_goes") rfl)
theorem Tx.g__law_whole (T : Tx K mg) : mg "_law_whole" = some (.ref (He.fAd K d__law_whole.at_)) := by obtain ⟨w, h, X, G, c⟩ := T.h; exact He.glo_ok X G (c.t.d.fact 16 (f := .glo "_law_whole") rfl)
theorem Tx.g__law_span (T : Tx K mg) : mg "_law_span" = some (.ref (He.fAd K d__law_span.at_)) := by obtain ⟨w, h, X, G, c⟩ := T.h; exact He.glo_ok X G (c.t.d.fact 17 (f := .glo "_law_span") rfl)
theorem Tx.g__law_word (T : Tx K mg) : mg "_law_word" = some (.ref (He.fAd K d__law_word.at_)) := by obtain ⟨w, h, X, G, c⟩ := T.h; exact He.glo_ok X G (c.t.d.fact 18 (f := .glo "_law_word") rfl)
theorem Tx.g__law_case_right (T : Tx K mg) : mg "_law_case_right" = some (.ref (He.fAd K d__law_case_right.at_)) := by obtain ⟨w, h, X, G, c⟩ := T.h; exact He.glo_ok X G (c.t.d.fact 19 (f := .glo "_law_case_right") rfl)
theorem Tx.g__law_fit_right (T : Tx K mg) : mg "_law_fit_right" = some (.ref (He.fAd K d__law_fit_right.at_)) := by obtain ⟨w, h, X, G, c⟩ := T.h; exact He.glo_ok X G (c.t.d.fact 20 (f := .glo "_law_fit_right") rfl)
theorem Tx.g__law_asked (T : Tx K mg) : mg "_law_asked" = some (.ref (He.fAd K d__law_asked.at_)) := by obtain ⟨w, h, X, G, c⟩ := T.h; exact He.glo_ok X G (c.t.d.fact 21 (f := .glo "_law_asked") rfl)
theorem Tx.g__law_few_right (T : Tx K mg) : mg "_law_few_right" = some (.ref (He.fAd K d__law_few_right.at_)) := by obtain ⟨w, h, X, G, c⟩ := T.h; exact He.glo_ok X G (c.t.d.fact 22 (f := .glo "_law_few_right") rfl)
theorem Tx.g__law_great_right (T : Tx K mg) : mg "_law_great_right" = some (.ref (He.fAd K d__law_great_right.at_)) := by obtain ⟨w, h, X, G, c⟩ := T.h; exact He.glo_ok X G (c.t.d.fact 23 (f := .glo "_law_great_right") rfl)
theorem Tx.g_law (T : Tx K mg) : mg "law" = some (.ref (He.fAd K d_law.at_)) := by obtain ⟨w, h, X, G, c⟩ := T.h; exact He.glo_ok X G (c.t.d.fact 24 (f := .glo "law") rfl)
theorem Tx.g_FitError (T : Tx K mg) : mg "FitError" = some (.ref (He.ga K "FitError")) := by obtain ⟨w, h, X, G, c⟩ := T.h; exact He.glo_ok X G (c.t.d.fact 25 (f := .glo "FitError") rfl)
theorem Tx.g_NoMeasure (T : Tx K mg) : mg "NoMeasure" = some (.ref (He.ga K "NoMeasure")) := by obtain ⟨w, h, X, G, c⟩ := T.h; exact He.glo_ok X G (c.t.d.fact 26 (f := .glo "NoMeasure") rfl)
theorem Tx.g_NoAllowance (T : Tx K mg) : mg "NoAllowance" = some (.ref (He.ga K "NoAllowance")) := by obtain ⟨w, h, X, G, c⟩ := T.h; exact He.glo_ok X G (c.t.d.fact 27 (f := .glo "NoAllowance") rfl)
theorem Tx.g_NoSpan (T : Tx K mg) : mg "NoSpan" = some (.ref (He.ga K "NoSpan")) := by obtain ⟨w, h, X, G, c⟩ := T.h; exact He.glo_ok X G (c.t.d.fact 28 (f := .glo "NoSpan") rfl)
theorem Tx.g_NoLimits (T : Tx K mg) : mg "NoLimits" = some (.ref (He.ga K "NoLimits")) := by obtain ⟨w, h, X, G, c⟩ := T.h; exact He.glo_ok X G (c.t.d.fact 29 (f := .glo "NoLimits") rfl)
theorem Tx.g_RoomError (T : Tx K mg) : mg "RoomError" = some (.ref (He.ga K "RoomError")) := by obtain ⟨w, h, X, G, c⟩ := T.h; exact He.glo_ok X G (c.t.d.fact 30 (f := .glo "RoomError") rfl)
theorem Tx.g_TooLong (T : Tx K mg) : mg "TooLong" = some (.ref (He.ga K "TooLong")) := by obtain ⟨w, h, X, G, c⟩ := T.h; exact He.glo_ok X G (c.t.d.fact 31 (f := .glo "TooLong") rfl)
theorem Tx.g_Span (T : Tx K mg) : mg "Span" = some (.ref (He.ga K "Span")) := by obtain ⟨w, h, X, G, c⟩ := T.h; exact He.glo_ok X G (c.t.d.fact 32 (f := .glo "Span") rfl)
theorem Tx.g_Fit (T : Tx K mg) : mg "Fit" = some (.ref (He.ga K "Fit")) := by obtain ⟨w, h, X, G, c⟩ := T.h; exact He.glo_ok X G (c.t.d.fact 33 (f := .glo "Fit") rfl)
theorem Tx.f_abs (T : Tx K mg) : mg "abs" = none := by obtain ⟨w, h, X, G, c⟩ := T.h; exact He.free_ok X G (c.t.d.fact 34 (f := .free "abs") rfl)
theorem Tx.f_len (T : Tx K mg) : mg "len" = none := by obtain ⟨w, h, X, G, c⟩ := T.h; exact He.free_ok X G (c.t.d.fact 35 (f := .free "len") rfl)
theorem Tx.f_sum (T : Tx K mg) : mg "sum" = none := by obtain ⟨w, h, X, G, c⟩ := T.h; exact He.free_ok X G (c.t.d.fact 36 (f := .free "sum") rfl)
theorem Tx.f_isinstance (T : Tx K mg) : mg "isinstance" = none := by obtain ⟨w, h, X, G, c⟩ := T.h; exact He.free_ok X G (c.t.d.fact 37 (f := .free "isinstance") rfl)
theorem Tx.f_int (T : Tx K mg) : mg "int" = none := by obtain ⟨w, h, X, G, c⟩ := T.h; exact He.free_ok X G (c.t.d.fact 38 (f := .free "int") rfl)
theorem Tx.f_bool (T : Tx K mg) : mg "bool" = none := by obtain ⟨w, h, X, G, c⟩ := T.h; exact He.free_ok X G (c.t.d.fact 39 (f := .free "bool") rfl)
theorem Tx.f_min (T : Tx K mg) : mg "min" = none := by obtain ⟨w, h, X, G, c⟩ := T.h; exact He.free_ok X G (c.t.d.fact 40 (f := .free "min") rfl)
theorem Tx.f_max (T : Tx K mg) : mg "max" = none := by obtain ⟨w, h, X, G, c⟩ := T.h; exact He.free_ok X G (c.t.d.fact 41 (f := .free "max") rfl)
theorem Tx.f_all (T : Tx K mg) : mg "all" = none := by obtain ⟨w, h, X, G, c⟩ := T.h; exact He.free_ok X G (c.t.d.fact 42 (f := .free "all") rfl)
theorem Tx.f_any (T : Tx K mg) : mg "any" = none := by obtain ⟨w, h, X, G, c⟩ := T.h; exact He.free_ok X G (c.t.d.fact 43 (f := .free "any") rfl)
theorem Tx.f_zip (T : Tx K mg) : mg "zip" = none := by obtain ⟨w, h, X, G, c⟩ := T.h; exact He.free_ok X G (c.t.d.fact 44 (f := .free "zip") rfl)
theorem Tx.f_tuple (T : Tx K mg) : mg "tuple" = none := by obtain ⟨w, h, X, G, c⟩ := T.h; exact He.free_ok X G (c.t.d.fact 45 (f := .free "tuple") rfl)
theorem Tx.f_str (T : Tx K mg) : mg "str" = none := by obtain ⟨w, h, X, G, c⟩ := T.h; exact He.free_ok X G (c.t.d.fact 46 (f := .free "str") rfl)
theorem Tx.f_range (T : Tx K mg) : mg "range" = none := by obtain ⟨w, h, X, G, c⟩ := T.h; exact He.free_ok X G (c.t.d.fact 47 (f := .free "range") rfl)
theorem Tx.cls_Span (T : Tx K mg) : Cls K (He.ga K "Span") := by obtain ⟨w, h, X, G, c⟩ := T.h; exact He.cls_ok (c.t.d.fact 48 (f := .cls "Span") rfl)
theorem Tx.mkr_Span (T : Tx K mg) : Mk K (He.ga K "Span") (He.fAd K d_Span___init__.at_) := by obtain ⟨w, h, X, G, c⟩ := T.h; exact He.mkr_ok (c.t.d.fact 49 (f := .mkr "Span") rfl)
theorem Tx.no_Span_size (T : Tx K mg) : NoAttr K (He.ga K "Span") "size" := by obtain ⟨w, h, X, G, c⟩ := T.h; exact He.noat_ok (c.t.d.fact 50 (f := .noat "Span" "size") rfl)
theorem Tx.no_Span_above (T : Tx K mg) : NoAttr K (He.ga K "Span") "above" := by obtain ⟨w, h, X, G, c⟩ := T.h; exact He.noat_ok (c.t.d.fact 51 (f := .noat "Span" "above") rfl)
theorem Tx.no_Span_below (T : Tx K mg) : NoAttr K (He.ga K "Span") "below" := by obtain ⟨w, h, X, G, c⟩ := T.h; exact He.noat_ok (c.t.d.fact 52 (f := .noat "Span" "below") rfl)
theorem Tx.no_Span_low (T : Tx K mg) : NoAttr K (He.ga K "Span") "low" := by obtain ⟨w, h, X, G, c⟩ := T.h; exact He.noat_ok (c.t.d.fact 53 (f := .noat "Span" "low") rfl)
theorem Tx.no_Span_high (T : Tx K mg) : NoAttr K (He.ga K "Span") "high" := by obtain ⟨w, h, X, G, c⟩ := T.h; exact He.noat_ok (c.t.d.fact 54 (f := .noat "Span" "high") rfl)
theorem Tx.cls_Fit (T : Tx K mg) : Cls K (He.ga K "Fit") := by obtain ⟨w, h, X, G, c⟩ := T.h; exact He.cls_ok (c.t.d.fact 55 (f := .cls "Fit") rfl)
theorem Tx.mkr_Fit (T : Tx K mg) : Mk K (He.ga K "Fit") (He.fAd K d_Fit___init__.at_) := by obtain ⟨w, h, X, G, c⟩ := T.h; exact He.mkr_ok (c.t.d.fact 56 (f := .mkr "Fit") rfl)
theorem Tx.no_Fit_word (T : Tx K mg) : NoAttr K (He.ga K "Fit") "word" := by obtain ⟨w, h, X, G, c⟩ := T.h; exact He.noat_ok (c.t.d.fact 57 (f := .noat "Fit" "word") rfl)
theorem Tx.no_Fit_goes (T : Tx K mg) : NoAttr K (He.ga K "Fit") "goes" := by obtain ⟨w, h, X, G, c⟩ := T.h; exact He.noat_ok (c.t.d.fact 58 (f := .noat "Fit" "goes") rfl)
theorem Tx.no_Fit_fails (T : Tx K mg) : NoAttr K (He.ga K "Fit") "fails" := by obtain ⟨w, h, X, G, c⟩ := T.h; exact He.noat_ok (c.t.d.fact 59 (f := .noat "Fit" "fails") rfl)
theorem Tx.df__law_take (T : Tx K mg) : ∃ fd, FunD K d__law_take.name d__law_take.qual d__law_take.params d__law_take.body d__law_take.scope (d__law_take.dvs K) (d__law_take.kws K) (He.fAd K d__law_take.at_) fd := by obtain ⟨w, h, X, G, c⟩ := T.h; exact c.t.d.def_ 0 (d := d__law_take) rfl
theorem Tx.df__law_allowed (T : Tx K mg) : ∃ fd, FunD K d__law_allowed.name d__law_allowed.qual d__law_allowed.params d__law_allowed.body d__law_allowed.scope (d__law_allowed.dvs K) (d__law_allowed.kws K) (He.fAd K d__law_allowed.at_) fd := by obtain ⟨w, h, X, G, c⟩ := T.h; exact c.t.d.def_ 1 (d := d__law_allowed) rfl
theorem Tx.df__law_ends (T : Tx K mg) : ∃ fd, FunD K d__law_ends.name d__law_ends.qual d__law_ends.params d__law_ends.body d__law_ends.scope (d__law_ends.dvs K) (d__law_ends.kws K) (He.fAd K d__law_ends.at_) fd := by obtain ⟨w, h, X, G, c⟩ := T.h; exact c.t.d.def_ 2 (d := d__law_ends) rfl
theorem Tx.df__law_purse (T : Tx K mg) : ∃ fd, FunD K d__law_purse.name d__law_purse.qual d__law_purse.params d__law_purse.body d__law_purse.scope (d__law_purse.dvs K) (d__law_purse.kws K) (He.fAd K d__law_purse.at_) fd := by obtain ⟨w, h, X, G, c⟩ := T.h; exact c.t.d.def_ 3 (d := d__law_purse) rfl
theorem Tx.df__law_cell (T : Tx K mg) : ∃ fd, FunD K d__law_cell.name d__law_cell.qual d__law_cell.params d__law_cell.body d__law_cell.scope (d__law_cell.dvs K) (d__law_cell.kws K) (He.fAd K d__law_cell.at_) fd := by obtain ⟨w, h, X, G, c⟩ := T.h; exact c.t.d.def_ 4 (d := d__law_cell) rfl
theorem Tx.df_is_measure (T : Tx K mg) : ∃ fd, FunD K d_is_measure.name d_is_measure.qual d_is_measure.params d_is_measure.body d_is_measure.scope (d_is_measure.dvs K) (d_is_measure.kws K) (He.fAd K d_is_measure.at_) fd := by obtain ⟨w, h, X, G, c⟩ := T.h; exact c.t.d.def_ 5 (d := d_is_measure) rfl
theorem Tx.df_check_measure (T : Tx K mg) : ∃ fd, FunD K d_check_measure.name d_check_measure.qual d_check_measure.params d_check_measure.body d_check_measure.scope (d_check_measure.dvs K) (d_check_measure.kws K) (He.fAd K d_check_measure.at_) fd := by obtain ⟨w, h, X, G, c⟩ := T.h; exact c.t.d.def_ 6 (d := d_check_measure) rfl
theorem Tx.df_check_allowance (T : Tx K mg) : ∃ fd, FunD K d_check_allowance.name d_check_allowance.qual d_check_allowance.params d_check_allowance.body d_check_allowance.scope (d_check_allowance.dvs K) (d_check_allowance.kws K) (He.fAd K d_check_allowance.at_) fd := by obtain ⟨w, h, X, G, c⟩ := T.h; exact c.t.d.def_ 7 (d := d_check_allowance) rfl
theorem Tx.df_Span___init__ (T : Tx K mg) : ∃ fd, FunD K d_Span___init__.name d_Span___init__.qual d_Span___init__.params d_Span___init__.body d_Span___init__.scope (d_Span___init__.dvs K) (d_Span___init__.kws K) (He.fAd K d_Span___init__.at_) fd := by obtain ⟨w, h, X, G, c⟩ := T.h; exact c.t.d.def_ 8 (d := d_Span___init__) rfl
theorem Tx.df_check_span (T : Tx K mg) : ∃ fd, FunD K d_check_span.name d_check_span.qual d_check_span.params d_check_span.body d_check_span.scope (d_check_span.dvs K) (d_check_span.kws K) (He.fAd K d_check_span.at_) fd := by obtain ⟨w, h, X, G, c⟩ := T.h; exact c.t.d.def_ 9 (d := d_check_span) rfl
theorem Tx.df_check_limits (T : Tx K mg) : ∃ fd, FunD K d_check_limits.name d_check_limits.qual d_check_limits.params d_check_limits.body d_check_limits.scope (d_check_limits.dvs K) (d_check_limits.kws K) (He.fAd K d_check_limits.at_) fd := by obtain ⟨w, h, X, G, c⟩ := T.h; exact c.t.d.def_ 10 (d := d_check_limits) rfl
theorem Tx.df_Fit___init__ (T : Tx K mg) : ∃ fd, FunD K d_Fit___init__.name d_Fit___init__.qual d_Fit___init__.params d_Fit___init__.body d_Fit___init__.scope (d_Fit___init__.dvs K) (d_Fit___init__.kws K) (He.fAd K d_Fit___init__.at_) fd := by obtain ⟨w, h, X, G, c⟩ := T.h; exact c.t.d.def_ 11 (d := d_Fit___init__) rfl
theorem Tx.df_with_gap (T : Tx K mg) : ∃ fd, FunD K d_with_gap.name d_with_gap.qual d_with_gap.params d_with_gap.body d_with_gap.scope (d_with_gap.dvs K) (d_with_gap.kws K) (He.fAd K d_with_gap.at_) fd := by obtain ⟨w, h, X, G, c⟩ := T.h; exact c.t.d.def_ 12 (d := d_with_gap) rfl
theorem Tx.df_fit (T : Tx K mg) : ∃ fd, FunD K d_fit.name d_fit.qual d_fit.params d_fit.body d_fit.scope (d_fit.dvs K) (d_fit.kws K) (He.fAd K d_fit.at_) fd := by obtain ⟨w, h, X, G, c⟩ := T.h; exact c.t.d.def_ 13 (d := d_fit) rfl
theorem Tx.df__law_few (T : Tx K mg) : ∃ fd, FunD K d__law_few.name d__law_few.qual d__law_few.params d__law_few.body d__law_few.scope (d__law_few.dvs K) (d__law_few.kws K) (He.fAd K d__law_few.at_) fd := by obtain ⟨w, h, X, G, c⟩ := T.h; exact c.t.d.def_ 14 (d := d__law_few) rfl
theorem Tx.df__law_small (T : Tx K mg) : ∃ fd, FunD K d__law_small.name d__law_small.qual d__law_small.params d__law_small.body d__law_small.scope (d__law_small.dvs K) (d__law_small.kws K) (He.fAd K d__law_small.at_) fd := by obtain ⟨w, h, X, G, c⟩ := T.h; exact c.t.d.def_ 15 (d := d__law_small) rfl
theorem Tx.df__law_bounds (T : Tx K mg) : ∃ fd, FunD K d__law_bounds.name d__law_bounds.qual d__law_bounds.params d__law_bounds.body d__law_bounds.scope (d__law_bounds.dvs K) (d__law_bounds.kws K) (He.fAd K d__law_bounds.at_) fd := by obtain ⟨w, h, X, G, c⟩ := T.h; exact c.t.d.def_ 16 (d := d__law_bounds) rfl
theorem Tx.df__law_goes (T : Tx K mg) : ∃ fd, FunD K d__law_goes.name d__law_goes.qual d__law_goes.params d__law_goes.body d__law_goes.scope (d__law_goes.dvs K) (d__law_goes.kws K) (He.fAd K d__law_goes.at_) fd := by obtain ⟨w, h, X, G, c⟩ := T.h; exact c.t.d.def_ 17 (d := d__law_goes) rfl
theorem Tx.df__law_whole (T : Tx K mg) : ∃ fd, FunD K d__law_whole.name d__law_whole.qual d__law_whole.params d__law_whole.body d__law_whole.scope (d__law_whole.dvs K) (d__law_whole.kws K) (He.fAd K d__law_whole.at_) fd := by obtain ⟨w, h, X, G, c⟩ := T.h; exact c.t.d.def_ 18 (d := d__law_whole) rfl
theorem Tx.df__law_span (T : Tx K mg) : ∃ fd, FunD K d__law_span.name d__law_span.qual d__law_span.params d__law_span.body d__law_span.scope (d__law_span.dvs K) (d__law_span.kws K) (He.fAd K d__law_span.at_) fd := by obtain ⟨w, h, X, G, c⟩ := T.h; exact c.t.d.def_ 19 (d := d__law_span) rfl
theorem Tx.df__law_word (T : Tx K mg) : ∃ fd, FunD K d__law_word.name d__law_word.qual d__law_word.params d__law_word.body d__law_word.scope (d__law_word.dvs K) (d__law_word.kws K) (He.fAd K d__law_word.at_) fd := by obtain ⟨w, h, X, G, c⟩ := T.h; exact c.t.d.def_ 20 (d := d__law_word) rfl
theorem Tx.df__law_case_right (T : Tx K mg) : ∃ fd, FunD K d__law_case_right.name d__law_case_right.qual d__law_case_right.params d__law_case_right.body d__law_case_right.scope (d__law_case_right.dvs K) (d__law_case_right.kws K) (He.fAd K d__law_case_right.at_) fd := by obtain ⟨w, h, X, G, c⟩ := T.h; exact c.t.d.def_ 21 (d := d__law_case_right) rfl
theorem Tx.df__law_fit_right (T : Tx K mg) : ∃ fd, FunD K d__law_fit_right.name d__law_fit_right.qual d__law_fit_right.params d__law_fit_right.body d__law_fit_right.scope (d__law_fit_right.dvs K) (d__law_fit_right.kws K) (He.fAd K d__law_fit_right.at_) fd := by obtain ⟨w, h, X, G, c⟩ := T.h; exact c.t.d.def_ 22 (d := d__law_fit_right) rfl
theorem Tx.df__law_asked (T : Tx K mg) : ∃ fd, FunD K d__law_asked.name d__law_asked.qual d__law_asked.params d__law_asked.body d__law_asked.scope (d__law_asked.dvs K) (d__law_asked.kws K) (He.fAd K d__law_asked.at_) fd := by obtain ⟨w, h, X, G, c⟩ := T.h; exact c.t.d.def_ 23 (d := d__law_asked) rfl
theorem Tx.df__law_few_right (T : Tx K mg) : ∃ fd, FunD K d__law_few_right.name d__law_few_right.qual d__law_few_right.params d__law_few_right.body d__law_few_right.scope (d__law_few_right.dvs K) (d__law_few_right.kws K) (He.fAd K d__law_few_right.at_) fd := by obtain ⟨w, h, X, G, c⟩ := T.h; exact c.t.d.def_ 24 (d := d__law_few_right) rfl
theorem Tx.df__law_great_right (T : Tx K mg) : ∃ fd, FunD K d__law_great_right.name d__law_great_right.qual d__law_great_right.params d__law_great_right.body d__law_great_right.scope (d__law_great_right.dvs K) (d__law_great_right.kws K) (He.fAd K d__law_great_right.at_) fd := by obtain ⟨w, h, X, G, c⟩ := T.h; exact c.t.d.def_ 25 (d := d__law_great_right) rfl
theorem Tx.df_law (T : Tx K mg) : ∃ fd, FunD K d_law.name d_law.qual d_law.params d_law.body d_law.scope (d_law.dvs K) (d_law.kws K) (He.fAd K d_law.at_) fd := by obtain ⟨w, h, X, G, c⟩ := T.h; exact c.t.d.def_ 26 (d := d_law) rfl
theorem Tx.ex (T : Tx K mg) : ex K = true := by obtain ⟨w, h, X, G, c⟩ := T.h; exact c.more
theorem Tx.xs_Span (T : Tx K mg) : ex_Span K = true := by
  have e : (ex_Span K && (ex_Fit K)) = true := T.ex
  exact (He.ba e).1
theorem Tx.ins_Span (T : Tx K mg) : Gx.InsK K (He.ga K "Span") := by
  have e := T.xs_Span
  unfold ex_Span at e
  simp only [Bool.and_eq_true, decide_eq_true_eq] at e
  obtain ⟨h1, h2, h3, h4, _⟩ := e
  exact ⟨T.cls_Span, He.eqO_ok h1, He.eqO_ok h2, h3, h4⟩
theorem Tx.nk_NoneType_Span (T : Tx K mg) : PySem.W.kitOne K (.type "NoneType") (.ref (He.ga K "Span")) = some false := by
  have e := T.xs_Span
  unfold ex_Span at e
  simp only [Bool.and_eq_true, decide_eq_true_eq] at e
  obtain ⟨_, _, _, _, h, _⟩ := e
  exact h
theorem Tx.nk_int_Span (T : Tx K mg) : PySem.W.kitOne K (.type "int") (.ref (He.ga K "Span")) = some false := by
  have e := T.xs_Span
  unfold ex_Span at e
  simp only [Bool.and_eq_true, decide_eq_true_eq] at e
  obtain ⟨_, _, _, _, _, h, _⟩ := e
  exact h
theorem Tx.nk_bool_Span (T : Tx K mg) : PySem.W.kitOne K (.type "bool") (.ref (He.ga K "Span")) = some false := by
  have e := T.xs_Span
  unfold ex_Span at e
  simp only [Bool.and_eq_true, decide_eq_true_eq] at e
  obtain ⟨_, _, _, _, _, _, h, _⟩ := e
  exact h
theorem Tx.nk_str_Span (T : Tx K mg) : PySem.W.kitOne K (.type "str") (.ref (He.ga K "Span")) = some false := by
  have e := T.xs_Span
  unfold ex_Span at e
  simp only [Bool.and_eq_true, decide_eq_true_eq] at e
  obtain ⟨_, _, _, _, _, _, _, h, _⟩ := e
  exact h
theorem Tx.nk_list_Span (T : Tx K mg) : PySem.W.kitOne K (.type "list") (.ref (He.ga K "Span")) = some false := by
  have e := T.xs_Span
  unfold ex_Span at e
  simp only [Bool.and_eq_true, decide_eq_true_eq] at e
  obtain ⟨_, _, _, _, _, _, _, _, h, _⟩ := e
  exact h
theorem Tx.nk_tuple_Span (T : Tx K mg) : PySem.W.kitOne K (.type "tuple") (.ref (He.ga K "Span")) = some false := by
  have e := T.xs_Span
  unfold ex_Span at e
  simp only [Bool.and_eq_true, decide_eq_true_eq] at e
  obtain ⟨_, _, _, _, _, _, _, _, _, h, _⟩ := e
  exact h
theorem Tx.nk_dict_Span (T : Tx K mg) : PySem.W.kitOne K (.type "dict") (.ref (He.ga K "Span")) = some false := by
  have e := T.xs_Span
  unfold ex_Span at e
  simp only [Bool.and_eq_true, decide_eq_true_eq] at e
  obtain ⟨_, _, _, _, _, _, _, _, _, _, h⟩ := e
  exact h
theorem Tx.xs_Fit (T : Tx K mg) : ex_Fit K = true := by
  have e : (ex_Span K && (ex_Fit K)) = true := T.ex
  exact (He.ba e).2
theorem Tx.ins_Fit (T : Tx K mg) : Gx.InsK K (He.ga K "Fit") := by
  have e := T.xs_Fit
  unfold ex_Fit at e
  simp only [Bool.and_eq_true, decide_eq_true_eq] at e
  obtain ⟨h1, h2, h3, h4, _⟩ := e
  exact ⟨T.cls_Fit, He.eqO_ok h1, He.eqO_ok h2, h3, h4⟩
theorem Tx.nk_NoneType_Fit (T : Tx K mg) : PySem.W.kitOne K (.type "NoneType") (.ref (He.ga K "Fit")) = some false := by
  have e := T.xs_Fit
  unfold ex_Fit at e
  simp only [Bool.and_eq_true, decide_eq_true_eq] at e
  obtain ⟨_, _, _, _, h, _⟩ := e
  exact h
theorem Tx.nk_int_Fit (T : Tx K mg) : PySem.W.kitOne K (.type "int") (.ref (He.ga K "Fit")) = some false := by
  have e := T.xs_Fit
  unfold ex_Fit at e
  simp only [Bool.and_eq_true, decide_eq_true_eq] at e
  obtain ⟨_, _, _, _, _, h, _⟩ := e
  exact h
theorem Tx.nk_bool_Fit (T : Tx K mg) : PySem.W.kitOne K (.type "bool") (.ref (He.ga K "Fit")) = some false := by
  have e := T.xs_Fit
  unfold ex_Fit at e
  simp only [Bool.and_eq_true, decide_eq_true_eq] at e
  obtain ⟨_, _, _, _, _, _, h, _⟩ := e
  exact h
theorem Tx.nk_str_Fit (T : Tx K mg) : PySem.W.kitOne K (.type "str") (.ref (He.ga K "Fit")) = some false := by
  have e := T.xs_Fit
  unfold ex_Fit at e
  simp only [Bool.and_eq_true, decide_eq_true_eq] at e
  obtain ⟨_, _, _, _, _, _, _, h, _⟩ := e
  exact h
theorem Tx.nk_list_Fit (T : Tx K mg) : PySem.W.kitOne K (.type "list") (.ref (He.ga K "Fit")) = some false := by
  have e := T.xs_Fit
  unfold ex_Fit at e
  simp only [Bool.and_eq_true, decide_eq_true_eq] at e
  obtain ⟨_, _, _, _, _, _, _, _, h, _⟩ := e
  exact h
theorem Tx.nk_tuple_Fit (T : Tx K mg) : PySem.W.kitOne K (.type "tuple") (.ref (He.ga K "Fit")) = some false := by
  have e := T.xs_Fit
  unfold ex_Fit at e
  simp only [Bool.and_eq_true, decide_eq_true_eq] at e
  obtain ⟨_, _, _, _, _, _, _, _, _, h, _⟩ := e
  exact h
theorem Tx.nk_dict_Fit (T : Tx K mg) : PySem.W.kitOne K (.type "dict") (.ref (He.ga K "Fit")) = some false := by
  have e := T.xs_Fit
  unfold ex_Fit at e
  simp only [Bool.and_eq_true, decide_eq_true_eq] at e
  obtain ⟨_, _, _, _, _, _, _, _, _, _, h⟩ := e
  exact h
end
theorem b__law_take : Gx.BdN d__law_take ["_law_purse_here", "_law_many"] := ⟨rfl, fun _ _ _ _ _ _ us hl => match us, hl with | [_, _], _ => rfl⟩
theorem b__law_allowed : Gx.BdN d__law_allowed ["_law_purse_here", "_law_wide"] := ⟨rfl, fun _ _ _ _ _ _ us hl => match us, hl with | [_, _], _ => rfl⟩
theorem b__law_ends : Gx.BdN d__law_ends ["_law_parts"] := ⟨rfl, fun _ _ _ _ _ _ us hl => match us, hl with | [_], _ => rfl⟩
theorem b__law_purse : Gx.BdN d__law_purse ["_law_cell_here"] := ⟨rfl, fun _ _ _ _ _ _ us hl => match us, hl with | [_], _ => rfl⟩
theorem b__law_cell : Gx.BdN d__law_cell ["_law_script", "_law_k"] := ⟨rfl, fun _ _ _ _ _ _ us hl => match us, hl with | [_, _], _ => rfl⟩
theorem b_is_measure : Gx.BdN d_is_measure ["thing"] := ⟨rfl, fun _ _ _ _ _ _ us hl => match us, hl with | [_], _ => rfl⟩
theorem b_check_measure : Gx.BdN d_check_measure ["thing"] := ⟨rfl, fun _ _ _ _ _ _ us hl => match us, hl with | [_], _ => rfl⟩
theorem b_check_allowance : Gx.BdN d_check_allowance ["above", "below"] := ⟨rfl, fun _ _ _ _ _ _ us hl => match us, hl with | [_, _], _ => rfl⟩
theorem b_check_span : Gx.BdN d_check_span ["thing"] := ⟨rfl, fun _ _ _ _ _ _ us hl => match us, hl with | [_], _ => rfl⟩
theorem b_check_limits : Gx.BdN d_check_limits ["least", "most", "endless"] := ⟨rfl, fun _ _ _ _ _ _ us hl => match us, hl with | [_, _, _], _ => rfl⟩
theorem b_Fit___init__ : Gx.BdN d_Fit___init__ ["self", "word", "goes", "fails"] := ⟨rfl, fun _ _ _ _ _ _ us hl => match us, hl with | [_, _, _, _], _ => rfl⟩
theorem b_with_gap : Gx.BdN d_with_gap ["hole", "peg", "gap"] := ⟨rfl, fun _ _ _ _ _ _ us hl => match us, hl with | [_, _, _], _ => rfl⟩
theorem b__law_few : Gx.BdN d__law_few ["_law_purse_here"] := ⟨rfl, fun _ _ _ _ _ _ us hl => match us, hl with | [_], _ => rfl⟩
theorem b__law_small : Gx.BdN d__law_small ["_law_purse_here", "_law_wide"] := ⟨rfl, fun _ _ _ _ _ _ us hl => match us, hl with | [_, _], _ => rfl⟩
theorem b__law_bounds : Gx.BdN d__law_bounds ["_law_purse_here", "_law_low", "_law_high"] := ⟨rfl, fun _ _ _ _ _ _ us hl => match us, hl with | [_, _, _], _ => rfl⟩
theorem b__law_goes : Gx.BdN d__law_goes ["_law_gap", "_law_floor", "_law_roof"] := ⟨rfl, fun _ _ _ _ _ _ us hl => match us, hl with | [_, _, _], _ => rfl⟩
theorem b__law_whole : Gx.BdN d__law_whole ["_law_thing"] := ⟨rfl, fun _ _ _ _ _ _ us hl => match us, hl with | [_], _ => rfl⟩
theorem b__law_span : Gx.BdN d__law_span ["_law_parts"] := ⟨rfl, fun _ _ _ _ _ _ us hl => match us, hl with | [_], _ => rfl⟩
theorem b__law_word : Gx.BdN d__law_word ["_law_gaps", "_law_floor", "_law_roof"] := ⟨rfl, fun _ _ _ _ _ _ us hl => match us, hl with | [_, _, _], _ => rfl⟩
theorem b__law_case_right : Gx.BdN d__law_case_right ["_law_told", "_law_outer", "_law_inner", "_law_floor", "_law_roof", "_law_goes_here"] := ⟨rfl, fun _ _ _ _ _ _ us hl => match us, hl with | [_, _, _, _, _, _], _ => rfl⟩
theorem b__law_fit_right : Gx.BdN d__law_fit_right ["_law_told", "_law_outer", "_law_inner", "_law_floor", "_law_roof", "_law_word_here"] := ⟨rfl, fun _ _ _ _ _ _ us hl => match us, hl with | [_, _, _, _, _, _], _ => rfl⟩
theorem b__law_asked : Gx.BdN d__law_asked ["_law_pair", "_law_outer", "_law_inner", "_law_floor", "_law_roof", "_law_word_here"] := ⟨rfl, fun _ _ _ _ _ _ us hl => match us, hl with | [_, _, _, _, _, _], _ => rfl⟩
theorem b__law_few_right : Gx.BdN d__law_few_right ["_law_purse_here"] := ⟨rfl, fun _ _ _ _ _ _ us hl => match us, hl with | [_], _ => rfl⟩
theorem b__law_great_right : Gx.BdN d__law_great_right ["_law_purse_here"] := ⟨rfl, fun _ _ _ _ _ _ us hl => match us, hl with | [_], _ => rfl⟩
theorem b_law : Gx.BdN d_law ["_law_script"] := ⟨rfl, fun _ _ _ _ _ _ us hl => match us, hl with | [_], _ => rfl⟩
end Hd
namespace Gx
open PySem PySem.Spec PyProof.Rows L2 Hd
/-! ### the walk's own tactics -/
set_option hygiene false in
local macro_rules | `(tactic| walk_at "mem0") => `(tactic| first | with_reducible assumption | exact List.mem_cons_self | (refine List.mem_cons_of_mem _ ?_; walk_at "mem0"))
set_option hygiene false in
local macro_rules | `(tactic| walk_at "mem") => `(tactic| first | walk_at "mem0" | assumption)
set_option hygiene false in
local macro_rules | `(tactic| walk_at "noat") => `(tactic| first | exact T.no_Span_size | exact T.no_Span_above | exact T.no_Span_below | exact T.no_Span_low | exact T.no_Span_high | exact T.no_Fit_word | exact T.no_Fit_goes | exact T.no_Fit_fails)
set_option hygiene false in
local macro_rules | `(tactic| walk_at "cls") => `(tactic| first | exact T.cls_Span | exact T.cls_Fit)
set_option hygiene false in
local macro_rules | `(tactic| walk_at "s0") => `(tactic| first
  | ((with_reducible refine' s_var ?h ?_); (case h => exact rfl))
  | with_reducible refine s_c ?_
  | with_reducible refine s_cons ?_
  | with_reducible refine s_nil ?_
  | with_reducible refine s_op ?_
  | with_reducible refine s_I0 ?_
  | with_reducible refine s_call ?_
  | with_reducible refine s_cb ?_
  | with_reducible refine s_seq ?_
  | with_reducible refine s_asg ?_
  | ((with_reducible refine' g_nameE ?e ?_); (case e => simp only [wipe, List.map_cons, List.map_nil, List.set_cons_succ, List.set_cons_zero]; exact rfl))
  | with_reducible refine g_name ?_
  | with_reducible refine s_ret ?_
  | with_reducible refine s_ifS ?_
  | with_reducible refine s_test ?_
  | with_reducible refine s_B ?_
  | with_reducible refine s_bl ?_
  | with_reducible refine s_not ?_
  | with_reducible refine s_tup ?_
  | with_reducible refine s_lst ?_
  | ((with_reducible refine' s_ixTn kn ?m ?e ?_); (case m => walk_at "mem"); (case e => exact rfl))
  | ((with_reducible refine' s_ixLn kn ?m ?e ?_); (case m => walk_at "mem"); (case e => exact rfl))
  | ((with_reducible refine' s_ixMn kn ?e ?_); (case e => exact rfl))
  | ((with_reducible refine' s_ixR kn ?m ?e ?h0 ?h1 ?_); (case m => walk_at "mem"); (case e => exact rfl); (case h0 => omega); (case h1 => (simp only [List.length_cons, List.length_nil]; omega)); intro z hz; simp only [List.map, unI, List.mem_cons, List.not_mem_nil, or_false] at hz)
  | ((with_reducible refine' r_tup kn ?l ?_); (case l => exact sl rfl); clear kn; intro pN kn)
  | ((with_reducible refine' s_setL kn ?e ?_); (case e => exact rfl); clear kn; intro kn)
  | ((with_reducible refine s_I ?c ?_); (case c => first | (show (0 : Int) < _; omega) | (unfold CMul; omega) | (unfold CDiv; omega)))
  | with_reducible refine s_eqI ?_
  | with_reducible refine s_neI ?_
  | with_reducible refine s_drop ?_
  | with_reducible refine s_par ?_
  | ((with_reducible refine' r_par ?e ?_); (case e => simp only [List.set_cons_succ, List.set_cons_zero]; exact rfl))
  | with_reducible refine s_next ?_
  | with_reducible refine g_sub ?_
  | with_reducible refine s_12 ?_
  | with_reducible refine s_1 ?_
  | with_reducible refine s_and ?_
  | with_reducible refine s_or ?_
  | with_reducible refine s_if ?_
  | with_reducible refine s_andV ?_
  | with_reducible refine s_orV ?_
  | with_reducible refine s_notV ?_
  | with_reducible refine s_chain ?_
  | with_reducible refine s_fld ?_
  | with_reducible refine s_sfld ?_
  | with_reducible refine s_self ?_
  | with_reducible refine s_ref ?_
  | with_reducible refine s_intE ?_
  | with_reducible refine s_int1 ?_
  | with_reducible refine s_intB ?_
  | with_reducible refine isi_int_int ?_
  | with_reducible refine isi_int_bool ?_
  | with_reducible refine isi_bool_bool ?_
  | with_reducible refine isi_str_str ?_
  | ((with_reducible refine' isi_tup_tup kn ?m ?_); (case m => walk_at "mem"))
  | ((with_reducible refine' isi_span ?I kn ?m ?_); (case m => walk_at "mem"); (case I => exact T.ins_Span))
  | ((with_reducible refine' isi_non_cls ?I ?_); (case I => exact T.nk_NoneType_Span))
  | ((with_reducible refine' r_fldS kn ?m ?c ?no ?e ?_); (case m => walk_at "mem"); (case c => walk_at "cls"); (case no => walk_at "noat"); (case e => exact rfl))
  | ((with_reducible refine' r_sfld kn ?c ?no ?hl ?_); (case c => walk_at "cls"); (case no => walk_at "noat"); (case hl => exact lt1000 rfl); clear kn; intro HN kn)
  | ((with_reducible refine' r_fldN kn ?m ?c ?no ?e ?_); (case m => walk_at "mem"); (case c => walk_at "cls"); (case no => walk_at "noat"); (case e => exact rfl))
  | ((with_reducible refine' isi_N ?I kn ?m ?_); (case m => walk_at "mem"); (case I => exact T.ins_Fit))
  | ((with_reducible refine' r_mk3 kn ?e ?_); (case e => exact fun _ => rfl); clear kn; intro xN HN kn)
  | with_reducible refine s_make ?_
  | with_reducible refine s_makeN ?_
  | ((with_reducible refine r_mkN ?h1 ?h2 ?_); (case h1 => exact rfl); (case h2 => exact rfl))
  | ((with_reducible refine' r_mkS kn ?e ?h0 ?_); (case e => exact fun _ => rfl); (case h0 => omega); clear kn; intro xN HN kn)
  | with_reducible refine s_callN ?_
  | ((with_reducible refine r_len2 ?h1 ?h2 ?_); (case h1 => exact rfl); (case h2 => exact rfl))
  | with_reducible refine s_forT ?_
  | with_reducible refine s_forL ?_
  | ((with_reducible refine' r_forTU kn ?m ?_); (case m => walk_at "mem"))
  | ((with_reducible refine' r_forLU kn ?m ?_); (case m => walk_at "mem"))
  | with_reducible refine fu_nil ?_
  | with_reducible refine fu_cons ?_
  | ((with_reducible refine' g_tup kn ?m ?hl ?_); (case m => walk_at "mem"); (case hl => exact rfl))
  | ((with_reducible refine' s_catT kn ?m1 ?m2 ?n1 ?n2 ?hl ?_); (case m1 => walk_at "mem"); (case m2 => walk_at "mem"); (case n1 => exact List.cons_ne_nil _ _); (case n2 => exact List.cons_ne_nil _ _); (case hl => exact sl rfl); clear kn; intro pN kn)
  | ((with_reducible refine' s_lenL kn ?m ?_); (case m => walk_at "mem"))
  | ((with_reducible refine' s_lenL' kn ?m ?_); (case m => walk_at "mem"))
  | ((with_reducible refine' s_lenT kn ?m ?_); (case m => walk_at "mem"))
  | with_reducible refine s_yes ?_
  | ((with_reducible refine' s_eqTI kn ?m1 ?m2 ?e1 ?e2 ?z1 ?z2 ?_); (case m1 => walk_at "mem"); (case m2 => walk_at "mem"); (case e1 => exact rfl); (case e2 => exact rfl); (case z1 => exact rfl); (case z2 => exact rfl))
  | with_reducible refine s_iteT ?_
  | with_reducible refine s_iteF ?_
  | with_reducible refine s_iteNT ?_
  | with_reducible refine s_iteNF ?_
  | with_reducible refine s_sl ?_
  | with_reducible refine s_noP ?_
  | with_reducible refine s_part ?_
  | ((with_reducible refine' s_slL kn ?m ?_); (case m => walk_at "mem"); clear kn; intro pN kn)
  | ((with_reducible refine' s_slL' kn ?m ?_); (case m => walk_at "mem"); clear kn; intro pN kn)
  | with_reducible refine s_lcL ?_
  | with_reducible refine s_lcR1 ?_
  | with_reducible refine s_lcR2 ?_
  | with_reducible refine s_lcT ?_
  | with_reducible refine s_forR1 ?_
  | with_reducible refine s_forR2 ?_
  | with_reducible refine s_zip ?_
  | ((with_reducible refine' r_zipT kn ?m1 ?m2 ?hl ?_); (case m1 => walk_at "mem"); (case m2 => walk_at "mem"); (case hl => exact rfl); simp only [List.zip_cons_cons, List.zip_nil_right, List.zip_nil_left])
  | with_reducible refine fz_nil ?_
  | ((with_reducible refine fz_cons kn ?_); clear kn; intro TN kn)
  | with_reducible refine s_bm ?_
  | with_reducible refine r_bmL kn ?_
  | ((with_reducible refine' s_app kn ?l ?_); (case l => exact sllt rfl); clear kn; intro kn)
  | ((with_reducible refine' s_cat kn ?m1 ?m2 ?l ?_); (case m1 => walk_at "mem"); (case m2 => walk_at "mem"); (case l => exact sl rfl); clear kn; intro pN kn)
  | with_reducible refine s_eqB ?_
  | with_reducible refine s_neB ?_
  | with_reducible refine s_eqS ?_
  | with_reducible refine s_neS ?_
  | with_reducible refine g_nil ?_
  | with_reducible refine g_cons ?_
  | with_reducible refine s_retN ?_
  | dsimp only)
set_option hygiene false in
local macro_rules | `(tactic| walk_at "s1") => `(tactic| first | walk_at "s0" | ((with_reducible refine' r_lst kn ?l ?_); (case l => exact sl rfl); clear kn; intro pN kn))
set_option hygiene false in
local macro_rules | `(tactic| walk_at "s") => `(tactic| repeat walk_at "s1")
set_option hygiene false in
local macro_rules | `(tactic| walk_at "t") => `(tactic| repeat walk_at "s0")
set_option hygiene false in
local macro_rules | `(tactic| walk_at "take") => `(tactic| ((refine ⟨_, _, _, _, rfl, kn, ?n0, ?n1, fun r H2 r0 r1 kn2 => ?_⟩); (case n0 => omega); (case n1 => omega); clear kn; have kn := kn2; clear kn2))
set_option hygiene false in
local macro_rules | `(tactic| walk_at "tl") => `(tactic| first | exact hf | (refine List.mem_cons_of_mem _ ?_; walk_at "tl"))
set_option hygiene false in
local macro_rules | `(tactic| walk_at "keep1") => `(tactic| first | walk_at "tl" | (rcases List.mem_cons.mp hf with e | hf2; (· rw [e]; walk_at "mem"); (clear hf; have hf := hf2; clear hf2; walk_at "keep1")))
set_option hygiene false in
local macro_rules | `(tactic| walk_at "keep") => `(tactic| (intro f hf; walk_at "keep1"))
set_option hygiene false in
local macro_rules | `(tactic| walk_at "measure") => `(tactic| ((refine ⟨_, _, _, rfl, kn, fun r H2 r0 r1 kn2 => ?_⟩); clear kn; have kn := kn2; clear kn2))
set_option hygiene false in
local macro_rules | `(tactic| walk_at "allowed") => `(tactic| ((refine ⟨_, _, _, _, rfl, kn, ?n0, ?n1, fun t u l H2 r0 r1 r2 kn2 => ?_⟩); (case n0 => omega); (case n1 => omega); clear kn; have kn := kn2; clear kn2))
set_option hygiene false in
local macro_rules | `(tactic| walk_at "chs") => `(tactic| ((refine' ⟨_, _, _, _, _, _, rfl, kn, ?m, ?_⟩); (case m => walk_at "mem")))
set_option hygiene false in
local macro_rules | `(tactic| walk_at "mand") => `(tactic| ((refine' m_and (fun hb Q' q => ?hb) ?_); (case hb => walk_at "s"; exact q)))
set_option hygiene false in
local macro_rules | `(tactic| walk_at "mor") => `(tactic| ((refine' m_or (fun hb Q' q => ?hb) ?_); (case hb => walk_at "s"; exact q)))
set_option hygiene false in
local macro_rules | `(tactic| walk_at "next") => `(tactic| ((refine And.intro ?h ?_); (case h => (first | exact kn.sqt (by walk_at "mem") | exact kn.sql (by walk_at "mem"))); walk_at "s"))
set_option hygiene false in
local macro_rules | `(tactic| walk_at "parts") => `(tactic| ((refine ⟨_, _, _, _, rfl, kn, ?n0, ?n1, fun t s u l H2 r0 r1 r2 r3 kn2 => ?_⟩); (case n0 => omega); (case n1 => omega); clear kn; have kn := kn2; clear kn2))
set_option hygiene false in
local macro_rules | `(tactic| walk_at "ends") => `(tactic| ((refine' ⟨_, _, _, _, _, _, rfl, kn, ?m, fun t H2 kn2 => ?_⟩); (case m => walk_at "mem"); clear kn; have kn := kn2; clear kn2))
set_option hygiene false in
local macro_rules | `(tactic| walk_at "ixw") => `(tactic| first
  | ((with_reducible refine' s_ixT kn ?m ?e ?_); (case m => walk_at "mem"); (case e => exact rfl))
  | ((with_reducible refine' s_ixL kn ?m ?e ?_); (case m => walk_at "mem"); (case e => exact rfl)))
set_option hygiene false in
local macro_rules | `(tactic| walk_at "bothN1") => `(tactic| ((refine' ⟨_, _, _, _, _, _, _, _, _, _, max (s - l) (a - c), min (s + u) (a + b), rfl, kn, ?m1, ?m2, ?e1, ?e2, fun _ x H2 kn2 => ?_, fun h => absurd h (by omega)⟩); (case m1 => walk_at "mem"); (case m2 => walk_at "mem"); (case e1 => omega); (case e2 => omega); clear kn; have kn := kn2; clear kn2))
set_option hygiene false in
local macro_rules | `(tactic| walk_at "bothN0") => `(tactic| ((refine' ⟨_, _, _, _, _, _, _, _, _, _, max (s - l) (a - c), min (s + u) (a + b), rfl, kn, ?m1, ?m2, ?e1, ?e2, fun h => absurd h hh, fun _ H2 kn2 => ?_⟩); (case m1 => walk_at "mem"); (case m2 => walk_at "mem"); (case e1 => omega); (case e2 => omega); clear kn; have kn := kn2; clear kn2))
set_option hygiene false in
local macro_rules | `(tactic| walk_at "bothR1") => `(tactic| ((refine' ⟨_, _, _, _, _, rfl, kn, .inr ⟨_, rfl, hh, ?m⟩, fun H2 kn2 => ?_⟩); (case m => walk_at "mem"); clear kn; have kn := kn2; clear kn2; walk_at "s"))
set_option hygiene false in
local macro_rules | `(tactic| walk_at "bothR0") => `(tactic| ((refine ⟨_, _, _, _, _, rfl, kn, .inl ⟨rfl, by omega⟩, fun H2 kn2 => ?_⟩); clear kn; have kn := kn2; clear kn2; walk_at "s"))
set_option hygiene false in
local macro_rules | `(tactic| walk_at "within") => `(tactic| ((refine' ⟨_, _, _, _, _, _, _, _, _, _, rfl, kn, ?m1, ?m2, fun bb hb H2 kn2 => ?_⟩); (case m1 => walk_at "mem"); (case m2 => walk_at "mem"); clear kn; have kn := kn2; clear kn2))
set_option hygiene false in
local macro_rules | `(tactic| walk_at "istrue") => `(tactic| refine ⟨_, _, rfl, by rw [hb]; simp, ?_⟩)
set_option hygiene false in
local macro_rules | `(tactic| walk_at "unlike") => `(tactic| ((refine' ⟨_, _, _, _, _, _, _, _, _, _, rfl, kn, ?m1, ?m2, ?o1, ?o2, fun e1 e2 H2 kn2 => ?_, fun who m t2 H2 ok kn2 => ?_⟩); (case m1 => walk_at "mem"); (case m2 => walk_at "mem"); (case o1 => omega); (case o2 => omega); all_goals (clear kn; have kn := kn2; clear kn2)))
set_option hygiene false in
local macro_rules | `(tactic| walk_at "unlikeR0") => `(tactic| (walk_at "s"; (refine' ⟨_, _, _, _, _, _, _, _, _, rfl, kn, ?m1, ?m2, ?o1, ?o2, .inl ⟨rfl, ?e1, ?e2⟩, fun H2 kn2 => ?_⟩); (case m1 => walk_at "mem"); (case m2 => walk_at "mem"); (case o1 => omega); (case o2 => omega); (case e1 => omega); (case e2 => omega); clear kn; have kn := kn2; clear kn2; walk_at "s"; exact ⟨_, _, _, _, _, _, _, _, _, rfl, kn.sub (by walk_at "keep")⟩))
set_option hygiene false in
local macro_rules | `(tactic| walk_at "unlikeR1") => `(tactic| (walk_at "s"; (refine' ⟨_, _, _, _, _, _, _, _, _, rfl, kn, ?m1, ?m2, ?o1, ?o2, .inr ⟨_, _, _, rfl, ?m3, ok⟩, fun H2 kn2 => ?_⟩); (case m1 => walk_at "mem"); (case m2 => walk_at "mem"); (case m3 => walk_at "mem"); (case o1 => omega); (case o2 => omega); clear kn; have kn := kn2; clear kn2; walk_at "s"; exact ⟨_, _, _, _, _, _, _, _, _, rfl, kn.sub (by walk_at "keep")⟩))
set_option hygiene false in
local macro_rules | `(tactic| walk_at "nextz") => `(tactic| ((refine And.intro ?h ?_); (case h => exact ⟨kn.sqt (by walk_at "mem"), kn.sqt (by walk_at "mem")⟩); walk_at "s"))
set_option hygiene false in
local macro_rules | `(tactic| walk_at "keepg") => `(tactic| first | exact hg | (refine List.mem_cons_of_mem _ ?_; walk_at "keepg"))
set_option hygiene false in
local macro_rules | `(tactic| walk_at "case") => `(tactic| ((refine' ⟨_, _, _, _, _, _, _, _, _, _, _, _, _, _, o, _, rfl, kn, ?m1, ?m2, ?m3, hin.1, hin.2, fun H2 kn2 => ?_⟩); (case m1 => walk_at "mem"); (case m2 => walk_at "mem"); (case m3 => walk_at "mem"); clear kn; have kn := kn2; clear kn2))
set_option hygiene false in
local macro_rules | `(tactic| walk_at "finfit") => `(tactic| ((refine br (fun _ => ?_) (fun h => absurd rfl h)); walk_at "s"; exact fin_dec rfl (k _ (kn.sub (by walk_at "keep")))))
set_option hygiene false in
local macro_rules | `(tactic| walk_at "fit") => `(tactic| ((refine' ⟨_, _, _, _, _, _, _, _, _, _, _, o, rfl, kn, ?m1, ?m2, h1, h2, ho, fun x H2 kn2 => ?_⟩); (case m1 => walk_at "mem"); (case m2 => walk_at "mem"); clear kn; have kn := kn2; clear kn2))
set_option hygiene false in
local macro_rules | `(tactic| walk_at "fitn") => `(tactic| ((refine' ⟨_, _, _, _, _, _, _, _, _, _, _, none, rfl, kn, ?m1, ?m2, h1, h2, ho, fun x H2 kn2 => ?_⟩); (case m1 => walk_at "mem"); (case m2 => walk_at "mem"); clear kn; have kn := kn2; clear kn2))
/-! ### promises -/
def spTake : Sp := fun vs H Q _ => ∃ (M : List Cell) (fs : List Fact) (p : Addr) (n : Int), vs = [.ref p, .int n] ∧ Kn ((p, Pur) :: M) fs H ∧ 0 < n ∧ n < 1073741824 ∧
  ∀ (r : Int) (H' : Hp), 0 ≤ r → r < n → Kn ((p, Pur) :: M) fs H' → Q (.int r) H'
def spAllowed : Sp := fun vs H Q _ => ∃ (M : List Cell) (fs : List Fact) (p : Addr) (n : Int), vs = [.ref p, .int n] ∧ Kn ((p, Pur) :: M) fs H ∧ 0 ≤ n ∧ n ≤ 100000 ∧
  ∀ (t : Addr) (u l : Int) (H' : Hp), 0 ≤ u + l → u + l ≤ n + 4 → -40 ≤ u ∧ u ≤ n + 50 → Kn ((p, Pur) :: M) (fO t (.tup [.int u, .int l]) :: fs) H' → Q (.ref t) H'
def spEnds : Sp := fun vs H Q _ => ∃ (M : List Cell) (fs : List Fact) (p : Addr) (s u l : Int), vs = [.ref p] ∧ Kn M fs H ∧ fO p (.tup [.int s, .int u, .int l]) ∈ fs ∧
  ∀ (t : Addr) (H' : Hp), Kn M (fO t (.tup [.int (s - l), .int (s + u)]) :: fs) H' → Q (.ref t) H'
def spPurse : Sp := fun vs H Q _ => ∃ (M : List Cell) (fs : List Fact) (n : Int), vs = [.int n] ∧ Kn M fs H ∧
  ∀ (p : Addr) (H' : Hp), Kn ((p, Pur) :: M) fs H' → Q (.ref p) H'
def spCell (K : PySem.W.Frag) : Sp := fun vs H Q _ => ∃ (M : List Cell) (fs : List Fact) (p : Addr) (ns : List Int) (j : Int), vs = [.ref p, .int j] ∧ Kn M fs H ∧ fL K p (ns.map V.int) ∈ fs ∧ ns.length ≤ 63 ∧ 0 ≤ j ∧ j < 100 ∧
  ∀ (z : Int) (H' : Hp), Kn M fs H' → Q (.int z) H'
def spIsM : Sp := fun vs H Q _ => ∃ (i : Int), vs = [.int i] ∧ Q (.bl true) H
def spChM : Sp := fun vs H Q _ => ∃ (i : Int), vs = [.int i] ∧ Q .non H
def spChA : Sp := fun vs H Q _ => ∃ (i j : Int), vs = [.int i, .int j] ∧ 0 ≤ i + j ∧ Q .non H
def spChS (C : Addr) : Sp := fun vs H Q _ => ∃ (M : List Cell) (fs : List Fact) (x : Addr) (s u l : Int), vs = [.ref x] ∧ Kn M fs H ∧ fS C x s u l ∈ fs ∧ Q .non H
def spLim : Sp := fun vs H Q _ => ∃ (f : Int) (o : Option Int) (b : Bool), vs = [.int f, vO o, .bl b] ∧ (o = none → b = true) ∧ LimOk f o ∧ Q .non H
def spGap (C : Addr) : Sp := fun vs H Q _ => ∃ (M : List Cell) (fs : List Fact) (p q : Addr) (s u l s' u' l' g : Int), vs = [.ref p, .ref q, .int g] ∧ Kn M fs H ∧ fS C p s u l ∈ fs ∧ fS C q s' u' l' ∈ fs ∧ 0 ≤ u + l ∧ 0 ≤ u' + l' ∧
  (s - l) - (s' + u') ≤ g ∧ g ≤ (s + u) - (s' - l') ∧ ∀ (t : Addr) (a b : Int) (H' : Hp), In2 (s - l) (s + u) (s' - l') (s' + u') a b → a - b = g → Kn M (fO t (.tup [.int a, .int b]) :: fs) H' → Q (.ref t) H'
def spFit (C Cf : Addr) : Sp := fun vs H Q _ => ∃ (M : List Cell) (fs : List Fact) (p q : Addr) (s u l s' u' l' f : Int) (o : Option Int), vs = [.ref p, .ref q, .int f, vO o] ∧ Kn M fs H ∧ fS C p s u l ∈ fs ∧ fS C q s' u' l' ∈ fs ∧ 0 ≤ u + l ∧ 0 ≤ u' + l' ∧ LimOk f o ∧
  ∀ (x : Addr) (H' : Hp), Kn M (fFit Cf x (s - l) (s + u) (s' - l') (s' + u') f o :: fs) H' → Q (.ref x) H'
def spFew : Sp := fun vs H Q _ => ∃ (M : List Cell) (fs : List Fact) (p : Addr), vs = [.ref p] ∧ Kn ((p, Pur) :: M) fs H ∧
  ∀ (t : Addr) (s u l : Int) (H' : Hp), -30 ≤ s ∧ s ≤ 30 → 0 ≤ u + l → u + l ≤ 8 → -6 ≤ u ∧ u ≤ 6 → Kn ((p, Pur) :: M) (fO t (.tup [.int s, .int u, .int l]) :: fs) H' → Q (.ref t) H'
def spParts : Sp := fun vs H Q _ => ∃ (M : List Cell) (fs : List Fact) (p : Addr) (n : Int), vs = [.ref p, .int n] ∧ Kn ((p, Pur) :: M) fs H ∧ 0 ≤ n ∧ n ≤ 100000 ∧
  ∀ (t : Addr) (s u l : Int) (H' : Hp), -990000 ≤ s ∧ s ≤ 990000 → 0 ≤ u + l → u + l ≤ n + 4 → -40 ≤ u ∧ u ≤ n + 50 → Kn ((p, Pur) :: M) (fO t (.tup [.int s, .int u, .int l]) :: fs) H' → Q (.ref t) H'
def spBounds : Sp := fun vs H Q _ => ∃ (M : List Cell) (fs : List Fact) (p : Addr) (lo hi : Int), vs = [.ref p, .int lo, .int hi] ∧ Kn ((p, Pur) :: M) fs H ∧ lo ≤ hi ∧ hi ≤ lo + 1000000 ∧
  ∀ (t : Addr) (f : Int) (o : Option Int) (H' : Hp), LimOk f o → Kn ((p, Pur) :: M) (fO t (.tup [.int f, vO o]) :: fs) H' → Q (.ref t) H'
def spGoes : Sp := fun vs H Q _ => ∃ (g f : Int) (o : Option Int), vs = [.int g, .int f, vO o] ∧ Q (.bl (goB g f o)) H
def spSpanP (C : Addr) : Sp := fun vs H Q _ => ∃ (M : List Cell) (fs : List Fact) (p : Addr) (s u l : Int), vs = [.ref p] ∧ Kn M fs H ∧ fO p (.tup [.int s, .int u, .int l]) ∈ fs ∧ 0 ≤ u + l ∧ ∀ x H', Kn M (fS C x s u l :: fs) H' → Q (.ref x) H'
theorem take_succ {α : Type} {l : List α} {i : Nat} {x : α} (h : l[i]? = some x) : l.take (i + 1) = l.take i ++ [x] := by
  rw [List.take_add_one, h]; rfl
def wordL (ns : List Int) (f : Int) (o : Option Int) : Str := if (ns.all fun g => goB g f o) = true then "sure" else if (ns.any fun g => goB g f o) = true then "may" else "never"
def spWord : Sp := fun vs H Q _ => ∃ (M : List Cell) (fs : List Fact) (p : Addr) (ns : List Int) (f : Int) (o : Option Int), vs = [.ref p, .int f, vO o] ∧ Kn M fs H ∧ fO p (.lst (ns.map V.int)) ∈ fs ∧ ns.length ≤ 10000 ∧
  ∀ H', Kn M fs H' → Q (.str (wordL ns f o)) H'
theorem fin_dec {H : Hp} {Q : VK} {c : Prop} [Decidable c] (h : c) (k : Q (.bl true) H) : Q (.bl (decide c)) H := by rw [decide_eq_true h]; exact k
def spCase : Sp := fun vs H Q _ => ∃ (M : List Cell) (fs : List Fact) (t p q : Addr) (a b s u l s' u' l' f : Int) (o : Option Int) (c : Bool), vs = [.ref t, .ref p, .ref q, .int f, vO o, .bl c] ∧ Kn M fs H ∧ fO t (.tup [.int a, .int b]) ∈ fs ∧ fO p (.tup [.int s, .int u, .int l]) ∈ fs ∧ fO q (.tup [.int s', .int u', .int l']) ∈ fs ∧
  In2 (s - l) (s + u) (s' - l') (s' + u') a b ∧ goB (a - b) f o = c ∧ ∀ H', Kn M fs H' → Q (.bl true) H'
def spFitRight (Cf : Addr) : Sp := fun vs H Q _ => ∃ (M : List Cell) (fs : List Fact) (x p q : Addr) (s u l s' u' l' f : Int) (o : Option Int), vs = [.ref x, .ref p, .ref q, .int f, vO o, .str (wordOf (s - l - (s' + u')) (s + u - (s' - l')) f o)] ∧ Kn M fs H ∧ fFit Cf x (s - l) (s + u) (s' - l') (s' + u') f o ∈ fs ∧
  fO p (.tup [.int s, .int u, .int l]) ∈ fs ∧ fO q (.tup [.int s', .int u', .int l']) ∈ fs ∧ 0 ≤ u + l ∧ 0 ≤ u' + l' ∧ LimOk f o ∧ ∀ H', Kn M fs H' → Q (.bl true) H'
def spAsked (C Cf : Addr) : Sp := fun vs H Q _ => ∃ (M : List Cell) (fs : List Fact) (t p q a b : Addr) (s u l s' u' l' f : Int) (o : Option Int), vs = [.ref t, .ref p, .ref q, .int f, vO o, .str (wordOf (s - l - (s' + u')) (s + u - (s' - l')) f o)] ∧ Kn M fs H ∧ fO t (.tup [.ref a, .ref b]) ∈ fs ∧
  fS C a s u l ∈ fs ∧ fS C b s' u' l' ∈ fs ∧ fO p (.tup [.int s, .int u, .int l]) ∈ fs ∧ fO q (.tup [.int s', .int u', .int l']) ∈ fs ∧ 0 ≤ u + l ∧ 0 ≤ u' + l' ∧ LimOk f o ∧ ∀ H', Kn M fs H' → Q (.bl true) H'
def spPR : Sp := fun vs H Q _ => ∃ (M : List Cell) (fs : List Fact) (p : Addr), vs = [.ref p] ∧ Kn ((p, Pur) :: M) fs H ∧ ∀ H', Kn ((p, Pur) :: M) fs H' → Q (.bl true) H'
def gapsR (a b : Int) (n m : Nat) : List Int := (List.range n).flatMap fun (i : Nat) => (List.range m).map fun (j : Nat) => (a + (i : Int)) - (b + (j : Int))
theorem gapsR_succ {a b : Int} {n m : Nat} : gapsR a b (n + 1) m = gapsR a b n m ++ (List.range m).map fun (j : Nat) => (a + (n : Int)) - (b + (j : Int)) := by
  unfold gapsR
  rw [List.range_succ, List.flatMap_append, List.flatMap_singleton]
theorem gapsR_len {a b : Int} {n m : Nat} : (gapsR a b n m).length = n * m := by
  induction n with
  | zero => rw [Nat.zero_mul]; rfl
  | succ n ih => rw [gapsR_succ, List.length_append, ih, List.length_map, List.length_range, Nat.succ_mul]
theorem gapsR_mem {a b g : Int} {n m : Nat} : g ∈ gapsR a b n m ↔ ∃ i, i < n ∧ ∃ j, j < m ∧ (a + i) - (b + j) = g := by
  unfold gapsR
  simp only [List.mem_flatMap, List.mem_map, List.mem_range]
theorem word_eq {ns : List Int} {lo hi f : Int} {o : Option Int} (h0 : lo ≤ hi) (h1 : ∀ g, g ∈ ns → lo ≤ g ∧ g ≤ hi) (h2 : ∀ g, lo ≤ g → g ≤ hi → g ∈ ns) (hl : LimOk f o) : wordL ns f o = wordOf lo hi f o := by
  have ea : (ns.all fun g => goB g f o) = sureB lo hi f o := by
    rw [Bool.eq_iff_iff, List.all_eq_true]
    constructor
    · intro h
      have a := h lo (h2 lo (Int.le_refl _) h0)
      have b := h hi (h2 hi h0 (Int.le_refl _))
      cases o <;> simp [goB, sureB] at a b ⊢ <;> omega
    · intro h g hg
      have := h1 g hg
      cases o <;> simp [goB, sureB] at h ⊢ <;> omega
  have eb : (ns.any fun g => goB g f o) = !neverB lo hi f o := by
    rw [Bool.eq_iff_iff, List.any_eq_true]
    constructor
    · rintro ⟨g, hg, h⟩
      have := h1 g hg
      cases o <;> simp [goB, neverB] at h ⊢ <;> omega
    · intro h
      refine ⟨max f lo, h2 _ (by omega) ?_, ?_⟩
      · cases o <;> simp [neverB] at h <;> omega
      · cases o with
        | none => simp [goB]; omega
        | some r =>
          have := hl r rfl
          simp [neverB, goB] at h ⊢
          omega
  unfold wordL wordOf
  rw [ea, eb]
  cases sureB lo hi f o <;> cases neverB lo hi f o <;> rfl
theorem gaps_in {s u l s' u' l' g : Int} (h : g ∈ gapsR (s - l) (s' - l') (s + u + 1 - (s - l)).toNat (s' + u' + 1 - (s' - l')).toNat) : s - l - (s' + u') ≤ g ∧ g ≤ s + u - (s' - l') := by
  obtain ⟨i, hi, j, hj, rfl⟩ := gapsR_mem.mp h
  omega
theorem gapsW {s u l s' u' l' f : Int} {o : Option Int} (h1 : 0 ≤ u + l) (h2 : 0 ≤ u' + l') (hl : LimOk f o) :
    wordL (gapsR (s - l) (s' - l') (s + u + 1 - (s - l)).toNat (s' + u' + 1 - (s' - l')).toNat) f o = wordOf (s - l - (s' + u')) (s + u - (s' - l')) f o := by
  refine word_eq (by omega) (fun g hg => gaps_in hg) (fun g g0 g1 => gapsR_mem.mpr ⟨(g - (s - l) + (s' - l')).toNat, by omega, (-(g - (s - l) + (s' - l'))).toNat, by omega, by omega⟩) hl
theorem gaps_len {u l u' l' s s' : Int} (h1 : u + l ≤ 8) (h2 : u' + l' ≤ 8) (g1 : 0 ≤ u + l) (g2 : 0 ≤ u' + l') : 0 < (gapsR (s - l) (s' - l') (s + u + 1 - (s - l)).toNat (s' + u' + 1 - (s' - l')).toNat).length ∧ (gapsR (s - l) (s' - l') (s + u + 1 - (s - l)).toNat (s' + u' + 1 - (s' - l')).toNat).length ≤ 81 := by
  rw [gapsR_len]
  exact ⟨Nat.mul_pos (by omega) (by omega), Nat.le_trans (Nat.mul_le_mul (show _ ≤ 9 by omega) (show _ ≤ 9 by omega)) (by decide)⟩
theorem gaps_len' {b u' l' a s' : Int} {i n : Nat} (hi : i < n) (hn : n ≤ 9) (h2 : u' + l' ≤ 8) : (gapsR a b i (s' + u' + 1 - (s' - l')).toNat).length ≤ 81 := by
  rw [gapsR_len]
  exact Nat.le_trans (Nat.mul_le_mul (show _ ≤ 9 by omega) (show _ ≤ 9 by omega)) (by decide)
theorem word_sure {lo hi f : Int} {o : Option Int} (h : sureB lo hi f o = true) : wordOf lo hi f o = "sure" := by unfold wordOf; rw [if_pos h]
theorem word_never {lo hi f : Int} {o : Option Int} (h : sureB lo hi f o = false) (h2 : neverB lo hi f o = true) : wordOf lo hi f o = "never" := by unfold wordOf; rw [h, h2]; rfl
theorem word_may {lo hi f : Int} {o : Option Int} (h : sureB lo hi f o = false) (h2 : neverB lo hi f o = false) : wordOf lo hi f o = "may" := by unfold wordOf; rw [h, h2]; rfl
/-! ### bindings -/
section
variable {K : PySem.W.Frag}
theorem bd_Fit___init___4 : Gx.BdD K d_Fit___init__ ["self", "word", "goes", "fails"] [] := fun fd F => ⟨[], .nil, Gx.FunD.bdN F b_Fit___init__⟩
theorem bd_Span___init___4 : Gx.BdD K d_Span___init__ ["self", "size", "above", "below"] [] := fun fd F => F.binds1 4 2 (List.cons_ne_nil _ _) (by rfl) fun _ _ _ _ _ _ _ us its h1 h2 => match us, its, h1, h2 with | [_, _, _, _], [_, _], _, _ => ⟨_, rfl, rfl⟩
theorem bd_fit_2 : Gx.BdD K d_fit ["hole", "peg", "least", "most"] [.int (0), .non] := fun fd F => F.binds1 2 0 (List.cons_ne_nil _ _) (by rfl) fun _ _ _ _ _ _ _ us its h1 h2 => match us, its, h1, h2 with | [_, _], [_, _], _, _ => ⟨_, rfl, rfl⟩
theorem bd_fit_3 : Gx.BdD K d_fit ["hole", "peg", "least", "most"] [.non] := fun fd F => F.binds1 3 1 (List.cons_ne_nil _ _) (by rfl) fun _ _ _ _ _ _ _ us its h1 h2 => match us, its, h1, h2 with | [_, _, _], [_, _], _, _ => ⟨_, rfl, rfl⟩
theorem bd_fit_4 : Gx.BdD K d_fit ["hole", "peg", "least", "most"] [] := fun fd F => F.binds1 4 2 (List.cons_ne_nil _ _) (by rfl) fun _ _ _ _ _ _ _ us its h1 h2 => match us, its, h1, h2 with | [_, _, _, _], [_, _], _, _ => ⟨_, rfl, rfl⟩
theorem bk_fit_0_least_peg_most_hole : Gx.BdK K d_fit ["hole", "peg", "least", "most"] 0 ["least", "peg", "most", "hole"] (fun us ws => (fun its => us ++ (ws.drop 3).take 1 ++ (ws.drop 1).take 1 ++ (ws.drop 0).take 1 ++ (ws.drop 2).take 1) ((d_fit).dvs K)) := fun fd F => by
  obtain ⟨its, h⟩ := F.kbindsD (ps := ["hole", "peg", "least", "most"]) 0 ["least", "peg", "most", "hole"] (fun us its ws => us ++ (ws.drop 3).take 1 ++ (ws.drop 1).take 1 ++ (ws.drop 0).take 1 ++ (ws.drop 2).take 1) (List.cons_ne_nil _ _) (fun r1 r2 r3 => ((((r1.append ((r3.drop 3).take 1)).append ((r3.drop 1).take 1)).append ((r3.drop 0).take 1)).append ((r3.drop 2).take 1))) (fun _ _ _ _ _ _ _ us its ws h1 h2 h3 => match us, its, ws, h1, h2, h3 with | [], [_, _], [_, _, _, _], _, _, _ => ⟨_, rfl, rfl⟩)
  exact ⟨_, h⟩
theorem bk_fit_1_peg_most : Gx.BdK K d_fit ["hole", "peg", "least", "most"] 1 ["peg", "most"] (fun us ws => (fun its => us ++ (ws.drop 0).take 1 ++ (its.drop 0).take 1 ++ (ws.drop 1).take 1) ((d_fit).dvs K)) := fun fd F => by
  obtain ⟨its, h⟩ := F.kbindsD (ps := ["hole", "peg", "least", "most"]) 1 ["peg", "most"] (fun us its ws => us ++ (ws.drop 0).take 1 ++ (its.drop 0).take 1 ++ (ws.drop 1).take 1) (List.cons_ne_nil _ _) (fun r1 r2 r3 => (((r1.append ((r3.drop 0).take 1)).append ((r2.drop 0).take 1)).append ((r3.drop 1).take 1))) (fun _ _ _ _ _ _ _ us its ws h1 h2 h3 => match us, its, ws, h1, h2, h3 with | [_], [_, _], [_, _], _, _, _ => ⟨_, rfl, rfl⟩)
  exact ⟨_, h⟩
theorem bk_fit_2_most_least : Gx.BdK K d_fit ["hole", "peg", "least", "most"] 2 ["most", "least"] (fun us ws => (fun its => us ++ (ws.drop 1).take 1 ++ (ws.drop 0).take 1) ((d_fit).dvs K)) := fun fd F => by
  obtain ⟨its, h⟩ := F.kbindsD (ps := ["hole", "peg", "least", "most"]) 2 ["most", "least"] (fun us its ws => us ++ (ws.drop 1).take 1 ++ (ws.drop 0).take 1) (List.cons_ne_nil _ _) (fun r1 r2 r3 => ((r1.append ((r3.drop 1).take 1)).append ((r3.drop 0).take 1))) (fun _ _ _ _ _ _ _ us its ws h1 h2 h3 => match us, its, ws, h1, h2, h3 with | [_, _], [_, _], [_, _], _, _, _ => ⟨_, rfl, rfl⟩)
  exact ⟨_, h⟩
end
/-! ### the defs -/
section
variable {P : Program} {w : World} {K : PySem.W.Frag} {mg : Str → Option Value} {base : Heap}
theorem sc__law_take : FnScope ["_law_purse_here", "_law_many", "_law_old", "_law_taken"] ["_law_purse_here", "_law_many"] (defScope s__law_take) := ⟨rfl, rfl, rfl, by decide +kernel, rfl, by decide +kernel, by decide +kernel⟩
theorem st__law_take (v0 : V) (v1 : V) : L2.start ["_law_purse_here", "_law_many", "_law_old", "_law_taken"] [v0, v1] = [some v0, some v1, none, none] := rfl
theorem ok__law_take (T : Tx K mg) : DOk P w K mg base d__law_take CX0 1 ["_law_purse_here", "_law_many"] spTake := by
  obtain ⟨fd, F⟩ := T.df__law_take
  refine ⟨fd, F, F.ok sc__law_take (fun vs H Q E h => ?_) (fun cdv A outer s H vs Q E hr h => ⟨_, PSs.nox (pss_cons (ps_asg (pe_op op_add (pe_ix ix_list (pv 0) pe_int (fun _ _ => rfl)) pe_int) (pg_sub (pv 0) pe_int set_list))
      (pss_cons (ps_set (i := 2) sc__law_take.nd rfl (Or.inl rfl) (pe_ix ix_list (pv 0) pe_int (fun _ _ => rfl)))
      (pss_cons (ps_asg (pe_op op_mod (pe_op op_add (pe_op op_add (pe_op op_mul (pv 2) (pe_op op_add (pe_op op_mod (pv 2) pe_int) pe_int)) (pe_op op_mul pe_int (pe_ix ix_list (pv 0) pe_int (fun _ _ => rfl)))) pe_int) pe_int) (pg_sub (pv 0) pe_int set_list))
      (pss_cons (ps_if (pt_cmpR op_gt (pe_ix ix_list (pv 0) pe_int (fun _ _ => rfl)) pe_int (nomark _)) (pss_cons (ps_set (i := 3) sc__law_take.nd rfl (Or.inl rfl) (pe_op op_mod (pe_ix ix_list (pv 0) pe_int (fun _ _ => rfl)) (pv 1)))
      (pss_cons (ps_asg (pe_op op_fdiv (pe_ix ix_list (pv 0) pe_int (fun _ _ => rfl)) (pv 1)) (pg_sub (pv 0) pe_int set_list))
      (pss_one (ps_ret (pv 3))))) pss_nil)
      (pss_one (ps_ret (pe_op op_mod (pe_op op_fdiv (pe_ix ix_list (pv 0) pe_int (fun _ _ => rfl)) pe_int) (pv 1)))))))), ?_⟩)⟩
  · obtain ⟨_, _, p, n, rfl, _⟩ := h; rfl
  · obtain ⟨M, fs, p, n, rfl, kn, n0, n1, k⟩ := h
    rw [st__law_take]
    obtain ⟨a, b, c, ⟨a0, a1, b0⟩, kn⟩ := kn.pur
    walk_at "s"
    refine br (fun h => ?_) (fun h => ?_)
    · walk_at "s"
      refine k _ _ ?_ ?_ (kn.unpur ?_ ?_ ?_)
      · exact Int.emod_nonneg _ (by omega)
      · exact Int.emod_lt_of_pos _ n0
      · exact Int.emod_nonneg _ (by omega)
      · exact Int.emod_lt_of_pos _ (by omega)
      · exact Int.ediv_nonneg b0 (by omega)
    · walk_at "s"
      refine k _ _ ?_ ?_ (kn.unpur ?_ ?_ ?_)
      · exact Int.emod_nonneg _ (by omega)
      · exact Int.emod_lt_of_pos _ n0
      · exact Int.emod_nonneg _ (by omega)
      · exact Int.emod_lt_of_pos _ (by omega)
      · exact b0
theorem sc__law_allowed : FnScope ["_law_purse_here", "_law_wide", "_law_spread", "_law_pick", "_law_above"] ["_law_purse_here", "_law_wide"] (defScope s__law_allowed) := ⟨rfl, rfl, rfl, by decide +kernel, rfl, by decide +kernel, by decide +kernel⟩
theorem st__law_allowed (v0 : V) (v1 : V) : L2.start ["_law_purse_here", "_law_wide", "_law_spread", "_law_pick", "_law_above"] [v0, v1] = [some v0, some v1, none, none, none] := rfl
theorem ok__law_allowed (T : Tx K mg) : DOk P w K mg base d__law_allowed CX0 2 ["_law_purse_here", "_law_wide"] spAllowed := by
  have o__law_take : DOk P w K mg base d__law_take CX0 1 ["_law_purse_here", "_law_many"] spTake := ok__law_take T
  obtain ⟨fd, F⟩ := T.df__law_allowed
  refine ⟨fd, F, F.ok sc__law_allowed (fun vs H Q E h => ?_) (fun cdv A outer s H vs Q E hr h => ⟨_, PSs.nox (pss_cons (ps_set (i := 2) sc__law_allowed.nd rfl (Or.inl rfl) (pc o__law_take T.g__law_take b__law_take hr (by decide) (pa_cons (pv 0) (pa_cons (pe_ix ix_list (pe_lst (pa_cons pe_int (pa_cons pe_int (pa_cons (pe_op op_add (pv 1) pe_int) pa_nil)))) (pc o__law_take T.g__law_take b__law_take hr (by decide) (pa_cons (pv 0) (pa_cons pe_int pa_nil))) (fun _ _ => rfl)) pa_nil))))
      (pss_cons (ps_set (i := 3) sc__law_allowed.nd rfl (Or.inl rfl) (pc o__law_take T.g__law_take b__law_take hr (by decide) (pa_cons (pv 0) (pa_cons pe_int pa_nil))))
      (pss_cons (ps_set (i := 4) sc__law_allowed.nd rfl (Or.inl rfl) (pe_ix ix_list (pe_lst (pa_cons (pv 2) (pa_cons pe_int (pa_cons (pc o__law_take T.g__law_take b__law_take hr (by decide) (pa_cons (pv 0) (pa_cons (pe_op op_add (pv 2) pe_int) pa_nil))) (pa_cons (pe_op op_sub pe_int (pc o__law_take T.g__law_take b__law_take hr (by decide) (pa_cons (pv 0) (pa_cons pe_int pa_nil)))) (pa_cons (pe_op op_add (pv 2) (pc o__law_take T.g__law_take b__law_take hr (by decide) (pa_cons (pv 0) (pa_cons pe_int pa_nil)))) pa_nil)))))) (pv 3) (fun _ _ => rfl)))
      (pss_one (ps_ret (pe_tup (pa_cons (pv 4) (pa_cons (pe_op op_sub (pv 2) (pv 4)) pa_nil)))))))), ?_⟩)⟩
  · obtain ⟨_, _, p, n, rfl, _⟩ := h; rfl
  · obtain ⟨M, fs, p, n, rfl, kn, n0, n1, k⟩ := h
    rw [st__law_allowed]
    walk_at "s"
    walk_at "take"
    walk_at "s"
    walk_at "take"
    walk_at "s"
    walk_at "take"
    walk_at "s"
    walk_at "take"
    walk_at "s"
    walk_at "take"
    walk_at "s"
    walk_at "take"
    walk_at "s"
    refine k _ _ _ _ ?_ ?_ ?_ (kn.hd ?_)
    · omega
    · omega
    · omega
    · walk_at "keep"
theorem sc__law_ends : FnScope ["_law_parts"] ["_law_parts"] (defScope s__law_ends) := ⟨rfl, rfl, rfl, by decide +kernel, rfl, by decide +kernel, by decide +kernel⟩
theorem st__law_ends (v0 : V) : L2.start ["_law_parts"] [v0] = [some v0] := rfl
theorem ok__law_ends (T : Tx K mg) : DOk P w K mg base d__law_ends CX0 1 ["_law_parts"] spEnds := by
  obtain ⟨fd, F⟩ := T.df__law_ends
  refine ⟨fd, F, F.ok sc__law_ends (fun vs H Q E h => ?_) (fun cdv A outer s H vs Q E hr h => ⟨_, PSs.nox (pss_one (ps_ret (pe_tup (pa_cons (pe_op op_sub (pe_ix ix_tup (pv 0) pe_int (fun _ _ => rfl)) (pe_ix ix_tup (pv 0) pe_int (fun _ _ => rfl))) (pa_cons (pe_op op_add (pe_ix ix_tup (pv 0) pe_int (fun _ _ => rfl)) (pe_ix ix_tup (pv 0) pe_int (fun _ _ => rfl))) pa_nil))))), ?_⟩)⟩
  · obtain ⟨_, _, p, _, _, _, rfl, _⟩ := h; rfl
  · obtain ⟨M, fs, p, s, u, l, rfl, kn, m, k⟩ := h
    rw [st__law_ends]
    walk_at "s"
    exact k _ _ kn
theorem sc__law_purse : FnScope ["_law_cell_here", "_law_digits"] ["_law_cell_here"] (defScope s__law_purse) := ⟨rfl, rfl, rfl, by decide +kernel, rfl, by decide +kernel, by decide +kernel⟩
theorem st__law_purse (v0 : V) : L2.start ["_law_cell_here", "_law_digits"] [v0] = [some v0, none] := rfl
theorem ok__law_purse (T : Tx K mg) : DOk P w K mg base d__law_purse CX0 1 ["_law_cell_here"] spPurse := by
  obtain ⟨fd, F⟩ := T.df__law_purse
  refine ⟨fd, F, F.ok sc__law_purse (fun vs H Q E h => ?_) (fun cdv A outer s H vs Q E hr h => ⟨_, PSs.nox (pss_cons (ps_set (i := 1) sc__law_purse.nd rfl (Or.inl rfl) pe_int)
      (pss_cons (ps_if (PW.pt (pw_or (pt_cmpR op_lt (pv 0) pe_int (nomark _)) (pw_or1 (pt_cmpR op_ge (pv 0) (pe_op op_pow pe_int pe_int) (nomark _))))) (pss_one (ps_set (i := 1) sc__law_purse.nd rfl (Or.inl rfl) (pe_callB (call_abs) (by rfl) T.f_abs (by decide +kernel) (pa_cons (pv 0) pa_nil)))) pss_nil)
      (pss_one (ps_ret (pe_lst (pa_cons (pe_op op_mod (pv 0) pe_int) (pa_cons (pv 1) (pa_cons pe_int pa_nil)))))))), ?_⟩)⟩
  · obtain ⟨_, _, n, rfl, _⟩ := h; rfl
  · obtain ⟨M, fs, n, rfl, kn, k⟩ := h
    rw [st__law_purse]
    have fin : ∀ b : Int, 0 ≤ b → RLst [.int (n % 2147483399), .int b, .int 0] H Q := fun b hb => r_lstM kn (sl rfl) fun p kn => k p _ (kn.unpur (Int.emod_nonneg _ (by omega)) (Int.emod_lt_of_pos _ (by omega)) hb)
    walk_at "t"
    refine br (fun h => ?_) (fun h => ?_)
    · walk_at "t"
      exact fin _ (by split <;> omega)
    · walk_at "t"
      refine s_I (show CPow 10 18 by unfold CPow; decide) ?_
      walk_at "t"
      refine br (fun h2 => ?_) (fun h2 => ?_)
      · walk_at "t"
        exact fin _ (by split <;> omega)
      · walk_at "t"
        exact fin _ (by omega)
theorem sc__law_cell : FnScope ["_law_script", "_law_k"] ["_law_script", "_law_k"] (defScope s__law_cell) := ⟨rfl, rfl, rfl, by decide +kernel, rfl, by decide +kernel, by decide +kernel⟩
theorem st__law_cell (v0 : V) (v1 : V) : L2.start ["_law_script", "_law_k"] [v0, v1] = [some v0, some v1] := rfl
theorem ok__law_cell (T : Tx K mg) : DOk P w K mg base d__law_cell CX0 1 ["_law_script", "_law_k"] (spCell K) := by
  obtain ⟨fd, F⟩ := T.df__law_cell
  refine ⟨fd, F, F.ok sc__law_cell (fun vs H Q E h => ?_) (fun cdv A outer s H vs Q E hr h => ⟨_, PSs.nox (pss_cons (ps_if (pt_cmpR op_lt (pv 1) (pe_callB (call_len_seq) (by rfl) T.f_len (by decide +kernel) (pa_cons (pv 0) pa_nil)) (nomark _)) (pss_one (ps_ret (pe_ix ix_list (pv 0) (pv 1) (fun _ _ => rfl)))) pss_nil)
      (pss_one (ps_ret (pe_op op_add (pe_op op_add (pe_op op_mul (pe_callB (x_sum (K := K) rfl rfl) (by rfl) T.f_sum (by decide +kernel) (pa_cons (pe_slice sl_list (pv 0) po_none (po_some pe_int)) pa_nil)) pe_int) (pe_op op_mul pe_int (pe_op op_add (pv 1) pe_int))) pe_int)))), ?_⟩)⟩
  · obtain ⟨_, _, p, ns, j, rfl, _⟩ := h; rfl
  · obtain ⟨M, fs, p, ns, j, rfl, kn, m, hl, j0, j1, k⟩ := h
    rw [st__law_cell]
    walk_at "s"
    refine br (fun h => ?_) (fun h => ?_)
    · walk_at "s"
      obtain ⟨z, e, hz⟩ := atI_ints (ns := ns) (r := j) j0 (by simpa using h)
      refine s_ixL' kn m e ?_
      exact k _ _ kn
    · walk_at "s"
      refine s_sum kn (ns := ns.take 3) (by rw [← cutV_take3]; walk_at "mem") ?_
      walk_at "s"
      exact k _ _ kn.tl
theorem sc_is_measure : FnScope ["thing"] ["thing"] (defScope s_is_measure) := ⟨rfl, rfl, rfl, by decide +kernel, rfl, by decide +kernel, by decide +kernel⟩
theorem st_is_measure (v0 : V) : L2.start ["thing"] [v0] = [some v0] := rfl
theorem ok_is_measure (T : Tx K mg) : DOk P w K mg base d_is_measure CX0 1 ["thing"] spIsM := by
  obtain ⟨fd, F⟩ := T.df_is_measure
  refine ⟨fd, F, F.ok sc_is_measure (fun vs H Q E h => ?_) (fun cdv A outer s H vs Q E hr h => ⟨_, PSs.nox (pss_one (ps_ret (pe_and (pe_callB (call_isi) (by rfl) T.f_isinstance (by decide +kernel) (pa_cons (pv 0) (pa_cons (pe_bltn (v := .ty "int") (u := .type "int") (by rfl) T.f_int (by decide +kernel) rfl) pa_nil))) (pe_one (pe_not (pe_callB (call_isi) (by rfl) T.f_isinstance (by decide +kernel) (pa_cons (pv 0) (pa_cons (pe_bltn (v := .ty "bool") (u := .type "bool") (by rfl) T.f_bool (by decide +kernel) rfl) pa_nil)))))))), ?_⟩)⟩
  · obtain ⟨i, rfl, _⟩ := h; rfl
  · obtain ⟨i, rfl, k⟩ := h
    rw [st_is_measure]
    walk_at "s"
    exact k
theorem sc_check_measure : FnScope ["thing"] ["thing"] (defScope s_check_measure) := ⟨rfl, rfl, rfl, by decide +kernel, rfl, by decide +kernel, by decide +kernel⟩
theorem st_check_measure (v0 : V) : L2.start ["thing"] [v0] = [some v0] := rfl
theorem ok_check_measure (T : Tx K mg) : DOk P w K mg base d_check_measure CX0 2 ["thing"] spChM := by
  have o_is_measure : DOk P w K mg base d_is_measure CX0 1 ["thing"] spIsM := ok_is_measure T
  obtain ⟨fd, F⟩ := T.df_check_measure
  refine ⟨fd, F, F.ok sc_check_measure (fun vs H Q E h => ?_) (fun cdv A outer s H vs Q E hr h => ⟨_, PSs.nox (pss_one (ps_if (pt_not (pt_val (pc o_is_measure T.g_is_measure b_is_measure hr (by decide) (pa_cons (pv 0) pa_nil)))) (pss_one ps_never) pss_nil)), ?_⟩)⟩
  · obtain ⟨i, rfl, _⟩ := h; rfl
  · obtain ⟨i, rfl, k⟩ := h
    rw [st_check_measure]
    walk_at "s"
    refine ⟨_, rfl, ?_⟩
    walk_at "s"
    exact k
theorem sc_check_allowance : FnScope ["above", "below"] ["above", "below"] (defScope s_check_allowance) := ⟨rfl, rfl, rfl, by decide +kernel, rfl, by decide +kernel, by decide +kernel⟩
theorem st_check_allowance (v0 : V) (v1 : V) : L2.start ["above", "below"] [v0, v1] = [some v0, some v1] := rfl
theorem ok_check_allowance (T : Tx K mg) : DOk P w K mg base d_check_allowance CX0 2 ["above", "below"] spChA := by
  have o_is_measure : DOk P w K mg base d_is_measure CX0 1 ["thing"] spIsM := ok_is_measure T
  obtain ⟨fd, F⟩ := T.df_check_allowance
  refine ⟨fd, F, F.ok sc_check_allowance (fun vs H Q E h => ?_) (fun cdv A outer s H vs Q E hr h => ⟨_, PSs.nox (pss_one (ps_if (PW.pt (pw_or (pt_not (pt_val (pc o_is_measure T.g_is_measure b_is_measure hr (by decide) (pa_cons (pv 0) pa_nil)))) (pw_or (pt_not (pt_val (pc o_is_measure T.g_is_measure b_is_measure hr (by decide) (pa_cons (pv 1) pa_nil)))) (pw_or1 (pt_cmpR op_lt (pe_op op_add (pv 0) (pv 1)) pe_int (nomark _)))))) (pss_one ps_never) pss_nil)), ?_⟩)⟩
  · obtain ⟨i, j, rfl, _⟩ := h; rfl
  · obtain ⟨i, j, rfl, h0, k⟩ := h
    rw [st_check_allowance]
    walk_at "s"
    refine ⟨_, rfl, ?_⟩
    walk_at "s"
    refine ⟨_, rfl, ?_⟩
    walk_at "s"
    refine br (fun h => (by omega)) (fun h => ?_)
    walk_at "s"
    exact k
theorem sc_Span___init__ : FnScope ["self", "size", "above", "below"] ["self", "size", "above", "below"] (defScope s_Span___init__) := ⟨rfl, rfl, rfl, by decide +kernel, rfl, by decide +kernel, by decide +kernel⟩
theorem st_Span___init__ (v0 : V) (v1 : V) (v2 : V) (v3 : V) : L2.start ["self", "size", "above", "below"] [v0, v1, v2, v3] = [some v0, some v1, some v2, some v3] := rfl
theorem ok_Span___init__ (T : Tx K mg) : DOk P w K mg base d_Span___init__ CX0 3 ["self", "size", "above", "below"] (spSpanInit (He.ga K "Span")) := by
  have o_check_measure : DOk P w K mg base d_check_measure CX0 2 ["thing"] spChM := ok_check_measure T
  have o_check_allowance : DOk P w K mg base d_check_allowance CX0 2 ["above", "below"] spChA := ok_check_allowance T
  obtain ⟨fd, F⟩ := T.df_Span___init__
  refine ⟨fd, F, F.ok sc_Span___init__ (fun vs H Q E h => ?_) (fun cdv A outer s H vs Q E hr h => ⟨_, PSs.nox (pss_cons (ps_expr (pc o_check_measure T.g_check_measure b_check_measure hr (by decide) (pa_cons (pv 1) pa_nil)))
      (pss_cons (ps_expr (pc o_check_allowance T.g_check_allowance b_check_allowance hr (by decide) (pa_cons (pv 2) (pa_cons (pv 3) pa_nil))))
      (pss_cons (ps_fld (pv 0) (pv 1) rfl)
      (pss_cons (ps_fld (pv 0) (pv 2) rfl)
      (pss_cons (ps_fld (pv 0) (pv 3) rfl)
      (pss_cons (ps_fld (pv 0) (pe_op op_sub (pv 1) (pv 3)) rfl)
      (pss_one (ps_fld (pv 0) (pe_op op_add (pv 1) (pv 2)) rfl)))))))), ?_⟩)⟩
  · obtain ⟨_, _, x, dx, _, _, _, rfl, _⟩ := h; rfl
  · obtain ⟨M, fs, x, dx, s, u, l, rfl, kn, h0, k⟩ := h
    rw [st_Span___init__]
    walk_at "s"
    refine ⟨_, rfl, ?_⟩
    walk_at "s"
    refine ⟨_, _, rfl, h0, ?_⟩
    walk_at "s"
    exact k _ (kn.frzS rfl)
theorem sc_check_span : FnScope ["thing"] ["thing"] (defScope s_check_span) := ⟨rfl, rfl, rfl, by decide +kernel, rfl, by decide +kernel, by decide +kernel⟩
theorem st_check_span (v0 : V) : L2.start ["thing"] [v0] = [some v0] := rfl
theorem ok_check_span (T : Tx K mg) : DOk P w K mg base d_check_span CX0 1 ["thing"] (spChS (He.ga K "Span")) := by
  obtain ⟨fd, F⟩ := T.df_check_span
  refine ⟨fd, F, F.ok sc_check_span (fun vs H Q E h => ?_) (fun cdv A outer s H vs Q E hr h => ⟨_, PSs.nox (pss_one (ps_if (pt_not (pt_val (pe_callB (call_isi) (by rfl) T.f_isinstance (by decide +kernel) (pa_cons (pv 0) (pa_cons (pe_glob (v := .ref (He.ga K "Span")) rfl T.g_Span rfl) pa_nil))))) (pss_one ps_never) pss_nil)), ?_⟩)⟩
  · obtain ⟨_, _, x, _, _, _, rfl, _⟩ := h; rfl
  · obtain ⟨M, fs, x, s, u, l, rfl, kn, m, k⟩ := h
    rw [st_check_span]
    walk_at "s"
    exact k
theorem sc_check_limits : FnScope ["least", "most", "endless"] ["least", "most", "endless"] (defScope s_check_limits) := ⟨rfl, rfl, rfl, by decide +kernel, rfl, by decide +kernel, by decide +kernel⟩
theorem st_check_limits (v0 : V) (v1 : V) (v2 : V) : L2.start ["least", "most", "endless"] [v0, v1, v2] = [some v0, some v1, some v2] := rfl
theorem ok_check_limits (T : Tx K mg) : DOk P w K mg base d_check_limits CX0 2 ["least", "most", "endless"] spLim := by
  have o_is_measure : DOk P w K mg base d_is_measure CX0 1 ["thing"] spIsM := ok_is_measure T
  obtain ⟨fd, F⟩ := T.df_check_limits
  refine ⟨fd, F, F.ok sc_check_limits (fun vs H Q E h => ?_) (fun cdv A outer s H vs Q E hr h => ⟨_, PSs.nox (pss_cons (ps_if (pt_not (pt_val (pc o_is_measure T.g_is_measure b_is_measure hr (by decide) (pa_cons (pv 0) pa_nil)))) (pss_one ps_never) pss_nil)
      (pss_cons (ps_if (PW.pt (pw_and (pt_cmpR op_isN (pv 1) pe_non (nomark _)) (pw_and1 (pt_val (pv 2))))) (pss_one ps_retN) pss_nil)
      (pss_one (ps_if (PW.pt (pw_or (pt_not (pt_val (pc o_is_measure T.g_is_measure b_is_measure hr (by decide) (pa_cons (pv 1) pa_nil)))) (pw_or1 (pt_cmpR op_lt (pv 1) (pv 0) (nomark _))))) (pss_one ps_never) pss_nil)))), ?_⟩)⟩
  · obtain ⟨_, _, _, rfl, _⟩ := h; rfl
  · obtain ⟨f, o, b, rfl, hb, ho, k⟩ := h
    rw [st_check_limits]
    walk_at "s"
    refine ⟨_, rfl, ?_⟩
    walk_at "s"
    cases o with
    | none =>
      have e := hb rfl
      subst e
      refine br (fun _ => ?_) (fun h => absurd rfl h)
      walk_at "s"
      exact k
    | some r =>
      have e := ho r rfl
      refine br (fun h => nomatch h) (fun _ => ?_)
      walk_at "s"
      refine ⟨_, rfl, ?_⟩
      walk_at "s"
      refine br (fun h => by omega) (fun h => ?_)
      walk_at "s"
      exact k
theorem sc_Fit___init__ : FnScope ["self", "word", "goes", "fails"] ["self", "word", "goes", "fails"] (defScope s_Fit___init__) := ⟨rfl, rfl, rfl, by decide +kernel, rfl, by decide +kernel, by decide +kernel⟩
theorem st_Fit___init__ (v0 : V) (v1 : V) (v2 : V) (v3 : V) : L2.start ["self", "word", "goes", "fails"] [v0, v1, v2, v3] = [some v0, some v1, some v2, some v3] := rfl
theorem ok_Fit___init__ (T : Tx K mg) : DOk P w K mg base d_Fit___init__ CX0 1 ["self", "word", "goes", "fails"] (spInit3 (He.ga K "Fit") "word" "goes" "fails") := by
  obtain ⟨fd, F⟩ := T.df_Fit___init__
  refine ⟨fd, F, F.ok sc_Fit___init__ (fun vs H Q E h => ?_) (fun cdv A outer s H vs Q E hr h => ⟨_, PSs.nox (pss_cons (ps_fld (pv 0) (pv 1) rfl)
      (pss_cons (ps_fld (pv 0) (pv 2) rfl)
      (pss_one (ps_fld (pv 0) (pv 3) rfl)))), ?_⟩)⟩
  · obtain ⟨_, _, x, dx, _, _, _, rfl, _⟩ := h; rfl
  · obtain ⟨M, fs, x, dx, a, b, c, rfl, kn, k⟩ := h
    rw [st_Fit___init__]
    walk_at "s"
    exact k _ (kn.frzN rfl)
theorem sc_with_gap : FnScope ["hole", "peg", "gap", "more", "raised"] ["hole", "peg", "gap"] (defScope s_with_gap) := ⟨rfl, rfl, rfl, by decide +kernel, rfl, by decide +kernel, by decide +kernel⟩
theorem st_with_gap (v0 : V) (v1 : V) (v2 : V) : L2.start ["hole", "peg", "gap", "more", "raised"] [v0, v1, v2] = [some v0, some v1, some v2, none, none] := rfl
theorem ok_with_gap (T : Tx K mg) : DOk P w K mg base d_with_gap CX0 1 ["hole", "peg", "gap"] (spGap (He.ga K "Span")) := by
  obtain ⟨fd, F⟩ := T.df_with_gap
  refine ⟨fd, F, F.ok sc_with_gap (fun vs H Q E h => ?_) (fun cdv A outer s H vs Q E hr h => ⟨_, PSs.nox (pss_cons (ps_set (i := 3) sc_with_gap.nd rfl (Or.inl rfl) (pe_op op_sub (pv 2) (pe_op op_sub (pe_fld (pv 0) rfl) (pe_fld (pv 1) rfl))))
      (pss_cons (ps_set (i := 4) sc_with_gap.nd rfl (Or.inl rfl) (pe_callB (c_min rfl) (by rfl) T.f_min (by decide +kernel) (pa_cons (pv 3) (pa_cons (pe_op op_sub (pe_fld (pv 0) rfl) (pe_fld (pv 0) rfl)) pa_nil))))
      (pss_one (ps_ret (pe_tup (pa_cons (pe_op op_add (pe_fld (pv 0) rfl) (pv 4)) (pa_cons (pe_op op_sub (pe_fld (pv 1) rfl) (pe_op op_sub (pv 3) (pv 4))) pa_nil))))))), ?_⟩)⟩
  · obtain ⟨_, _, p, q, _, _, _, _, _, _, _, rfl, _⟩ := h; rfl
  · obtain ⟨M, fs, p, q, s, u, l, s', u', l', g, rfl, kn, m1, m2, h1, h2, g1, g2, k⟩ := h
    rw [st_with_gap]
    walk_at "s"
    refine k _ _ _ _ ?_ ?_ (kn.hd (by walk_at "keep"))
    · unfold In2; omega
    · omega
theorem sc_fit : FnScope ["hole", "peg", "least", "most", "low", "high", "goes", "fails"] ["hole", "peg", "least", "most"] (defScope s_fit) := ⟨rfl, rfl, rfl, by decide +kernel, rfl, by decide +kernel, by decide +kernel⟩
theorem st_fit (v0 : V) (v1 : V) (v2 : V) (v3 : V) : L2.start ["hole", "peg", "least", "most", "low", "high", "goes", "fails"] [v0, v1, v2, v3] = [some v0, some v1, some v2, some v3, none, none, none, none] := rfl
theorem ok_fit (T : Tx K mg) : DOk P w K mg base d_fit CX0 3 ["hole", "peg", "least", "most"] (spFit (He.ga K "Span") (He.ga K "Fit")) := by
  have o_check_span : DOk P w K mg base d_check_span CX0 1 ["thing"] (spChS (He.ga K "Span")) := ok_check_span T
  have o_check_limits : DOk P w K mg base d_check_limits CX0 2 ["least", "most", "endless"] spLim := ok_check_limits T
  have o_with_gap : DOk P w K mg base d_with_gap CX0 1 ["hole", "peg", "gap"] (spGap (He.ga K "Span")) := ok_with_gap T
  have o_Fit___init__ : DOk P w K mg base d_Fit___init__ CX0 1 ["self", "word", "goes", "fails"] (spInit3 (He.ga K "Fit") "word" "goes" "fails") := ok_Fit___init__ T
  obtain ⟨fd, F⟩ := T.df_fit
  refine ⟨fd, F, F.ok sc_fit (fun vs H Q E h => ?_) (fun cdv A outer s H vs Q E hr h => ⟨_, PSs.nox (pss_cons (ps_expr (pc o_check_span T.g_check_span b_check_span hr (by decide) (pa_cons (pv 0) pa_nil)))
      (pss_cons (ps_expr (pc o_check_span T.g_check_span b_check_span hr (by decide) (pa_cons (pv 1) pa_nil)))
      (pss_cons (ps_expr (pc o_check_limits T.g_check_limits b_check_limits hr (by decide) (pa_cons (pv 2) (pa_cons (pv 3) (pa_cons pe_bl pa_nil)))))
      (pss_cons (ps_par (i := 4) (j := 5) (by rfl) sc_fit.nd rfl rfl (by decide) rfl rfl (pa_cons (pe_op op_sub (pe_fld (pv 0) rfl) (pe_fld (pv 1) rfl)) (pa_cons (pe_op op_sub (pe_fld (pv 0) rfl) (pe_fld (pv 1) rfl)) pa_nil)) (by rfl))
      (pss_cons (ps_asg (pe_tup (pa_cons pe_non (pa_cons pe_non pa_nil))) (pg_tup rfl (pgs_cons (pg_name (i := 6) sc_fit.nd rfl (Or.inl rfl)) (pgs_cons (pg_name (i := 7) sc_fit.nd rfl (Or.inl rfl)) pgs_nil))))
      (pss_cut (ps_if (PW.pt (pw_and (pt_cmpR op_ge (pv 5) (pv 2) (nomark _)) (pw_and1 (PW.pt (pw_or (pt_cmpR op_isN (pv 3) pe_non (nomark _)) (pw_or1 (pt_cmpR op_le (pv 4) (pv 3) (nomark _)))))))) (pss_one (ps_set (i := 6) sc_fit.nd rfl (Or.inl rfl) (pc o_with_gap T.g_with_gap b_with_gap hr (by decide) (pa_cons (pv 0) (pa_cons (pv 1) (pa_cons (pe_callB (c_max rfl) (by rfl) T.f_max (by decide +kernel) (pa_cons (pv 4) (pa_cons (pv 2) pa_nil))) pa_nil)))))) pss_nil)
      (pss_cut (ps_if (pt_cmpR op_lt (pv 4) (pv 2) (nomark _)) (pss_one (ps_set (i := 7) sc_fit.nd rfl (Or.inl rfl) (pc o_with_gap T.g_with_gap b_with_gap hr (by decide) (pa_cons (pv 0) (pa_cons (pv 1) (pa_cons (pv 4) pa_nil)))))) (pss_one (ps_if (PW.pt (pw_and (pt_cmpR op_notN (pv 3) pe_non (nomark _)) (pw_and1 (pt_cmpR op_gt (pv 5) (pv 3) (nomark _))))) (pss_one (ps_set (i := 7) sc_fit.nd rfl (Or.inl rfl) (pc o_with_gap T.g_with_gap b_with_gap hr (by decide) (pa_cons (pv 0) (pa_cons (pv 1) (pa_cons (pv 5) pa_nil)))))) pss_nil)))
      (pss_cons (ps_if (pt_cmpR op_isN (pv 6) pe_non (nomark _)) (pss_one (ps_ret (pmk o_Fit___init__ T.mkr_Fit T.g_Fit bd_Fit___init___4 hr (by decide) (pa_cons pe_str (pa_cons (pv 6) (pa_cons (pv 7) pa_nil)))))) pss_nil)
      (pss_one (ps_ret (pmk o_Fit___init__ T.mkr_Fit T.g_Fit bd_Fit___init___4 hr (by decide) (pa_cons (pe_ifExp (pt_cmpR op_isN (pv 7) pe_non (nomark _)) pe_str pe_str) (pa_cons (pv 6) (pa_cons (pv 7) pa_nil)))))))))))))), ?_⟩)⟩
  · obtain ⟨_, _, p, q, _, _, _, _, _, _, _, _, rfl, _⟩ := h; rfl
  · obtain ⟨M, fs, p, q, s, u, l, s', u', l', f, o, rfl, kn, m1, m2, h1, h2, ho, k⟩ := h
    rw [st_fit]
    walk_at "s"
    walk_at "chs"
    walk_at "s"
    walk_at "chs"
    walk_at "s"
    refine ⟨f, o, true, rfl, fun _ => rfl, ho, ?_⟩
    walk_at "s"
    refine s_cut (fun σ' H' => ∃ g, σ' = [some (.ref p), some (.ref q), some (.int f), some (vO o), some (.int (s - l - (s' + u'))), some (.int (s + u - (s' - l'))), some (vA g), some .non] ∧ GoesOk (s - l) (s + u) (s' - l') (s' + u') f o g ∧ Kn M (fTup g :: fs) H') ?_ ?_
    · cases o with
      | none =>
        walk_at "s"
        refine br (fun c1 => ?_) (fun c1 => ?_)
        · walk_at "s"
          refine br (fun _ => ?_) (fun h => absurd rfl h)
          walk_at "s"
          refine' ⟨_, _, _, _, _, _, _, _, _, _, _, rfl, kn, ?m1, ?m2, h1, h2, ?b1, ?b2, fun t a b H2 hin hab kn2 => ?_⟩
          case m1 => walk_at "mem"
          case m2 => walk_at "mem"
          case b1 => omega
          case b2 => omega
          clear kn
          walk_at "s"
          exact ⟨some (t, a, b), rfl, ⟨by simp [neverB]; omega, fun _ _ _ e => by cases e; exact ⟨hin, by simp [goB]; omega⟩⟩, (kn2.tupS List.mem_cons_self).hd (by walk_at "keep")⟩
        · walk_at "s"
          exact ⟨none, rfl, ⟨by simp [neverB]; omega, fun _ _ _ e => nomatch e⟩, (kn.tupN).hd (by walk_at "keep")⟩
      | some r =>
        have hr := ho r rfl
        walk_at "s"
        refine br (fun c1 => ?_) (fun c1 => ?_)
        · walk_at "s"
          refine br (fun h => nomatch h) (fun _ => ?_)
          walk_at "s"
          refine br (fun c2 => ?_) (fun c2 => ?_)
          · walk_at "s"
            refine' ⟨_, _, _, _, _, _, _, _, _, _, _, rfl, kn, ?m1, ?m2, h1, h2, ?b1, ?b2, fun t a b H2 hin hab kn2 => ?_⟩
            case m1 => walk_at "mem"
            case m2 => walk_at "mem"
            case b1 => omega
            case b2 => omega
            clear kn
            walk_at "s"
            exact ⟨some (t, a, b), rfl, ⟨by simp [neverB]; omega, fun _ _ _ e => by cases e; exact ⟨hin, by simp [goB]; omega⟩⟩, (kn2.tupS List.mem_cons_self).hd (by walk_at "keep")⟩
          · walk_at "s"
            exact ⟨none, rfl, ⟨by simp [neverB]; omega, fun _ _ _ e => nomatch e⟩, (kn.tupN).hd (by walk_at "keep")⟩
        · walk_at "s"
          exact ⟨none, rfl, ⟨by simp [neverB]; omega, fun _ _ _ e => nomatch e⟩, (kn.tupN).hd (by walk_at "keep")⟩
    clear kn
    rintro σ' H' ⟨g, rfl, hg, kn⟩
    refine s_cut (fun σ' H' => ∃ e, σ' = [some (.ref p), some (.ref q), some (.int f), some (vO o), some (.int (s - l - (s' + u'))), some (.int (s + u - (s' - l'))), some (vA g), some (vA e)] ∧ FailsOk (s - l) (s + u) (s' - l') (s' + u') f o e ∧ Kn M (fTup e :: fTup g :: fs) H') ?_ ?_
    · walk_at "s"
      refine br (fun c1 => ?_) (fun c1 => ?_)
      · walk_at "s"
        refine' ⟨_, _, _, _, _, _, _, _, _, _, _, rfl, kn, ?m1, ?m2, h1, h2, ?b1, ?b2, fun t a b H2 hin hab kn2 => ?_⟩
        case m1 => walk_at "mem"
        case m2 => walk_at "mem"
        case b1 => omega
        case b2 => omega
        clear kn
        walk_at "s"
        exact ⟨some (t, a, b), rfl, ⟨by simp [sureB]; omega, fun _ _ _ e => by cases e; exact ⟨hin, by simp [goB]; omega⟩⟩, (kn2.tupS List.mem_cons_self).hd (by walk_at "keep")⟩
      · cases o with
        | none =>
          walk_at "s"
          refine brn (fun h => absurd rfl h) (fun _ => ?_)
          walk_at "s"
          exact ⟨none, rfl, ⟨by simp [sureB]; omega, fun _ _ _ e => nomatch e⟩, (kn.tupN).hd (by walk_at "keep")⟩
        | some r =>
          have hr := ho r rfl
          walk_at "s"
          refine brn (fun _ => ?_) (fun h => nomatch h)
          walk_at "s"
          refine br (fun c2 => ?_) (fun c2 => ?_)
          · walk_at "s"
            refine' ⟨_, _, _, _, _, _, _, _, _, _, _, rfl, kn, ?m1, ?m2, h1, h2, ?b1, ?b2, fun t a b H2 hin hab kn2 => ?_⟩
            case m1 => walk_at "mem"
            case m2 => walk_at "mem"
            case b1 => omega
            case b2 => omega
            clear kn
            walk_at "s"
            exact ⟨some (t, a, b), rfl, ⟨by simp [sureB]; omega, fun _ _ _ e => by cases e; exact ⟨hin, by simp [goB]; omega⟩⟩, (kn2.tupS List.mem_cons_self).hd (by walk_at "keep")⟩
          · walk_at "s"
            exact ⟨none, rfl, ⟨by simp [sureB]; omega, fun _ _ _ e => nomatch e⟩, (kn.tupN).hd (by walk_at "keep")⟩
    clear kn
    rintro σ' H' ⟨e, rfl, he, kn⟩
    have hex : sureB (s - l - (s' + u')) (s + u - (s' - l')) f o = true → neverB (s - l - (s' + u')) (s + u - (s' - l')) f o = false := by
      cases o with
      | none => simp [sureB, neverB]; omega
      | some r => simp [sureB, neverB]; omega
    walk_at "s"
    cases g with
    | none =>
      refine br (fun _ => ?_) (fun h => absurd rfl h)
      walk_at "s"
      refine k _ _ ((kn.fit hg he (by walk_at "mem") (by walk_at "mem") List.mem_cons_self ?_).hd (by walk_at "keep"))
      have e1 := hg.non.mp rfl
      unfold wordOf
      cases es : sureB (s - l - (s' + u')) (s + u - (s' - l')) f o with
      | true => rw [hex es] at e1; cases e1
      | false => simp [e1]
    | some g =>
      obtain ⟨t, a, b⟩ := g
      refine br (fun h => nomatch h) (fun _ => ?_)
      have e1 : neverB (s - l - (s' + u')) (s + u - (s' - l')) f o = false := by
        cases en : neverB (s - l - (s' + u')) (s + u - (s' - l')) f o with
        | true => exact nomatch hg.non.mpr en
        | false => rfl
      cases e with
      | none =>
        walk_at "s"
        refine br (fun _ => ?_) (fun h => absurd rfl h)
        walk_at "s"
        refine k _ _ ((kn.fit hg he (by walk_at "mem") (by walk_at "mem") List.mem_cons_self ?_).hd (by walk_at "keep"))
        unfold wordOf
        rw [he.non.mp rfl]
        rfl
      | some e =>
        obtain ⟨t', a', b'⟩ := e
        walk_at "s"
        refine br (fun h => nomatch h) (fun _ => ?_)
        walk_at "s"
        refine k _ _ ((kn.fit hg he (by walk_at "mem") (by walk_at "mem") List.mem_cons_self ?_).hd (by walk_at "keep"))
        have e2 : sureB (s - l - (s' + u')) (s + u - (s' - l')) f o = false := by
          cases en : sureB (s - l - (s' + u')) (s + u - (s' - l')) f o with
          | true => exact nomatch he.non.mpr en
          | false => rfl
        unfold wordOf
        rw [e1, e2]
        rfl
theorem sc__law_few : FnScope ["_law_purse_here", "_law_over", "_law_size", "_law_spread"] ["_law_purse_here"] (defScope s__law_few) := ⟨rfl, rfl, rfl, by decide +kernel, rfl, by decide +kernel, by decide +kernel⟩
theorem st__law_few (v0 : V) : L2.start ["_law_purse_here", "_law_over", "_law_size", "_law_spread"] [v0] = [some v0, none, none, none] := rfl
theorem ok__law_few (T : Tx K mg) : DOk P w K mg base d__law_few CX0 2 ["_law_purse_here"] spFew := by
  have o__law_take : DOk P w K mg base d__law_take CX0 1 ["_law_purse_here", "_law_many"] spTake := ok__law_take T
  obtain ⟨fd, F⟩ := T.df__law_few
  refine ⟨fd, F, F.ok sc__law_few (fun vs H Q E h => ?_) (fun cdv A outer s H vs Q E hr h => ⟨_, PSs.nox (pss_cons (ps_par (i := 2) (j := 3) (by rfl) sc__law_few.nd rfl rfl (by decide) rfl rfl (pa_cons (pe_op op_sub (pc o__law_take T.g__law_take b__law_take hr (by decide) (pa_cons (pv 0) (pa_cons pe_int pa_nil))) pe_int) (pa_cons (pc o__law_take T.g__law_take b__law_take hr (by decide) (pa_cons (pv 0) (pa_cons (pe_ix ix_list (pe_lst (pa_cons pe_int (pa_cons pe_int (pa_cons pe_int pa_nil)))) (pc o__law_take T.g__law_take b__law_take hr (by decide) (pa_cons (pv 0) (pa_cons pe_int pa_nil))) (fun _ _ => rfl)) pa_nil))) pa_nil)) (by rfl))
      (pss_cons (ps_set (i := 1) sc__law_few.nd rfl (Or.inl rfl) (pe_op op_sub (pc o__law_take T.g__law_take b__law_take hr (by decide) (pa_cons (pv 0) (pa_cons pe_int pa_nil))) pe_int))
      (pss_one (ps_ret (pe_tup (pa_cons (pv 2) (pa_cons (pv 1) (pa_cons (pe_op op_sub (pv 3) (pv 1)) pa_nil)))))))), ?_⟩)⟩
  · obtain ⟨_, _, p, rfl, _⟩ := h; rfl
  · obtain ⟨M, fs, p, rfl, kn, k⟩ := h
    rw [st__law_few]
    walk_at "s"
    walk_at "take"
    walk_at "s"
    walk_at "take"
    walk_at "s"
    walk_at "take"
    walk_at "s"
    walk_at "take"
    walk_at "s"
    refine k _ _ _ _ _ ?_ ?_ ?_ ?_ (kn.hd (by walk_at "keep"))
    · omega
    · omega
    · omega
    · omega
theorem sc__law_small : FnScope ["_law_purse_here", "_law_wide", "_law_size"] ["_law_purse_here", "_law_wide"] (defScope s__law_small) := ⟨rfl, rfl, rfl, by decide +kernel, rfl, by decide +kernel, by decide +kernel⟩
theorem st__law_small (v0 : V) (v1 : V) : L2.start ["_law_purse_here", "_law_wide", "_law_size"] [v0, v1] = [some v0, some v1, none] := rfl
theorem ok__law_small (T : Tx K mg) : DOk P w K mg base d__law_small CX0 3 ["_law_purse_here", "_law_wide"] spParts := by
  have o__law_take : DOk P w K mg base d__law_take CX0 1 ["_law_purse_here", "_law_many"] spTake := ok__law_take T
  have o__law_allowed : DOk P w K mg base d__law_allowed CX0 2 ["_law_purse_here", "_law_wide"] spAllowed := ok__law_allowed T
  obtain ⟨fd, F⟩ := T.df__law_small
  refine ⟨fd, F, F.ok sc__law_small (fun vs H Q E h => ?_) (fun cdv A outer s H vs Q E hr h => ⟨_, PSs.nox (pss_cons (ps_set (i := 2) sc__law_small.nd rfl (Or.inl rfl) (pe_ix ix_list (pe_lst (pa_cons pe_int (pa_cons pe_int (pa_cons pe_int (pa_cons pe_int pa_nil))))) (pc o__law_take T.g__law_take b__law_take hr (by decide) (pa_cons (pv 0) (pa_cons pe_int pa_nil))) (fun _ _ => rfl)))
      (pss_one (ps_ret (pe_op op_catT (pe_tup (pa_cons (pe_op op_sub (pc o__law_take T.g__law_take b__law_take hr (by decide) (pa_cons (pv 0) (pa_cons (pe_op op_add (pe_op op_mul pe_int (pv 2)) pe_int) pa_nil))) (pv 2)) pa_nil)) (pc o__law_allowed T.g__law_allowed b__law_allowed hr (by decide) (pa_cons (pv 0) (pa_cons (pv 1) pa_nil))))))), ?_⟩)⟩
  · obtain ⟨_, _, p, n, rfl, _⟩ := h; rfl
  · obtain ⟨M, fs, p, n, rfl, kn, n0, n1, k⟩ := h
    rw [st__law_small]
    walk_at "s"
    walk_at "take"
    walk_at "s"
    walk_at "take"
    walk_at "s"
    walk_at "allowed"
    walk_at "s"
    refine k _ _ _ _ _ ?_ ?_ ?_ ?_ (kn.hd (by walk_at "keep"))
    · omega
    · omega
    · omega
    · omega
theorem sc__law_bounds : FnScope ["_law_purse_here", "_law_low", "_law_high", "_law_few_here", "_law_floor", "_law_roof"] ["_law_purse_here", "_law_low", "_law_high"] (defScope s__law_bounds) := ⟨rfl, rfl, rfl, by decide +kernel, rfl, by decide +kernel, by decide +kernel⟩
theorem st__law_bounds (v0 : V) (v1 : V) (v2 : V) : L2.start ["_law_purse_here", "_law_low", "_law_high", "_law_few_here", "_law_floor", "_law_roof"] [v0, v1, v2] = [some v0, some v1, some v2, none, none, none] := rfl
theorem ok__law_bounds (T : Tx K mg) : DOk P w K mg base d__law_bounds CX0 2 ["_law_purse_here", "_law_low", "_law_high"] spBounds := by
  have o__law_take : DOk P w K mg base d__law_take CX0 1 ["_law_purse_here", "_law_many"] spTake := ok__law_take T
  obtain ⟨fd, F⟩ := T.df__law_bounds
  refine ⟨fd, F, F.ok sc__law_bounds (fun vs H Q E h => ?_) (fun cdv A outer s H vs Q E hr h => ⟨_, PSs.nox (pss_cons (ps_set (i := 3) sc__law_bounds.nd rfl (Or.inl rfl) (pe_lst (pa_cons (pe_op op_sub (pv 1) pe_int) (pa_cons (pv 1) (pa_cons (pv 2) (pa_cons (pe_op op_add (pv 2) pe_int) (pa_cons pe_int (pa_cons (pe_op op_add (pv 1) (pc o__law_take T.g__law_take b__law_take hr (by decide) (pa_cons (pv 0) (pa_cons (pe_op op_add (pe_op op_sub (pv 2) (pv 1)) pe_int) pa_nil)))) pa_nil))))))))
      (pss_cons (ps_par (i := 4) (j := 5) (by rfl) sc__law_bounds.nd rfl rfl (by decide) rfl rfl (pa_cons (pe_ix ix_list (pv 3) (pc o__law_take T.g__law_take b__law_take hr (by decide) (pa_cons (pv 0) (pa_cons pe_int pa_nil))) (fun _ _ => rfl)) (pa_cons (pe_ix ix_list (pv 3) (pc o__law_take T.g__law_take b__law_take hr (by decide) (pa_cons (pv 0) (pa_cons pe_int pa_nil))) (fun _ _ => rfl)) pa_nil)) (by rfl))
      (pss_cut (ps_if (pt_cmpR op_gt (pv 4) (pv 5) (nomark _)) (pss_one (ps_par (i := 4) (j := 5) (by rfl) sc__law_bounds.nd rfl rfl (by decide) rfl rfl (pa_cons (pv 5) (pa_cons (pv 4) pa_nil)) (by rfl))) pss_nil)
      (pss_one (ps_ret (pe_tup (pa_cons (pv 4) (pa_cons (pe_ix ix_list (pe_lst (pa_cons (pv 5) (pa_cons pe_non (pa_cons (pv 5) (pa_cons (pv 4) pa_nil))))) (pc o__law_take T.g__law_take b__law_take hr (by decide) (pa_cons (pv 0) (pa_cons pe_int pa_nil))) (fun _ _ => rfl)) pa_nil)))))))), ?_⟩)⟩
  · obtain ⟨_, _, p, _, _, rfl, _⟩ := h; rfl
  · obtain ⟨M, fs, p, lo, hi, rfl, kn, b0, b1, k⟩ := h
    rw [st__law_bounds]
    walk_at "s"
    walk_at "take"
    walk_at "s"
    walk_at "take"
    walk_at "s"
    walk_at "take"
    walk_at "s"
    refine s_cut (fun σ' H' => ∃ (v3 : Option V) (fl rf : Int), σ' = [some (.ref p), some (.int lo), some (.int hi), v3, some (.int fl), some (.int rf)] ∧ fl ≤ rf ∧ Kn ((p, Pur) :: M) fs H') ?_ ?_
    · walk_at "s"
      refine br (fun _ => ?_) (fun _ => ?_)
      · walk_at "s"
        exact ⟨_, _, _, rfl, by omega, kn.sub (by walk_at "keep")⟩
      · walk_at "s"
        exact ⟨_, _, _, rfl, by omega, kn.sub (by walk_at "keep")⟩
    clear kn
    rintro σ' H' ⟨v3, fl, rf, rfl, hfr, kn⟩
    walk_at "s"
    walk_at "take"
    walk_at "s"
    refine s_ixA kn (by walk_at "mem") (by omega) (by simp only [List.length_cons, List.length_nil]; omega) fun v hv => ?_
    simp only [List.mem_cons, List.not_mem_nil, or_false] at hv
    have ho : ∃ o, v = vO o ∧ LimOk fl o := by
      rcases hv with rfl | rfl | rfl | rfl
      · exact ⟨some rf, rfl, fun z e => by cases e; exact hfr⟩
      · exact ⟨none, rfl, fun z e => nomatch e⟩
      · exact ⟨some rf, rfl, fun z e => by cases e; exact hfr⟩
      · exact ⟨some fl, rfl, fun z e => by cases e; exact Int.le_refl _⟩
    obtain ⟨o, rfl, hl⟩ := ho
    walk_at "s"
    exact k _ _ _ _ hl (kn.hd (by walk_at "keep"))
theorem sc__law_goes : FnScope ["_law_gap", "_law_floor", "_law_roof"] ["_law_gap", "_law_floor", "_law_roof"] (defScope s__law_goes) := ⟨rfl, rfl, rfl, by decide +kernel, rfl, by decide +kernel, by decide +kernel⟩
theorem st__law_goes (v0 : V) (v1 : V) (v2 : V) : L2.start ["_law_gap", "_law_floor", "_law_roof"] [v0, v1, v2] = [some v0, some v1, some v2] := rfl
theorem ok__law_goes (T : Tx K mg) : DOk P w K mg base d__law_goes CX0 1 ["_law_gap", "_law_floor", "_law_roof"] spGoes := by
  obtain ⟨fd, F⟩ := T.df__law_goes
  refine ⟨fd, F, F.ok sc__law_goes (fun vs H Q E h => ?_) (fun cdv A outer s H vs Q E hr h => ⟨_, PSs.nox (pss_one (ps_ret (pe_and (pe_cmpR op_le (pv 1) (pv 0) (nomark _)) (pe_one (pe_or (pe_cmpR op_isN (pv 2) pe_non (nomark _)) (pe_one (pe_cmpR op_le (pv 0) (pv 2) (nomark _)))))))), ?_⟩)⟩
  · obtain ⟨_, _, _, rfl, _⟩ := h; rfl
  · obtain ⟨g, f, o, rfl, k⟩ := h
    rw [st__law_goes]
    cases o with
    | none =>
      walk_at "s"
      refine m_and (b2 := true) (fun hb Q' q => ?_) ?_
      · walk_at "s"
        refine br (fun _ => q) (fun h => absurd rfl h)
      · exact k
    | some r =>
      walk_at "s"
      refine m_and (b2 := decide (g ≤ r)) (fun hb Q' q => ?_) ?_
      · walk_at "s"
        refine br (fun h => nomatch h) (fun _ => ?_)
        walk_at "s"
        exact q
      · exact k
theorem sc__law_whole : FnScope ["_law_thing"] ["_law_thing"] (defScope s__law_whole) := ⟨rfl, rfl, rfl, by decide +kernel, rfl, by decide +kernel, by decide +kernel⟩
theorem st__law_whole (v0 : V) : L2.start ["_law_thing"] [v0] = [some v0] := rfl
theorem ok__law_whole (T : Tx K mg) : DOk P w K mg base d__law_whole CX0 1 ["_law_thing"] spIsM := by
  obtain ⟨fd, F⟩ := T.df__law_whole
  refine ⟨fd, F, F.ok sc__law_whole (fun vs H Q E h => ?_) (fun cdv A outer s H vs Q E hr h => ⟨_, PSs.nox (pss_one (ps_ret (pe_and (pe_callB (call_isi) (by rfl) T.f_isinstance (by decide +kernel) (pa_cons (pv 0) (pa_cons (pe_bltn (v := .ty "int") (u := .type "int") (by rfl) T.f_int (by decide +kernel) rfl) pa_nil))) (pe_one (pe_not (pe_callB (call_isi) (by rfl) T.f_isinstance (by decide +kernel) (pa_cons (pv 0) (pa_cons (pe_bltn (v := .ty "bool") (u := .type "bool") (by rfl) T.f_bool (by decide +kernel) rfl) pa_nil)))))))), ?_⟩)⟩
  · obtain ⟨i, rfl, _⟩ := h; rfl
  · obtain ⟨i, rfl, k⟩ := h
    rw [st__law_whole]
    walk_at "s"
    exact k
theorem sc__law_span : FnScope ["_law_parts"] ["_law_parts"] (defScope s__law_span) := ⟨rfl, rfl, rfl, by decide +kernel, rfl, by decide +kernel, by decide +kernel⟩
theorem st__law_span (v0 : V) : L2.start ["_law_parts"] [v0] = [some v0] := rfl
theorem ok__law_span (T : Tx K mg) : DOk P w K mg base d__law_span CX0 5 ["_law_parts"] (spSpanP (He.ga K "Span")) := by
  have o_Span___init__ : DOk P w K mg base d_Span___init__ CX0 3 ["self", "size", "above", "below"] (spSpanInit (He.ga K "Span")) := ok_Span___init__ T
  obtain ⟨fd, F⟩ := T.df__law_span
  refine ⟨fd, F, F.ok sc__law_span (fun vs H Q E h => ?_) (fun cdv A outer s H vs Q E hr h => ⟨_, PSs.nox (pss_one (ps_ret (pmk o_Span___init__ T.mkr_Span T.g_Span bd_Span___init___4 hr (by decide) (pa_cons (pe_ix ix_tup (pv 0) pe_int (fun _ _ => rfl)) (pa_cons (pe_ix ix_tup (pv 0) pe_int (fun _ _ => rfl)) (pa_cons (pe_ix ix_tup (pv 0) pe_int (fun _ _ => rfl)) pa_nil)))))), ?_⟩)⟩
  · obtain ⟨_, _, p, _, _, _, rfl, _⟩ := h; rfl
  · obtain ⟨M, fs, p, s, u, l, rfl, kn, m, h0, k⟩ := h
    rw [st__law_span]
    walk_at "s"
    exact k _ _ kn
theorem sc__law_word : FnScope ["_law_gaps", "_law_floor", "_law_roof", "_law_some", "_law_gap"] ["_law_gaps", "_law_floor", "_law_roof"] (defScope s__law_word) := ⟨rfl, rfl, rfl, by decide +kernel, rfl, by decide +kernel, by decide +kernel⟩
theorem st__law_word (v0 : V) (v1 : V) (v2 : V) : L2.start ["_law_gaps", "_law_floor", "_law_roof", "_law_some", "_law_gap"] [v0, v1, v2] = [some v0, some v1, some v2, none, none] := rfl
theorem ok__law_word (T : Tx K mg) : DOk P w K mg base d__law_word CX0 2 ["_law_gaps", "_law_floor", "_law_roof"] spWord := by
  have o__law_goes : DOk P w K mg base d__law_goes CX0 1 ["_law_gap", "_law_floor", "_law_roof"] spGoes := ok__law_goes T
  obtain ⟨fd, F⟩ := T.df__law_word
  refine ⟨fd, F, F.ok sc__law_word (fun vs H Q E h => ?_) (fun cdv A outer s H vs Q E hr h => ⟨_, PSs.nox (pss_cons (ps_setLc (i := 3) (own := [("_law_gap", 4)]) (g := gName 4) (tt := tYes) rfl sc__law_word.nd rfl rfl (sw_true rfl rfl rfl (by decide +kernel)) (pi_list (pv 0)) (blkOk_by (N := ["_law_gaps", "_law_floor", "_law_roof", "_law_some", "_law_gap"]) (sc := defScope s__law_word) (own := [("_law_gap", 4)]) (by decide +kernel)) (fun _ _ _ _ _ => (pg_name (i := 4) sc__law_word.nd rfl (Or.inl rfl))) (fun _ _ _ _ _ => pts_nil) (fun _ _ _ _ _ => (pc o__law_goes T.g__law_goes b__law_goes hr (by decide) (pa_cons (pv 4) (pa_cons (pv 1) (pa_cons (pv 2) pa_nil))))))
      (pss_cons (ps_if (pt_val (pe_callB (x_all (K := K) rfl rfl) (by rfl) T.f_all (by decide +kernel) (pa_cons (pv 3) pa_nil))) (pss_one (ps_ret pe_str)) pss_nil)
      (pss_one (ps_ret (pe_ix ix_list (pe_lst (pa_cons pe_str (pa_cons pe_str pa_nil))) (pe_callTy (call_int1) (by rfl) T.f_int (by decide +kernel) (pa_cons (pe_callB (x_any (K := K) rfl rfl) (by rfl) T.f_any (by decide +kernel) (pa_cons (pv 3) pa_nil)) pa_nil)) (fun _ _ => rfl)))))), ?_⟩)⟩
  · obtain ⟨_, _, p, ns, f, o, rfl, _⟩ := h; rfl
  · obtain ⟨M, fs, p, ns, f, o, rfl, kn, m, hn, k⟩ := h
    rw [st__law_word]
    walk_at "s"
    refine r_lcL kn (xs := ns.map V.int) (fun kn => kn.sql m) (fun i acc => acc = ((ns.take i).map fun g => goB g f o).map V.bl) rfl ?_ ?_
    · rintro i x D acc H' hi rfl kn
      rw [List.getElem?_map] at hi
      cases e : ns[i]? with
      | none => rw [e] at hi; cases hi
      | some z =>
        rw [e] at hi
        cases hi
        have hl := (List.getElem?_eq_some_iff.mp e).1
        walk_at "s"
        refine s_wipe rfl ?_
        walk_at "s"
        refine ⟨z, f, o, rfl, ?_⟩
        refine r_lcE kn (fun _ h => h) ?_ ?_
        · rw [List.length_map, List.length_map, List.length_take]
          exact Nat.lt_of_le_of_lt (show min i ns.length ≤ 10000 by omega) (by decide)
        · rw [take_succ e, List.map_append, List.map_append]
          rfl
    · rintro D acc H' rfl kn
      have kn := kn.frzL
      rw [List.length_map, List.take_length] at kn
      walk_at "s"
      refine s_all kn List.mem_cons_self ?_
      walk_at "s"
      have e1 : (ns.map fun g => goB g f o).all id = ns.all fun g => goB g f o := by rw [List.all_map]; rfl
      have e2 : (ns.map fun g => goB g f o).any id = ns.any fun g => goB g f o := by rw [List.any_map]; rfl
      rw [e1]
      refine brb (fun h => ?_) (fun h => ?_)
      · walk_at "s"
        have e : wordL ns f o = "sure" := by unfold wordL; rw [if_pos h]
        have kk := k _ (kn.sub (by walk_at "keep"))
        rw [e] at kk
        exact kk
      · walk_at "s"
        refine s_any kn (by walk_at "mem") ?_
        walk_at "s"
        rw [e2]
        have kk := k _ (kn.sub (by walk_at "keep"))
        unfold wordL at kk
        rw [if_neg (by rw [h]; exact Bool.false_ne_true)] at kk
        cases ea : (ns.any fun g => goB g f o) with
        | true =>
          rw [ea] at kk
          walk_at "ixw"
          exact kk
        | false =>
          rw [ea] at kk
          walk_at "ixw"
          exact kk
theorem sc__law_case_right : FnScope ["_law_told", "_law_outer", "_law_inner", "_law_floor", "_law_roof", "_law_goes_here", "_law_one", "_law_parts", "_law_low", "_law_high"] ["_law_told", "_law_outer", "_law_inner", "_law_floor", "_law_roof", "_law_goes_here"] (defScope s__law_case_right) := ⟨rfl, rfl, rfl, by decide +kernel, rfl, by decide +kernel, by decide +kernel⟩
theorem st__law_case_right (v0 : V) (v1 : V) (v2 : V) (v3 : V) (v4 : V) (v5 : V) : L2.start ["_law_told", "_law_outer", "_law_inner", "_law_floor", "_law_roof", "_law_goes_here", "_law_one", "_law_parts", "_law_low", "_law_high"] [v0, v1, v2, v3, v4, v5] = [some v0, some v1, some v2, some v3, some v4, some v5, none, none, none, none] := rfl
theorem ok__law_case_right (T : Tx K mg) : DOk P w K mg base d__law_case_right CX0 2 ["_law_told", "_law_outer", "_law_inner", "_law_floor", "_law_roof", "_law_goes_here"] spCase := by
  have o__law_whole : DOk P w K mg base d__law_whole CX0 1 ["_law_thing"] spIsM := ok__law_whole T
  have o__law_ends : DOk P w K mg base d__law_ends CX0 1 ["_law_parts"] spEnds := ok__law_ends T
  have o__law_goes : DOk P w K mg base d__law_goes CX0 1 ["_law_gap", "_law_floor", "_law_roof"] spGoes := ok__law_goes T
  obtain ⟨fd, F⟩ := T.df__law_case_right
  refine ⟨fd, F, F.ok sc__law_case_right (fun vs H Q E h => ?_) (fun cdv A outer s H vs Q E hr h => ⟨_, PSs.nox (pss_cons (ps_if (PW.pt (pw_or (pt_not (pt_val (pe_callB (call_isi) (by rfl) T.f_isinstance (by decide +kernel) (pa_cons (pv 0) (pa_cons (pe_bltn (v := .ty "tuple") (u := .type "tuple") (by rfl) T.f_tuple (by decide +kernel) rfl) pa_nil))))) (pw_or (pt_cmpR op_ne (pe_callB (call_len_seq) (by rfl) T.f_len (by decide +kernel) (pa_cons (pv 0) pa_nil)) pe_int (nomark _)) (pw_or1 (pt_not (pt_val (pe_callB (x_all (K := K) rfl rfl) (by rfl) T.f_all (by decide +kernel) (pa_cons (pe_lc (own := [("_law_one", 6)]) (g := gName 6) (tt := tYes) rfl sc__law_case_right.nd (pi_tup (pv 0)) (blkOk_by (N := ["_law_told", "_law_outer", "_law_inner", "_law_floor", "_law_roof", "_law_goes_here", "_law_one", "_law_parts", "_law_low", "_law_high"]) (sc := defScope s__law_case_right) (own := [("_law_one", 6)]) (by decide +kernel)) (fun _ _ _ _ _ => (pg_name (i := 6) sc__law_case_right.nd rfl (Or.inl rfl))) (fun _ _ _ _ _ => pts_nil) (fun _ _ _ _ _ => (pc o__law_whole T.g__law_whole b__law_whole hr (by decide) (pa_cons (pv 6) pa_nil)))) pa_nil)))))))) (pss_one (ps_ret pe_bl)) pss_nil)
      (pss_cons (ps_for PassesOwn.never rfl (RZ.pi_zipA (by rfl) T.f_zip (pa_cons (pv 0) (pa_cons (pe_tup (pa_cons (pv 1) (pa_cons (pv 2) pa_nil))) pa_nil))) (pg_tup rfl (pgs_cons (pg_name (i := 6) sc__law_case_right.nd rfl (Or.inl rfl)) (pgs_cons (pg_name (i := 7) sc__law_case_right.nd rfl (Or.inl rfl)) pgs_nil)))
      (pss_cons (ps_asg (pc o__law_ends T.g__law_ends b__law_ends hr (by decide) (pa_cons (pv 7) pa_nil)) (pg_tup rfl (pgs_cons (pg_name (i := 8) sc__law_case_right.nd rfl (Or.inl rfl)) (pgs_cons (pg_name (i := 9) sc__law_case_right.nd rfl (Or.inl rfl)) pgs_nil))))
      (pss_one (ps_if (pt_not (pt_chain op_le op_le (pv 8) (pv 6) (pv 9))) (pss_one (ps_ret pe_bl)) pss_nil))))
      (pss_one (ps_ret (pe_cmpR op_eq (pc o__law_goes T.g__law_goes b__law_goes hr (by decide) (pa_cons (pe_op op_sub (pe_ix ix_tup (pv 0) pe_int (fun _ _ => rfl)) (pe_ix ix_tup (pv 0) pe_int (fun _ _ => rfl))) (pa_cons (pv 3) (pa_cons (pv 4) pa_nil)))) (pv 5) (nomark _)))))), ?_⟩)⟩
  · obtain ⟨_, _, t, p, q, _, _, _, _, _, _, _, _, _, _, _, rfl, _⟩ := h; rfl
  · obtain ⟨M, fs, t, p, q, a, b, s, u, l, s', u', l', f, o, c, rfl, kn, m1, m2, m3, hin, hc, k⟩ := h
    rw [st__law_case_right]
    unfold In2 at hin
    walk_at "s"
    refine brn (fun h => absurd rfl h) (fun _ => ?_)
    walk_at "s"
    refine r_lcTG kn (xs := ([a, b] : List Int).map V.int) (fun kn => kn.sqt (List.mem_append_right _ m1)) (fun i acc gs => gs = [] ∧ acc = (List.replicate i true).map V.bl) ⟨rfl, rfl⟩ ?_ ?_
    · rintro i x D acc gs H' hi ⟨rfl, rfl⟩ kn
      have hl : i < 2 := (List.getElem?_eq_some_iff.mp hi).1
      obtain ⟨z, rfl⟩ : ∃ z, x = V.int z := by
        rw [List.getElem?_map] at hi
        cases e : ([a, b] : List Int)[i]? with
        | none => rw [e] at hi; cases hi
        | some z => rw [e] at hi; exact ⟨z, (Option.some.inj hi).symm⟩
      walk_at "s"
      refine s_wipe rfl ?_
      walk_at "s"
      refine ⟨_, rfl, ?_⟩
      refine r_lcG (gs := []) kn (fun _ h => h) ?_ ⟨rfl, by rw [List.replicate_succ', List.map_append]; rfl⟩
      rw [List.length_map, List.length_replicate]
      exact Nat.lt_of_le_of_lt (show i ≤ 100 by omega) (by decide)
    · rintro D acc gs H' ⟨rfl, rfl⟩ kn
      have kn : Kn M (fO D (.lst _) :: fs) H' := kn.frzL
      walk_at "s"
      refine s_all kn List.mem_cons_self ?_
      rw [all_rep]
      walk_at "s"
      walk_at "ends"
      walk_at "s"
      refine br (fun _ => ?_) (fun h => absurd hin.1 h)
      walk_at "s"
      refine brn (fun h => absurd hin.2.1 h) (fun _ => ?_)
      walk_at "s"
      walk_at "nextz"
      walk_at "ends"
      walk_at "s"
      refine br (fun _ => ?_) (fun h => absurd hin.2.2.1 h)
      walk_at "s"
      refine brn (fun h => absurd hin.2.2.2 h) (fun _ => ?_)
      walk_at "s"
      walk_at "nextz"
      refine ⟨_, _, o, rfl, ?_⟩
      walk_at "s"
      exact fin_dec hc (k _ (kn.sub (by walk_at "keep")))
theorem sc__law_fit_right : FnScope ["_law_told", "_law_outer", "_law_inner", "_law_floor", "_law_roof", "_law_word_here"] ["_law_told", "_law_outer", "_law_inner", "_law_floor", "_law_roof", "_law_word_here"] (defScope s__law_fit_right) := ⟨rfl, rfl, rfl, by decide +kernel, rfl, by decide +kernel, by decide +kernel⟩
theorem st__law_fit_right (v0 : V) (v1 : V) (v2 : V) (v3 : V) (v4 : V) (v5 : V) : L2.start ["_law_told", "_law_outer", "_law_inner", "_law_floor", "_law_roof", "_law_word_here"] [v0, v1, v2, v3, v4, v5] = [some v0, some v1, some v2, some v3, some v4, some v5] := rfl
theorem ok__law_fit_right (T : Tx K mg) : DOk P w K mg base d__law_fit_right CX0 3 ["_law_told", "_law_outer", "_law_inner", "_law_floor", "_law_roof", "_law_word_here"] (spFitRight (He.ga K "Fit")) := by
  have o__law_case_right : DOk P w K mg base d__law_case_right CX0 2 ["_law_told", "_law_outer", "_law_inner", "_law_floor", "_law_roof", "_law_goes_here"] spCase := ok__law_case_right T
  obtain ⟨fd, F⟩ := T.df__law_fit_right
  refine ⟨fd, F, F.ok sc__law_fit_right (fun vs H Q E h => ?_) (fun cdv A outer s H vs Q E hr h => ⟨_, PSs.nox (pss_cons (ps_if (PW.pt (pw_or (pt_not (pt_val (pe_callB (call_isi) (by rfl) T.f_isinstance (by decide +kernel) (pa_cons (pv 0) (pa_cons (pe_glob (v := .ref (He.ga K "Fit")) rfl T.g_Fit rfl) pa_nil))))) (pw_or (pt_not (pt_val (pe_callB (call_isi) (by rfl) T.f_isinstance (by decide +kernel) (pa_cons (pe_fld (pv 0) rfl) (pa_cons (pe_bltn (v := .ty "str") (u := .type "str") (by rfl) T.f_str (by decide +kernel) rfl) pa_nil))))) (pw_or1 (pt_cmpR op_ne (pe_fld (pv 0) rfl) (pv 5) (nomark _)))))) (pss_one (ps_ret pe_bl)) pss_nil)
      (pss_cons (ps_if (PW.pt (pw_and (pt_cmpR op_ne (pv 5) pe_str (nomark _)) (pw_and1 (pt_not (pt_val (pc o__law_case_right T.g__law_case_right b__law_case_right hr (by decide) (pa_cons (pe_fld (pv 0) rfl) (pa_cons (pv 1) (pa_cons (pv 2) (pa_cons (pv 3) (pa_cons (pv 4) (pa_cons pe_bl pa_nil)))))))))))) (pss_one (ps_ret pe_bl)) pss_nil)
      (pss_cons (ps_if (PW.pt (pw_and (pt_cmpR op_ne (pv 5) pe_str (nomark _)) (pw_and1 (pt_not (pt_val (pc o__law_case_right T.g__law_case_right b__law_case_right hr (by decide) (pa_cons (pe_fld (pv 0) rfl) (pa_cons (pv 1) (pa_cons (pv 2) (pa_cons (pv 3) (pa_cons (pv 4) (pa_cons pe_bl pa_nil)))))))))))) (pss_one (ps_ret pe_bl)) pss_nil)
      (pss_one (ps_ret (pe_and (pe_cmpR op_eq (pe_cmpR op_isN (pe_fld (pv 0) rfl) pe_non (nomark _)) (pe_cmpR op_eq (pv 5) pe_str (nomark _)) (nomark _)) (pe_one (pe_cmpR op_eq (pe_cmpR op_isN (pe_fld (pv 0) rfl) pe_non (nomark _)) (pe_cmpR op_eq (pv 5) pe_str (nomark _)) (nomark _))))))))), ?_⟩)⟩
  · obtain ⟨_, _, x, p, q, _, _, _, _, _, _, _, _, rfl, _⟩ := h; rfl
  · obtain ⟨M, fs, x, p, q, s, u, l, s', u', l', f, o, rfl, kn, mx, m2, m3, h1, h2, ho, k⟩ := h
    rw [st__law_fit_right]
    obtain ⟨g, e, hg, he, tg, te, hn⟩ := kn.raw mx
    have kn := ((kn.more mn_N hn).more mn_Tup tg).more mn_Tup te
    have hex : sureB (s - l - (s' + u')) (s + u - (s' - l')) f o = true → neverB (s - l - (s' + u')) (s + u - (s' - l')) f o = false := by
      cases o with
      | none => simp [sureB, neverB]; omega
      | some r =>
        have := ho r rfl
        simp [sureB, neverB]; omega
    cases g with
    | none =>
      have e1 := hg.non.mp rfl
      have e2 : sureB (s - l - (s' + u')) (s + u - (s' - l')) f o = false := by
        cases en : sureB (s - l - (s' + u')) (s + u - (s' - l')) f o with
        | true => rw [hex en] at e1; cases e1
        | false => rfl
      have hw : wordOf (s - l - (s' + u')) (s + u - (s' - l')) f o = "never" := by unfold wordOf; rw [e1, e2]; rfl
      cases e with
      | none => rw [he.non.mp rfl] at e2; cases e2
      | some e =>
        obtain ⟨t', a', b'⟩ := e
        have hin := he.som t' a' b' rfl
        have kn := kn.more mn_O (te t' a' b' rfl)
        rw [hw] at kn ⊢
        unfold fitFl at kn
        walk_at "s"
        refine brn (fun h => absurd rfl h) (fun _ => ?_)
        walk_at "s"
        refine brn (fun h => absurd rfl h) (fun _ => ?_)
        walk_at "s"
        refine brn (fun _ => ?_) (fun h => absurd h (by decide))
        walk_at "s"
        walk_at "case"
        walk_at "s"
        walk_at "finfit"
    | some g =>
      obtain ⟨t, a, b⟩ := g
      have hin1 := hg.som t a b rfl
      have kn := kn.more mn_O (tg t a b rfl)
      have e1 : neverB (s - l - (s' + u')) (s + u - (s' - l')) f o = false := by
        cases en : neverB (s - l - (s' + u')) (s + u - (s' - l')) f o with
        | true => exact nomatch hg.non.mpr en
        | false => rfl
      cases e with
      | none =>
        have hw : wordOf (s - l - (s' + u')) (s + u - (s' - l')) f o = "sure" := by unfold wordOf; rw [he.non.mp rfl]; rfl
        have hin := hin1
        rw [hw] at kn ⊢
        unfold fitFl at kn
        walk_at "s"
        refine brn (fun h => absurd rfl h) (fun _ => ?_)
        walk_at "s"
        refine brn (fun _ => ?_) (fun h => absurd h (by decide))
        walk_at "s"
        walk_at "case"
        walk_at "s"
        refine brn (fun h => absurd rfl h) (fun _ => ?_)
        walk_at "s"
        walk_at "finfit"
      | some e =>
        obtain ⟨t', a', b'⟩ := e
        have hin2 := he.som t' a' b' rfl
        have kn := kn.more mn_O (te t' a' b' rfl)
        have e2 : sureB (s - l - (s' + u')) (s + u - (s' - l')) f o = false := by
          cases en : sureB (s - l - (s' + u')) (s + u - (s' - l')) f o with
          | true => exact nomatch he.non.mpr en
          | false => rfl
        have hw : wordOf (s - l - (s' + u')) (s + u - (s' - l')) f o = "may" := by unfold wordOf; rw [e1, e2]; rfl
        rw [hw] at kn ⊢
        unfold fitFl at kn
        have hin := hin1
        walk_at "s"
        refine brn (fun h => absurd rfl h) (fun _ => ?_)
        walk_at "s"
        refine brn (fun _ => ?_) (fun h => absurd h (by decide))
        walk_at "s"
        walk_at "case"
        walk_at "s"
        have hin := hin2
        refine brn (fun _ => ?_) (fun h => absurd h (by decide))
        walk_at "s"
        walk_at "case"
        walk_at "s"
        walk_at "finfit"
theorem sc__law_asked : FnScope ["_law_pair", "_law_outer", "_law_inner", "_law_floor", "_law_roof", "_law_word_here", "_law_told", "_law_first", "_law_second", "_law_one"] ["_law_pair", "_law_outer", "_law_inner", "_law_floor", "_law_roof", "_law_word_here"] (defScope s__law_asked) := ⟨rfl, rfl, rfl, by decide +kernel, rfl, by decide +kernel, by decide +kernel⟩
theorem st__law_asked (v0 : V) (v1 : V) (v2 : V) (v3 : V) (v4 : V) (v5 : V) : L2.start ["_law_pair", "_law_outer", "_law_inner", "_law_floor", "_law_roof", "_law_word_here", "_law_told", "_law_first", "_law_second", "_law_one"] [v0, v1, v2, v3, v4, v5] = [some v0, some v1, some v2, some v3, some v4, some v5, none, none, none, none] := rfl
theorem ok__law_asked (T : Tx K mg) : DOk P w K mg base d__law_asked CX0 4 ["_law_pair", "_law_outer", "_law_inner", "_law_floor", "_law_roof", "_law_word_here"] (spAsked (He.ga K "Span") (He.ga K "Fit")) := by
  have o_fit : DOk P w K mg base d_fit CX0 3 ["hole", "peg", "least", "most"] (spFit (He.ga K "Span") (He.ga K "Fit")) := ok_fit T
  have o__law_fit_right : DOk P w K mg base d__law_fit_right CX0 3 ["_law_told", "_law_outer", "_law_inner", "_law_floor", "_law_roof", "_law_word_here"] (spFitRight (He.ga K "Fit")) := ok__law_fit_right T
  obtain ⟨fd, F⟩ := T.df__law_asked
  refine ⟨fd, F, F.ok sc__law_asked (fun vs H Q E h => ?_) (fun cdv A outer s H vs Q E hr h => ⟨_, PSs.nox (pss_cons (ps_asg (pv 0) (pg_tup rfl (pgs_cons (pg_name (i := 7) sc__law_asked.nd rfl (Or.inl rfl)) (pgs_cons (pg_name (i := 8) sc__law_asked.nd rfl (Or.inl rfl)) pgs_nil))))
      (pss_cons (ps_set (i := 6) sc__law_asked.nd rfl (Or.inl rfl) (pe_lst (pa_cons (pcD o_fit T.g_fit bd_fit_4 hr (by decide) (pa_cons (pv 7) (pa_cons (pv 8) (pa_cons (pv 3) (pa_cons (pv 4) pa_nil))))) (pa_cons (pcK0 o_fit T.g_fit bk_fit_0_least_peg_most_hole hr (by decide) (pk_cons (pv 3) (pk_cons (pv 8) (pk_cons (pv 4) (pk_cons (pv 7) pk_nil))))) pa_nil))))
      (pss_cut (ps_if (pt_cmpR op_isN (pv 4) pe_non (nomark _)) (pss_one (ps_expr (pe_bm PySem.F.plainAttrs_list PySem.F.slot_list_append PySem.F.type_list_append mt_append (pv 6) (pa_cons (pcD o_fit T.g_fit bd_fit_3 hr (by decide) (pa_cons (pv 7) (pa_cons (pv 8) (pa_cons (pv 3) pa_nil)))) pa_nil)))) pss_nil)
      (pss_cut (ps_if (PW.pt (pw_and (pt_cmpR op_isN (pv 4) pe_non (nomark _)) (pw_and1 (pt_cmpR op_eq (pv 3) pe_int (nomark _))))) (pss_one (ps_set (i := 6) sc__law_asked.nd rfl (Or.inl rfl) (pe_op op_cat (pv 6) (pe_lst (pa_cons (pcD o_fit T.g_fit bd_fit_2 hr (by decide) (pa_cons (pv 7) (pa_cons (pv 8) pa_nil))) (pa_cons (pcK o_fit T.g_fit bk_fit_1_peg_most hr (by decide) (pa_cons (pv 7) pa_nil) (pk_cons (pv 8) (pk_cons pe_non pk_nil))) pa_nil)))))) pss_nil)
      (pss_cons (ps_expr (pe_bm PySem.F.plainAttrs_list PySem.F.slot_list_append PySem.F.type_list_append mt_append (pv 6) (pa_cons (pcK o_fit T.g_fit bk_fit_2_most_least hr (by decide) (pa_cons (pv 7) (pa_cons (pv 8) pa_nil)) (pk_cons (pv 4) (pk_cons (pv 3) pk_nil))) pa_nil)))
      (pss_one (ps_ret (pe_callB (x_all (K := K) rfl rfl) (by rfl) T.f_all (by decide +kernel) (pa_cons (pe_lc (own := [("_law_one", 9)]) (g := gName 9) (tt := tYes) rfl sc__law_asked.nd (pi_list (pv 6)) (blkOk_by (N := ["_law_pair", "_law_outer", "_law_inner", "_law_floor", "_law_roof", "_law_word_here", "_law_told", "_law_first", "_law_second", "_law_one"]) (sc := defScope s__law_asked) (own := [("_law_one", 9)]) (by decide +kernel)) (fun _ _ _ _ _ => (pg_name (i := 9) sc__law_asked.nd rfl (Or.inl rfl))) (fun _ _ _ _ _ => pts_nil) (fun _ _ _ _ _ => (pc o__law_fit_right T.g__law_fit_right b__law_fit_right hr (by decide) (pa_cons (pv 9) (pa_cons (pv 1) (pa_cons (pv 2) (pa_cons (pv 3) (pa_cons (pv 4) (pa_cons (pv 5) pa_nil))))))))) pa_nil))))))))), ?_⟩)⟩
  · obtain ⟨_, _, t, p, q, a, b, _, _, _, _, _, _, _, _, rfl, _⟩ := h; rfl
  · obtain ⟨M, fs, t, p, q, a, b, s, u, l, s', u', l', f, o, rfl, kn, mt, ma, mb, m2, m3, h1, h2, ho, k⟩ := h
    rw [st__law_asked]
    walk_at "t"
    walk_at "fit"
    walk_at "t"
    walk_at "fit"
    walk_at "t"
    refine r_lstM kn (sl rfl) fun D kn2 => ?_
    clear kn
    have kn := kn2
    clear kn2
    walk_at "t"
    refine s_cut (fun σ' H' => ∃ (D : Addr) (xs : List Addr) (fs' : List Fact), σ' = [some (.ref t), some (.ref p), some (.ref q), some (.int f), some (vO o), some (.str (wordOf (s - l - (s' + u')) (s + u - (s' - l')) f o)), some (.ref D), some (.ref a), some (.ref b), none] ∧ xs.length ≤ 6 ∧ (∀ x, x ∈ xs → fFit (He.ga K "Fit") x (s - l) (s + u) (s' - l') (s' + u') f o ∈ fs') ∧ (∀ g, g ∈ fs → g ∈ fs') ∧ Kn ((D, isL (xs.map V.ref)) :: M) fs' H') ?_ ?_
    · cases o with
      | none =>
        walk_at "t"
        refine br (fun _ => ?_) (fun h => absurd rfl h)
        walk_at "t"
        walk_at "fitn"
        walk_at "t"
        exact ⟨D, [_, _, _], _, rfl, (by simp only [List.length_cons, List.length_nil]; omega), by intro z hz; simp only [List.mem_cons, List.not_mem_nil, or_false] at hz; rcases hz with rfl | rfl | rfl <;> walk_at "mem", fun f hf => by walk_at "keep1", kn⟩
      | some r =>
        walk_at "t"
        refine br (fun h => nomatch h) (fun _ => ?_)
        walk_at "t"
        exact ⟨D, [_, _], _, rfl, (by simp only [List.length_cons, List.length_nil]; omega), by intro z hz; simp only [List.mem_cons, List.not_mem_nil, or_false] at hz; rcases hz with rfl | rfl <;> walk_at "mem", fun f hf => by walk_at "keep1", kn⟩
    clear kn
    rintro σ' H' ⟨D, xs, fs', rfl, hl, hx, hs, kn⟩
    have ma := hs _ ma
    have mb := hs _ mb
    have m2 := hs _ m2
    have m3 := hs _ m3
    refine s_cut (fun σ' H' => ∃ (D : Addr) (xs : List Addr) (fs' : List Fact), σ' = [some (.ref t), some (.ref p), some (.ref q), some (.int f), some (vO o), some (.str (wordOf (s - l - (s' + u')) (s + u - (s' - l')) f o)), some (.ref D), some (.ref a), some (.ref b), none] ∧ xs.length ≤ 8 ∧ (∀ x, x ∈ xs → fFit (He.ga K "Fit") x (s - l) (s + u) (s' - l') (s' + u') f o ∈ fs') ∧ (∀ g, g ∈ fs → g ∈ fs') ∧ Kn ((D, isL (xs.map V.ref)) :: M) fs' H') ?_ ?_
    · cases o with
      | none =>
        walk_at "t"
        refine br (fun _ => ?_) (fun h => absurd rfl h)
        walk_at "t"
        refine br (fun c => ?_) (fun c => ?_)
        · subst c
          walk_at "t"
          walk_at "fitn"
          walk_at "t"
          walk_at "fitn"
          walk_at "s"
          refine s_catC kn (by walk_at "mem") (small_le (m := 8) (by rw [List.length_map]; simp only [List.length_cons, List.length_nil]; omega) (by decide)) fun o kn2 => ?_
          clear kn
          have kn := kn2
          clear kn2
          walk_at "s"
          exact ⟨o, xs ++ [_, _], _, rfl, by simp only [List.length_append, List.length_cons, List.length_nil]; omega, by intro z hz; rcases List.mem_append.mp hz with hz | hz; (· have := hx z hz; walk_at "mem"); (simp only [List.mem_cons, List.not_mem_nil, or_false] at hz; rcases hz with rfl | rfl <;> walk_at "mem"), fun f hf => by (have hf := hs _ hf; walk_at "keep1"), Kn.lref (ks := [_, _]) kn⟩
        · walk_at "t"
          exact ⟨D, xs, _, rfl, by omega, hx, hs, kn⟩
      | some r =>
        walk_at "t"
        refine br (fun h => nomatch h) (fun _ => ?_)
        walk_at "t"
        exact ⟨D, xs, _, rfl, by omega, hx, hs, kn⟩
    clear kn hx hs ma mb m2 m3
    rintro σ' H' ⟨D, xs, fs', rfl, hl, hx, hs, kn⟩
    have ma := hs _ ma
    have mb := hs _ mb
    have m2 := hs _ m2
    have m3 := hs _ m3
    walk_at "t"
    walk_at "fit"
    walk_at "t"
    refine s_app kn (small_lt (m := 8) (by rw [List.length_map]; exact hl) (by decide)) fun kn2 => ?_
    clear kn
    have kn := (Kn.lref (ks := [_]) kn2).frzL
    clear kn2
    have hx2 : ∀ z, z ∈ xs ++ [x] → fFit (He.ga K "Fit") z (s - l) (s + u) (s' - l') (s' + u') f o ∈ (fO D (.lst ((xs ++ [x]).map V.ref)) :: fFit (He.ga K "Fit") x (s - l) (s + u) (s' - l') (s' + u') f o :: fs') := by
      intro z hz
      rcases List.mem_append.mp hz with hz | hz
      · have := hx z hz
        walk_at "mem"
      · simp only [List.mem_cons, List.not_mem_nil, or_false] at hz
        rcases hz with rfl
        walk_at "mem"
    walk_at "t"
    refine r_lcL kn (xs := (xs ++ [x]).map V.ref) (fun kn => kn.sql List.mem_cons_self) (fun i acc => acc = (List.replicate i true).map V.bl) rfl ?_ ?_
    · rintro i v D2 acc H3 hi rfl kn
      rw [List.getElem?_map] at hi
      cases e : (xs ++ [x])[i]? with
      | none => rw [e] at hi; cases hi
      | some z =>
        rw [e] at hi
        cases hi
        have hz := hx2 z (List.mem_of_getElem? e)
        have hil := (List.getElem?_eq_some_iff.mp e).1
        rw [List.length_append] at hil
        simp only [List.length_cons, List.length_nil] at hil
        walk_at "s"
        refine s_wipe rfl ?_
        walk_at "s"
        refine' ⟨_, _, _, _, _, _, _, _, _, _, _, _, o, rfl, kn, hz, ?m2, ?m3, h1, h2, ho, fun H4 kn2 => ?_⟩
        case m2 => walk_at "mem"
        case m3 => walk_at "mem"
        refine r_lcE kn2 (fun _ h => h) ?_ ?_
        · rw [List.length_map, List.length_replicate]
          exact small_lt (m := 10) (by omega) (by decide)
        · rw [List.replicate_succ', List.map_append]
          rfl
    · rintro D2 acc H3 rfl kn
      have kn := kn.frzL
      walk_at "s"
      refine s_all kn List.mem_cons_self ?_
      rw [all_rep]
      exact k _ (kn.sub (fun f hf => by (have hf := hs _ hf; walk_at "keep1")))
theorem sc__law_few_right : FnScope ["_law_purse_here", "_law_ends_here", "_law_gaps", "_law_one", "_law_pair", "_law_limits", "_law_outer", "_law_inner", "_law_floor", "_law_roof", "_law_turn", "_law_other"] ["_law_purse_here"] (defScope s__law_few_right) := ⟨rfl, rfl, rfl, by decide +kernel, rfl, by decide +kernel, by decide +kernel⟩
theorem st__law_few_right (v0 : V) : L2.start ["_law_purse_here", "_law_ends_here", "_law_gaps", "_law_one", "_law_pair", "_law_limits", "_law_outer", "_law_inner", "_law_floor", "_law_roof", "_law_turn", "_law_other"] [v0] = [some v0, none, none, none, none, none, none, none, none, none, none, none] := rfl
theorem ok__law_few_right (T : Tx K mg) : DOk P w K mg base d__law_few_right CX0 6 ["_law_purse_here"] spPR := by
  have o__law_few : DOk P w K mg base d__law_few CX0 2 ["_law_purse_here"] spFew := ok__law_few T
  have o__law_ends : DOk P w K mg base d__law_ends CX0 1 ["_law_parts"] spEnds := ok__law_ends T
  have o__law_span : DOk P w K mg base d__law_span CX0 5 ["_law_parts"] (spSpanP (He.ga K "Span")) := ok__law_span T
  have o__law_bounds : DOk P w K mg base d__law_bounds CX0 2 ["_law_purse_here", "_law_low", "_law_high"] spBounds := ok__law_bounds T
  have o__law_word : DOk P w K mg base d__law_word CX0 2 ["_law_gaps", "_law_floor", "_law_roof"] spWord := ok__law_word T
  have o__law_asked : DOk P w K mg base d__law_asked CX0 4 ["_law_pair", "_law_outer", "_law_inner", "_law_floor", "_law_roof", "_law_word_here"] (spAsked (He.ga K "Span") (He.ga K "Fit")) := ok__law_asked T
  obtain ⟨fd, F⟩ := T.df__law_few_right
  refine ⟨fd, F, F.ok sc__law_few_right (fun vs H Q E h => ?_) (fun cdv A outer s H vs Q E hr h => ⟨_, PSs.nox (pss_cons (ps_par (i := 6) (j := 7) (by rfl) sc__law_few_right.nd rfl rfl (by decide) rfl rfl (pa_cons (pc o__law_few T.g__law_few b__law_few hr (by decide) (pa_cons (pv 0) pa_nil)) (pa_cons (pc o__law_few T.g__law_few b__law_few hr (by decide) (pa_cons (pv 0) pa_nil)) pa_nil)) (by rfl))
      (pss_cons (ps_set (i := 1) sc__law_few_right.nd rfl (Or.inl rfl) (pe_lst (pa_cons (pc o__law_ends T.g__law_ends b__law_ends hr (by decide) (pa_cons (pv 6) pa_nil)) (pa_cons (pc o__law_ends T.g__law_ends b__law_ends hr (by decide) (pa_cons (pv 7) pa_nil)) pa_nil))))
      (pss_cons (ps_set (i := 2) sc__law_few_right.nd rfl (Or.inr rfl) (pe_lst pa_nil))
      (pss_cons (ps_for PassesOwn.never rfl (pi_range2 (by rfl) T.f_range (pa_cons (pe_ix ix_tup (pe_ix ix_list (pv 1) pe_int (fun _ _ => rfl)) pe_int (fun _ _ => rfl)) (pa_cons (pe_op op_add (pe_ix ix_tup (pe_ix ix_list (pv 1) pe_int (fun _ _ => rfl)) pe_int (fun _ _ => rfl)) pe_int) pa_nil))) (pg_name (i := 3) sc__law_few_right.nd rfl (Or.inr rfl))
      (pss_one (ps_expr (pe_bm PySem.F.plainAttrs_list PySem.F.slot_list_extend PySem.F.type_list_extend mt_extend (pv 2) (pa_cons (pe_lc (own := [("_law_other", 11)]) (g := gName 11) (tt := tYes) rfl sc__law_few_right.nd (pi_range2 (by rfl) T.f_range (pa_cons (pe_ix ix_tup (pe_ix ix_list (pv 1) pe_int (fun _ _ => rfl)) pe_int (fun _ _ => rfl)) (pa_cons (pe_op op_add (pe_ix ix_tup (pe_ix ix_list (pv 1) pe_int (fun _ _ => rfl)) pe_int (fun _ _ => rfl)) pe_int) pa_nil))) (blkOk_by (N := ["_law_purse_here", "_law_ends_here", "_law_gaps", "_law_one", "_law_pair", "_law_limits", "_law_outer", "_law_inner", "_law_floor", "_law_roof", "_law_turn", "_law_other"]) (sc := defScope s__law_few_right) (own := [("_law_other", 11)]) (by decide +kernel)) (fun _ _ _ _ _ => (pg_name (i := 11) sc__law_few_right.nd rfl (Or.inl rfl))) (fun _ _ _ _ _ => pts_nil) (fun _ _ _ _ _ => (pe_op op_sub (pv 3) (pv 11)))) pa_nil)))))
      (pss_cons (ps_set (i := 4) sc__law_few_right.nd rfl (Or.inl rfl) (pe_tup (pa_cons (pc o__law_span T.g__law_span b__law_span hr (by decide) (pa_cons (pv 6) pa_nil)) (pa_cons (pc o__law_span T.g__law_span b__law_span hr (by decide) (pa_cons (pv 7) pa_nil)) pa_nil))))
      (pss_cons (ps_setLc (i := 5) (own := [("_law_turn", 10)]) (g := gName 10) (tt := tYes) rfl sc__law_few_right.nd rfl rfl (sw_true rfl rfl rfl (by decide +kernel)) (pi_range1 (by rfl) T.f_range (pa_cons pe_int pa_nil)) (blkOk_by (N := ["_law_purse_here", "_law_ends_here", "_law_gaps", "_law_one", "_law_pair", "_law_limits", "_law_outer", "_law_inner", "_law_floor", "_law_roof", "_law_turn", "_law_other"]) (sc := defScope s__law_few_right) (own := [("_law_turn", 10)]) (by decide +kernel)) (fun _ _ _ _ _ => (pg_name (i := 10) sc__law_few_right.nd rfl (Or.inl rfl))) (fun _ _ _ _ _ => pts_nil) (fun _ _ _ _ _ => (pc o__law_bounds T.g__law_bounds b__law_bounds hr (by decide) (pa_cons (pv 0) (pa_cons (pe_callB (x_min (K := K) rfl rfl) (by rfl) T.f_min (by decide +kernel) (pa_cons (pv 2) pa_nil)) (pa_cons (pe_callB (x_max (K := K) rfl rfl) (by rfl) T.f_max (by decide +kernel) (pa_cons (pv 2) pa_nil)) pa_nil))))))
      (pss_cons (ps_for PassesOwn.never rfl (pi_list (pe_op op_cat (pv 5) (pe_slice sl_list (pv 5) po_none (po_some pe_int)))) (pg_tup rfl (pgs_cons (pg_name (i := 8) sc__law_few_right.nd rfl (Or.inl rfl)) (pgs_cons (pg_name (i := 9) sc__law_few_right.nd rfl (Or.inl rfl)) pgs_nil)))
      (pss_one (ps_if (pt_not (pt_val (pc o__law_asked T.g__law_asked b__law_asked hr (by decide) (pa_cons (pv 4) (pa_cons (pv 6) (pa_cons (pv 7) (pa_cons (pv 8) (pa_cons (pv 9) (pa_cons (pc o__law_word T.g__law_word b__law_word hr (by decide) (pa_cons (pv 2) (pa_cons (pv 8) (pa_cons (pv 9) pa_nil)))) pa_nil))))))))) (pss_one (ps_ret pe_bl)) pss_nil)))
      (pss_one (ps_ret (pc o__law_asked T.g__law_asked b__law_asked hr (by decide) (pa_cons (pv 4) (pa_cons (pv 6) (pa_cons (pv 7) (pa_cons pe_int (pa_cons pe_non (pa_cons (pc o__law_word T.g__law_word b__law_word hr (by decide) (pa_cons (pv 2) (pa_cons pe_int (pa_cons pe_non pa_nil)))) pa_nil)))))))))))))))), ?_⟩)⟩
  · obtain ⟨_, _, p, rfl, _⟩ := h; rfl
  · obtain ⟨M, fs, p, rfl, kn, k⟩ := h
    rw [st__law_few_right]
    walk_at "t"
    refine ⟨_, _, _, rfl, kn, fun t1 s u l H2 r1 r2 r3 r4 kn2 => ?_⟩
    clear kn
    have kn := kn2
    clear kn2
    walk_at "t"
    refine ⟨_, _, _, rfl, kn, fun t2 s' u' l' H2 r1' r2' r3' r4' kn2 => ?_⟩
    clear kn
    have kn := kn2
    clear kn2
    walk_at "t"
    refine' ⟨_, _, _, _, _, _, rfl, kn, ?m, fun e1 H2 kn2 => ?_⟩
    case m => walk_at "mem"
    clear kn
    have kn := kn2
    clear kn2
    walk_at "t"
    refine' ⟨_, _, _, _, _, _, rfl, kn, ?m, fun e2 H2 kn2 => ?_⟩
    case m => walk_at "mem"
    clear kn
    have kn := kn2
    clear kn2
    walk_at "t"
    refine r_lst kn (sl rfl) fun e0 kn2 => ?_
    clear kn
    have kn := kn2
    clear kn2
    walk_at "t"
    refine r_lstM kn (sl rfl) fun G kn2 => ?_
    clear kn
    have kn := kn2
    clear kn2
    obtain ⟨FS, ⟨mt1, mt2, me0, me1, me2, hs⟩, kn⟩ := Kn.box (P := fun FS => fO t1 (.tup [.int s, .int u, .int l]) ∈ FS ∧ fO t2 (.tup [.int s', .int u', .int l']) ∈ FS ∧ fO e0 (.lst [.ref e1, .ref e2]) ∈ FS ∧ fO e1 (.tup [.int (s - l), .int (s + u)]) ∈ FS ∧ fO e2 (.tup [.int (s' - l'), .int (s' + u')]) ∈ FS ∧ ∀ f, f ∈ fs → f ∈ FS) kn ⟨by walk_at "mem", by walk_at "mem", by walk_at "mem", by walk_at "mem", by walk_at "mem", fun f hf => by walk_at "keep1"⟩
    walk_at "t"
    refine ⟨⟨by omega, by omega, by omega, by omega⟩, ?_⟩
    refine r_forR (fun i σ' H' => ∃ (v3 v11 : Option V), σ' = [some (.ref p), some (.ref e0), some (.ref G), v3, none, none, some (.ref t1), some (.ref t2), none, none, none, v11] ∧ Kn ((G, isL ((gapsR (s - l) (s' - l') i (s' + u' + 1 - (s' - l')).toNat).map V.int)) :: (p, Pur) :: M) FS H') ⟨_, _, rfl, kn⟩ ?_ ?_
    · clear kn
      rintro i σ' H' hi ⟨v3, v11, rfl, kn⟩
      walk_at "t"
      refine ⟨⟨by omega, by omega, by omega, by omega⟩, ?_⟩
      refine r_lcR kn (fun j acc => acc = ((List.range j).map fun (j : Nat) => (s - l + (i : Int)) - (s' - l' + (j : Int))).map V.int) rfl ?_ ?_
      · rintro j D acc H3 hj rfl kn
        walk_at "s"
        refine s_wipe rfl ?_
        walk_at "s"
        refine r_lcE kn (fun _ h => h) ?_ (by rw [List.range_succ, List.map_append, List.map_append]; rfl)
        rw [List.length_map, List.length_map, List.length_range]
        exact small_lt (m := 9) (by omega) (by decide)
      · rintro D acc H3 rfl kn
        have kn := kn.frzL
        walk_at "t"
        refine s_ext kn List.mem_cons_self (small_le (m := 90) ?_ (by decide)) fun kn2 => ?_
        · rw [List.length_map, List.length_map, List.length_map, List.length_range]
          have := gaps_len' (b := s' - l') (a := s - l) (s' := s') hi (by omega) r3'
          omega
        · walk_at "t"
          exact ⟨_, _, rfl, by rw [gapsR_succ, List.map_append]; exact kn2.sub (fun _ h => List.mem_cons_of_mem _ h)⟩
    clear kn
    rintro σ' H' ⟨v3, v11, rfl, kn⟩
    have kn := kn.frzL
    walk_at "t"
    refine' ⟨_, _, _, _, _, _, rfl, kn, ?m, r2, fun x1 H2 kn2 => ?_⟩
    case m => walk_at "mem"
    clear kn
    have kn := kn2
    clear kn2
    walk_at "t"
    refine' ⟨_, _, _, _, _, _, rfl, kn, ?m, r2', fun x2 H2 kn2 => ?_⟩
    case m => walk_at "mem"
    clear kn
    have kn := kn2
    clear kn2
    walk_at "t"
    rename Addr => pr
    refine ⟨by decide, by decide, ?_⟩
    obtain ⟨FS2, ⟨mG, mpr, ms1, ms2, hs2⟩, kn⟩ := Kn.box (P := fun FS2 => fO G (.lst ((gapsR (s - l) (s' - l') (s + u + 1 - (s - l)).toNat (s' + u' + 1 - (s' - l')).toNat).map V.int)) ∈ FS2 ∧ fO pr (.tup [.ref x1, .ref x2]) ∈ FS2 ∧ fS (He.ga K "Span") x1 s u l ∈ FS2 ∧ fS (He.ga K "Span") x2 s' u' l' ∈ FS2 ∧ ∀ f, f ∈ FS → f ∈ FS2) kn ⟨by walk_at "mem", by walk_at "mem", by walk_at "mem", by walk_at "mem", fun f hf => by walk_at "keep1"⟩
    have mt1 := hs2 _ mt1
    have mt2 := hs2 _ mt2
    have hlen := gaps_len (s := s) (s' := s') r3 r3' r2 r2'
    refine r_lcRG kn (fun i acc gs => ∃ es : List (Addr × Int × Option Int), acc = es.map (fun e => V.ref e.1) ∧ es.length = i ∧ ∀ e, e ∈ es → LimOk e.2.1 e.2.2 ∧ fO e.1 (.tup [.int e.2.1, vO e.2.2]) ∈ gs) ⟨[], rfl, rfl, fun _ h => nomatch h⟩ ?_ ?_
    · clear kn
      rintro i D acc gs H' hi ⟨es, rfl, hes, hg⟩ kn
      walk_at "s"
      refine s_wipe rfl ?_
      walk_at "s"
      refine s_min kn (kn.sql (List.mem_append_right _ mG)) hlen.1 fun mn hmn hmn2 => ?_
      walk_at "s"
      refine s_max kn (kn.sql (List.mem_append_right _ mG)) hlen.1 fun mx hmx hmx2 => ?_
      walk_at "s"
      have b0 := hmn2 mx hmx
      have b1 := gaps_in hmn
      have b2 := gaps_in hmx
      have kn := kn.swap
      refine ⟨_, _, _, _, _, rfl, kn, b0, by omega, fun t f o H2 hl kn2 => ?_⟩
      have kn := kn2.swap
      refine r_lcG (gs := fO t (.tup [.int f, vO o]) :: gs) kn (fun _ h => h) ?_ ⟨es ++ [(t, f, o)], by rw [List.map_append]; rfl, by rw [List.length_append, hes]; rfl, fun e he => ?_⟩
      · rw [List.length_map, hes]
        exact small_lt (m := 3) (by omega) (by decide)
      · rcases List.mem_append.mp he with he | he
        · exact ⟨(hg e he).1, List.mem_cons_of_mem _ (hg e he).2⟩
        · rw [List.mem_singleton.mp he]
          exact ⟨hl, List.mem_cons_self⟩
    · clear kn
      rintro D acc gs H' ⟨es, rfl, hes, hg⟩ kn
      have kn := kn.frzL
      walk_at "s"
      obtain ⟨⟨a1, f1, o1⟩, ⟨a2, f2, o2⟩, ⟨a3, f3, o3⟩, rfl⟩ : ∃ x y z, es = [x, y, z] := match es, hes with | [x, y, z], _ => ⟨x, y, z, rfl⟩
      refine s_cat kn (by walk_at "mem") (by walk_at "mem") (sl rfl) fun ol kn2 => ?_
      clear kn
      have kn := kn2
      clear kn2
      have l1 := (hg _ (List.mem_cons_self)).1
      have l2 := (hg _ (List.mem_cons_of_mem _ List.mem_cons_self)).1
      have l3 := (hg _ (List.mem_cons_of_mem _ (List.mem_cons_of_mem _ List.mem_cons_self))).1
      have q1 := (hg _ (List.mem_cons_self)).2
      have q2 := (hg _ (List.mem_cons_of_mem _ List.mem_cons_self)).2
      have q3 := (hg _ (List.mem_cons_of_mem _ (List.mem_cons_of_mem _ List.mem_cons_self))).2
      obtain ⟨FS3, ⟨mo, m1, m2, m3, hs3⟩, kn⟩ := Kn.box (P := fun FS3 => fO ol (.lst [.ref a1, .ref a2, .ref a3, .ref a1]) ∈ FS3 ∧ fO a1 (.tup [.int f1, vO o1]) ∈ FS3 ∧ fO a2 (.tup [.int f2, vO o2]) ∈ FS3 ∧ fO a3 (.tup [.int f3, vO o3]) ∈ FS3 ∧ ∀ f, f ∈ FS2 → f ∈ FS3) kn ⟨List.mem_cons_self, List.mem_cons_of_mem _ (List.mem_cons_of_mem _ (List.mem_cons_of_mem _ (List.mem_append_left _ q1))), List.mem_cons_of_mem _ (List.mem_cons_of_mem _ (List.mem_cons_of_mem _ (List.mem_append_left _ q2))), List.mem_cons_of_mem _ (List.mem_cons_of_mem _ (List.mem_cons_of_mem _ (List.mem_append_left _ q3))), fun f hf => List.mem_cons_of_mem _ (List.mem_cons_of_mem _ (List.mem_cons_of_mem _ (List.mem_append_right _ hf)))⟩
      have mt1 := hs3 _ mt1
      have mt2 := hs3 _ mt2
      have mpr := hs3 _ mpr
      have ms1 := hs3 _ ms1
      have ms2 := hs3 _ ms2
      have hall : ∀ v, v ∈ [V.ref a1, V.ref a2, V.ref a3, V.ref a1] → ∃ (a : Addr) (f : Int) (o : Option Int), v = .ref a ∧ LimOk f o ∧ fO a (.tup [.int f, vO o]) ∈ FS3 := by
        intro v hv
        simp only [List.mem_cons, List.not_mem_nil, or_false] at hv
        rcases hv with rfl | rfl | rfl | rfl
        · exact ⟨_, _, _, rfl, l1, m1⟩
        · exact ⟨_, _, _, rfl, l2, m2⟩
        · exact ⟨_, _, _, rfl, l3, m3⟩
        · exact ⟨_, _, _, rfl, l1, m1⟩
      have mG := hs3 _ mG
      refine r_forLP kn (xs := [V.ref a1, V.ref a2, V.ref a3, V.ref a1]) (kn.sql mo) (fun i σ' H' => ∃ (v3 v8 v9 v10 v11 : Option V), σ' = [some (.ref p), some (.ref e0), some (.ref G), v3, some (.ref pr), some (.ref D), some (.ref t1), some (.ref t2), v8, v9, v10, v11] ∧ Kn ((p, Pur) :: M) FS3 H') ⟨_, _, _, _, _, rfl, kn⟩ (fun i σ' H' _ ⟨_, _, _, _, _, _, kn⟩ => kn.sql mo) ?_ ?_
      · clear kn
        rintro i v σ' H' hi ⟨v3, v8, v9, v10, v11, rfl, kn⟩
        obtain ⟨a, f, o, rfl, hl, hm⟩ := hall v (List.mem_of_getElem? hi)
        walk_at "s"
        refine' ⟨_, _, _, _, _, o, rfl, kn, ?m, Nat.le_trans hlen.2 (by decide), fun H2 kn2 => ?_⟩
        case m => walk_at "mem"
        rw [gapsW r2 r2' hl]
        clear kn
        have kn := kn2
        clear kn2
        walk_at "s"
        refine' ⟨_, _, _, _, _, _, _, _, _, _, _, _, _, _, o, rfl, kn, ?mt, ?ma, ?mb, ?m2, ?m3, r2, r2', hl, fun H2 kn2 => ?_⟩
        case mt => walk_at "mem"
        case ma => walk_at "mem"
        case mb => walk_at "mem"
        case m2 => walk_at "mem"
        case m3 => walk_at "mem"
        clear kn
        have kn := kn2
        clear kn2
        walk_at "s"
        exact ⟨_, _, _, _, _, rfl, kn⟩
      · clear kn
        rintro σ' H' ⟨v3, v8, v9, v10, v11, rfl, kn⟩
        have hl : LimOk 0 none := fun _ e => nomatch e
        walk_at "s"
        refine' ⟨_, _, _, _, _, none, rfl, kn, ?m, Nat.le_trans hlen.2 (by decide), fun H2 kn2 => ?_⟩
        case m => walk_at "mem"
        rw [gapsW r2 r2' hl]
        clear kn
        have kn := kn2
        clear kn2
        walk_at "s"
        refine' ⟨_, _, _, _, _, _, _, _, _, _, _, _, _, _, none, rfl, kn, ?mt, ?ma, ?mb, ?m2, ?m3, r2, r2', hl, fun H2 kn2 => ?_⟩
        case mt => walk_at "mem"
        case ma => walk_at "mem"
        case mb => walk_at "mem"
        case m2 => walk_at "mem"
        case m3 => walk_at "mem"
        clear kn
        have kn := kn2
        clear kn2
        exact k _ (kn.sub fun f hf => hs3 _ (hs2 _ (hs _ hf)))
theorem sc__law_great_right : FnScope ["_law_purse_here", "_law_low", "_law_high", "_law_pair", "_law_limits", "_law_outer", "_law_inner", "_law_floor", "_law_roof", "_law_word_here", "_law_turn"] ["_law_purse_here"] (defScope s__law_great_right) := ⟨rfl, rfl, rfl, by decide +kernel, rfl, by decide +kernel, by decide +kernel⟩
theorem st__law_great_right (v0 : V) : L2.start ["_law_purse_here", "_law_low", "_law_high", "_law_pair", "_law_limits", "_law_outer", "_law_inner", "_law_floor", "_law_roof", "_law_word_here", "_law_turn"] [v0] = [some v0, none, none, none, none, none, none, none, none, none, none] := rfl
theorem ok__law_great_right (T : Tx K mg) : DOk P w K mg base d__law_great_right CX0 6 ["_law_purse_here"] spPR := by
  have o__law_small : DOk P w K mg base d__law_small CX0 3 ["_law_purse_here", "_law_wide"] spParts := ok__law_small T
  have o__law_take : DOk P w K mg base d__law_take CX0 1 ["_law_purse_here", "_law_many"] spTake := ok__law_take T
  have o__law_ends : DOk P w K mg base d__law_ends CX0 1 ["_law_parts"] spEnds := ok__law_ends T
  have o__law_span : DOk P w K mg base d__law_span CX0 5 ["_law_parts"] (spSpanP (He.ga K "Span")) := ok__law_span T
  have o__law_bounds : DOk P w K mg base d__law_bounds CX0 2 ["_law_purse_here", "_law_low", "_law_high"] spBounds := ok__law_bounds T
  have o__law_asked : DOk P w K mg base d__law_asked CX0 4 ["_law_pair", "_law_outer", "_law_inner", "_law_floor", "_law_roof", "_law_word_here"] (spAsked (He.ga K "Span") (He.ga K "Fit")) := ok__law_asked T
  obtain ⟨fd, F⟩ := T.df__law_great_right
  refine ⟨fd, F, F.ok sc__law_great_right (fun vs H Q E h => ?_) (fun cdv A outer s H vs Q E hr h => ⟨_, PSs.nox (pss_cons (ps_par (i := 5) (j := 6) (by rfl) sc__law_great_right.nd rfl rfl (by decide) rfl rfl (pa_cons (pc o__law_small T.g__law_small b__law_small hr (by decide) (pa_cons (pv 0) (pa_cons pe_int pa_nil))) (pa_cons (pc o__law_small T.g__law_small b__law_small hr (by decide) (pa_cons (pv 0) (pa_cons pe_int pa_nil))) pa_nil)) (by rfl))
      (pss_cut (ps_if (PW.pt (pw_or (pt_cmpR op_gt (pe_callB (c_max rfl) (by rfl) T.f_max (by decide +kernel) (pa_cons (pe_callB (call_abs) (by rfl) T.f_abs (by decide +kernel) (pa_cons (pe_ix ix_tup (pv 5) pe_int (fun _ _ => rfl)) pa_nil)) (pa_cons (pe_callB (call_abs) (by rfl) T.f_abs (by decide +kernel) (pa_cons (pe_ix ix_tup (pv 6) pe_int (fun _ _ => rfl)) pa_nil)) pa_nil))) pe_int (nomark _)) (pw_or1 (pt_cmpR op_gt (pc o__law_take T.g__law_take b__law_take hr (by decide) (pa_cons (pv 0) (pa_cons pe_int pa_nil))) pe_int (nomark _))))) (pss_one (ps_set (i := 6) sc__law_great_right.nd rfl (Or.inl rfl) (pe_tup (pa_cons (pe_op op_sub (pe_ix ix_tup (pv 5) pe_int (fun _ _ => rfl)) (pc o__law_take T.g__law_take b__law_take hr (by decide) (pa_cons (pv 0) (pa_cons pe_int pa_nil)))) (pa_cons (pe_ix ix_tup (pv 6) pe_int (fun _ _ => rfl)) (pa_cons (pe_ix ix_tup (pv 6) pe_int (fun _ _ => rfl)) pa_nil)))))) pss_nil)
      (pss_cons (ps_set (i := 1) sc__law_great_right.nd rfl (Or.inr rfl) (pe_op op_sub (pe_ix ix_tup (pc o__law_ends T.g__law_ends b__law_ends hr (by decide) (pa_cons (pv 5) pa_nil)) pe_int (fun _ _ => rfl)) (pe_ix ix_tup (pc o__law_ends T.g__law_ends b__law_ends hr (by decide) (pa_cons (pv 6) pa_nil)) pe_int (fun _ _ => rfl))))
      (pss_cons (ps_set (i := 2) sc__law_great_right.nd rfl (Or.inr rfl) (pe_op op_sub (pe_ix ix_tup (pc o__law_ends T.g__law_ends b__law_ends hr (by decide) (pa_cons (pv 5) pa_nil)) pe_int (fun _ _ => rfl)) (pe_ix ix_tup (pc o__law_ends T.g__law_ends b__law_ends hr (by decide) (pa_cons (pv 6) pa_nil)) pe_int (fun _ _ => rfl))))
      (pss_cons (ps_set (i := 3) sc__law_great_right.nd rfl (Or.inl rfl) (pe_tup (pa_cons (pc o__law_span T.g__law_span b__law_span hr (by decide) (pa_cons (pv 5) pa_nil)) (pa_cons (pc o__law_span T.g__law_span b__law_span hr (by decide) (pa_cons (pv 6) pa_nil)) pa_nil))))
      (pss_cons (ps_setLc (i := 4) (own := [("_law_turn", 10)]) (g := gName 10) (tt := tYes) rfl sc__law_great_right.nd rfl rfl (sw_true rfl rfl rfl (by decide +kernel)) (pi_range1 (by rfl) T.f_range (pa_cons pe_int pa_nil)) (blkOk_by (N := ["_law_purse_here", "_law_low", "_law_high", "_law_pair", "_law_limits", "_law_outer", "_law_inner", "_law_floor", "_law_roof", "_law_word_here", "_law_turn"]) (sc := defScope s__law_great_right) (own := [("_law_turn", 10)]) (by decide +kernel)) (fun _ _ _ _ _ => (pg_name (i := 10) sc__law_great_right.nd rfl (Or.inl rfl))) (fun _ _ _ _ _ => pts_nil) (fun _ _ _ _ _ => (pc o__law_bounds T.g__law_bounds b__law_bounds hr (by decide) (pa_cons (pv 0) (pa_cons (pv 1) (pa_cons (pv 2) pa_nil))))))
      (pss_cons (ps_for PassesOwn.never rfl (pi_list (pe_op op_cat (pv 4) (pe_slice sl_list (pv 4) po_none (po_some pe_int)))) (pg_tup rfl (pgs_cons (pg_name (i := 7) sc__law_great_right.nd rfl (Or.inl rfl)) (pgs_cons (pg_name (i := 8) sc__law_great_right.nd rfl (Or.inl rfl)) pgs_nil)))
      (pss_cons (ps_set (i := 9) sc__law_great_right.nd rfl (Or.inl rfl) pe_str)
      (pss_cons (ps_if (PW.pt (pw_and (pt_cmpR op_le (pv 7) (pv 1) (nomark _)) (pw_and1 (PW.pt (pw_or (pt_cmpR op_isN (pv 8) pe_non (nomark _)) (pw_or1 (pt_cmpR op_le (pv 2) (pv 8) (nomark _)))))))) (pss_one (ps_set (i := 9) sc__law_great_right.nd rfl (Or.inl rfl) pe_str)) (pss_one (ps_if (PW.pt (pw_or (pt_cmpR op_lt (pv 2) (pv 7) (nomark _)) (pw_or1 (PW.pt (pw_and (pt_cmpR op_notN (pv 8) pe_non (nomark _)) (pw_and1 (pt_cmpR op_lt (pv 8) (pv 1) (nomark _)))))))) (pss_one (ps_set (i := 9) sc__law_great_right.nd rfl (Or.inl rfl) pe_str)) pss_nil)))
      (pss_one (ps_if (pt_not (pt_val (pc o__law_asked T.g__law_asked b__law_asked hr (by decide) (pa_cons (pv 3) (pa_cons (pv 5) (pa_cons (pv 6) (pa_cons (pv 7) (pa_cons (pv 8) (pa_cons (pv 9) pa_nil))))))))) (pss_one (ps_ret pe_bl)) pss_nil)))))
      (pss_one (ps_ret pe_bl))))))))), ?_⟩)⟩
  · obtain ⟨_, _, p, rfl, _⟩ := h; rfl
  · obtain ⟨M, fs, p, rfl, kn, k⟩ := h
    rw [st__law_great_right]
    walk_at "t"
    refine ⟨_, _, _, _, rfl, kn, by omega, by omega, fun t1 s u l H2 r1 r2 r3 r4 kn2 => ?_⟩
    clear kn
    have kn := kn2
    clear kn2
    walk_at "t"
    refine ⟨_, _, _, _, rfl, kn, by omega, by omega, fun t2 s' u' l' H2 r1' r2' r3' r4' kn2 => ?_⟩
    clear kn
    have kn := kn2
    clear kn2
    walk_at "t"
    refine s_cut (fun σ' H' => ∃ (t2 : Addr) (s' u' l' : Int), σ' = [some (.ref p), none, none, none, none, some (.ref t1), some (.ref t2), none, none, none, none] ∧ 0 ≤ u' + l' ∧ u' + l' ≤ 904 ∧ Kn ((p, Pur) :: M) (fO t2 (.tup [.int s', .int u', .int l']) :: fO t1 (.tup [.int s, .int u, .int l]) :: fs) H') ?_ ?_
    · walk_at "s"
      refine br (fun _ => ?_) (fun _ => ?_)
      · walk_at "s"
        walk_at "take"
        walk_at "s"
        exact ⟨_, _, _, _, rfl, r2', by omega, kn.hd (by walk_at "keep")⟩
      · walk_at "s"
        walk_at "take"
        walk_at "s"
        refine br (fun _ => ?_) (fun _ => ?_)
        · walk_at "s"
          walk_at "take"
          walk_at "s"
          exact ⟨_, _, _, _, rfl, r2', by omega, kn.hd (by walk_at "keep")⟩
        · walk_at "s"
          exact ⟨_, _, _, _, rfl, r2', by omega, kn⟩
    clear kn r1' r2' r3' r4'
    rintro σ' H' ⟨t2, s', u', l', rfl, r2', r3', kn⟩
    walk_at "s"
    walk_at "ends"
    walk_at "s"
    walk_at "ends"
    walk_at "s"
    walk_at "ends"
    walk_at "s"
    walk_at "ends"
    walk_at "s"
    walk_at "t"
    refine' ⟨_, _, _, _, _, _, rfl, kn, ?m, r2, fun x1 H2 kn2 => ?_⟩
    case m => walk_at "mem"
    clear kn
    have kn := kn2
    clear kn2
    walk_at "t"
    refine' ⟨_, _, _, _, _, _, rfl, kn, ?m, r2', fun x2 H2 kn2 => ?_⟩
    case m => walk_at "mem"
    clear kn
    have kn := kn2
    clear kn2
    walk_at "t"
    rename Addr => pr
    obtain ⟨FS2, ⟨mt1, mt2, mpr, ms1, ms2, hs2⟩, kn⟩ := Kn.box (P := fun FS2 => fO t1 (.tup [.int s, .int u, .int l]) ∈ FS2 ∧ fO t2 (.tup [.int s', .int u', .int l']) ∈ FS2 ∧ fO pr (.tup [.ref x1, .ref x2]) ∈ FS2 ∧ fS (He.ga K "Span") x1 s u l ∈ FS2 ∧ fS (He.ga K "Span") x2 s' u' l' ∈ FS2 ∧ ∀ f, f ∈ fs → f ∈ FS2) kn ⟨by walk_at "mem", by walk_at "mem", by walk_at "mem", by walk_at "mem", by walk_at "mem", fun f hf => by walk_at "keep1"⟩
    refine ⟨by decide, by decide, ?_⟩
    refine r_lcRG kn (fun i acc gs => ∃ es : List (Addr × Int × Option Int), acc = es.map (fun e => V.ref e.1) ∧ es.length = i ∧ ∀ e, e ∈ es → LimOk e.2.1 e.2.2 ∧ fO e.1 (.tup [.int e.2.1, vO e.2.2]) ∈ gs) ⟨[], rfl, rfl, fun _ h => nomatch h⟩ ?_ ?_
    · clear kn
      rintro i D acc gs H' hi ⟨es, rfl, hes, hg⟩ kn
      walk_at "s"
      refine s_wipe rfl ?_
      walk_at "s"
      have kn := kn.swap
      refine ⟨_, _, _, _, _, rfl, kn, by omega, by omega, fun t f o H2 hl kn2 => ?_⟩
      have kn := kn2.swap
      refine r_lcG (gs := fO t (.tup [.int f, vO o]) :: gs) kn (fun _ h => h) ?_ ⟨es ++ [(t, f, o)], by rw [List.map_append]; rfl, by rw [List.length_append, hes]; rfl, fun e he => ?_⟩
      · rw [List.length_map, hes]
        exact small_lt (m := 3) (by omega) (by decide)
      · rcases List.mem_append.mp he with he | he
        · exact ⟨(hg e he).1, List.mem_cons_of_mem _ (hg e he).2⟩
        · rw [List.mem_singleton.mp he]
          exact ⟨hl, List.mem_cons_self⟩
    · clear kn
      rintro D acc gs H' ⟨es, rfl, hes, hg⟩ kn
      have kn := kn.frzL
      walk_at "s"
      obtain ⟨⟨a1, f1, o1⟩, ⟨a2, f2, o2⟩, ⟨a3, f3, o3⟩, rfl⟩ : ∃ x y z, es = [x, y, z] := match es, hes with | [x, y, z], _ => ⟨x, y, z, rfl⟩
      refine s_cat kn (by walk_at "mem") (by walk_at "mem") (sl rfl) fun ol kn2 => ?_
      clear kn
      have kn := kn2
      clear kn2
      have l1 := (hg _ (List.mem_cons_self)).1
      have l2 := (hg _ (List.mem_cons_of_mem _ List.mem_cons_self)).1
      have l3 := (hg _ (List.mem_cons_of_mem _ (List.mem_cons_of_mem _ List.mem_cons_self))).1
      have q1 := (hg _ (List.mem_cons_self)).2
      have q2 := (hg _ (List.mem_cons_of_mem _ List.mem_cons_self)).2
      have q3 := (hg _ (List.mem_cons_of_mem _ (List.mem_cons_of_mem _ List.mem_cons_self))).2
      obtain ⟨FS3, ⟨mo, m1, m2, m3, hs3⟩, kn⟩ := Kn.box (P := fun FS3 => fO ol (.lst [.ref a1, .ref a2, .ref a3, .ref a1]) ∈ FS3 ∧ fO a1 (.tup [.int f1, vO o1]) ∈ FS3 ∧ fO a2 (.tup [.int f2, vO o2]) ∈ FS3 ∧ fO a3 (.tup [.int f3, vO o3]) ∈ FS3 ∧ ∀ f, f ∈ FS2 → f ∈ FS3) kn ⟨List.mem_cons_self, List.mem_cons_of_mem _ (List.mem_cons_of_mem _ (List.mem_cons_of_mem _ (List.mem_append_left _ q1))), List.mem_cons_of_mem _ (List.mem_cons_of_mem _ (List.mem_cons_of_mem _ (List.mem_append_left _ q2))), List.mem_cons_of_mem _ (List.mem_cons_of_mem _ (List.mem_cons_of_mem _ (List.mem_append_left _ q3))), fun f hf => List.mem_cons_of_mem _ (List.mem_cons_of_mem _ (List.mem_cons_of_mem _ (List.mem_append_right _ hf)))⟩
      have mt1 := hs3 _ mt1
      have mt2 := hs3 _ mt2
      have mpr := hs3 _ mpr
      have ms1 := hs3 _ ms1
      have ms2 := hs3 _ ms2
      have hall : ∀ v, v ∈ [V.ref a1, V.ref a2, V.ref a3, V.ref a1] → ∃ (a : Addr) (f : Int) (o : Option Int), v = .ref a ∧ LimOk f o ∧ fO a (.tup [.int f, vO o]) ∈ FS3 := by
        intro v hv
        simp only [List.mem_cons, List.not_mem_nil, or_false] at hv
        rcases hv with rfl | rfl | rfl | rfl
        · exact ⟨_, _, _, rfl, l1, m1⟩
        · exact ⟨_, _, _, rfl, l2, m2⟩
        · exact ⟨_, _, _, rfl, l3, m3⟩
        · exact ⟨_, _, _, rfl, l1, m1⟩
      refine r_forLP kn (xs := [V.ref a1, V.ref a2, V.ref a3, V.ref a1]) (kn.sql mo) (fun i σ' H' => ∃ (v7 v8 v9 v10 : Option V), σ' = [some (.ref p), some (.int (s - l - (s' + u'))), some (.int (s + u - (s' - l'))), some (.ref pr), some (.ref D), some (.ref t1), some (.ref t2), v7, v8, v9, v10] ∧ Kn ((p, Pur) :: M) FS3 H') ⟨_, _, _, _, rfl, kn⟩ (fun i σ' H' _ ⟨_, _, _, _, _, kn⟩ => kn.sql mo) ?_ ?_
      · clear kn
        rintro i v σ' H' hi ⟨v7, v8, v9, v10, rfl, kn⟩
        obtain ⟨a, f, o, rfl, hl, hm⟩ := hall v (List.mem_of_getElem? hi)
        cases o with
        | none =>
          walk_at "s"
          refine br (fun c1 => ?_) (fun c1 => ?_)
          · walk_at "s"
            refine br (fun _ => ?_) (fun h => absurd rfl h)
            have hw : wordOf (s - l - (s' + u')) (s + u - (s' - l')) f none = "sure" := word_sure (by simp [sureB]; omega)
            walk_at "s"
            rw [← hw]
            refine' ⟨_, _, _, _, _, _, _, _, _, _, _, _, _, _, none, rfl, kn, ?mt, ?ma, ?mb, ?m2, ?m3, r2, r2', hl, fun H2 kn2 => ?_⟩
            case mt => walk_at "mem"
            case ma => walk_at "mem"
            case mb => walk_at "mem"
            case m2 => walk_at "mem"
            case m3 => walk_at "mem"
            clear kn
            have kn := kn2
            clear kn2
            walk_at "s"
            exact ⟨_, _, _, _, rfl, kn⟩
          · walk_at "s"
            refine br (fun c2 => ?_) (fun c2 => ?_)
            · have hw : wordOf (s - l - (s' + u')) (s + u - (s' - l')) f none = "never" := word_never (by simp [sureB]; omega) (by simp [neverB]; omega)
              walk_at "s"
              rw [← hw]
              refine' ⟨_, _, _, _, _, _, _, _, _, _, _, _, _, _, none, rfl, kn, ?mt, ?ma, ?mb, ?m2, ?m3, r2, r2', hl, fun H2 kn2 => ?_⟩
              case mt => walk_at "mem"
              case ma => walk_at "mem"
              case mb => walk_at "mem"
              case m2 => walk_at "mem"
              case m3 => walk_at "mem"
              clear kn
              have kn := kn2
              clear kn2
              walk_at "s"
              exact ⟨_, _, _, _, rfl, kn⟩
            · walk_at "s"
              refine brn (fun h => absurd rfl h) (fun _ => ?_)
              have hw : wordOf (s - l - (s' + u')) (s + u - (s' - l')) f none = "may" := word_may (by simp [sureB]; omega) (by simp [neverB]; omega)
              walk_at "s"
              rw [← hw]
              refine' ⟨_, _, _, _, _, _, _, _, _, _, _, _, _, _, none, rfl, kn, ?mt, ?ma, ?mb, ?m2, ?m3, r2, r2', hl, fun H2 kn2 => ?_⟩
              case mt => walk_at "mem"
              case ma => walk_at "mem"
              case mb => walk_at "mem"
              case m2 => walk_at "mem"
              case m3 => walk_at "mem"
              clear kn
              have kn := kn2
              clear kn2
              walk_at "s"
              exact ⟨_, _, _, _, rfl, kn⟩
        | some r =>
          have hr := hl r rfl
          walk_at "s"
          refine br (fun c1 => ?_) (fun c1 => ?_)
          · walk_at "s"
            refine br (fun h => nomatch h) (fun _ => ?_)
            walk_at "s"
            refine br (fun c2 => ?_) (fun c2 => ?_)
            · have hw : wordOf (s - l - (s' + u')) (s + u - (s' - l')) f (some r) = "sure" := word_sure (by simp [sureB]; omega)
              walk_at "s"
              rw [← hw]
              refine' ⟨_, _, _, _, _, _, _, _, _, _, _, _, _, _, (some r), rfl, kn, ?mt, ?ma, ?mb, ?m2, ?m3, r2, r2', hl, fun H2 kn2 => ?_⟩
              case mt => walk_at "mem"
              case ma => walk_at "mem"
              case mb => walk_at "mem"
              case m2 => walk_at "mem"
              case m3 => walk_at "mem"
              clear kn
              have kn := kn2
              clear kn2
              walk_at "s"
              exact ⟨_, _, _, _, rfl, kn⟩
            · walk_at "s"
              refine br (fun c3 => ?_) (fun c3 => ?_)
              · have hw : wordOf (s - l - (s' + u')) (s + u - (s' - l')) f (some r) = "never" := word_never (by simp [sureB]; omega) (by simp [neverB]; omega)
                walk_at "s"
                rw [← hw]
                refine' ⟨_, _, _, _, _, _, _, _, _, _, _, _, _, _, (some r), rfl, kn, ?mt, ?ma, ?mb, ?m2, ?m3, r2, r2', hl, fun H2 kn2 => ?_⟩
                case mt => walk_at "mem"
                case ma => walk_at "mem"
                case mb => walk_at "mem"
                case m2 => walk_at "mem"
                case m3 => walk_at "mem"
                clear kn
                have kn := kn2
                clear kn2
                walk_at "s"
                exact ⟨_, _, _, _, rfl, kn⟩
              · walk_at "s"
                refine brn (fun _ => ?_) (fun h => nomatch h)
                walk_at "s"
                refine br (fun c4 => ?_) (fun c4 => ?_)
                · have hw : wordOf (s - l - (s' + u')) (s + u - (s' - l')) f (some r) = "never" := word_never (by simp [sureB]; omega) (by simp [neverB]; omega)
                  walk_at "s"
                  rw [← hw]
                  refine' ⟨_, _, _, _, _, _, _, _, _, _, _, _, _, _, (some r), rfl, kn, ?mt, ?ma, ?mb, ?m2, ?m3, r2, r2', hl, fun H2 kn2 => ?_⟩
                  case mt => walk_at "mem"
                  case ma => walk_at "mem"
                  case mb => walk_at "mem"
                  case m2 => walk_at "mem"
                  case m3 => walk_at "mem"
                  clear kn
                  have kn := kn2
                  clear kn2
                  walk_at "s"
                  exact ⟨_, _, _, _, rfl, kn⟩
                · have hw : wordOf (s - l - (s' + u')) (s + u - (s' - l')) f (some r) = "may" := word_may (by simp [sureB]; omega) (by simp [neverB]; omega)
                  walk_at "s"
                  rw [← hw]
                  refine' ⟨_, _, _, _, _, _, _, _, _, _, _, _, _, _, (some r), rfl, kn, ?mt, ?ma, ?mb, ?m2, ?m3, r2, r2', hl, fun H2 kn2 => ?_⟩
                  case mt => walk_at "mem"
                  case ma => walk_at "mem"
                  case mb => walk_at "mem"
                  case m2 => walk_at "mem"
                  case m3 => walk_at "mem"
                  clear kn
                  have kn := kn2
                  clear kn2
                  walk_at "s"
                  exact ⟨_, _, _, _, rfl, kn⟩
          · walk_at "s"
            refine br (fun c3 => ?_) (fun c3 => ?_)
            · have hw : wordOf (s - l - (s' + u')) (s + u - (s' - l')) f (some r) = "never" := word_never (by simp [sureB]; omega) (by simp [neverB]; omega)
              walk_at "s"
              rw [← hw]
              refine' ⟨_, _, _, _, _, _, _, _, _, _, _, _, _, _, (some r), rfl, kn, ?mt, ?ma, ?mb, ?m2, ?m3, r2, r2', hl, fun H2 kn2 => ?_⟩
              case mt => walk_at "mem"
              case ma => walk_at "mem"
              case mb => walk_at "mem"
              case m2 => walk_at "mem"
              case m3 => walk_at "mem"
              clear kn
              have kn := kn2
              clear kn2
              walk_at "s"
              exact ⟨_, _, _, _, rfl, kn⟩
            · walk_at "s"
              refine brn (fun _ => ?_) (fun h => nomatch h)
              walk_at "s"
              refine br (fun c4 => ?_) (fun c4 => ?_)
              · have hw : wordOf (s - l - (s' + u')) (s + u - (s' - l')) f (some r) = "never" := word_never (by simp [sureB]; omega) (by simp [neverB]; omega)
                walk_at "s"
                rw [← hw]
                refine' ⟨_, _, _, _, _, _, _, _, _, _, _, _, _, _, (some r), rfl, kn, ?mt, ?ma, ?mb, ?m2, ?m3, r2, r2', hl, fun H2 kn2 => ?_⟩
                case mt => walk_at "mem"
                case ma => walk_at "mem"
                case mb => walk_at "mem"
                case m2 => walk_at "mem"
                case m3 => walk_at "mem"
                clear kn
                have kn := kn2
                clear kn2
                walk_at "s"
                exact ⟨_, _, _, _, rfl, kn⟩
              · have hw : wordOf (s - l - (s' + u')) (s + u - (s' - l')) f (some r) = "may" := word_may (by simp [sureB]; omega) (by simp [neverB]; omega)
                walk_at "s"
                rw [← hw]
                refine' ⟨_, _, _, _, _, _, _, _, _, _, _, _, _, _, (some r), rfl, kn, ?mt, ?ma, ?mb, ?m2, ?m3, r2, r2', hl, fun H2 kn2 => ?_⟩
                case mt => walk_at "mem"
                case ma => walk_at "mem"
                case mb => walk_at "mem"
                case m2 => walk_at "mem"
                case m3 => walk_at "mem"
                clear kn
                have kn := kn2
                clear kn2
                walk_at "s"
                exact ⟨_, _, _, _, rfl, kn⟩
      · clear kn
        rintro σ' H' ⟨v7, v8, v9, v10, rfl, kn⟩
        walk_at "s"
        exact k _ (kn.sub fun f hf => hs3 _ (hs2 _ hf))
theorem sc_law : FnScope ["_law_script", "_law_k", "_law_purse_here"] ["_law_script"] (defScope s_law) := ⟨rfl, rfl, rfl, by decide +kernel, rfl, by decide +kernel, by decide +kernel⟩
theorem st_law (v0 : V) : L2.start ["_law_script", "_law_k", "_law_purse_here"] [v0] = [some v0, none, none] := rfl
theorem ok_law (T : Tx K mg) : DOk P w K mg base d_law CX0 7 ["_law_script"] (spLaw K) := by
  have o__law_cell : DOk P w K mg base d__law_cell CX0 1 ["_law_script", "_law_k"] (spCell K) := ok__law_cell T
  have o__law_purse : DOk P w K mg base d__law_purse CX0 1 ["_law_cell_here"] spPurse := ok__law_purse T
  have o__law_few_right : DOk P w K mg base d__law_few_right CX0 6 ["_law_purse_here"] spPR := ok__law_few_right T
  have o__law_great_right : DOk P w K mg base d__law_great_right CX0 6 ["_law_purse_here"] spPR := ok__law_great_right T
  obtain ⟨fd, F⟩ := T.df_law
  refine ⟨fd, F, F.ok sc_law (fun vs H Q E h => ?_) (fun cdv A outer s H vs Q E hr h => ⟨_, PSs.nox (pss_cons (ps_for PassesOwn.never rfl (pi_range1 (by rfl) T.f_range (pa_cons (pe_callB (c_max rfl) (by rfl) T.f_max (by decide +kernel) (pa_cons pe_int (pa_cons (pe_callB (c_min rfl) (by rfl) T.f_min (by decide +kernel) (pa_cons (pe_callB (call_len_seq) (by rfl) T.f_len (by decide +kernel) (pa_cons (pv 0) pa_nil)) (pa_cons pe_int pa_nil))) pa_nil))) pa_nil)) (pg_name (i := 1) sc_law.nd rfl (Or.inl rfl))
      (pss_cons (ps_set (i := 2) sc_law.nd rfl (Or.inl rfl) (pc o__law_purse T.g__law_purse b__law_purse hr (by decide) (pa_cons (pc o__law_cell T.g__law_cell b__law_cell hr (by decide) (pa_cons (pv 0) (pa_cons (pv 1) pa_nil))) pa_nil)))
      (pss_one (ps_if (PW.pt (pw_or (pt_not (pt_val (pc o__law_few_right T.g__law_few_right b__law_few_right hr (by decide) (pa_cons (pv 2) pa_nil)))) (pw_or1 (pt_not (pt_val (pc o__law_great_right T.g__law_great_right b__law_great_right hr (by decide) (pa_cons (pv 2) pa_nil))))))) (pss_one (ps_ret pe_bl)) pss_nil))))
      (pss_one (ps_ret pe_bl))), ?_⟩)⟩
  · obtain ⟨a, ns, rfl, _⟩ := h; rfl
  · obtain ⟨a, ns, rfl, hS, hlen, k⟩ := h
    rw [st_law]
    have kn := Kn.init hS
    walk_at "s"
    refine ⟨by omega, by omega, ?_⟩
    refine r_forR (fun i σ' H' => ∃ (v1 v2 : Option V), σ' = [some (.ref a), v1, v2] ∧ Kn [] [fL K a (ns.map V.int)] H') ⟨_, _, rfl, kn⟩ ?_ ?_
    · clear kn
      rintro i σ' H' hi ⟨v1, v2, rfl, kn⟩
      walk_at "s"
      refine ⟨_, _, _, ns, _, rfl, kn, List.mem_cons_self, hlen, by omega, by omega, fun z H2 kn2 => ?_⟩
      walk_at "s"
      refine ⟨_, _, _, rfl, kn2, fun p H3 kn3 => ?_⟩
      walk_at "s"
      refine ⟨_, _, _, rfl, kn3, fun H4 kn4 => ?_⟩
      walk_at "s"
      refine ⟨_, _, _, rfl, kn4, fun H5 kn5 => ?_⟩
      walk_at "s"
      exact ⟨_, _, rfl, kn5.drop⟩
    · clear kn
      rintro σ' H' ⟨v1, v2, rfl, kn⟩
      walk_at "s"
      exact k _
end
end Gx
namespace Gx
open PySem PySem.Spec PyProof.Rows L2
theorem funD_uniq {K : PySem.W.Frag} {x qual : Str} {params : Arguments} {body : List Stmt} {scope : Scope} {dvs : List V} {kws : List (Str × V)} {f : Addr} {fd fd' : FuncData} (F : FunD K x qual params body scope dvs kws f fd) (F' : FunD K x qual params body scope dvs kws f fd') : fd = fd' := by
  obtain ⟨oc, od, dV, kV, doc, pm, an, cdv, ct, osl, _, lk, _⟩ := F.ex
  obtain ⟨oc', od', dV', kV', doc', pm', an', cdv', ct', osl', _, lk', _⟩ := F'.ex
  rw [lk] at lk'
  have e := Option.some.inj lk'
  injection e with e1 e2 e3 e4
  injection e3
end Gx
open PySem PySem.W PySem.Calls PyProof.Rows
set_option maxRecDepth 100000 in
set_option maxHeartbeats 0 in
theorem PySem.Challenge.cw_fitwords_k16_how_pegs_go_holds : PySem.Challenge.rw_fitwords_k16_how_pegs_go.Holds := by
  w_on; o_law
  refine HandSHeadRun.head_any (r := OpenLaw.row PySem.Challenge.rw_fitwords_k16_how_pegs_go) (q := view (OpenLaw.row PySem.Challenge.rw_fitwords_k16_how_pegs_go).prog [57]) (H := Hd.hk) (ob := Hd.ob) (M := 20000) (loose := Hd.loose) (d := HandSHeadRun.topDef (OpenLaw.row PySem.Challenge.rw_fitwords_k16_how_pegs_go).prog 57) (kwd := []) Hd.ob_eq
    (by kernel_rfl) (fun s => by kernel_rfl) Hd.run (by kernel_rfl) (by kernel_rfl) (by kernel_rfl) (by rfl) (by first | assumption | decide +kernel) (by decide +kernel) ⟨rfl, rfl, rfl, rfl, rfl, by decide +kernel⟩ ?hw ?hc
  case hw => w_witness2
  case hc =>
    refine L2.walk_ofE (l := PySem.Challenge.rw_fitwords_k16_how_pegs_go) (n := 63) (k := 7) (x := "_law_script") (CX := L2.CX0) rfl (by decide) (by kernel_rfl) ⟨rfl, by decide, by decide⟩ ?F (fun _ _ _ _ z => z)
    intro w mg fa h Y G hmg0
    obtain ⟨K, KX, c⟩ := Y
    have hmg : mg ("law" : PySem.Str) = some (.ref fa) := by
      have e : (HandSHeadRun.topDef (OpenLaw.row PySem.Challenge.rw_fitwords_k16_how_pegs_go).prog 57).name = ("law" : PySem.Str) := by kernel_rfl
      rw [← e]
      exact hmg0
    have T : Hd.Tx K mg := ⟨w, h, KX, G, c⟩
    have e := hmg.symm.trans T.g_law
    cases e
    obtain ⟨fd, F⟩ := T.df_law
    refine ⟨K, fd, Gx.spLaw K, KX, fun s u => ?_, fun H a ns hl _ hS => ⟨a, ns, rfl, hS, hl, fun _ => rfl⟩, fun base _ _ => ?_⟩
    · have b := L2.FunD.bindsA (ps := ["_law_script"]) F fun _ _ _ _ _ _ us hl => match us, hl with | [_], _ => rfl
      exact b s [u] rfl
    · obtain ⟨fd', F', G'⟩ := Gx.ok_law (P := (PySem.Challenge.rw_fitwords_k16_how_pegs_go).prog) (w := w) (base := base) T
      rw [Gx.funD_uniq F F']
      exact G'
#print axioms PySem.Challenge.cw_fitwords_k16_how_pegs_go_holds
