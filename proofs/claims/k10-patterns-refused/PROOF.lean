import PyProof.Rows.All
import Wide.All
import OpenK.AllK
import Wide.FinOn
import HandS.ForMost
import HandS.ForExc
import HandS.IsInst
import HandS.Conv
import HandS.Codes
import HandS.Walk
import KE.KDictList
import KE.KCallOwn
import HandS.ListItems
import HandS.TupLe
import HandS.ExcInit
import HandS.ExcField
import HandS.ExcIs
import KE.KExcIs
import HandS.RaiseMore
import HandS.Deep
import HandS.More
import HandS.TryOnly
import PySem.Challenge.RW_ownersagree_k10_patterns_refused
set_option Elab.async false
set_option linter.all false
set_option maxRecDepth 100000
set_option maxHeartbeats 4000000
namespace OA
open PySem PySem.Spec PyProof.Rows L2
/-! ### the heap in two tiers: G is what stands still, H is all -/
structure Stp (F : Addr → Prop) (G H G' H' : Hp) : Prop where
  gg : Same G G'
  gh : Same G' H'
  nw : ∀ b o, G' b = some o → G b = none → H b = none
  fr : ∀ b o, H b = some o → ¬ F b → H' b = some o
  al : ∀ b o, H b = some o → ∃ o', H' b = some o'
structure Cell (G H : Hp) (p : Addr) (o : HO) : Prop where
  at_ : H p = some o
  no : G p = none
abbrev F0 : Addr → Prop := fun _ => False
abbrev F2 (a b : Addr) : Addr → Prop := fun p => p = a ∨ p = b
section
variable {F F' : Addr → Prop} {G H G' H' G1 H1 G2 H2 : Hp} {p q : Addr} {o o' : HO}
theorem none_of (h : ∀ o, H p ≠ some o) : H p = none := by
  cases e : H p with
  | none => rfl
  | some o => exact absurd e (h o)
theorem Stp.refl (h : Same G H) : Stp F G H G H := ⟨Same.refl G, h, fun b o h1 h2 => absurd (h1.symm.trans h2) (fun z => nomatch z), fun _ _ h _ => h, fun _ o h => ⟨o, h⟩⟩
theorem Stp.trans (a : Stp F G H G1 H1) (b : Stp F G1 H1 G2 H2) : Stp F G H G2 H2 := by
  refine ⟨a.gg.trans b.gg, b.gh, fun c o h1 h2 => ?_, fun c o h hF => b.fr c o (a.fr c o h hF) hF, fun c o h => ?_⟩
  · cases e : G1 c with
    | some u => exact a.nw c u e h2
    | none =>
      have h3 := b.nw c o h1 e
      cases e2 : H c with
      | none => rfl
      | some u =>
        obtain ⟨u', e3⟩ := a.al c u e2
        rw [e3] at h3
        cases h3
  · obtain ⟨u, e⟩ := a.al c o h
    exact b.al c u e
theorem Stp.wide (a : Stp F G H G' H') (h : ∀ b, F b → F' b) : Stp F' G H G' H' := ⟨a.gg, a.gh, a.nw, fun b o e hF => a.fr b o e (fun z => hF (h b z)), a.al⟩
/-- what is new since the start does not count -/
theorem Stp.drop (a : Stp F G H G' H') (h : ∀ b, F b → F' b ∨ H b = none) : Stp F' G H G' H' := ⟨a.gg, a.gh, a.nw, fun b o e hF => a.fr b o e (fun z => by
  rcases h b z with h | h
  · exact hF h
  · rw [h] at e; cases e), a.al⟩
theorem Stp.cell (a : Stp F G H G' H') (c : Cell G H p o) (hF : ¬ F p) : Cell G' H' p o := by
  refine ⟨a.fr p o c.at_ hF, none_of fun u e => ?_⟩
  have := a.nw p u e c.no
  rw [c.at_] at this
  cases this
theorem Stp.new (a : Stp F G H G' H') (h : H' p = none) : H p = none := by
  cases e : H p with
  | none => rfl
  | some u =>
    obtain ⟨u', e'⟩ := a.al p u e
    rw [e'] at h
    cases h
/-- a new thing that stands still -/
theorem Stp.lay (h : Same G H) (hp : H p = none) (o : HO) : Stp F G H (upd G p o) (upd H p o) := by
  have gp : G p = none := h.free hp
  refine ⟨fun b u e => ?_, fun b u e => ?_, fun b u e h2 => ?_, fun b u e _ => ?_, fun b u e => ⟨u, ?_⟩⟩
  · rw [upd_ne (ne_of_none e gp)]; exact e
  · by_cases hb : b = p
    · subst hb; rw [upd_same] at e ⊢; exact e
    · rw [upd_ne hb] at e ⊢; exact h b u e
  · by_cases hb : b = p
    · subst hb; exact hp
    · rw [upd_ne hb, h2] at e; cases e
  · rw [upd_ne (ne_of_none e hp)]; exact e
  · rw [upd_ne (ne_of_none e hp)]; exact e
/-- a new thing that may change -/
theorem Stp.put (h : Same G H) (hp : H p = none) (o : HO) : Stp F G H G (upd H p o) := by
  refine ⟨Same.refl G, fun b u e => ?_, fun b u e h2 => ?_, fun b u e _ => ?_, fun b u e => ⟨u, ?_⟩⟩
  · rw [upd_ne (ne_of_none (h b u e) hp)]; exact h b u e
  · rw [e] at h2; cases h2
  · rw [upd_ne (ne_of_none e hp)]; exact e
  · rw [upd_ne (ne_of_none e hp)]; exact e
theorem Cell.new (h : Same G H) (hp : H p = none) (o : HO) : Cell G (upd H p o) p o := ⟨upd_same, h.free hp⟩
/-- a change -/
theorem Stp.write (h : Same G H) (c : Cell G H p o) (hF : F p) (u : HO) : Stp F G H G (upd H p u) := by
  refine ⟨Same.refl G, fun b v e => ?_, fun b v e h2 => ?_, fun b v e hn => ?_, fun b v e => ?_⟩
  · rw [upd_ne (ne_of_none e c.no)]; exact h b v e
  · rw [e] at h2; cases h2
  · rw [upd_ne (fun z => hn (by rw [z]; exact hF))]; exact e
  · by_cases hb : b = p
    · exact ⟨u, by rw [hb, upd_same]⟩
    · exact ⟨v, by rw [upd_ne hb]; exact e⟩
/-- a change of what is new since the start -/
theorem Stp.loc (s : Stp F G H G1 H1) (c : Cell G1 H1 p o) (hp : H p = none) (u : HO) : Stp F G H G1 (upd H1 p u) := by
  refine ⟨s.gg, fun b v e => ?_, s.nw, fun b v e hn => ?_, fun b v e => ?_⟩
  · rw [upd_ne (ne_of_none e c.no)]; exact s.gh b v e
  · rw [upd_ne (ne_of_none e hp)]; exact s.fr b v e hn
  · rw [upd_ne (ne_of_none e hp)]; exact s.al b v e
theorem Cell.set (c : Cell G H p o) (u : HO) : Cell G (upd H p u) p u := ⟨upd_same, c.no⟩
theorem Cell.off (c : Cell G H p o) (h : p ≠ q) (u : HO) : Cell G (upd H q u) p o := ⟨by rw [upd_ne h]; exact c.at_, c.no⟩
theorem same_loc (s : Same H H1) (hp : H p = none) (u : HO) : Same H (upd H1 p u) := fun b o e => by rw [upd_ne (ne_of_none e hp)]; exact s b o e
theorem Stp.same (h : Same G H) (s : Same H H') : Stp F G H G H' := ⟨Same.refl G, h.trans s, fun b o h1 h2 => absurd (h1.symm.trans h2) (fun z => nomatch z), fun b o e _ => s b o e, fun b o e => ⟨o, s b o e⟩⟩
/-- a thing that was new since the start stands still from now on -/
theorem Stp.freeze (a : Stp F G H G' H') (c : Cell G' H' p o) (hp : H p = none) : Stp F G H (upd G' p o) H' := by
  refine ⟨fun b u e => ?_, fun b u e => ?_, fun b u e h2 => ?_, a.fr, a.al⟩
  · rw [upd_ne (ne_of_none (a.gg b u e) c.no)]; exact a.gg b u e
  · by_cases hb : b = p
    · subst hb; rw [upd_same] at e; cases e; exact c.at_
    · rw [upd_ne hb] at e; exact a.gh b u e
  · by_cases hb : b = p
    · subst hb; exact hp
    · rw [upd_ne hb] at e; exact a.nw b u e h2
/-- all of L that was new since the start stands still from now on -/
def frzL (G H : Hp) (L : List Addr) : Hp := fun b => if b ∈ L then H b else G b
theorem frzL_in {L : List Addr} (h : p ∈ L) (e : H p = some o) : frzL G H L p = some o := by unfold frzL; rw [if_pos h]; exact e
theorem frzL_out {L : List Addr} (h : p ∉ L) : frzL G H L p = G p := by unfold frzL; rw [if_neg h]
theorem frzL_sub {L : List Addr} (s : Same G H) : Same G (frzL G H L) := fun b u e => by
  by_cases hb : b ∈ L
  · exact frzL_in hb (s b u e)
  · rw [frzL_out hb]; exact e
theorem Stp.freezeL (a : Stp F G H G' H') {L : List Addr} (hL : ∀ b ∈ L, H b = none) : Stp F G H (frzL G' H' L) H' := by
  refine ⟨a.gg.trans (frzL_sub a.gh), fun b u e => ?_, fun b u e h2 => ?_, a.fr, a.al⟩
  · by_cases hb : b ∈ L
    · unfold frzL at e; rw [if_pos hb] at e; exact e
    · rw [frzL_out hb] at e; exact a.gh b u e
  · by_cases hb : b ∈ L
    · exact hL b hb
    · rw [frzL_out hb] at e; exact a.nw b u e h2
theorem Cell.frzL {L : List Addr} (c : Cell G H p o) (h : p ∉ L) : Cell (OA.frzL G H L) H p o := ⟨c.at_, by rw [frzL_out h]; exact c.no⟩
theorem Same.lay (h : G p = none) (o : HO) : Same G (upd G p o) := fun b u e => by rw [upd_ne (ne_of_none e h)]; exact e
theorem Cell.lay (c : Cell G H p o) (h : p ≠ q) (u : HO) : Cell (upd G q u) H p o := ⟨c.at_, by rw [upd_ne h]; exact c.no⟩
theorem Cell.ne (c : Cell G H p o) (d : H q = none) : p ≠ q := ne_of_none c.at_ d
theorem Stp.fresh (a : Stp F G H G' H') (h : H p = none) (c : Cell G' H' q o) (hq : H q = some o') : q ≠ p := ne_of_none hq h
end
theorem Same.sqL {K : PySem.W.Frag} {H H' : Hp} {a : Addr} {xs : List V} (e : Same H H') (h : H a = some (.lst xs)) : SqL K H' a xs := SqL.of (e a _ h)

/-! ### data: lists of texts, lists of lists of texts, of ints -/
def Ss (G : Hp) (v : V) (xs : List Str) : Prop := ∃ a, v = .ref a ∧ G a = some (.lst (xs.map V.str))
def Si (G : Hp) (v : V) (xs : List Int) : Prop := ∃ a, v = .ref a ∧ G a = some (.lst (xs.map V.int))
def Sss (G : Hp) (v : V) (xss : List (List Str)) : Prop := ∃ a as, v = .ref a ∧ G a = some (.lst (as.map V.ref)) ∧ Paired (fun p xs => G p = some (.lst (xs.map V.str))) as xss
theorem Ss.mono {G G' : Hp} {v : V} {xs : List Str} (s : Same G G') (h : Ss G v xs) : Ss G' v xs := by
  obtain ⟨a, e, h⟩ := h
  exact ⟨a, e, s a _ h⟩
theorem Si.mono {G G' : Hp} {v : V} {xs : List Int} (s : Same G G') (h : Si G v xs) : Si G' v xs := by
  obtain ⟨a, e, h⟩ := h
  exact ⟨a, e, s a _ h⟩
theorem Sss.mono {G G' : Hp} {v : V} {xs : List (List Str)} (s : Same G G') (h : Sss G v xs) : Sss G' v xs := by
  obtain ⟨a, as, e, h, p⟩ := h
  exact ⟨a, as, e, s a _ h, Paired.mapP p fun p xs h => s p _ h⟩

/-! ### the drawing state of a law -/
def StAt (G H : Hp) (st inn : Addr) : Prop := ∃ (cs : List Int) (a b c : Int), Cell G H st (.lst [.ref inn, .int a, .int b, .int c]) ∧ Cell G H inn (.lst (cs.map V.int)) ∧ (∀ x ∈ cs, 0 ≤ x) ∧ 0 ≤ a ∧ 0 ≤ b ∧ 0 ≤ c
theorem StAt.off {G H : Hp} {st inn : Addr} (h : StAt G H st inn) {p : Addr} (hp : H p = none) : ¬ F2 st inn p := by
  obtain ⟨cs, a, b, c, h1, h2, _⟩ := h
  rintro (e | e)
  · subst e; rw [h1.at_] at hp; cases hp
  · subst e; rw [h2.at_] at hp; cases hp
theorem StAt.keep {G H G' H' : Hp} {st inn : Addr} {F : Addr → Prop} (h : StAt G H st inn) (s : Stp F G H G' H') (h1 : ¬ F st) (h2 : ¬ F inn) : StAt G' H' st inn := by
  obtain ⟨cs, a, b, c, x, y, z⟩ := h
  exact ⟨cs, a, b, c, s.cell x h1, s.cell y h2, z⟩
theorem StAt.keep0 {G H G' H' : Hp} {st inn : Addr} (h : StAt G H st inn) (s : Stp F0 G H G' H') : StAt G' H' st inn := h.keep s id id
theorem StAt.new {G H : Hp} {st inn : Addr} (h : StAt G H st inn) {p : Addr} (hp : H p = none) (hs : Same G H) (o : HO) : StAt G (upd H p o) st inn := h.keep0 (Stp.put hs hp o)
theorem StAt.write {G H : Hp} {st inn : Addr} (h : StAt G H st inn) {p : Addr} (hp : ¬ F2 st inn p) (o : HO) : StAt G (upd H p o) st inn := by
  obtain ⟨cs, a, b, c, x, y, z⟩ := h
  exact ⟨cs, a, b, c, x.off (fun e => hp (.inl e.symm)) o, y.off (fun e => hp (.inr e.symm)) o, z⟩
theorem StAt.frz {G H : Hp} {st inn : Addr} (h : StAt G H st inn) {p : Addr} (hp : ¬ F2 st inn p) (o : HO) : StAt (upd G p o) H st inn := by
  obtain ⟨cs, a, b, c, x, y, z⟩ := h
  exact ⟨cs, a, b, c, x.lay (fun e => hp (.inl e.symm)) o, y.lay (fun e => hp (.inr e.symm)) o, z⟩

theorem StAt.frzL {G H : Hp} {st inn : Addr} (h : StAt G H st inn) {L : List Addr} (hL : ∀ b ∈ L, ¬ F2 st inn b) : StAt (OA.frzL G H L) H st inn := by
  obtain ⟨cs, a, b, c, x, y, z⟩ := h
  exact ⟨cs, a, b, c, x.frzL (fun m => hL st m (.inl rfl)), y.frzL (fun m => hL inn m (.inr rfl)), z⟩
/-! ### a def of the top that is called by its name -/
structure Callee (P : Program) (w : World) (K : PySem.W.Frag) (mg : Str → Option Value) (base : Heap) (x : Str) (ps : List Str) (sp : Sp) (k : Nat) : Prop where
  ex : ∃ f fd, FnOk P w K mg base CX0 k f fd ps sp ∧ Binds K fd ps [] ∧ mg x = some (.ref f) ∧ PySem.W.keepIn K (.ref f) = true
theorem pe_co {X : Cx} {x : Str} {ps : List Str} {sp : Sp} {k j : Nat} {e : Expr} {es : List Expr} {t : TA} {p pos : Pos} (c : Callee X.prog X.w X.K X.mg X.base x ps sp k) (hr : Room j X.A) (hk : k ≤ j) (hg : Gl X x) (ha : PA X (e :: es) t)
    (hdb : (x == ("__debug__" : Str)) = false := by decide) (he : starEach (e :: es) X.env = (false, eval e X.env) :: starEach es X.env := by rfl) (hpl : (backTo pos (starEach es X.env)).any (·.1) = false := by rfl) :
    PE X (.Call (.Name x p) (e :: es) [] pos) (tCall sp [] E0 t) := by
  obtain ⟨f, fd, F, b, m, kp⟩ := c.ex
  exact pe_call F (hr.mono hk) hg m kp b .nil pass0 ha hdb he hpl
/-- a class of the top with its __init__ -/
structure Maker (P : Program) (w : World) (K : PySem.W.Frag) (mg : Str → Option Value) (base : Heap) (x : Str) (C : Addr) (ps : List Str) (sp : Sp) (k : Nat) : Prop where
  ex : ∃ f fd, FnOk P w K mg base CX0 k f fd ps sp ∧ Binds K fd ps [] ∧ mg x = some (.ref C) ∧ Mk K C f
theorem pe_mk {X : Cx} {x : Str} {C : Addr} {ps : List Str} {sp : Sp} {k j : Nat} {e : Expr} {es : List Expr} {t : TA} {p pos : Pos} (c : Maker X.prog X.w X.K X.mg X.base x C ps sp k) (hr : Room j X.A) (hk : k + 1 ≤ j) (hg : Gl X x) (ha : PA X (e :: es) t)
    (hdb : (x == ("__debug__" : Str)) = false := by decide) (he : starEach (e :: es) X.env = (false, eval e X.env) :: starEach es X.env := by rfl) (hpl : (backTo pos (starEach es X.env)).any (·.1) = false := by rfl) :
    PE X (.Call (.Name x p) (e :: es) [] pos) (tMake C sp [] E0 t) := by
  obtain ⟨f, fd, F, b, m, M⟩ := c.ex
  exact pe_make M F (hr.mono hk) hg m b .nil pass0 ha hdb he hpl
/-- a method of a class of the top -/
structure Method (P : Program) (w : World) (K : PySem.W.Frag) (mg : Str → Option Value) (base : Heap) (C : Addr) (m : Str) (ps : List Str) (sp : Sp) (k : Nat) : Prop where
  ex : ∃ f fd, FnOk P w K mg base CX0 k f fd ps sp ∧ Binds K fd ps [] ∧ Cls K C ∧ Meth K C m f
theorem pe_mo0 {X : Cx} {C : Addr} {m : Str} {ps : List Str} {sp : Sp} {k j : Nat} {o : Expr} {ta : TE} {apos pos : Pos} {pl : Sem Bool} (c : Method X.prog X.w X.K X.mg X.base C m ps sp k) (hr : Room j X.A) (hk : k ≤ j) (he : PE X o ta)
    (ht : eval (.Call (.Attribute o m apos) [] [] pos) X.env = (do
      let ov ← eval o X.env
      standAt apos.atName
      let (f, first) ← holding [ov] (getMethod ov m pl)
      callWith pos f first (backTo pos (starEach [] X.env)) (backToKw pos (keywordEach [] X.env))) := by rfl) :
    PE X (.Call (.Attribute o m apos) [] [] pos) (tMeth C m sp [] E0 ta tNil) := by
  obtain ⟨f, fd, F, b, cl, M⟩ := c.ex
  exact pe_meth0 he cl M F (hr.mono hk) b .nil pass0 ht
theorem Callee.mono {P : Program} {w : World} {K : PySem.W.Frag} {mg : Str → Option Value} {base : Heap} {x : Str} {ps : List Str} {sp : Sp} {j k : Nat} (c : Callee P w K mg base x ps sp j) (h : j ≤ k) : Callee P w K mg base x ps sp k := by
  obtain ⟨f, fd, F, r⟩ := c.ex
  exact ⟨f, fd, F.mono h, r⟩

/-! ### rules that lacked -/
section
variable {X : Cx}
theorem pe_gstr {x : Str} {z : Str} {pos : Pos} (h : ∃ t, X.mg x = some (.str z t)) (hg : Gl X x := by rfl) (hd : (x == ("__debug__" : Str)) = false := by decide) : PE X (.Name x pos) (tC (.str z)) := by
  obtain ⟨t, h⟩ := h
  exact pe_glob hg h ⟨t, rfl⟩ hd
theorem pe_gint {x : Str} {z : Int} {pos : Pos} (h : ∃ t, X.mg x = some (.int z t)) (hg : Gl X x := by rfl) (hd : (x == ("__debug__" : Str)) = false := by decide) : PE X (.Name x pos) (tC (.int z)) := by
  obtain ⟨t, h⟩ := h
  exact pe_glob hg h ⟨t, rfl⟩ hd
/-! operators with plain readings -/
def rAddI : R2 := fun x y H Q => ∃ i j, x = .int i ∧ y = .int j ∧ Q (.int (i + j)) H
def rSubI : R2 := fun x y H Q => ∃ i j, x = .int i ∧ y = .int j ∧ Q (.int (i - j)) H
def rMulI : R2 := fun x y H Q => ∃ i j, x = .int i ∧ y = .int j ∧ ((-(2 ^ 64) < i ∧ i < 2 ^ 64) ∨ (-(2 ^ 64) < j ∧ j < 2 ^ 64)) ∧ Q (.int (i * j)) H
def rModI : R2 := fun x y H Q => ∃ i j, x = .int i ∧ y = .int j ∧ 0 < j ∧ Q (.int (i % j)) H
def rDivI : R2 := fun x y H Q => ∃ i j, x = .int i ∧ y = .int j ∧ (0 < j ∧ j < 1073741824) ∧ Q (.int (i / j)) H
def rPowI : R2 := fun x y H Q => ∃ i j, x = .int i ∧ y = .int j ∧ (0 ≤ j ∧ j ≤ 1000000 ∧ i.natAbs < 2 ^ 64) ∧ Q (.int (i ^ j.toNat)) H
def rLtI : R2 := fun x y H Q => ∃ i j, x = .int i ∧ y = .int j ∧ Q (.bl (decide (i < j))) H
def rLeI : R2 := fun x y H Q => ∃ i j, x = .int i ∧ y = .int j ∧ Q (.bl (decide (i ≤ j))) H
def rGtI : R2 := fun x y H Q => ∃ i j, x = .int i ∧ y = .int j ∧ Q (.bl (decide (j < i))) H
def rGeI : R2 := fun x y H Q => ∃ i j, x = .int i ∧ y = .int j ∧ Q (.bl (decide (j ≤ i))) H
theorem o_add : OpR X (binaryOp .Add) rAddI := op_add
theorem o_sub : OpR X (binaryOp .Sub) rSubI := op_sub
theorem o_mul : OpR X (binaryOp .Mult) rMulI := op_mul
theorem o_mod : OpR X (binaryOp .Mod) rModI := op_mod
theorem o_fdiv : OpR X (binaryOp .FloorDiv) rDivI := op_fdiv
theorem o_pow : OpR X (binaryOp .Pow) rPowI := op_pow
theorem o_lt : OpR X (compareOp .Lt) rLtI := op_lt
theorem o_le : OpR X (compareOp .LtE) rLeI := op_le
theorem o_gt : OpR X (compareOp .Gt) rGtI := op_gt
theorem o_ge : OpR X (compareOp .GtE) rGeI := op_ge
def rAbsI : List V → Hp → VK → Prop := fun xs H Q => ∃ i, xs = [.int i] ∧ Q (.int (if i < 0 then -i else i)) H
theorem c_abs : CallR X (.builtin "abs") rAbsI := call_abs
def rIntI : List V → Hp → VK → Prop := fun xs H Q => (∃ i, xs = [.int i] ∧ Q (.int i) H) ∨ ∃ k, xs = [.bl k] ∧ Q (.int (if k then 1 else 0)) H
theorem c_int : CallR X (.type "int") rIntI := call_int1
def rLenL (K : PySem.W.Frag) : List V → Hp → VK → Prop := fun xs H Q => ∃ p ys, xs = [.ref p] ∧ (SqL K H p ys ∨ SqT K H p ys) ∧ Q (.int ys.length) H
theorem c_len (K : PySem.W.Frag) (h : X.K = K := by rfl) : CallR X (.builtin "len") (rLenL K) := by subst h; exact call_len_seq
def rLenT : List V → Hp → VK → Prop := fun xs H Q => ∃ z, xs = [.str z] ∧ z.length ≤ sizeLine ∧ Q (.int z.length) H
theorem c_lenS : CallR X (.builtin "len") rLenT := call_len_str
def rListO (K : PySem.W.Frag) : List V → Hp → VK → Prop := fun xs H Q => ∃ p ys, xs = [.ref p] ∧ (SqL K H p ys ∨ SqT K H p ys) ∧ ∀ l, H l = none → Q (.ref l) (upd H l (.lst ys))
theorem c_list (K : PySem.W.Frag) (h : X.K = K := by rfl) : CallR X (.type "list") (rListO K) := by subst h; exact call_list_of
def rTupO (K : PySem.W.Frag) : List V → Hp → VK → Prop := fun xs H Q => ∃ p ys, xs = [.ref p] ∧ ((SqL K H p ys ∧ ∀ l, H l = none → Q (.ref l) (upd H l (.tup ys))) ∨ (SqT K H p ys ∧ Q (.ref p) H))
theorem c_tuple (K : PySem.W.Frag) (h : X.K = K := by rfl) : CallR X (.type "tuple") (rTupO K) := by subst h; exact call_tuple_of
theorem c_isi (K : PySem.W.Frag) (h : X.K = K := by rfl) : CallR X (.builtin "isinstance") (rIsi K) := by subst h; exact call_isi
theorem c_any (K : PySem.W.Frag) (h : X.K = K := by rfl) (hc : X.calm = true := by rfl) : CallR X (.builtin "any") (rAny K) := by subst h; exact cr_any hc
theorem c_all (K : PySem.W.Frag) (h : X.K = K := by rfl) (hc : X.calm = true := by rfl) : CallR X (.builtin "all") (rAll K) := by subst h; exact cr_all hc
theorem c_sortedS (K : PySem.W.Frag) (h : X.K = K := by rfl) : CallR X (.builtin "sorted") (rSortedS K) := by subst h; exact cr_sortedS
theorem ix_lst (K : PySem.W.Frag) (h : X.K = K := by rfl) : IxR X (rIxL K) := by subst h; exact ix_list
theorem ix_tpl (K : PySem.W.Frag) (h : X.K = K := by rfl) : IxR X (rIxT K) := by subst h; exact ix_tup
theorem sl_lst (K : PySem.W.Frag) (h : X.K = K := by rfl) : SlR X (rSlL K) := by subst h; exact sl_list
theorem sl_tpl (K : PySem.W.Frag) (h : X.K = K := by rfl) : SlR X (rSlT K) := by subst h; exact sl_tup
theorem o_in (K : PySem.W.Frag) (h : X.K = K := by rfl) : OpR X (compareOp .In) (rIn K false) := by subst h; exact op_in_seq
theorem o_notin (K : PySem.W.Frag) (h : X.K = K := by rfl) : OpR X (compareOp .NotIn) (rIn K true) := by subst h; exact op_notIn_seq
theorem o_eqD (K : PySem.W.Frag) (hu : X.A.units + 64 < cLine) (h : X.K = K := by rfl) : OpR X (compareOp .Eq) (rEqD K) := by subst h; exact op_eqD hu
theorem o_neD (K : PySem.W.Frag) (hu : X.A.units + 64 < cLine) (h : X.K = K := by rfl) : OpR X (compareOp .NotEq) (rNeD K) := by subst h; exact op_neD hu
theorem m_index (K : PySem.W.Frag) (h : X.K = K := by rfl) : MtR X "list.index" (rIndex K) := by subst h; exact mt_index
theorem i_list (K : PySem.W.Frag) {tg l : Expr} {tl : TE} (hl : PE X l tl) (h : X.K = K := by rfl) : PI X tg l (iList K tl) := by subst h; exact pi_list hl
theorem i_tup (K : PySem.W.Frag) {tg l : Expr} {tl : TE} (hl : PE X l tl) (h : X.K = K := by rfl) : PI X tg l (iTup K tl) := by subst h; exact pi_tup hl
theorem e_fld (K : PySem.W.Frag) {e : Expr} {f : Str} {ta : TE} {pos : Pos} (he : PE X e ta) (hb : attributeBase e f X.env (eval e X.env) = eval e X.env) (h : X.K = K := by rfl) : PE X (.Attribute e f pos) (tFld K ta f) := by subst h; exact pe_fld he hb
theorem g_tup (K : PySem.W.Frag) {es : List Expr} {k : Nat} {t : TGs} {n : Nat} {pos : Pos} (hc : X.calm = true) (hg : PGs X es t) (hn : (assignEach es X.env).length = n := by rfl) (hst : (assignEach es X.env).findIdx? (·.1) = none := by rfl) (h : X.K = K := by rfl) : PG X (.Tuple es k pos) (gTup K n t) := by
  subst h
  exact pg_tup hc hg hn hst
def tTruth (K : PySem.W.Frag) (ta : TE) : TT := fun σ H Q => ta σ H fun x H' => ∃ k, TruV K x H' k ∧ Q k H'
theorem t_truth (K : PySem.W.Frag) {a : Expr} {ta : TE} (ha : PE X a ta) (he : ∀ whole, isTrue a X.env whole = (do let v ← whole; standAt a.pos; holding [v] (truthy v))) (h : X.K = K := by rfl) : PT X a (tTruth K ta) := by
  subst h
  exact pt_truth ha he
def rJoin (K : PySem.W.Frag) : V → List V → Hp → VK → Prop := fun x xs H Q => ∃ a p, ∃ ys : List Str, x = .str a ∧ xs = [.ref p] ∧ (SqL K H p (ys.map V.str) ∨ SqT K H p (ys.map V.str)) ∧ (ys.map (·.length)).sum + ys.length * a.length ≤ 16777216 ∧ Q (.str (Txt.join a ys)) H
theorem e_join (K : PySem.W.Frag) {o e : Expr} {to te : TE} {apos pos : Pos} (ho : PE X o to) (he : PE X e te) (hs : starEach [e] X.env = [(false, eval e X.env)] := by rfl) (hbase : attributeBase o "join" X.env (eval o X.env) = eval o X.env := by rfl) (hline : (apos.endLine == pos.line) = true := by rfl) (h : X.K = K := by rfl) :
    PE X (.Call (.Attribute o "join" apos) [e] [] pos) (tM1 (rJoin K) to te) := by
  subst h
  exact pe_join ho he hs hbase hline
theorem e_bm (K : PySem.W.Frag) {T : String} {name : Str} {id : String} {r : V → List V → Hp → VK → Prop} {o e : Expr} {es : List Expr} {to : TE} {t : TA} {apos cpos : Pos} (pa : PlainAttrs T) (slot : Slot T name id) (hty : typeOf (.builtin id) = pure (.type "method_descriptor")) (hm : MtR X id r) (ho : PE X o to) (ha : PA X (e :: es) t)
    (hbase : attributeBase o name X.env (eval o X.env) = eval o X.env := by rfl)
    (hfew : ((backTo cpos (starEach (e :: es) X.env)).all (fun x => !x.1) && (backToKw cpos (keywordEach [] X.env)).all (fun x => x.1.isSome) && decide ((e :: es).length + ([] : List Keyword).length + (if ([] : List Keyword).isEmpty then 0 else 1) < 30)) = true := by rfl)
    (hline : (apos.endLine == cpos.line) = true := by rfl) (hs : starEach (e :: es) X.env = (false, eval e X.env) :: starEach es X.env := by rfl) (hplain : (backTo cpos (starEach es X.env)).any (·.1) = false := by rfl) (h : X.K = K := by rfl) :
    PE X (.Call (.Attribute o name apos) (e :: es) [] cpos) (tBM K T r to t) := by
  subst h
  exact pe_bm pa slot hty hm ho ha hbase hfew hline hs hplain
theorem e_bm0 (K : PySem.W.Frag) {T : String} {name : Str} {id : String} {r : V → List V → Hp → VK → Prop} {o : Expr} {to : TE} {apos cpos : Pos} (pa : PlainAttrs T) (slot : Slot T name id) (hty : typeOf (.builtin id) = pure (.type "method_descriptor")) (hm : MtR X id r) (ho : PE X o to)
    (hbase : attributeBase o name X.env (eval o X.env) = eval o X.env := by rfl) (hline : (apos.endLine == cpos.line) = true := by rfl) (h : X.K = K := by rfl) : PE X (.Call (.Attribute o name apos) [] [] cpos) (tBM0 K T r to) := by
  subst h
  exact pe_bm0 pa slot hty hm ho hbase hline
def rAddT : R2 := fun x y H Q => ∃ i j, x = .str i ∧ y = .str j ∧ i.length + j.length ≤ sizeLine ∧ Q (.str (i ++ j)) H
theorem o_adds : OpR X (binaryOp .Add) rAddT := op_add_str
def rInG : R2 := fun x y H Q => ∃ (c : Nat) (z : Str), x = .str ⟨#[c]⟩ ∧ y = .str z ∧ Q (.bl (decide (c ∈ z.cps.toList))) H
theorem o_insign : OpR X (compareOp .In) rInG := op_in_sign
def rInT : R2 := fun x y H Q => ∃ i j, x = .str i ∧ y = .str j ∧ Q (.bl (!(Builtin.Str.occurrences j i 0 j.length 1).isEmpty)) H
theorem o_ins : OpR X (compareOp .In) rInT := op_in_str
def CPowW (i j : Int) : Prop := 0 < j ∧ 1 < i ∧ Builtin.Int.intTooBig (((Builtin.Int.intBits i : Nat) : Int) * j) = false
def rPowW : R2 := fun x y H Q => ∃ i j, x = .int i ∧ y = .int j ∧ CPowW i j ∧ Q (.int (i ^ j.toNat)) H
theorem op_powW : OpR X (binaryOp .Pow) rPowW := by
  intro pins s σ H x y v u Q I rx ry h
  obtain ⟨i, j, rfl, rfl, hc, q⟩ := h
  obtain ⟨t, rfl⟩ := rx
  obtain ⟨t', rfl⟩ := ry
  have h1 : ¬ (j == 0) = true := by have := hc.1; simp; omega
  have h2 : ¬ (i == 0 || i == 1) = true := by have := hc.2.1; simp; omega
  have h3 : ¬ (i == -1) = true := by have := hc.2.1; simp; omega
  refine AutoIntOps.pow_4 (by have := hc.1; omega) h1 h2 h3 (by rw [hc.2.2]; exact Bool.false_ne_true) ?_
  exact ⟨.int (i ^ j.toNat), H, I.tok _, ⟨_, rfl⟩, q⟩
/-- a text n times over -/
def repS (x : Str) (n : Nat) : Str := ⟨((List.replicate n x.cps.toList).flatten).toArray⟩
theorem repS_foldl (x : Str) : ∀ (n : Nat) (acc : Array Nat), (List.replicate n x.cps).foldl (· ++ ·) acc = acc ++ ((List.replicate n x.cps.toList).flatten).toArray
  | 0, acc => by simp
  | n + 1, acc => by
    rw [List.replicate_succ, List.foldl_cons, repS_foldl x n, List.replicate_succ, List.flatten_cons]
    apply Array.toList_inj.mp
    simp
def rRepS : R2 := fun x y H Q => ∃ z n, x = .str z ∧ y = .int n ∧ 0 ≤ n ∧ n ≤ 1000 ∧ z.length ≤ 1000 ∧ Q (.str (repS z n.toNat)) H
theorem op_rep_str : OpR X (binaryOp .Mult) rRepS := by
  intro pins s σ H x y v u Q I rx ry h
  obtain ⟨z, n, rfl, rfl, h0, h1, hz, q⟩ := h
  obtain ⟨t, rfl⟩ := rx
  obtain ⟨t', rfl⟩ := ry
  have hm : z.length * n.toNat ≤ 1000 * 1000 := Nat.mul_le_mul hz (by omega)
  refine PySem.P.mul_str ?_ (fun h2 h3 => ?_) (fun h2 h3 => ?_) ?_
  · have e1 : ¬ n < -(2 ^ 63 : Int) := by omega
    have e2 : ¬ n ≥ 2 ^ 63 := by omega
    rw [decide_eq_false e1, decide_eq_false e2]; rfl
  · have hle : (1000 : Int) ≤ (2 ^ 63 - 1) / n := by
      rw [Int.le_ediv_iff_mul_le (by omega)]
      omega
    omega
  · unfold Builtin.Str.tooLong
    rw [sizeLine_eq]
    simp; omega
  · split
    · rename_i hn
      have e : repS z n.toNat = Str.empty := by
        have : n.toNat = 0 := by omega
        rw [this]; rfl
      exact ⟨by decide, .str _, H, I.tok _, ⟨_, rfl⟩, by rw [← e]; exact q⟩
    · split
      · rename_i hn hc
        have e : repS z n.toNat = z := by
          rcases Bool.or_eq_true_iff.mp hc with h | h
          · have : n.toNat = 1 := by have := beq_iff_eq.mp h; omega
            rw [this]; unfold repS; simp
          · have hl : z.cps.toList = [] := by
              have := beq_iff_eq.mp h
              have : z.cps.size = 0 := this
              simpa using this
            have hz0 : z = ⟨#[]⟩ := by
              cases z with
              | mk c => congr; simpa using hl
            rw [hz0]
            unfold repS
            simp
        exact ⟨.str _, H, I, ⟨_, rfl⟩, by rw [← e]; exact q⟩
      · have e : (⟨(List.replicate n.toNat z.cps).foldl (· ++ ·) #[]⟩ : Str) = repS z n.toNat := by
          rw [repS_foldl]
          unfold repS
          simp
        rw [e]
        refine ⟨?_, .str _, H, I.tok _, ⟨_, rfl⟩, q⟩
        have : (repS z n.toNat).length = n.toNat * z.length := by
          show (((List.replicate n.toNat z.cps.toList).flatten).toArray).size = n.toNat * z.cps.size
          simp
        rw [this, sizeLine_eq, Nat.mul_comm]
        omega
/-- list(d.values()) -/
def tListVals (te : TE) : TE := fun σ H Q => te σ H fun x H1 => ∃ d kvs, x = .ref d ∧ H1 d = some (.dK kvs) ∧ ∀ q, H1 q = none → Q (.ref q) (upd H1 q (.lst (kvs.map (·.2))))
theorem pe_listValues {e : Expr} {te : TE} {p apos cpos pos : Pos} (hc : X.calm = true) (he : PE X e te) (hg : Gl X "list") (hm : X.mg "list" = none) (hv : bootBuiltins "list" = some (.type "list")) (hbase : attributeBase e "values" X.env (eval e X.env) = eval e X.env := by rfl) (hline : (apos.endLine == cpos.line) = true := by rfl)
    (hs : starEach [.Call (.Attribute e "values" apos) [] [] cpos] X.env = (false, eval (.Call (.Attribute e "values" apos) [] [] cpos) X.env) :: starEach [] X.env := by rfl) :
    PE X (.Call (.Name "list" p) [.Call (.Attribute e "values" apos) [] [] cpos] [] pos) (tListVals te) := by
  refine ⟨fun pins s σ H Q I hq => ?_⟩
  refine wpAny_Call_Name_kw (ld_blt I hg hm hv ?_)
  refine PyProof.Rows.callWith_type1 ?_ hs rfl
  rw [hs]
  show wpAny _ _ (spliced ((false, eval (.Call (.Attribute e "values" apos) [] [] cpos) X.env) :: backTo pos (starEach [] X.env))) _ _ s
  refine Calls.spliced_cons ?_
  refine wpAny_Call_method (T := "dict") (id := "dict.values") hbase rfl hline F.plainAttrs_dict F.slot_dict_values F.type_dict_values (thn (he.run pins s σ H _ I hq) fun u s1 ⟨x, H1, I1, rx, d, kvs, ex, hd, q⟩ => ?_)
  subst ex
  obtain rfl : u = Value.ref d := rx
  obtain ⟨hz, hs0, vs, kv, hdo⟩ := I1.hok d _ hd
  obtain ⟨ep, hat⟩ := hdo.dictAt
  have lk : kvs.length = vs.length := Paired.length kv
  have I2 : Inv X pins σ H1 { s1 with heap := s1.heap.push { cls := .type "dict_values", data := .fields #[.ref d] } } := I1.kept (t' := s1.toks) fun b ob q => Heap.get?_push_of_some _ q
  refine ⟨hdo.typeIs, hdo.mapOf.noDict, ?_⟩
  show wpAny _ _ (callWith cpos (.builtin "dict.values") [.ref d] [] []) _ X.xe s1
  refine method_meetsIn F.slot_dict_values F.entry_dict_values rfl (PySem.evalArgs_none ⟨rfl, hdo.typeIs, F.args_dict_values_1 _, _, meets_dict_values (mixKind X.prog X.w) d hs0, ⟨vs, hdo⟩, ?_⟩)
  refine Calls.spliced_nil ?_
  refine PySem.W.kdl_call (PySem.W.kdl_values (knd := mixKind X.prog X.w) (kvs := vs) (ep := ep) (r := s1.heap.objs.size) (d := d)) (I1.ok.hd hc) ⟨⟨_, Heap.get?_push_size _ rfl, rfl, rfl⟩, hat.push _⟩ (by rw [← lk]; exact hz) fun h' tk acc' c' hkeep hS hacc => ?_
  refine ⟨.ref _, upd H1 _ (.lst (kvs.map (·.2))), I2.laid hkeep (Nat.le_refl _) (show ObjOk X.prog X.w _ _ _ (.lst (kvs.map (·.2))) from ⟨?_, acc'.toList, c', ?_, ?_⟩), rfl, q _ (I2.hok.fresh (Nat.le_refl _))⟩
  · rw [List.length_map]; exact hz
  · have el : acc'.toList.length = acc'.size := by simp
    refine vals_of_at (by rw [List.length_map, el, hacc.1, lk]) fun j x w h1 h2 => ?_
    obtain ⟨k, hky⟩ := hacc.2 j w (by rw [← Array.getElem?_toList]; exact h2)
    rw [List.getElem?_map] at h1
    cases e1 : kvs[j]? with
    | none => rw [e1] at h1; cases h1
    | some kw =>
      rw [e1] at h1
      have e2 : kw.2 = x := Option.some.inj h1
      obtain ⟨y, hy, hr⟩ := LiI.paired_get kv e1
      rw [hky] at hy
      cases hy
      rw [← e2]
      exact hr.2
  · rw [Array.toArray_toList]; exact hS
end
end OA

namespace OA
open PySem PySem.Spec PyProof.Rows L2
/-! ### data for == -/
abbrev dS (xs : List Str) : PyData := .list (xs.map PyData.str)
abbrev dSS (xss : List (List Str)) : PyData := .list (xss.map dS)
abbrev dI (xs : List Int) : PyData := .list (xs.map PyData.int)
def Asc (x : Str) : Prop := ∀ c ∈ x.cps.toList, c < 1114112
theorem Asc.ok {x : Str} (h : Asc x) : PyData.strOk x = true := by
  unfold PyData.strOk
  rw [Array.all_eq_true']
  intro c hc
  have := h c (by simpa using hc)
  simpa using this
section
variable {K : PySem.W.Frag} {G H : Hp}
theorem dp_strs : ∀ xs : List Str, DpAll K H (xs.map V.str) (xs.map PyData.str)
  | [] => .nil
  | x :: xs => .cons (.str x) (dp_strs xs)
theorem dp_ints : ∀ xs : List Int, DpAll K H (xs.map V.int) (xs.map PyData.int)
  | [] => .nil
  | x :: xs => .cons (.int x) (dp_ints xs)
theorem dp_lists (s : Same G H) : ∀ {as : List Addr} {xss : List (List Str)}, Paired (fun p xs => G p = some (.lst (xs.map V.str))) as xss → DpAll K H (as.map V.ref) (xss.map dS)
  | _, _, .nil => .nil
  | _, _, .cons h t => .cons (.lst (SqL.of (s _ _ h)) (dp_strs _)) (dp_lists s t)
theorem Ss.dp {v : V} {xs : List Str} (s : Same G H) (h : Ss G v xs) : Dp K H v (dS xs) := by
  obtain ⟨a, rfl, h⟩ := h
  exact .lst (SqL.of (s _ _ h)) (dp_strs xs)
theorem Si.dp {v : V} {xs : List Int} (s : Same G H) (h : Si G v xs) : Dp K H v (dI xs) := by
  obtain ⟨a, rfl, h⟩ := h
  exact .lst (SqL.of (s _ _ h)) (dp_ints xs)
theorem Sss.dp {v : V} {xss : List (List Str)} (s : Same G H) (h : Sss G v xss) : Dp K H v (dSS xss) := by
  obtain ⟨a, as, rfl, h, p⟩ := h
  exact .lst (SqL.of (s _ _ h)) (dp_lists s p)
end
theorem lay_strs : ∀ {xs : List Str}, (∀ x ∈ xs, Asc x) → PyData.canLayAll0 (xs.map PyData.str) = true
  | [], _ => rfl
  | x :: xs, h => by
    show (PyData.strOk x && PyData.canLayAll0 (xs.map PyData.str)) = true
    rw [(h x List.mem_cons_self).ok, lay_strs fun y hy => h y (List.mem_cons_of_mem _ hy)]
    rfl
theorem lay_ints : ∀ {xs : List Int}, PyData.canLayAll0 (xs.map PyData.int) = true
  | [] => rfl
  | x :: xs => by
    show (true && PyData.canLayAll0 (xs.map PyData.int)) = true
    rw [lay_ints]
    rfl
theorem depth_strs : ∀ {xs : List Str}, PyData.depthAll (xs.map PyData.str) = 0
  | [] => rfl
  | x :: xs => by
    show max (PyData.depth (.str x)) (PyData.depthAll (xs.map PyData.str)) = 0
    rw [depth_strs]
    rfl
theorem depth_ints : ∀ {xs : List Int}, PyData.depthAll (xs.map PyData.int) = 0
  | [] => rfl
  | x :: xs => by
    show max (PyData.depth (.int x)) (PyData.depthAll (xs.map PyData.int)) = 0
    rw [depth_ints]
    rfl
theorem depth_lists : ∀ {xss : List (List Str)}, PyData.depthAll (xss.map dS) ≤ 1
  | [] => Nat.zero_le _
  | x :: xs => by
    show max (PyData.depthAll (x.map PyData.str) + 1) (PyData.depthAll (xs.map dS)) ≤ 1
    rw [depth_strs]
    have := depth_lists (xss := xs)
    omega
theorem lay_lists : ∀ {xss : List (List Str)}, (∀ xs ∈ xss, ∀ x ∈ xs, Asc x) → PyData.canLayAll0 (xss.map dS) = true
  | [], _ => rfl
  | x :: xs, h => by
    show (PyData.canLayAll0 (x.map PyData.str) && PyData.canLayAll0 (xs.map dS)) = true
    rw [lay_strs (h x List.mem_cons_self), lay_lists fun y hy => h y (List.mem_cons_of_mem _ hy)]
    rfl
theorem sh_strs {xs : List Str} (h : ∀ x ∈ xs, Asc x) : SeqAt.shaped (dS xs) = true := by
  unfold SeqAt.shaped
  have h1 : PyData.canLay0 (dS xs) = true := lay_strs h
  have h2 : PyData.depth (dS xs) = 1 := by show PyData.depthAll (xs.map PyData.str) + 1 = 1; rw [depth_strs]
  rw [h1, h2]; rfl
theorem sh_ints {xs : List Int} : SeqAt.shaped (dI xs) = true := by
  unfold SeqAt.shaped
  have h1 : PyData.canLay0 (dI xs) = true := lay_ints
  have h2 : PyData.depth (dI xs) = 1 := by show PyData.depthAll (xs.map PyData.int) + 1 = 1; rw [depth_ints]
  rw [h1, h2]; rfl
theorem sh_lists {xss : List (List Str)} (h : ∀ xs ∈ xss, ∀ x ∈ xs, Asc x) : SeqAt.shaped (dSS xss) = true := by
  unfold SeqAt.shaped
  have h1 : PyData.canLay0 (dSS xss) = true := lay_lists h
  have h2 : PyData.depth (dSS xss) ≤ 2 := by show PyData.depthAll (xss.map dS) + 1 ≤ 2; have := depth_lists (xss := xss); omega
  have h3 : decide (PyData.depth (dSS xss) ≤ 64) = true := decide_eq_true (by omega)
  rw [h1, h3]; rfl
theorem eqv_strs : ∀ (xs ys : List Str), PyData.eqvAll (xs.map PyData.str) (ys.map PyData.str) = decide (xs = ys)
  | [], [] => rfl
  | [], _ :: _ => rfl
  | _ :: _, [] => rfl
  | x :: xs, y :: ys => by
    show ((x == y) && PyData.eqvAll (xs.map PyData.str) (ys.map PyData.str)) = _
    rw [eqv_strs xs ys]
    by_cases h1 : x = y
    · subst h1
      by_cases h2 : xs = ys
      · subst h2; simp
      · simp [h2]
    · simp [h1]
theorem eqv_lists : ∀ (xs ys : List (List Str)), PyData.eqvAll (xs.map dS) (ys.map dS) = decide (xs = ys)
  | [], [] => rfl
  | [], _ :: _ => rfl
  | _ :: _, [] => rfl
  | x :: xs, y :: ys => by
    show (PyData.eqvAll (x.map PyData.str) (y.map PyData.str) && PyData.eqvAll (xs.map dS) (ys.map dS)) = _
    rw [eqv_lists xs ys, eqv_strs]
    by_cases h1 : x = y
    · subst h1
      by_cases h2 : xs = ys
      · subst h2; simp
      · simp [h2]
    · simp [h1]
theorem eqv_dS (xs ys : List Str) : PyData.eqv (dS xs) (dS ys) = decide (xs = ys) := eqv_strs xs ys
theorem eqv_dSS (xs ys : List (List Str)) : PyData.eqv (dSS xs) (dSS ys) = decide (xs = ys) := eqv_lists xs ys
theorem eqv_ints0 : ∀ (xs : List Int), PyData.eqv (dI xs) (.list []) = xs.isEmpty
  | [] => rfl
  | _ :: _ => rfl
/-! ### in, of lists of texts -/
theorem inV_str (x : Str) : ∀ xs : List Str, inV (.str x) (xs.map V.str) = decide (x ∈ xs)
  | [] => rfl
  | y :: ys => by
    show ((y == x) || inV (.str x) (ys.map V.str)) = _
    rw [inV_str x ys]
    by_cases h : y = x
    · subst h; simp
    · have h' : ¬ x = y := fun z => h z.symm
      simp [h, h']
theorem flat_strs : ∀ xs : List Str, (xs.map V.str).all flatV = true
  | [] => rfl
  | _ :: xs => by show (true && (xs.map V.str).all flatV) = true; rw [flat_strs xs]; rfl
theorem inV_int (x : Int) : ∀ xs : List Int, inV (.int x) (xs.map V.int) = decide (x ∈ xs)
  | [] => rfl
  | y :: ys => by
    show ((y == x) || inV (.int x) (ys.map V.int)) = _
    rw [inV_int x ys]
    by_cases h : y = x
    · subst h; simp
    · have h' : ¬ x = y := fun z => h z.symm
      simp [h, h']
theorem flat_ints : ∀ xs : List Int, (xs.map V.int).all flatV = true
  | [] => rfl
  | _ :: xs => by show (true && (xs.map V.int).all flatV) = true; rw [flat_ints xs]; rfl
theorem yes_of {σ : L2.St} {H : Hp} {A B : Hp → Prop} (h : A H) : tYes σ H (fun b H3 => if b = true then A H3 else B H3) := by
  show if true = true then A H else B H
  rw [if_pos rfl]
  exact h
/-! ### small lists -/
theorem take_more {α : Type} : ∀ {l : List α} {i : Nat} {x : α}, l[i]? = some x → l.take (i + 1) = l.take i ++ [x]
  | [], i, x, h => by simp at h
  | a :: l, 0, x, h => by
    have e : a = x := Option.some.inj h
    subst e
    rfl
  | a :: l, i + 1, x, h => by
    have ih := take_more (l := l) (i := i) (x := x) h
    show a :: l.take (i + 1) = a :: l.take i ++ [x]
    rw [ih]
    rfl
theorem map_get {α β : Type} {f : α → β} {l : List α} {i : Nat} {y : β} (h : (l.map f)[i]? = some y) : ∃ x, l[i]? = some x ∧ y = f x := by
  rw [List.getElem?_map] at h
  cases e : l[i]? with
  | none => rw [e] at h; cases h
  | some x => rw [e] at h; exact ⟨x, rfl, (Option.some.inj h).symm⟩
theorem get_lt {α : Type} {l : List α} {i : Nat} {x : α} (h : l[i]? = some x) : i < l.length := (List.getElem?_eq_some_iff.mp h).1
theorem sz_le {n : Nat} (h : n ≤ 1000000) : n ≤ sizeLine := by rw [sizeLine_eq]; omega
theorem sz_lt {n : Nat} (h : n ≤ 1000000) : n < sizeLine := by rw [sizeLine_eq]; omega
end OA

/-! ### words: the mathematics -/
namespace OA
open PySem L2
def sg (i : Nat) : Nat := if i < 26 then 97 + i else 22 + i
def wordL (f place size c : Nat) : List Nat := List.replicate place f ++ c :: List.replicate (size - place - 1) f
def mkS (l : List Nat) : Str := ⟨l.toArray⟩
def wordsOf (f place size some first n : Nat) : List Str := (List.range n).map fun k => mkS (wordL f place size (sg ((first + k) % some)))
def Low (c : Nat) : Prop := 97 ≤ c ∧ c ≤ 122
def Alnum (c : Nat) : Prop := Low c ∨ (48 ≤ c ∧ c ≤ 57)
/-- a name of at most m signs -/
structure Name (m : Nat) (w : Str) : Prop where
  first : ∃ c r, w.cps.toList = c :: r ∧ Low c
  all : ∀ c ∈ w.cps.toList, Alnum c
  len : w.length ≤ m
structure Words (m n : Nat) (ws : List Str) : Prop where
  len : ws.length = n
  nd : ws.Nodup
  all : ∀ w ∈ ws, Name m w
theorem sg_alnum {i : Nat} (h : i < 36) : Alnum (sg i) := by
  unfold sg Alnum Low
  split
  · left; omega
  · right; omega
theorem sg_low {i : Nat} (h : i < 26) : Low (sg i) := by
  unfold sg Low
  rw [if_pos h]; omega
theorem sg_inj {i j : Nat} (hi : i < 36) (hj : j < 36) (h : sg i = sg j) : i = j := by
  unfold sg at h
  split at h <;> split at h <;> omega
theorem mod_inj {a i j m : Nat} (hi : i < m) (hj : j < m) (h : (a + i) % m = (a + j) % m) : i = j := by
  have h1 := Nat.div_add_mod (a + i) m
  have h2 := Nat.div_add_mod (a + j) m
  rw [h] at h1
  have hm : (a + j) % m < m := Nat.mod_lt _ (by omega)
  have e1 : (a + i) / m = (a + j) / m ∨ (a + i) / m < (a + j) / m ∨ (a + j) / m < (a + i) / m := by omega
  rcases e1 with e | e | e
  · rw [e] at h1; omega
  · exfalso
    have : m * ((a + i) / m + 1) ≤ m * ((a + j) / m) := Nat.mul_le_mul_left _ e
    rw [Nat.mul_add] at this
    omega
  · exfalso
    have : m * ((a + j) / m + 1) ≤ m * ((a + i) / m) := Nat.mul_le_mul_left _ e
    rw [Nat.mul_add] at this
    omega
theorem wordL_inj {f p s c d : Nat} (h : wordL f p s c = wordL f p s d) : c = d := by
  unfold wordL at h
  have := List.append_cancel_left h
  injection this
theorem nodup_range_map {α : Type} {n : Nat} {f : Nat → α} (h : ∀ i j, i < n → j < n → f i = f j → i = j) : ((List.range n).map f).Nodup := by
  rw [List.nodup_iff_pairwise_ne, List.pairwise_map]
  refine List.Pairwise.imp_of_mem (fun {a b} ha hb hab => ?_) List.nodup_range
  intro e
  exact hab (h a b (List.mem_range.mp ha) (List.mem_range.mp hb) e)
theorem words_ok {f p s m first n sz : Nat} (hf : Low f) (hp : p < s) (hs : s ≤ sz) (hm : (p = 0 ∧ m = 26) ∨ (p ≠ 0 ∧ m = 36)) (hn : n ≤ 26) : Words sz n (wordsOf f p s m first n) := by
  have hm36 : m ≤ 36 ∧ 26 ≤ m := by omega
  refine ⟨by simp [wordsOf], nodup_range_map fun i j hi hj h => ?_, fun w hw => ?_⟩
  · have h1 : (wordL f p s (sg ((first + i) % m))) = (wordL f p s (sg ((first + j) % m))) := by
      have := congrArg (fun z : Str => z.cps.toList) h
      simpa [mkS] using this
    have h2 := wordL_inj h1
    have b1 : (first + i) % m < m := Nat.mod_lt _ (by omega)
    have b2 : (first + j) % m < m := Nat.mod_lt _ (by omega)
    have h3 := sg_inj (by omega) (by omega) h2
    exact mod_inj (by omega) (by omega) h3
  · obtain ⟨k, hk, rfl⟩ := List.mem_map.mp hw
    have b1 : (first + k) % m < m := Nat.mod_lt _ (by omega)
    refine ⟨?_, ?_, ?_⟩
    · show ∃ c r, (mkS (wordL f p s _)).cps.toList = c :: r ∧ Low c
      unfold mkS wordL
      rcases hm with ⟨h0, h1⟩ | ⟨h0, h1⟩
      · subst h0; subst h1
        exact ⟨_, _, rfl, sg_low b1⟩
      · cases p with
        | zero => exact absurd rfl h0
        | succ q => exact ⟨_, _, rfl, hf⟩
    · intro c hc
      have hc : c ∈ wordL f p s (sg ((first + k) % m)) := by simpa [mkS] using hc
      unfold wordL at hc
      rcases List.mem_append.mp hc with h | h
      · rw [(List.mem_replicate.mp h).2]; exact .inl hf
      · rcases List.mem_cons.mp h with h | h
        · rw [h]; exact sg_alnum (by omega)
        · rw [(List.mem_replicate.mp h).2]; exact .inl hf
    · show (wordL f p s _).toArray.size ≤ sz
      simp [wordL]
      omega
theorem Alnum.asc {c : Nat} (h : Alnum c) : c < 1114112 := by
  unfold Alnum Low at h
  omega
theorem Name.asc {m : Nat} {w : Str} (h : Name m w) : Asc w := fun c hc => (h.all c hc).asc
theorem str_ext {a b : Str} (h : a.cps.toList = b.cps.toList) : a = b := by
  cases a with
  | mk x =>
    cases b with
    | mk y =>
      have : x = y := Array.toList_inj.mp h
      rw [this]
theorem repS_one (f n : Nat) : (repS ⟨#[f]⟩ n).cps.toList = List.replicate n f := by
  unfold repS
  have : ∀ n : Nat, (List.replicate n [f]).flatten = List.replicate n f := fun n => by
    induction n with
    | zero => rfl
    | succ n ih => rw [List.replicate_succ, List.flatten_cons, ih, List.replicate_succ]; rfl
  simpa using this n
theorem app_list (a b : Str) : (a ++ b).cps.toList = a.cps.toList ++ b.cps.toList := by
  show (a.cps ++ b.cps).toList = _
  simp
theorem app_len (a b : Str) : (a ++ b).length = a.length + b.length := by
  show (a.cps ++ b.cps).size = _
  simp [Str.length]
theorem len_list (a : Str) : a.length = a.cps.toList.length := by simp [Str.length]
def SIGNS : Str := "abcdefghijklmnopqrstuvwxyz0123456789"
theorem signs_list : (Str.ofString "abcdefghijklmnopqrstuvwxyz0123456789").cps.toList = (List.range 36).map sg := by decide +kernel
theorem signs_len : (Str.ofString "abcdefghijklmnopqrstuvwxyz0123456789").length ≤ sizeLine := by decide +kernel
theorem sign_at {i : Int} (h0 : 0 ≤ i) (h1 : i < 36) : atI (Str.ofString "abcdefghijklmnopqrstuvwxyz0123456789").cps.toList i = some (sg i.toNat) := by
  rw [signs_list]
  obtain ⟨n, rfl⟩ : ∃ n : Nat, i = (n : Int) := ⟨i.toNat, by omega⟩
  refine atI_nat ?_
  rw [List.getElem?_map, List.getElem?_range (by omega)]
  rfl
end OA

/-! ### what a law draws: places, labels, tags, lists, handed lists: the mathematics -/
namespace OA
open PySem L2
def quote (w : Str) : Str := Str.ofString "'" ++ w ++ Str.ofString "'"
def dot : Str := Str.ofString "."
/-- each place is a word, perhaps with another one and a dot ahead -/
def PlacesOf (ws ps : List Str) : Prop := ∀ (k : Nat) (p : Str), ps[k]? = some p → ∃ w, ws[k]? = some w ∧ (p = w ∨ ∃ u ∈ ws, p = u ++ dot ++ w)
theorem PlacesOf.nil (ws : List Str) : PlacesOf ws [] := fun k p h => by simp at h
theorem PlacesOf.snoc {ws ps : List Str} (h : PlacesOf ws ps) {w p : Str} (hw : ws[ps.length]? = some w) (hp : p = w ∨ ∃ u ∈ ws, p = u ++ dot ++ w) : PlacesOf ws (ps ++ [p]) := by
  intro k q hq
  by_cases hk : k < ps.length
  · rw [List.getElem?_append_left hk] at hq
    exact h k q hq
  · have hk2 : k < (ps ++ [p]).length := get_lt hq
    rw [List.length_append] at hk2
    have e : k = ps.length := by simp at hk2; omega
    subst e
    rw [List.getElem?_append_right (Nat.le_refl _)] at hq
    simp at hq
    subst hq
    exact ⟨w, hw, hp⟩
/-- of each k the first place with the same number -/
def FirstIx (ds : List Int) (k l : Nat) : Prop := ∃ d, ds[k]? = some d ∧ ds[l]? = some d ∧ ∀ m : Nat, m < l → ds[m]? ≠ some d
theorem first_ix : ∀ {ds : List Int} {d : Int}, d ∈ ds → ∃ l : Nat, ds[l]? = some d ∧ ∀ m : Nat, m < l → ds[m]? ≠ some d
  | x :: ds, d, h => by
    by_cases e : x = d
    · exact ⟨0, by rw [e]; rfl, fun m hm => absurd hm (Nat.not_lt_zero _)⟩
    · have h' : d ∈ ds := by
        rcases List.mem_cons.mp h with z | z
        · exact absurd z.symm e
        · exact z
      obtain ⟨l, h1, h2⟩ := first_ix h'
      refine ⟨l + 1, by simpa using h1, fun m hm => ?_⟩
      cases m with
      | zero => simp; exact e
      | succ m => simpa using h2 m (by omega)
/-- the labels: l[k] ≤ k, and l[l[k]] = l[k] -/
structure Labels (n : Nat) (ls : List Nat) : Prop where
  len : ls.length = n
  low : ∀ k l : Nat, ls[k]? = some l → l ≤ k ∧ ls[l]? = some l
theorem labels_of {ds : List Int} {ls : List Nat} (hl : ls.length = ds.length) (h : ∀ k l : Nat, ls[k]? = some l → FirstIx ds k l) : Labels ds.length ls := by
  refine ⟨hl, fun k l e => ?_⟩
  obtain ⟨d, h1, h2, h3⟩ := h k l e
  have le : l ≤ k := by
    by_cases z : l ≤ k
    · exact z
    · exact absurd h1 (h3 k (by omega))
  refine ⟨le, ?_⟩
  have hl2 : l < ls.length := by rw [hl]; exact get_lt h2
  obtain ⟨l', e'⟩ : ∃ l', ls[l]? = some l' := ⟨ls[l], by simp [hl2]⟩
  obtain ⟨d', g1, g2, g3⟩ := h l l' e'
  rw [h2] at g1
  cases g1
  have : l = l' := by
    rcases Nat.lt_trichotomy l l' with z | z | z
    · exact absurd h2 (g3 l z)
    · exact z
    · exact absurd g2 (h3 l' z)
  rw [e', ← this]
/-- the constants at the labels -/
structure Tags (ls : List Nat) (pool : List Str) (ts : List (Nat × Str)) : Prop where
  keys : (ts.map (·.1)).Nodup
  vals : (ts.map (·.2)).Nodup
  low : ∀ t ∈ ts, ls[t.1]? = some t.1
  pool : ∀ t ∈ ts, t.2 ∈ pool
theorem Tags.nil (ls : List Nat) (pool : List Str) : Tags ls pool [] := ⟨List.nodup_nil, List.nodup_nil, fun _ h => (by cases h), fun _ h => (by cases h)⟩
def tagL (ts : List (Nat × Str)) (k : Nat) : List Str := match ts.find? (fun t => t.1 == k) with
  | some t => [t.2]
  | none => []
abbrev tagKV (ts : List (Nat × Str)) : List (Key × V) := ts.map fun t => ((Sum.inl (t.1 : Int) : Key), V.str t.2)
theorem valV_tags (k : Nat) : ∀ ts : List (Nat × Str), valV (tagKV ts) (Sum.inl (k : Int) : Key) = (ts.find? fun t => t.1 == k).map fun t => V.str t.2
  | [] => rfl
  | t :: ts => by
    have ih := valV_tags k ts
    by_cases e : t.1 = k
    · have e1 : (Sum.inl (t.1 : Int) : Key) = Sum.inl (k : Int) := by rw [e]
      show valV ((Sum.inl (t.1 : Int), V.str t.2) :: tagKV ts) _ = _
      rw [valV_pos e1, List.find?_cons, beq_iff_eq.mpr e]
      rfl
    · have e1 : ¬ (Sum.inl (t.1 : Int) : Key) = Sum.inl (k : Int) := fun z => e (by injection z with z; omega)
      show valV ((Sum.inl (t.1 : Int), V.str t.2) :: tagKV ts) _ = _
      rw [valV_neg e1, ih, List.find?_cons, beq_eq_false_iff_ne.mpr e]
def blockOf (ps : List Str) (ls : List Nat) (ts : List (Nat × Str)) (k : Nat) : List Str := ((List.range ps.length).filter fun j => ls.getD j 0 == k).map (fun j => ps.getD j Str.empty) ++ tagL ts k
def listsOf (ps : List Str) (ls : List Nat) (ts : List (Nat × Str)) (i : Nat) : List (List Str) := ((List.range i).filter fun k => ls.getD k 0 == k).map (blockOf ps ls ts)
/-- lists handed in: parts of some, in any order, single ones left out or not -/
structure Handed (due hs : List (List Str)) : Prop where
  sub : ∀ h ∈ hs, ∃ b ∈ due, h.Perm b
  all : ∀ b ∈ due, 1 < b.length → ∃ h ∈ hs, h.Perm b
  nd : due.flatten.Nodup → hs.flatten.Nodup
  len : hs.length ≤ due.length
theorem handed_nil : Handed [] [] := ⟨fun _ h => (by cases h), fun _ h => (by cases h), fun h => h, Nat.le_refl _⟩
theorem Handed.skip {due hs : List (List Str)} {b : List Str} (h : Handed due hs) (hb : b.length ≤ 1) : Handed (due ++ [b]) hs := by
  refine ⟨fun x hx => ?_, fun x hx hl => ?_, fun hn => ?_, by rw [List.length_append]; exact Nat.le_trans h.len (Nat.le_add_right _ _)⟩
  · obtain ⟨y, hy, p⟩ := h.sub x hx
    exact ⟨y, List.mem_append_left _ hy, p⟩
  · rcases List.mem_append.mp hx with z | z
    · exact h.all x z hl
    · rw [List.mem_singleton.mp z] at hl
      omega
  · rw [List.flatten_append] at hn
    exact h.nd (List.nodup_append.mp hn).1
theorem Handed.mem {due hs : List (List Str)} (h : Handed due hs) {x : Str} (hx : x ∈ hs.flatten) : x ∈ due.flatten := by
  obtain ⟨l, hl, hxl⟩ := List.mem_flatten.mp hx
  obtain ⟨b, hb, p⟩ := h.sub l hl
  exact List.mem_flatten.mpr ⟨b, hb, p.mem_iff.mp hxl⟩
theorem Handed.put {due hs : List (List Str)} {b c : List Str} (h : Handed due hs) (hc : c.Perm b) : Handed (due ++ [b]) (hs ++ [c]) := by
  refine ⟨fun x hx => ?_, fun x hx hl => ?_, fun hn => ?_, by rw [List.length_append, List.length_append]; exact Nat.add_le_add_right h.len _⟩
  · rcases List.mem_append.mp hx with z | z
    · obtain ⟨y, hy, p⟩ := h.sub x z
      exact ⟨y, List.mem_append_left _ hy, p⟩
    · rw [List.mem_singleton.mp z]
      exact ⟨b, List.mem_append_right _ (List.mem_singleton.mpr rfl), hc⟩
  · rcases List.mem_append.mp hx with z | z
    · obtain ⟨y, hy, p⟩ := h.all x z hl
      exact ⟨y, List.mem_append_left _ hy, p⟩
    · rw [List.mem_singleton.mp z]
      exact ⟨c, List.mem_append_right _ (List.mem_singleton.mpr rfl), hc⟩
  · rw [List.flatten_append] at hn ⊢
    obtain ⟨n1, n2, n3⟩ := List.nodup_append.mp hn
    refine List.nodup_append.mpr ⟨h.nd n1, ?_, fun x hx y hy => ?_⟩
    · have e1 : [c].flatten = c := by simp
      have e2 : [b].flatten = b := by simp
      rw [e1]
      rw [e2] at n2
      exact hc.nodup_iff.mpr n2
    · have e1 : [c].flatten = c := by simp
      have e2 : [b].flatten = b := by simp
      rw [e1] at hy
      rw [e2] at n3
      exact n3 x (h.mem hx) y (hc.mem_iff.mp hy)
theorem Handed.perm {due hs hs' : List (List Str)} (h : Handed due hs) (p : hs'.Perm hs) : Handed due hs' := by
  refine ⟨fun x hx => h.sub x (p.mem_iff.mp hx), fun b hb hl => ?_, fun hn => ?_, by rw [p.length_eq]; exact h.len⟩
  · obtain ⟨y, hy, q⟩ := h.all b hb hl
    exact ⟨y, p.mem_iff.mpr hy, q⟩
  · exact (p.flatten).nodup_iff.mpr (h.nd hn)
theorem paired_perm {α β : Type} {F : α → β → Prop} : ∀ {as' as : List α}, as'.Perm as → ∀ {bs : List β}, Paired F as bs → ∃ bs', bs'.Perm bs ∧ Paired F as' bs' := by
  intro as' as p
  induction p with
  | nil => intro bs h; exact ⟨bs, List.Perm.refl _, h⟩
  | cons x _ ih =>
    intro bs h
    cases h with
    | cons h t =>
      obtain ⟨bs', q, r⟩ := ih t
      exact ⟨_ :: bs', q.cons _, .cons h r⟩
  | swap x y l =>
    intro bs h
    cases h with
    | cons h t =>
      cases t with
      | cons h2 t2 => exact ⟨_, List.Perm.swap _ _ _, .cons h2 (.cons h t2)⟩
  | trans _ _ ih1 ih2 =>
    intro bs h
    obtain ⟨b1, q1, r1⟩ := ih2 h
    obtain ⟨b2, q2, r2⟩ := ih1 r1
    exact ⟨b2, q2.trans q1, r2⟩
theorem paired_imp_mem {α β : Type} {F G : α → β → Prop} : ∀ {as : List α} {bs : List β}, Paired F as bs → (∀ a b, a ∈ as → F a b → G a b) → Paired G as bs
  | _, _, .nil, _ => .nil
  | _, _, .cons h t, f => .cons (f _ _ List.mem_cons_self h) (paired_imp_mem t fun a b ha => f a b (List.mem_cons_of_mem _ ha))
theorem paired_len {α β : Type} {F : α → β → Prop} {as : List α} {bs : List β} (h : Paired F as bs) : as.length = bs.length := Paired.length h
theorem paired_at {α β : Type} {F : α → β → Prop} {as : List α} {bs : List β} (h : Paired F as bs) {i : Nat} {a : α} (e : as[i]? = some a) : ∃ b, bs[i]? = some b ∧ F a b := LiI.paired_get h e
theorem perm_map_ref {xs : List V} {as : List Addr} (p : xs.Perm (as.map V.ref)) : ∃ as' : List Addr, xs = as'.map V.ref ∧ as'.Perm as := by
  refine ⟨xs.filterMap (fun v => match v with | .ref a => some a | _ => none), ?_, ?_⟩
  · have hall : ∀ v ∈ xs, ∃ a, v = V.ref a := fun v hv => by
      obtain ⟨a, _, e⟩ := List.mem_map.mp (p.mem_iff.mp hv)
      exact ⟨a, e.symm⟩
    clear p
    induction xs with
    | nil => rfl
    | cons v xs ih =>
      obtain ⟨a, rfl⟩ := hall v List.mem_cons_self
      rw [List.filterMap_cons]
      simp only [List.map_cons]
      rw [← ih fun u hu => hall u (List.mem_cons_of_mem _ hu)]
  · have q := p.filterMap (fun v => match v with | .ref a => some a | _ => none)
    have e : (as.map V.ref).filterMap (fun v => match v with | .ref a => some a | _ => none) = as := by
      clear q p
      induction as with
      | nil => rfl
      | cons a as ih => rw [List.map_cons, List.filterMap_cons]; simp only; rw [ih]
    rw [e] at q
    exact q
theorem perm_map_str {xs : List V} {as : List Str} (p : xs.Perm (as.map V.str)) : ∃ as' : List Str, xs = as'.map V.str ∧ as'.Perm as := by
  refine ⟨xs.filterMap (fun v => match v with | .str a => some a | _ => none), ?_, ?_⟩
  · have hall : ∀ v ∈ xs, ∃ a, v = V.str a := fun v hv => by
      obtain ⟨a, _, e⟩ := List.mem_map.mp (p.mem_iff.mp hv)
      exact ⟨a, e.symm⟩
    clear p
    induction xs with
    | nil => rfl
    | cons v xs ih =>
      obtain ⟨a, rfl⟩ := hall v List.mem_cons_self
      rw [List.filterMap_cons]
      simp only [List.map_cons]
      rw [← ih fun u hu => hall u (List.mem_cons_of_mem _ hu)]
  · have q := p.filterMap (fun v => match v with | .str a => some a | _ => none)
    have e : (as.map V.str).filterMap (fun v => match v with | .str a => some a | _ => none) = as := by
      clear q p
      induction as with
      | nil => rfl
      | cons a as ih => rw [List.map_cons, List.filterMap_cons]; simp only; rw [ih]
    rw [e] at q
    exact q
end OA

/-! ### patterns: the mathematics -/
namespace OA
open PySem L2
def signL : List Nat := (List.range 36).map sg
def isValB (z : Str) : Bool := decide (1 ≤ z.length) && decide (z.length ≤ 20) && z.cps.toList.all fun c => decide (c ∈ signL)
def isConB (z : Str) : Bool := decide (3 ≤ z.length) && (z.cps.toList.head? == some 39) && (z.cps.toList.getLast? == some 39) && isValB (cutS z (some 1) (some (-1)))
/-- check_blocks: the first wrong string, or what is known behind a list and how many constants it has -/
def chkB (ps : List Str) : List Str → List Str → Nat → Except Str (List Str × Nat)
  | [], kn, c => .ok (kn, c)
  | p :: r, kn, c => if isConB p = true then (if p ∈ kn ∨ 1 < c + 1 then .error p else chkB ps r (kn ++ [p]) (c + 1))
    else if p ∈ ps then (if p ∈ kn ∨ 1 < c then .error p else chkB ps r (kn ++ [p]) c) else .error p
def chkBs (ps : List Str) : List (List Str) → List Str → Except Str Unit
  | [], _ => .ok ()
  | b :: r, kn => match chkB ps b kn 0 with
    | .error e => .error e
    | .ok (kn', c) => if b.length = c then .error Str.empty else chkBs ps r kn'
def ordB (ps b : List Str) : List Str := ps.filter (fun p => decide (p ∈ b)) ++ b.filter (fun p => !decide (p ∈ ps))
def blkFor (ps : List Str) (bs : List (List Str)) (p : Str) : List Str := bs.foldl (fun acc o => if p ∈ o then ordB ps o else acc) [p]
def ordStep (ps : List Str) (bs : List (List Str)) (fd : List (List Str) × List Str) (p : Str) : List (List Str) × List Str := if p ∈ fd.2 then fd else (fd.1 ++ [blkFor ps bs p], fd.2 ++ blkFor ps bs p)
def ordBs (ps : List Str) (bs : List (List Str)) : List (List Str) := (ps.foldl (ordStep ps bs) ([], [])).1
abbrev nCon (b : List Str) : Nat := b.countP isConB
theorem chkB_ok {ps : List Str} : ∀ {r kn : List Str} {c : Nat}, (∀ x ∈ r, isConB x = true ∨ x ∈ ps) → (kn ++ r).Nodup → c + nCon r ≤ 1 → chkB ps r kn c = .ok (kn ++ r, c + nCon r)
  | [], kn, c, _, _, _ => by simp [chkB]
  | p :: r, kn, c, h, hn, hc => by
    have hp : p ∉ kn := fun z => by
      have := (List.nodup_append.mp hn).2.2 p z p List.mem_cons_self
      exact this rfl
    have hn' : (kn ++ [p] ++ r).Nodup := by rw [List.append_assoc]; exact hn
    have h' : ∀ x ∈ r, isConB x = true ∨ x ∈ ps := fun x hx => h x (List.mem_cons_of_mem _ hx)
    unfold chkB
    by_cases e : isConB p = true
    · have en : nCon (p :: r) = nCon r + 1 := by simp [nCon, List.countP_cons, e]
      rw [if_pos e, if_neg (by rintro (z | z); exact hp z; omega), chkB_ok h' hn' (by omega), List.append_assoc]
      congr 2
      omega
    · have en : nCon (p :: r) = nCon r := by simp [nCon, List.countP_cons, e]
      have hps : p ∈ ps := by
        rcases h p List.mem_cons_self with z | z
        · exact absurd z e
        · exact z
      rw [if_neg e, if_pos hps, if_neg (by rintro (z | z); exact hp z; omega), chkB_ok h' hn' (by omega), List.append_assoc, en]
      rfl
theorem chkBs_ok {ps : List Str} : ∀ {bs : List (List Str)} {kn : List Str}, (∀ b ∈ bs, (∀ x ∈ b, isConB x = true ∨ x ∈ ps) ∧ nCon b ≤ 1 ∧ nCon b < b.length) → (kn ++ bs.flatten).Nodup → chkBs ps bs kn = .ok ()
  | [], kn, _, _ => rfl
  | b :: r, kn, h, hn => by
    obtain ⟨h1, h2, h3⟩ := h b List.mem_cons_self
    rw [List.flatten_cons, ← List.append_assoc] at hn
    unfold chkBs
    rw [chkB_ok h1 (List.nodup_append.mp hn).1 (by omega)]
    show (if b.length = 0 + nCon b then _ else _) = _
    rw [if_neg (by omega)]
    exact chkBs_ok (fun x hx => h x (List.mem_cons_of_mem _ hx)) hn

/-! ### a drawn pattern -/
structure Drawn (ps : List Str) (ls : List Nat) (ts : List (Nat × Str)) : Prop where
  nd : ps.Nodup
  plain : ∀ p ∈ ps, isConB p = false
  lab : Labels ps.length ls
  keys : (ts.map (·.1)).Nodup
  vals : (ts.map (·.2)).Nodup
  con : ∀ t ∈ ts, isConB t.2 = true
section
variable {ps : List Str} {ls : List Nat} {ts : List (Nat × Str)}
abbrev due (ps : List Str) (ls : List Nat) (ts : List (Nat × Str)) : List (List Str) := listsOf ps ls ts ps.length
theorem tagL_mem {k : Nat} {x : Str} (h : x ∈ tagL ts k) : (k, x) ∈ ts := by
  unfold tagL at h
  split at h
  · rename_i t e
    have h1 := List.mem_of_find?_eq_some e
    have h2 := List.find?_some e
    simp at h2
    rw [List.mem_singleton.mp h, ← h2]
    exact h1
  · cases h
theorem tagL_len {k : Nat} : (tagL ts k).length ≤ 1 := by
  unfold tagL
  split
  · exact Nat.le_refl _
  · exact Nat.zero_le _
theorem Drawn.tag_con (d : Drawn ps ls ts) {k : Nat} {x : Str} (h : x ∈ tagL ts k) : isConB x = true := d.con _ (tagL_mem h)
theorem Drawn.tag_out (d : Drawn ps ls ts) {k : Nat} {x : Str} (h : x ∈ tagL ts k) : x ∉ ps := fun hp => by
  have h1 := d.tag_con h
  rw [d.plain x hp] at h1
  cases h1
def posOf (ps : List Str) (ls : List Nat) (k : Nat) : List Str := ((List.range ps.length).filter fun j => ls.getD j 0 == k).map (fun j => ps.getD j Str.empty)
theorem blockOf_eq (k : Nat) : blockOf ps ls ts k = posOf ps ls k ++ tagL ts k := rfl
theorem pos_mem {k : Nat} {x : Str} : x ∈ posOf ps ls k ↔ ∃ j, ps[j]? = some x ∧ ls.getD j 0 = k := by
  unfold posOf
  rw [List.mem_map]
  constructor
  · rintro ⟨j, hj, e⟩
    obtain ⟨h1, h2⟩ := List.mem_filter.mp hj
    have hlt := List.mem_range.mp h1
    refine ⟨j, ?_, beq_iff_eq.mp h2⟩
    rw [← e]
    simp [List.getD, hlt]
  · rintro ⟨j, hj, e⟩
    refine ⟨j, List.mem_filter.mpr ⟨List.mem_range.mpr (get_lt hj), beq_iff_eq.mpr e⟩, ?_⟩
    simp [List.getD, hj]
theorem pos_sub {k : Nat} {x : Str} (h : x ∈ posOf ps ls k) : x ∈ ps := by
  obtain ⟨j, hj, _⟩ := pos_mem.mp h
  exact List.mem_of_getElem? hj
theorem pos_filter : ∀ (ps : List Str) (q : Nat → Bool) , ps.Nodup → ((List.range ps.length).filter q).map (fun j => ps.getD j Str.empty) = ps.filter (fun p => decide (p ∈ ((List.range ps.length).filter q).map (fun j => ps.getD j Str.empty))) := by
  intro ps q nd
  have e0 : ps = (List.range ps.length).map (fun j => ps.getD j Str.empty) := by
    apply List.ext_getElem?
    intro i
    by_cases hi : i < ps.length
    · simp [List.getD, hi]
    · simp [hi]
  have h : ∀ j, j < ps.length → ((decide (ps.getD j Str.empty ∈ ((List.range ps.length).filter q).map (fun j => ps.getD j Str.empty))) = q j) := by
    intro j hj
    by_cases hq : q j = true
    · rw [hq]
      exact decide_eq_true (List.mem_map.mpr ⟨j, List.mem_filter.mpr ⟨List.mem_range.mpr hj, hq⟩, rfl⟩)
    · have hq' : q j = false := by simpa using hq
      rw [hq']
      refine decide_eq_false fun hm => ?_
      obtain ⟨i, hi, e⟩ := List.mem_map.mp hm
      obtain ⟨h1, h2⟩ := List.mem_filter.mp hi
      have hil := List.mem_range.mp h1
      have : i = j := by
        have a1 : ps[i]? = some (ps.getD j Str.empty) := by rw [← e]; simp [List.getD, hil]
        have a2 : ps[j]? = some (ps.getD j Str.empty) := by simp [List.getD, hj]
        exact nd_ix nd a1 a2
      rw [this, hq'] at h2
      cases h2
  conv => rhs; rw [e0]
  rw [List.filter_map]
  congr 1
  refine List.filter_congr fun j hj => ?_
  have := h j (List.mem_range.mp hj)
  simp only [Function.comp]
  have e1 : (List.map (fun j => ps.getD j Str.empty) (List.range ps.length)) = ps := e0.symm
  rw [e1]
  exact this.symm
theorem Drawn.pos_is (d : Drawn ps ls ts) (k : Nat) : posOf ps ls k = ps.filter (fun p => decide (p ∈ posOf ps ls k)) := pos_filter ps (fun j => ls.getD j 0 == k) d.nd
/-- the k of a member -/
theorem Drawn.one (d : Drawn ps ls ts) {k k' : Nat} {x : Str} (h : x ∈ blockOf ps ls ts k) (h' : x ∈ blockOf ps ls ts k') : k = k' := by
  rw [blockOf_eq] at h h'
  rcases List.mem_append.mp h with z | z <;> rcases List.mem_append.mp h' with z' | z'
  · obtain ⟨j, hj, e⟩ := pos_mem.mp z
    obtain ⟨j', hj', e'⟩ := pos_mem.mp z'
    have := nd_ix d.nd hj hj'
    subst this
    rw [← e, ← e']
  · exact absurd (pos_sub z) (d.tag_out z')
  · exact absurd (pos_sub z') (d.tag_out z)
  · have h1 := tagL_mem z
    have h2 := tagL_mem z'
    obtain ⟨i, hi⟩ := List.getElem?_of_mem h1
    obtain ⟨j, hj⟩ := List.getElem?_of_mem h2
    have a : (ts.map (·.2))[i]? = some x := by rw [List.getElem?_map, hi]; rfl
    have b : (ts.map (·.2))[j]? = some x := by rw [List.getElem?_map, hj]; rfl
    have := nd_ix d.vals a b
    subst this
    rw [hi] at hj
    cases hj
    rfl
theorem Drawn.block_nd (d : Drawn ps ls ts) (k : Nat) : (blockOf ps ls ts k).Nodup := by
  rw [blockOf_eq]
  refine List.nodup_append.mpr ⟨?_, ?_, fun x hx y hy => ?_⟩
  · rw [d.pos_is k]
    exact d.nd.filter _
  · have := tagL_len (ts := ts) (k := k)
    cases e : tagL ts k with
    | nil => exact List.nodup_nil
    | cons a r =>
      rw [e] at this
      have : r = [] := List.eq_nil_of_length_eq_zero (by simpa using this)
      rw [this]
      simp
  · intro e
    subst e
    exact d.tag_out hy (pos_sub hx)
theorem due_mem {b : List Str} {i : Nat} : b ∈ listsOf ps ls ts i ↔ ∃ k, k < i ∧ ls.getD k 0 = k ∧ b = blockOf ps ls ts k := by
  unfold listsOf
  rw [List.mem_map]
  constructor
  · rintro ⟨k, hk, e⟩
    obtain ⟨h1, h2⟩ := List.mem_filter.mp hk
    exact ⟨k, List.mem_range.mp h1, beq_iff_eq.mp h2, e.symm⟩
  · rintro ⟨k, h1, h2, e⟩
    exact ⟨k, List.mem_filter.mpr ⟨List.mem_range.mpr h1, beq_iff_eq.mpr h2⟩, e.symm⟩
theorem Drawn.due_nd (d : Drawn ps ls ts) (i : Nat) : (listsOf ps ls ts i).flatten.Nodup := by
  unfold List.Nodup
  rw [List.pairwise_flatten]
  refine ⟨fun l hl => ?_, ?_⟩
  · obtain ⟨k, _, _, e⟩ := due_mem.mp hl
    rw [e]
    exact d.block_nd k
  · unfold listsOf
    rw [List.pairwise_map]
    refine List.Pairwise.imp (fun {a b} hab => ?_) (List.nodup_range.filter (fun k => ls.getD k 0 == k))
    intro x hx y hy e
    subst e
    exact hab (d.one hx hy)
theorem Drawn.lab_at (d : Drawn ps ls ts) {i : Nat} (hi : i < ps.length) : ls.getD i 0 ≤ i ∧ ls.getD (ls.getD i 0) 0 = ls.getD i 0 := by
  have hl : i < ls.length := by rw [d.lab.len]; exact hi
  have e : ls[i]? = some (ls.getD i 0) := by simp [List.getD, hl]
  obtain ⟨h1, h2⟩ := d.lab.low i _ e
  refine ⟨h1, ?_⟩
  generalize hm : ls.getD i 0 = m at h2
  simp [List.getD, h2]
theorem Drawn.self_in (d : Drawn ps ls ts) {i : Nat} {p : Str} (hp : ps[i]? = some p) : p ∈ blockOf ps ls ts (ls.getD i 0) := by
  rw [blockOf_eq]
  exact List.mem_append_left _ (pos_mem.mpr ⟨i, hp, rfl⟩)
theorem filter_perm_one {α : Type} {l m : List α} (h : l.Perm m) (q : α → Bool) (hm : (m.filter q).length ≤ 1) : l.filter q = m.filter q := by
  have p := h.filter q
  cases e : m.filter q with
  | nil => rw [e] at p; exact p.eq_nil
  | cons a r =>
    rw [e] at p hm
    have : r = [] := List.eq_nil_of_length_eq_zero (by simpa using hm)
    subst this
    exact List.perm_singleton.mp p
theorem Drawn.out_tag (d : Drawn ps ls ts) (k : Nat) : (blockOf ps ls ts k).filter (fun p => !decide (p ∈ ps)) = tagL ts k := by
  rw [blockOf_eq, List.filter_append]
  have e1 : (posOf ps ls k).filter (fun p => !decide (p ∈ ps)) = [] := by
    rw [List.filter_eq_nil_iff]
    intro x hx
    simp [pos_sub hx]
  have e2 : (tagL ts k).filter (fun p => !decide (p ∈ ps)) = tagL ts k := by
    rw [List.filter_eq_self]
    intro x hx
    simp [d.tag_out hx]
  rw [e1, e2]
  rfl
theorem Drawn.ord_self (d : Drawn ps ls ts) {k : Nat} {h : List Str} (p : h.Perm (blockOf ps ls ts k)) : ordB ps h = blockOf ps ls ts k := by
  unfold ordB
  have e1 : ps.filter (fun x => decide (x ∈ h)) = posOf ps ls k := by
    rw [d.pos_is k]
    refine List.filter_congr fun x hx => ?_
    have : x ∈ h ↔ x ∈ posOf ps ls k := by
      rw [p.mem_iff, blockOf_eq, List.mem_append]
      constructor
      · rintro (z | z)
        · exact z
        · exact absurd hx (d.tag_out z)
      · exact Or.inl
    exact decide_eq_decide.mpr this
  have e2 : h.filter (fun x => !decide (x ∈ ps)) = tagL ts k := by
    rw [filter_perm_one p _ (by rw [d.out_tag]; exact tagL_len), d.out_tag]
  rw [e1, e2, blockOf_eq]
theorem foldl_last {α β : Type} (q : β → Prop) [DecidablePred q] (f : β → α) (v : α) : ∀ (bs : List β) (a : α), (∀ b ∈ bs, q b → f b = v) → (∃ b ∈ bs, q b) ∨ a = v → bs.foldl (fun acc o => if q o then f o else acc) a = v
  | [], a, _, h => by
    rcases h with ⟨b, hb, _⟩ | h
    · cases hb
    · exact h
  | b :: bs, a, h1, h2 => by
    rw [List.foldl_cons]
    refine foldl_last q f v bs _ (fun x hx => h1 x (List.mem_cons_of_mem _ hx)) ?_
    by_cases hb : q b
    · rw [if_pos hb]
      exact .inr (h1 b List.mem_cons_self hb)
    · rw [if_neg hb]
      rcases h2 with ⟨x, hx, hq⟩ | h2
      · rcases List.mem_cons.mp hx with z | z
        · rw [z] at hq; exact absurd hq hb
        · exact .inl ⟨x, z, hq⟩
      · exact .inr h2
theorem Drawn.blk_for (d : Drawn ps ls ts) {hs : List (List Str)} (H : Handed (due ps ls ts) hs) {i : Nat} {p : Str} (hp : ps[i]? = some p) (hi : ls.getD i 0 = i) : blkFor ps hs p = blockOf ps ls ts i := by
  have hil := get_lt hp
  have hin : p ∈ blockOf ps ls ts i := by have := d.self_in hp; rw [hi] at this; exact this
  have hb : blockOf ps ls ts i ∈ due ps ls ts := due_mem.mpr ⟨i, hil, hi, rfl⟩
  unfold blkFor
  refine foldl_last (fun o => p ∈ o) (ordB ps) (blockOf ps ls ts i) hs [p] (fun h hh hph => ?_) ?_
  · obtain ⟨b, hbd, pm⟩ := H.sub h hh
    obtain ⟨k, _, _, e⟩ := due_mem.mp hbd
    rw [e] at pm
    have : k = i := d.one (pm.mem_iff.mp hph) hin
    rw [this] at pm
    exact d.ord_self pm
  · by_cases hl : 1 < (blockOf ps ls ts i).length
    · obtain ⟨h, hh, pm⟩ := H.all _ hb hl
      exact .inl ⟨h, hh, pm.mem_iff.mpr hin⟩
    · right
      cases e : blockOf ps ls ts i with
      | nil => rw [e] at hin; cases hin
      | cons a r =>
        rw [e] at hl hin
        have : r = [] := List.eq_nil_of_length_eq_zero (by rw [List.length_cons] at hl; omega)
        subst this
        rw [List.mem_singleton.mp hin]
theorem Drawn.ord_take (d : Drawn ps ls ts) {hs : List (List Str)} (H : Handed (due ps ls ts) hs) : ∀ i, i ≤ ps.length → (ps.take i).foldl (ordStep ps hs) ([], []) = (listsOf ps ls ts i, (listsOf ps ls ts i).flatten)
  | 0, _ => rfl
  | i + 1, h => by
    have hi : i < ps.length := h
    obtain ⟨p, hp⟩ : ∃ p, ps[i]? = some p := ⟨ps[i], by simp [hi]⟩
    obtain ⟨l1, l2⟩ := d.lab_at hi
    rw [take_more hp, List.foldl_append, d.ord_take H i (by omega)]
    show ordStep ps hs (listsOf ps ls ts i, (listsOf ps ls ts i).flatten) p = _
    have hsucc : listsOf ps ls ts (i + 1) = if (ls.getD i 0 == i) = true then listsOf ps ls ts i ++ [blockOf ps ls ts i] else listsOf ps ls ts i := by
      unfold listsOf
      rw [List.range_succ, List.filter_append]
      split
      · rename_i h
        have e : [i].filter (fun k => ls.getD k 0 == k) = [i] := by rw [List.filter_cons, if_pos h]; rfl
        rw [e, List.map_append]
        rfl
      · rename_i h
        have e : [i].filter (fun k => ls.getD k 0 == k) = [] := by rw [List.filter_cons, if_neg h]; rfl
        rw [e, List.append_nil]
    unfold ordStep
    by_cases hli : ls.getD i 0 = i
    · have hnot : ¬ p ∈ (listsOf ps ls ts i).flatten := fun hm => by
        obtain ⟨b, hb, hpb⟩ := List.mem_flatten.mp hm
        obtain ⟨k, hk, _, e⟩ := due_mem.mp hb
        rw [e] at hpb
        have := d.one hpb (d.self_in hp)
        omega
      rw [if_neg hnot, d.blk_for H hp hli, hsucc, if_pos (beq_iff_eq.mpr hli), List.flatten_append]
      simp
    · have hin : p ∈ (listsOf ps ls ts i).flatten := by
        refine List.mem_flatten.mpr ⟨blockOf ps ls ts (ls.getD i 0), due_mem.mpr ⟨ls.getD i 0, by omega, l2, rfl⟩, d.self_in hp⟩
      rw [if_pos hin, hsucc, if_neg (by simpa using hli)]
theorem Drawn.ord_all (d : Drawn ps ls ts) {hs : List (List Str)} (H : Handed (due ps ls ts) hs) : ordBs ps hs = due ps ls ts := by
  have := d.ord_take H ps.length (Nat.le_refl _)
  rw [List.take_length] at this
  unfold ordBs
  rw [this]
theorem Drawn.block_ok (d : Drawn ps ls ts) {k : Nat} (hk : k < ps.length) (hl : ls.getD k 0 = k) : (∀ x ∈ blockOf ps ls ts k, isConB x = true ∨ x ∈ ps) ∧ nCon (blockOf ps ls ts k) ≤ 1 ∧ nCon (blockOf ps ls ts k) < (blockOf ps ls ts k).length := by
  have e0 : (posOf ps ls k).countP isConB = 0 := by
    rw [List.countP_eq_zero]
    intro x hx
    rw [d.plain x (pos_sub hx)]
    exact Bool.false_ne_true
  have e1 : nCon (blockOf ps ls ts k) ≤ (tagL ts k).length := by
    show (blockOf ps ls ts k).countP isConB ≤ _
    rw [blockOf_eq, List.countP_append, e0, Nat.zero_add]
    exact List.countP_le_length
  have hne : 0 < (posOf ps ls k).length := by
    obtain ⟨p, hp⟩ : ∃ p, ps[k]? = some p := ⟨ps[k], by simp [hk]⟩
    exact List.length_pos_of_mem (pos_mem.mpr ⟨k, hp, hl⟩)
  have e2 := tagL_len (ts := ts) (k := k)
  refine ⟨fun x hx => ?_, by omega, ?_⟩
  · rw [blockOf_eq] at hx
    rcases List.mem_append.mp hx with z | z
    · exact .inr (pos_sub z)
    · exact .inl (d.tag_con z)
  · rw [blockOf_eq, List.length_append]
    rw [blockOf_eq] at e1
    omega
theorem Drawn.chk (d : Drawn ps ls ts) {hs : List (List Str)} (H : Handed (due ps ls ts) hs) : chkBs ps hs [] = .ok () := by
  refine chkBs_ok (fun h hh => ?_) (by rw [List.nil_append]; exact H.nd (d.due_nd _))
  obtain ⟨b, hb, pm⟩ := H.sub h hh
  obtain ⟨k, hk, hl, e⟩ := due_mem.mp hb
  obtain ⟨h1, h2, h3⟩ := d.block_ok hk hl
  rw [← e] at h1 h2 h3
  refine ⟨fun x hx => h1 x (pm.mem_iff.mp hx), ?_, ?_⟩
  · show h.countP isConB ≤ 1
    rw [pm.countP_eq]; exact h2
  · show h.countP isConB < h.length
    rw [pm.countP_eq, pm.length_eq]; exact h3
end
/-! ### words, places and constants -/
theorem dot_list : dot.cps.toList = [46] := by decide +kernel
theorem quote_list (w : Str) : (quote w).cps.toList = 39 :: (w.cps.toList ++ [39]) := by
  unfold quote
  rw [app_list, app_list]
  rfl
theorem cut_quote (w : Str) : cutS (quote w) (some 1) (some (-1)) = w := by
  have hl : (quote w).length = w.length + 2 := by rw [len_list, quote_list, len_list]; simp
  refine str_ext ?_
  unfold cutS
  have e1 : HT.sIx (quote w).length 0 (some 1) = 1 := by rw [hl]; simp [HT.sIx]
  have e2 : HT.sIx (quote w).length (quote w).length (some (-1)) = w.length + 1 := by rw [hl]; simp [HT.sIx]; omega
  rw [e1, e2, quote_list]
  simp [len_list]
theorem alnum_sign {c : Nat} (h : Alnum c) : c ∈ signL := by
  unfold signL
  rw [List.mem_map]
  rcases h with h | h
  · exact ⟨c - 97, List.mem_range.mpr (by unfold Low at h; omega), by unfold sg; unfold Low at h; rw [if_pos (by omega)]; omega⟩
  · exact ⟨c - 22, List.mem_range.mpr (by omega), by unfold sg; rw [if_neg (by omega)]; omega⟩
theorem name_val {w : Str} (h : Name 20 w) : isValB w = true := by
  unfold isValB
  obtain ⟨c, r, e, _⟩ := h.first
  have h1 : 1 ≤ w.length := by rw [len_list, e]; simp
  have h2 := h.len
  have h3 : (w.cps.toList.all fun c => decide (c ∈ signL)) = true := List.all_eq_true.mpr fun c hc => decide_eq_true (alnum_sign (h.all c hc))
  rw [decide_eq_true h1, decide_eq_true h2, h3]
  rfl
theorem con_quote {w : Str} (h : Name 20 w) : isConB (quote w) = true := by
  unfold isConB
  obtain ⟨c, r, e, _⟩ := h.first
  have h1 : 3 ≤ (quote w).length := by rw [len_list, quote_list, e]; simp
  rw [cut_quote, name_val h, decide_eq_true h1, quote_list]
  have : (39 :: (w.cps.toList ++ [39])).getLast? = some 39 := by
    rw [← List.cons_append, List.getLast?_append]
    rfl
  rw [this]
  rfl
theorem not_con {z : Str} {c : Nat} {r : List Nat} (e : z.cps.toList = c :: r) (h : Low c) : isConB z = false := by
  unfold isConB
  rw [e]
  have : ((c :: r).head? == some 39) = false := by
    show (some c == some 39) = false
    unfold Low at h
    exact beq_eq_false_iff_ne.mpr (fun z => by injection z; omega)
  rw [this]
  simp
theorem quote_inj {a b : Str} (h : quote a = quote b) : a = b := by
  have := congrArg (fun z : Str => z.cps.toList) h
  simp only [quote_list] at this
  injection this with _ h2
  exact str_ext (List.append_cancel_right h2)
theorem place_first {ws ps : List Str} (hw : Words 12 16 ws) (hp : PlacesOf ws ps) {p : Str} (h : p ∈ ps) : ∃ c r, p.cps.toList = c :: r ∧ Low c := by
  obtain ⟨k, hk⟩ := List.getElem?_of_mem h
  obtain ⟨w, hwk, e | ⟨u, hu, e⟩⟩ := hp k p hk
  · rw [e]; exact (hw.all w (List.mem_of_getElem? hwk)).first
  · obtain ⟨c, r, e1, e2⟩ := (hw.all u hu).first
    rw [e, app_list, app_list, e1]
    exact ⟨c, _, rfl, e2⟩
theorem place_asc {ws ps : List Str} (hw : Words 12 16 ws) (hp : PlacesOf ws ps) {p : Str} (h : p ∈ ps) : Asc p := by
  obtain ⟨k, hk⟩ := List.getElem?_of_mem h
  obtain ⟨w, hwk, e | ⟨u, hu, e⟩⟩ := hp k p hk
  · rw [e]; exact (hw.all w (List.mem_of_getElem? hwk)).asc
  · intro c hc
    rw [e, app_list, app_list] at hc
    rcases List.mem_append.mp hc with z | z
    · rcases List.mem_append.mp z with z | z
      · exact (hw.all u hu).asc c z
      · rw [dot_list] at z
        have := List.mem_singleton.mp z
        omega
    · exact (hw.all w (List.mem_of_getElem? hwk)).asc c z
theorem place_len {ws ps : List Str} (hw : Words 12 16 ws) (hp : PlacesOf ws ps) {p : Str} (h : p ∈ ps) : p.length ≤ 25 := by
  obtain ⟨k, hk⟩ := List.getElem?_of_mem h
  obtain ⟨w, hwk, e | ⟨u, hu, e⟩⟩ := hp k p hk
  · rw [e]; have := (hw.all w (List.mem_of_getElem? hwk)).len; omega
  · have h1 := (hw.all w (List.mem_of_getElem? hwk)).len
    have h2 := (hw.all u hu).len
    rw [e, app_len, app_len]
    show u.length + 1 + w.length ≤ 25
    omega
theorem nodot {m : Nat} {w : Str} (h : Name m w) : 46 ∉ w.cps.toList := fun z => by
  have := h.all 46 z
  unfold Alnum Low at this
  omega
/-- the last part behind dots -/
theorem tail_eq : ∀ {a b x y : List Nat}, 46 ∉ x → 46 ∉ y → a ++ 46 :: x = b ++ 46 :: y → x = y
  | [], [], x, y, _, _, h => by simpa using h
  | [], c :: b, x, y, hx, _, h => by
    exfalso
    simp only [List.nil_append, List.cons_append] at h
    injection h with _ h
    exact hx (by rw [h]; simp)
  | c :: a, [], x, y, _, hy, h => by
    exfalso
    simp only [List.nil_append, List.cons_append] at h
    injection h with _ h
    exact hy (by rw [← h]; simp)
  | c :: a, d :: b, x, y, hx, hy, h => by
    simp only [List.cons_append] at h
    injection h with _ h
    exact tail_eq hx hy h
theorem places_nd {ws ps : List Str} (hw : Words 12 16 ws) (hp : PlacesOf ws ps) : ps.Nodup := by
  rw [List.nodup_iff_pairwise_ne, List.pairwise_iff_getElem]
  intro i j hi hj hij e
  have ei : ps[i]? = some ps[i] := by simp [hi]
  have ej : ps[j]? = some ps[i] := by rw [e]; simp [hj]
  obtain ⟨w, hwi, h1⟩ := hp i _ ei
  obtain ⟨v, hvj, h2⟩ := hp j _ ej
  have hwn := hw.all w (List.mem_of_getElem? hwi)
  have hvn := hw.all v (List.mem_of_getElem? hvj)
  have : w = v := by
    rcases h1 with h1 | ⟨u, hu, h1⟩ <;> rcases h2 with h2 | ⟨u', hu', h2⟩
    · rw [← h1, h2]
    · exfalso
      rw [h1] at h2
      refine nodot hwn ?_
      rw [h2, app_list, app_list, dot_list]
      simp
    · exfalso
      rw [h2] at h1
      refine nodot hvn ?_
      rw [h1, app_list, app_list, dot_list]
      simp
    · rw [h1] at h2
      have h3 := congrArg (fun z : Str => z.cps.toList) h2
      simp only [app_list, dot_list] at h3
      rw [List.append_assoc, List.append_assoc] at h3
      exact str_ext (tail_eq (nodot hwn) (nodot hvn) h3)
  subst this
  have := nd_ix hw.nd hwi hvj
  omega
theorem drawn_of {ws ps cs : List Str} {ls : List Nat} {ts : List (Nat × Str)} {n : Nat} (hw : Words 12 16 ws) (hp : PlacesOf ws ps) (hc : Words 20 n cs) (hl : Labels ps.length ls) (ht : Tags ls (cs.map quote) ts) : Drawn ps ls ts :=
  ⟨places_nd hw hp, fun p h => by obtain ⟨c, r, e, hl⟩ := place_first hw hp h; exact not_con e hl, hl, ht.keys, ht.vals, fun t h => by
    obtain ⟨w, hw', e⟩ := List.mem_map.mp (ht.pool t h)
    rw [← e]
    exact con_quote (hc.all w hw')⟩
theorem quote_asc {w : Str} (h : Asc w) : Asc (quote w) := fun c hc => by
  rw [quote_list] at hc
  rcases List.mem_cons.mp hc with z | z
  · omega
  · rcases List.mem_append.mp z with z | z
    · exact h c z
    · have := List.mem_singleton.mp z
      omega
end OA

/-! ### bounds of what is drawn -/
namespace OA
open PySem L2
def AscL (bs : List (List Str)) : Prop := ∀ b ∈ bs, ∀ x ∈ b, Asc x
structure DueOk (ps : List Str) (bs : List (List Str)) : Prop where
  asc : AscL bs
  len : bs.length ≤ ps.length
  blen : ∀ b ∈ bs, b.length ≤ ps.length + 1
  xlen : ∀ b ∈ bs, ∀ x ∈ b, x.length ≤ 100
  ne : 1 ≤ ps.length → bs ≠ []
theorem posOf_len {ps : List Str} {ls : List Nat} {k : Nat} : (posOf ps ls k).length ≤ ps.length := by
  unfold posOf
  have := List.length_filter_le (fun j => ls.getD j 0 == k) (List.range ps.length)
  rw [List.length_range] at this
  rw [List.length_map]
  exact this
theorem due_ok {ws ps cs : List Str} {ls : List Nat} {ts : List (Nat × Str)} {n : Nat} (hw : Words 12 16 ws) (hp : PlacesOf ws ps) (hc : Words 20 n cs) (hl : Labels ps.length ls) (ht : Tags ls (cs.map quote) ts) : DueOk ps (due ps ls ts) := by
  have dr := drawn_of hw hp hc hl ht
  have hcasc : ∀ c ∈ cs.map quote, Asc c := fun c h => by
    obtain ⟨z, hz, e⟩ := List.mem_map.mp h
    rw [← e]
    exact quote_asc (hc.all z hz).asc
  refine ⟨fun b hb x hx => ?_, ?_, fun b hb => ?_, fun b hb x hx => ?_, fun h0 z => ?_⟩
  · obtain ⟨kk, _, _, e⟩ := due_mem.mp hb
    rw [e, blockOf_eq] at hx
    rcases List.mem_append.mp hx with z | z
    · exact place_asc hw hp (pos_sub z)
    · exact hcasc x (ht.pool _ (tagL_mem z))
  · unfold due listsOf
    have := List.length_filter_le (fun k => ls.getD k 0 == k) (List.range ps.length)
    rw [List.length_range] at this
    rw [List.length_map]
    exact this
  · obtain ⟨kk, _, _, e⟩ := due_mem.mp hb
    have h1 := tagL_len (ts := ts) (k := kk)
    have h2 := posOf_len (ps := ps) (ls := ls) (k := kk)
    rw [e, blockOf_eq, List.length_append]
    omega
  · obtain ⟨kk, _, _, e⟩ := due_mem.mp hb
    rw [e, blockOf_eq] at hx
    rcases List.mem_append.mp hx with z | z
    · have := place_len hw hp (pos_sub z)
      omega
    · obtain ⟨w', hw', e'⟩ := List.mem_map.mp (ht.pool _ (tagL_mem z))
      have h1 := (hc.all w' hw').len
      have e'' : quote w' = x := e'
      rw [← e'', len_list, quote_list]
      rw [len_list] at h1
      rw [List.length_cons, List.length_append]
      show _ + 1 + 1 ≤ _
      omega
  · have hlab := dr.lab_at h0
    have : blockOf ps ls ts 0 ∈ due ps ls ts := due_mem.mpr ⟨0, h0, by omega, rfl⟩
    rw [z] at this
    cases this
theorem Handed.asc {ps : List Str} {bs hs : List (List Str)} (d : DueOk ps bs) (H : Handed bs hs) : AscL hs := fun h hh x hx => by
  obtain ⟨b, hb, pm⟩ := H.sub h hh
  exact d.asc b hb x (pm.mem_iff.mp hx)
def strOf (bs : List (List Str)) : Str := Txt.join (Str.ofString "; ") (bs.map (Txt.join (Str.ofString " = ")))
theorem joinL_len {S : List Nat} : ∀ ps : List (List Nat), (TL.joinL S ps).length ≤ (ps.map (·.length)).sum + ps.length * S.length
  | [] => by simp [TL.joinL]
  | [p] => by simp [TL.joinL]
  | p :: q :: r => by
    have ih := joinL_len (S := S) (q :: r)
    show (p ++ (S ++ TL.joinL S (q :: r))).length ≤ _
    rw [List.length_append, List.length_append, List.map_cons, List.sum_cons, List.length_cons, Nat.add_mul]
    omega
theorem join_len (y : Str) (parts : List Str) : (Txt.join y parts).length ≤ (parts.map (·.length)).sum + parts.length * y.length := by
  rw [len_list, TL.join_eq]
  have h := TL.tl_join y parts
  have e : (Str.join y parts).cps.toList = TL.joinL (TL.tl y) (parts.map TL.tl) := h
  rw [e]
  refine Nat.le_trans (joinL_len _) ?_
  rw [List.map_map, List.length_map, len_list y]
  have e2 : (parts.map ((fun l : List Nat => l.length) ∘ TL.tl)) = parts.map (·.length) := List.map_congr_left fun x _ => (len_list x).symm
  rw [e2]
  exact Nat.le_refl _
theorem sum_le {B : Nat} : ∀ {l : List Nat}, (∀ x ∈ l, x ≤ B) → l.sum ≤ l.length * B
  | [], _ => Nat.zero_le _
  | x :: l, h => by
    have h1 := h x List.mem_cons_self
    have h2 := sum_le fun y hy => h y (List.mem_cons_of_mem _ hy)
    rw [List.sum_cons, List.length_cons, Nat.add_mul]
    omega
theorem text_len {b : List Str} (h1 : b.length ≤ 200) (h2 : ∀ x ∈ b, x.length ≤ 100) : (b.map (·.length)).sum + b.length * (Str.ofString " = ").length ≤ 21000 := by
  have h := sum_le (B := 100) (l := b.map (·.length)) fun x hx => by
    obtain ⟨y, hy, e⟩ := List.mem_map.mp hx
    rw [← e]
    exact h2 y hy
  rw [List.length_map] at h
  have e : (Str.ofString " = ").length = 3 := by decide +kernel
  rw [e]
  omega
theorem texts_len {bs : List (List Str)} (h0 : bs.length ≤ 200) (h1 : ∀ b ∈ bs, b.length ≤ 200) (h2 : ∀ b ∈ bs, ∀ x ∈ b, x.length ≤ 100) : ((bs.map (Txt.join (Str.ofString " = "))).map (·.length)).sum + (bs.map (Txt.join (Str.ofString " = "))).length * (Str.ofString "; ").length ≤ 16777216 := by
  have h := sum_le (B := 21000) (l := (bs.map (Txt.join (Str.ofString " = "))).map (·.length)) fun x hx => by
    obtain ⟨y, hy, e⟩ := List.mem_map.mp hx
    obtain ⟨b, hb, e'⟩ := List.mem_map.mp hy
    rw [← e, ← e']
    exact Nat.le_trans (join_len _ _) (text_len (h1 b hb) (h2 b hb))
  rw [List.length_map, List.length_map] at h
  have e : (Str.ofString "; ").length = 2 := by decide +kernel
  rw [e, List.length_map]
  omega
end OA

/-! ### divisions into blocks: the mathematics -/
namespace OA
open PySem L2
structure PlainP (ps : List Str) : Prop where
  nd : ps.Nodup
  plain : ∀ p ∈ ps, isConB p = false
/-- lists of blocks that fit: no member twice, places and constants, at most one constant, at least one place -/
structure GoodL (ps : List Str) (bs : List (List Str)) : Prop where
  nd : bs.flatten.Nodup
  el : ∀ b ∈ bs, ∀ x ∈ b, isConB x = true ∨ x ∈ ps
  one : ∀ b ∈ bs, nCon b ≤ 1
  pos : ∀ b ∈ bs, nCon b < b.length
/-- the block of each place -/
structure Part (ps : List Str) (blk : Str → List Str) : Prop where
  self : ∀ p ∈ ps, p ∈ blk p
  same : ∀ p ∈ ps, ∀ q ∈ ps, q ∈ blk p → blk q = blk p
  ord : ∀ p ∈ ps, ordB ps (blk p) = blk p
  con : ∀ p ∈ ps, ∀ x ∈ blk p, x ∉ ps → isConB x = true
  one : ∀ p ∈ ps, ((blk p).filter fun x => !decide (x ∈ ps)).length ≤ 1
  cons : ∀ p ∈ ps, ∀ q ∈ ps, ∀ c, c ∉ ps → c ∈ blk p → c ∈ blk q → blk p = blk q
def blkB (ps : List Str) (bs : List (List Str)) (p : Str) : List Str := ordB ps ((bs.find? fun b => decide (p ∈ b)).getD [p])
def isHd (blk : Str → List Str) (p : Str) : Bool := decide ((blk p).head? = some p)
def canon (ps : List Str) (blk : Str → List Str) : List (List Str) := (ps.filter (isHd blk)).map blk
theorem ordB_mem {ps b : List Str} {x : Str} : x ∈ ordB ps b ↔ x ∈ b := by
  unfold ordB
  rw [List.mem_append, List.mem_filter, List.mem_filter]
  constructor
  · rintro (⟨_, h⟩ | ⟨h, _⟩)
    · exact of_decide_eq_true h
    · exact h
  · intro h
    by_cases hp : x ∈ ps
    · exact .inl ⟨hp, decide_eq_true h⟩
    · exact .inr ⟨h, by simp [hp]⟩
theorem ordB_in {ps b : List Str} : (ordB ps b).filter (fun x => decide (x ∈ ps)) = ps.filter (fun x => decide (x ∈ b)) := by
  unfold ordB
  rw [List.filter_append]
  have e1 : (ps.filter fun p => decide (p ∈ b)).filter (fun x => decide (x ∈ ps)) = ps.filter (fun p => decide (p ∈ b)) := by
    rw [List.filter_eq_self]
    intro x hx
    exact decide_eq_true (List.mem_filter.mp hx).1
  have e2 : (b.filter fun p => !decide (p ∈ ps)).filter (fun x => decide (x ∈ ps)) = [] := by
    rw [List.filter_eq_nil_iff]
    intro x hx
    have := (List.mem_filter.mp hx).2
    simp at this
    simp [this]
  rw [e1, e2, List.append_nil]
theorem ordB_out {ps b : List Str} : (ordB ps b).filter (fun x => !decide (x ∈ ps)) = b.filter (fun x => !decide (x ∈ ps)) := by
  unfold ordB
  rw [List.filter_append]
  have e1 : (ps.filter fun p => decide (p ∈ b)).filter (fun x => !decide (x ∈ ps)) = [] := by
    rw [List.filter_eq_nil_iff]
    intro x hx
    simp [(List.mem_filter.mp hx).1]
  rw [e1, List.nil_append, List.filter_filter]
  congr 1
  funext x
  simp
theorem ordB_ordB {ps b : List Str} : ordB ps (ordB ps b) = ordB ps b := by
  have h : ordB ps (ordB ps b) = ps.filter (fun p => decide (p ∈ ordB ps b)) ++ (ordB ps b).filter (fun p => !decide (p ∈ ps)) := rfl
  rw [h, ordB_out]
  have e : ps.filter (fun p => decide (p ∈ ordB ps b)) = ps.filter (fun p => decide (p ∈ b)) := List.filter_congr fun x _ => decide_eq_decide.mpr ordB_mem
  rw [e]
  rfl
/-- two ordered blocks with the same members are one -/
theorem ordB_ext {ps b c : List Str} (h : ∀ x, x ∈ b ↔ x ∈ c) (hc : (c.filter fun x => !decide (x ∈ ps)).length ≤ 1) (hb : (b.filter fun x => !decide (x ∈ ps)).length ≤ 1) : ordB ps b = ordB ps c := by
  unfold ordB
  have e1 : ps.filter (fun p => decide (p ∈ b)) = ps.filter (fun p => decide (p ∈ c)) := List.filter_congr fun x _ => decide_eq_decide.mpr (h x)
  have e2 : b.filter (fun x => !decide (x ∈ ps)) = c.filter (fun x => !decide (x ∈ ps)) := by
    cases eb : b.filter (fun x => !decide (x ∈ ps)) with
    | nil =>
      cases ec : c.filter (fun x => !decide (x ∈ ps)) with
      | nil => rfl
      | cons y r =>
        exfalso
        have : y ∈ c.filter (fun x => !decide (x ∈ ps)) := by rw [ec]; exact List.mem_cons_self
        obtain ⟨h1, h2⟩ := List.mem_filter.mp this
        have : y ∈ b.filter (fun x => !decide (x ∈ ps)) := List.mem_filter.mpr ⟨(h y).mpr h1, h2⟩
        rw [eb] at this
        cases this
    | cons y r =>
      have hr : r = [] := List.eq_nil_of_length_eq_zero (by rw [eb] at hb; simpa using hb)
      have hy : y ∈ b.filter (fun x => !decide (x ∈ ps)) := by rw [eb]; exact List.mem_cons_self
      obtain ⟨h1, h2⟩ := List.mem_filter.mp hy
      have hy' : y ∈ c.filter (fun x => !decide (x ∈ ps)) := List.mem_filter.mpr ⟨(h y).mp h1, h2⟩
      cases ec : c.filter (fun x => !decide (x ∈ ps)) with
      | nil => rw [ec] at hy'; cases hy'
      | cons z s =>
        have hs : s = [] := List.eq_nil_of_length_eq_zero (by rw [ec] at hc; simpa using hc)
        rw [ec, hs] at hy'
        rw [hr, hs, List.mem_singleton.mp hy']
  rw [e1, e2]
section
variable {ps : List Str} {bs : List (List Str)} {blk : Str → List Str}
theorem PlainP.out_con (P : PlainP ps) {x : Str} (h : isConB x = true) : x ∉ ps := fun hp => by rw [P.plain x hp] at h; cases h
theorem GoodL.uniq (h : GoodL ps bs) {b c : List Str} {x : Str} (hb : b ∈ bs) (hc : c ∈ bs) (hx : x ∈ b) (hy : x ∈ c) : b = c := by
  have hn : bs.flatten.Pairwise (· ≠ ·) := h.nd
  rw [List.pairwise_flatten] at hn
  obtain ⟨_, hp⟩ := hn
  rw [List.pairwise_iff_getElem] at hp
  obtain ⟨i, hi, ei⟩ := List.getElem_of_mem hb
  obtain ⟨j, hj, ej⟩ := List.getElem_of_mem hc
  rcases Nat.lt_trichotomy i j with z | z | z
  · exact absurd rfl (hp i j hi hj z x (by rw [ei]; exact hx) x (by rw [ej]; exact hy))
  · subst z
    rw [← ei, ← ej]
  · exact absurd rfl (hp j i hj hi z x (by rw [ej]; exact hy) x (by rw [ei]; exact hx))
theorem GoodL.find (h : GoodL ps bs) {b : List Str} {x : Str} (hb : b ∈ bs) (hx : x ∈ b) : (bs.find? fun b => decide (x ∈ b)) = some b := by
  cases e : bs.find? fun b => decide (x ∈ b) with
  | none =>
    rw [List.find?_eq_none] at e
    exact absurd (decide_eq_true hx) (e b hb)
  | some c =>
    have h1 := List.mem_of_find?_eq_some e
    have h2 := List.find?_some e
    rw [h.uniq h1 hb (of_decide_eq_true h2) hx]
theorem find_none {x : Str} (h : ∀ b ∈ bs, x ∉ b) : (bs.find? fun b => decide (x ∈ b)) = none := by
  rw [List.find?_eq_none]
  intro b hb
  simp [h b hb]
theorem out_le (P : PlainP ps) {b : List Str} (hel : ∀ x ∈ b, isConB x = true ∨ x ∈ ps) : (b.filter fun x => !decide (x ∈ ps)).length = nCon b := by
  unfold nCon
  rw [List.countP_eq_length_filter]
  congr 1
  refine List.filter_congr fun x hx => ?_
  rcases hel x hx with h | h
  · rw [h]
    simp [P.out_con h]
  · rw [P.plain x h]
    simp [h]
/-- the block before it is ordered -/
def rawB (bs : List (List Str)) (p : Str) : List Str := (bs.find? fun b => decide (p ∈ b)).getD [p]
theorem raw_or (p : Str) : (rawB bs p ∈ bs ∧ p ∈ rawB bs p) ∨ (rawB bs p = [p] ∧ ∀ b ∈ bs, p ∉ b) := by
  unfold rawB
  cases e : bs.find? fun b => decide (p ∈ b) with
  | none =>
    right
    refine ⟨rfl, fun b hb hp => ?_⟩
    rw [List.find?_eq_none] at e
    exact e b hb (decide_eq_true hp)
  | some c =>
    have h2 := List.find?_some e
    exact .inl ⟨List.mem_of_find?_eq_some e, of_decide_eq_true h2⟩
theorem raw_self (p : Str) : p ∈ rawB bs p := by
  rcases raw_or (bs := bs) p with ⟨_, h⟩ | ⟨h, _⟩
  · exact h
  · rw [h]; exact List.mem_singleton.mpr rfl
theorem blkB_eq (p : Str) : blkB ps bs p = ordB ps (rawB bs p) := rfl
theorem GoodL.raw (h : GoodL ps bs) {b : List Str} {p : Str} (hb : b ∈ bs) (hp : p ∈ b) : rawB bs p = b := by
  unfold rawB
  rw [h.find hb hp]
  rfl
theorem GoodL.rawOk (h : GoodL ps bs) (P : PlainP ps) {p : Str} (hp : p ∈ ps) : (∀ x ∈ rawB bs p, isConB x = true ∨ x ∈ ps) ∧ nCon (rawB bs p) ≤ 1 := by
  rcases raw_or (bs := bs) p with ⟨hb, _⟩ | ⟨e, _⟩
  · exact ⟨h.el _ hb, h.one _ hb⟩
  · rw [e]
    refine ⟨fun x hx => .inr (by rw [List.mem_singleton.mp hx]; exact hp), ?_⟩
    have : nCon [p] = 0 := by simp [nCon, P.plain p hp]
    omega
theorem GoodL.part (h : GoodL ps bs) (P : PlainP ps) : Part ps (blkB ps bs) := by
  have sameRaw : ∀ p ∈ ps, ∀ q ∈ ps, q ∈ rawB bs p → rawB bs q = rawB bs p := fun p hp q hq hm => by
    rcases raw_or (bs := bs) p with ⟨hb, _⟩ | ⟨e, hn⟩
    · exact h.raw hb hm
    · rw [e] at hm
      rw [List.mem_singleton.mp hm]
  refine ⟨fun p hp => ordB_mem.mpr (raw_self p), fun p hp q hq hm => ?_, fun p hp => ordB_ordB, fun p hp x hx hn => ?_, fun p hp => ?_, fun p hp q hq c hc h1 h2 => ?_⟩
  · rw [blkB_eq, blkB_eq, sameRaw p hp q hq (ordB_mem.mp hm)]
  · rcases (h.rawOk P hp).1 x (ordB_mem.mp hx) with z | z
    · exact z
    · exact absurd z hn
  · rw [blkB_eq, ordB_out, out_le P (h.rawOk P hp).1]
    exact (h.rawOk P hp).2
  · have h1 := ordB_mem.mp h1
    have h2 := ordB_mem.mp h2
    rcases raw_or (bs := bs) p with ⟨hb, _⟩ | ⟨e, _⟩
    · rcases raw_or (bs := bs) q with ⟨hb', _⟩ | ⟨e', _⟩
      · rw [blkB_eq, blkB_eq, h.uniq hb hb' h1 h2]
      · exfalso
        have h2 : c ∈ rawB bs q := h2
        rw [e'] at h2
        exact hc (by rw [List.mem_singleton.mp h2]; exact hq)
    · exfalso
      have h1 : c ∈ rawB bs p := h1
      rw [e] at h1
      exact hc (by rw [List.mem_singleton.mp h1]; exact hp)
theorem GoodL.chk (h : GoodL ps bs) : chkBs ps bs [] = .ok () := chkBs_ok (fun b hb => ⟨h.el b hb, h.one b hb, h.pos b hb⟩) (by rw [List.nil_append]; exact h.nd)
theorem GoodL.blkFor (h : GoodL ps bs) {p : Str} (hp : p ∈ ps) (P : PlainP ps) : OA.blkFor ps bs p = blkB ps bs p := by
  unfold OA.blkFor
  refine foldl_last (fun o => p ∈ o) (ordB ps) (blkB ps bs p) bs [p] (fun b hb hpb => ?_) ?_
  · rw [blkB_eq, h.raw hb hpb]
  · rcases raw_or (bs := bs) p with ⟨hb, hin⟩ | ⟨e, _⟩
    · exact .inl ⟨_, hb, hin⟩
    · right
      rw [blkB_eq, e]
      unfold ordB
      have e1 : ps.filter (fun x => decide (x ∈ [p])) = [p] := by
        have : ∀ l : List Str, l.Nodup → p ∈ l → l.filter (fun x => decide (x ∈ [p])) = [p] := by
          intro l
          induction l with
          | nil => intro _ h; cases h
          | cons y r ih =>
            intro hn hm
            obtain ⟨hn1, hn2⟩ := List.nodup_cons.mp hn
            by_cases hy : y = p
            · subst hy
              rw [List.filter_cons, if_pos (by simp)]
              have : r.filter (fun x => decide (x ∈ [y])) = [] := by
                rw [List.filter_eq_nil_iff]
                intro z hz
                simp
                intro e
                exact hn1 (by rw [← e]; exact hz)
              rw [this]
            · rw [List.filter_cons, if_neg (by simp [hy])]
              rcases List.mem_cons.mp hm with z | z
              · exact absurd z.symm hy
              · exact ih hn2 z
        exact this ps P.nd hp
      rw [e1]
      simp [hp]
/-! the canonical list -/
theorem Part.head (h : Part ps blk) {p : Str} (hp : p ∈ ps) : ∃ q, (blk p).head? = some q ∧ q ∈ ps ∧ blk q = blk p ∧ ∀ i j : Nat, ps[i]? = some q → ps[j]? = some p → i ≤ j ∨ ¬ ps.Nodup := by
  have e := h.ord p hp
  unfold ordB at e
  have hin : p ∈ ps.filter (fun x => decide (x ∈ blk p)) := List.mem_filter.mpr ⟨hp, decide_eq_true (h.self p hp)⟩
  cases ef : ps.filter (fun x => decide (x ∈ blk p)) with
  | nil => rw [ef] at hin; cases hin
  | cons q r =>
    have hq : q ∈ ps.filter (fun x => decide (x ∈ blk p)) := by rw [ef]; exact List.mem_cons_self
    obtain ⟨hq1, hq2⟩ := List.mem_filter.mp hq
    refine ⟨q, by rw [← e, ef]; rfl, hq1, h.same p hp q hq1 (of_decide_eq_true hq2), fun i j hi hj => ?_⟩
    by_cases hn : ps.Nodup
    · left
      have : ∀ (l : List Str) (i j : Nat), l.Nodup → (∃ r, l.filter (fun x => decide (x ∈ blk p)) = q :: r) → l[i]? = some q → l[j]? = some p → p ∈ blk p → i ≤ j := by
        intro l
        induction l with
        | nil => intro i j _ _ hi; simp at hi
        | cons y t ih =>
          intro i j hn ⟨r, hr⟩ hi hj hpp
          obtain ⟨hn1, hn2⟩ := List.nodup_cons.mp hn
          by_cases hy : y ∈ blk p
          · rw [List.filter_cons, if_pos (decide_eq_true hy)] at hr
            injection hr with hr1 _
            subst hr1
            cases i with
            | zero => exact Nat.zero_le _
            | succ i => exact absurd (List.mem_of_getElem? (show t[i]? = some y from hi)) hn1
          · rw [List.filter_cons, if_neg (by simpa using hy)] at hr
            cases i with
            | zero =>
              exfalso
              have e1 : y = q := by simpa using hi
              exact hy (by rw [e1]; exact of_decide_eq_true hq2)
            | succ i =>
              cases j with
              | zero =>
                exfalso
                have e1 : y = p := by simpa using hj
                exact hy (by rw [e1]; exact hpp)
              | succ j => exact Nat.succ_le_succ (ih i j hn2 ⟨r, hr⟩ hi hj hpp)
      exact this ps i j hn ⟨r, ef⟩ hi hj (h.self p hp)
    · exact .inr hn
theorem canon_mem (h : Part ps blk) {b : List Str} : b ∈ canon ps blk ↔ ∃ p ∈ ps, b = blk p := by
  unfold canon
  rw [List.mem_map]
  constructor
  · rintro ⟨p, hp, e⟩
    exact ⟨p, (List.mem_filter.mp hp).1, e.symm⟩
  · rintro ⟨p, hp, e⟩
    obtain ⟨q, h1, h2, h3, _⟩ := h.head hp
    refine ⟨q, List.mem_filter.mpr ⟨h2, decide_eq_true ?_⟩, by rw [h3, e]⟩
    rw [h3]
    exact h1
theorem isHd_eq {p : Str} : isHd blk p = true ↔ (blk p).head? = some p := by
  unfold isHd
  exact decide_eq_true_iff
theorem ord_canon (h : Part ps blk) (hn : ps.Nodup) (hf : ∀ p ∈ ps, blkFor ps bs p = blk p) : ordBs ps bs = canon ps blk := by
  have key : ∀ i, i ≤ ps.length → (ps.take i).foldl (ordStep ps bs) ([], []) = (((ps.take i).filter (isHd blk)).map blk, (((ps.take i).filter (isHd blk)).map blk).flatten) := by
    intro i
    induction i with
    | zero => intro _; rfl
    | succ i ih =>
      intro hi
      obtain ⟨p, hp⟩ : ∃ p, ps[i]? = some p := ⟨ps[i], by simp [show i < ps.length from hi]⟩
      have hpm := List.mem_of_getElem? hp
      rw [take_more hp, List.foldl_append, ih (by omega), List.filter_append, List.map_append, List.flatten_append]
      show ordStep ps bs _ p = _
      unfold ordStep
      obtain ⟨q, h1, h2, h3, h4⟩ := h.head hpm
      obtain ⟨j, hj⟩ := List.getElem?_of_mem h2
      have hle : j ≤ i := by
        rcases h4 j i hj hp with z | z
        · exact z
        · exact absurd hn z
      by_cases hd : isHd blk p = true
      · have hnot : ¬ p ∈ (((ps.take i).filter (isHd blk)).map blk).flatten := fun hm => by
          obtain ⟨b, hb, hpb⟩ := List.mem_flatten.mp hm
          obtain ⟨r, hr, e⟩ := List.mem_map.mp hb
          obtain ⟨hr1, hr2⟩ := List.mem_filter.mp hr
          have hrp : r ∈ ps := List.mem_of_mem_take hr1
          rw [← e] at hpb
          have e2 := h.same r hrp p hpm hpb
          have e3 : some p = some r := by rw [← isHd_eq.mp hd, e2, isHd_eq.mp hr2]
          injection e3 with e3
          obtain ⟨m, hm1⟩ := List.getElem?_of_mem hr1
          have hm2 : m < i := by
            have := get_lt hm1
            rw [List.length_take] at this
            omega
          rw [List.getElem?_take_of_lt hm2] at hm1
          rw [← e3] at hm1
          have := nd_ix hn hm1 hp
          omega
        have ef : [p].filter (isHd blk) = [p] := by rw [List.filter_cons, if_pos hd]; rfl
        rw [if_neg hnot, hf p hpm, ef]
        simp
      · have hqp : q ≠ p := fun z => hd (isHd_eq.mpr (by rw [h1, z]))
        have hji : j < i := by
          rcases Nat.lt_or_ge j i with z | z
          · exact z
          · exfalso
            have : j = i := by omega
            rw [this, hp] at hj
            exact hqp (Option.some.inj hj).symm
        have hin : p ∈ (((ps.take i).filter (isHd blk)).map blk).flatten := by
          refine List.mem_flatten.mpr ⟨blk q, List.mem_map.mpr ⟨q, List.mem_filter.mpr ⟨?_, ?_⟩, rfl⟩, ?_⟩
          · exact List.mem_of_getElem? (by rw [List.getElem?_take_of_lt hji]; exact hj)
          · exact isHd_eq.mpr (by rw [h3]; exact h1)
          · rw [h3]
            exact h.self p hpm
        have ef : [p].filter (isHd blk) = [] := by rw [List.filter_cons, if_neg hd]; rfl
        rw [if_pos hin, ef]
        simp
  have := key ps.length (Nat.le_refl _)
  rw [List.take_length] at this
  unfold ordBs canon
  rw [this]
theorem GoodL.ordBs (h : GoodL ps bs) (P : PlainP ps) : OA.ordBs ps bs = canon ps (blkB ps bs) := ord_canon (h.part P) P.nd fun _ hp => h.blkFor hp P
theorem canon_congr {blk' : Str → List Str} (h : ∀ p ∈ ps, blk p = blk' p) : canon ps blk = canon ps blk' := by
  unfold canon
  have e1 : ps.filter (isHd blk) = ps.filter (isHd blk') := List.filter_congr fun p hp => by unfold isHd; rw [h p hp]
  rw [e1]
  exact List.map_congr_left fun p hp => h p (List.mem_filter.mp hp).1
theorem Part.blkNd (h : Part ps blk) (P : PlainP ps) {p : Str} (hp : p ∈ ps) : (blk p).Nodup := by
  rw [← h.ord p hp]
  unfold ordB
  refine List.nodup_append.mpr ⟨P.nd.filter _, ?_, fun x hx y hy => ?_⟩
  · have := h.one p hp
    cases e : (blk p).filter (fun x => !decide (x ∈ ps)) with
    | nil => exact List.nodup_nil
    | cons a r =>
      rw [e] at this
      have : r = [] := List.eq_nil_of_length_eq_zero (by simpa using this)
      rw [this]
      simp
  · intro e
    subst e
    have h1 := (List.mem_filter.mp hx).1
    have h2 := (List.mem_filter.mp hy).2
    simp [h1] at h2
theorem Part.good (h : Part ps blk) (P : PlainP ps) : GoodL ps (canon ps blk) := by
  have hel : ∀ p ∈ ps, ∀ x ∈ blk p, isConB x = true ∨ x ∈ ps := fun p hp x hx => by
    by_cases z : x ∈ ps
    · exact .inr z
    · exact .inl (h.con p hp x hx z)
  refine ⟨?_, fun b hb x hx => ?_, fun b hb => ?_, fun b hb => ?_⟩
  · unfold List.Nodup
    rw [List.pairwise_flatten]
    refine ⟨fun b hb => ?_, ?_⟩
    · obtain ⟨p, hp, e⟩ := (canon_mem h).mp hb
      rw [e]
      exact h.blkNd P hp
    · unfold canon
      rw [List.pairwise_map]
      refine List.Pairwise.imp_of_mem (fun {a b} ha hb hab => ?_) (P.nd.filter (isHd blk))
      intro x hx y hy e
      subst e
      obtain ⟨ha1, ha2⟩ := List.mem_filter.mp ha
      obtain ⟨hb1, hb2⟩ := List.mem_filter.mp hb
      have eb : blk a = blk b := by
        by_cases z : x ∈ ps
        · rw [← h.same a ha1 x z hx, ← h.same b hb1 x z hy]
        · exact h.cons a ha1 b hb1 x z hx hy
      have e3 : some a = some b := by rw [← isHd_eq.mp ha2, eb, isHd_eq.mp hb2]
      exact hab (Option.some.inj e3)
  · obtain ⟨p, hp, e⟩ := (canon_mem h).mp hb
    rw [e] at hx
    exact hel p hp x hx
  · obtain ⟨p, hp, e⟩ := (canon_mem h).mp hb
    rw [e, ← out_le P (hel p hp)]
    exact h.one p hp
  · obtain ⟨p, hp, e⟩ := (canon_mem h).mp hb
    rw [e]
    show (blk p).countP isConB < (blk p).length
    rcases Nat.lt_or_ge ((blk p).countP isConB) (blk p).length with z | z
    · exact z
    · exfalso
      have := List.countP_eq_length.mp (Nat.le_antisymm List.countP_le_length z) p (h.self p hp)
      rw [P.plain p hp] at this
      cases this
theorem Part.rawCanon (h : Part ps blk) (P : PlainP ps) {p : Str} (hp : p ∈ ps) : rawB (canon ps blk) p = blk p := (h.good P).raw ((canon_mem h).mpr ⟨p, hp, rfl⟩) (h.self p hp)
theorem Part.blkCanon (h : Part ps blk) (P : PlainP ps) {p : Str} (hp : p ∈ ps) : blkB ps (canon ps blk) p = blk p := by
  rw [blkB_eq, h.rawCanon P hp, h.ord p hp]
/-! handed lists -/
theorem Handed.good {hs : List (List Str)} (H : Handed bs hs) (g : GoodL ps bs) : GoodL ps hs := by
  refine ⟨H.nd g.nd, fun h hh x hx => ?_, fun h hh => ?_, fun h hh => ?_⟩
  · obtain ⟨b, hb, pm⟩ := H.sub h hh
    exact g.el b hb x (pm.mem_iff.mp hx)
  · obtain ⟨b, hb, pm⟩ := H.sub h hh
    show h.countP isConB ≤ 1
    rw [pm.countP_eq]
    exact g.one b hb
  · obtain ⟨b, hb, pm⟩ := H.sub h hh
    show h.countP isConB < h.length
    rw [pm.countP_eq, pm.length_eq]
    exact g.pos b hb
theorem Handed.blkIs {hs : List (List Str)} (H : Handed (canon ps blk) hs) (h : Part ps blk) (P : PlainP ps) {p : Str} (hp : p ∈ ps) : blkB ps hs p = blk p := by
  have g := h.good P
  have gh := H.good g
  rw [blkB_eq, ← h.ord p hp]
  have hb : blk p ∈ canon ps blk := (canon_mem h).mpr ⟨p, hp, rfl⟩
  have key : ∀ x, x ∈ rawB hs p ↔ x ∈ blk p := by
    rcases raw_or (bs := hs) p with ⟨h1, h2⟩ | ⟨h1, h2⟩
    · obtain ⟨b, hb1, pm⟩ := H.sub _ h1
      have : b = blk p := g.uniq hb1 hb (pm.mem_iff.mp h2) (h.self p hp)
      intro x
      rw [pm.mem_iff, this]
    · intro x
      rw [h1]
      have hl : ¬ 1 < (blk p).length := fun z => by
        obtain ⟨h', hh', pm⟩ := H.all _ hb z
        exact h2 h' hh' (pm.mem_iff.mpr (h.self p hp))
      have hs := h.self p hp
      cases e : blk p with
      | nil => rw [e] at hs; cases hs
      | cons a r =>
        rw [e] at hl hs
        have : r = [] := List.eq_nil_of_length_eq_zero (by rw [List.length_cons] at hl; omega)
        subst this
        rw [List.mem_singleton.mp hs]
  refine ordB_ext key (h.one p hp) ?_
  rw [out_le P (gh.rawOk P hp).1]
  exact (gh.rawOk P hp).2
theorem Handed.ord {hs : List (List Str)} (H : Handed (canon ps blk) hs) (h : Part ps blk) (P : PlainP ps) : ordBs ps hs = canon ps blk := by
  rw [(H.good (h.good P)).ordBs P]
  exact canon_congr fun p hp => H.blkIs h P hp
theorem Handed.chk {hs : List (List Str)} (H : Handed (canon ps blk) hs) (h : Part ps blk) (P : PlainP ps) : chkBs ps hs [] = .ok () := (H.good (h.good P)).chk
/-! the meet -/
def meetB (b1 b2 : Str → List Str) (p : Str) : List Str := (b1 p).filter fun x => decide (x ∈ b2 p)
theorem Part.meet {b1 b2 : Str → List Str} (h1 : Part ps b1) (h2 : Part ps b2) : Part ps (meetB b1 b2) := by
  have mem : ∀ p x, x ∈ meetB b1 b2 p ↔ x ∈ b1 p ∧ x ∈ b2 p := fun p x => by
    unfold meetB
    rw [List.mem_filter]
    simp
  refine ⟨fun p hp => (mem p p).mpr ⟨h1.self p hp, h2.self p hp⟩, fun p hp q hq hm => ?_, fun p hp => ?_, fun p hp x hx hn => h1.con p hp x ((mem p x).mp hx).1 hn, fun p hp => ?_, fun p hp q hq c hc hm1 hm2 => ?_⟩
  · obtain ⟨m1, m2⟩ := (mem p q).mp hm
    unfold meetB
    rw [h1.same p hp q hq m1, h2.same p hp q hq m2]
  · have e := h1.ord p hp
    unfold meetB
    conv => rhs; rw [← e]
    unfold ordB
    rw [List.filter_append, List.filter_filter, List.filter_filter, List.filter_filter]
    congr 1
    · refine List.filter_congr fun x hx => ?_
      have e3 : decide (x ∈ (b1 p).filter fun x => decide (x ∈ b2 p)) = decide (x ∈ b1 p ∧ x ∈ b2 p) := decide_eq_decide.mpr (by rw [List.mem_filter]; simp)
      rw [e3]
      by_cases z1 : x ∈ b1 p <;> by_cases z2 : x ∈ b2 p <;> simp [z1, z2]
    · refine List.filter_congr fun x hx => ?_
      exact Bool.and_comm _ _
  · unfold meetB
    rw [List.filter_filter]
    have : ((b1 p).filter fun a => !decide (a ∈ ps) && decide (a ∈ b2 p)).length ≤ ((b1 p).filter fun x => !decide (x ∈ ps)).length := by
      rw [← List.countP_eq_length_filter, ← List.countP_eq_length_filter]
      refine List.countP_mono_left fun x hx hh => ?_
      exact (Bool.and_eq_true_iff.mp hh).1
    exact Nat.le_trans this (h1.one p hp)
  · obtain ⟨a1, a2⟩ := (mem p c).mp hm1
    obtain ⟨a3, a4⟩ := (mem q c).mp hm2
    unfold meetB
    rw [h1.cons p hp q hq c hc a1 a3, h2.cons p hp q hq c hc a2 a4]
theorem meet_comm {b1 b2 : Str → List Str} (h1 : Part ps b1) (h2 : Part ps b2) {p : Str} (hp : p ∈ ps) : meetB b1 b2 p = meetB b2 b1 p := by
  rw [← (h1.meet h2).ord p hp, ← (h2.meet h1).ord p hp]
  refine ordB_ext (fun x => ?_) ((h2.meet h1).one p hp) ((h1.meet h2).one p hp)
  unfold meetB
  rw [List.mem_filter, List.mem_filter]
  simp
  exact And.comm
theorem meet_self {b1 : Str → List Str} {p : Str} : meetB b1 b1 p = b1 p := by
  unfold meetB
  rw [List.filter_eq_self]
  intro x hx
  exact decide_eq_true hx
/-- the blocks that __and__ hands to the new pattern -/
def andRow (b : List Str) (cs : List (List Str)) : List (List Str) := (cs.map fun c => b.filter fun x => decide (x ∈ c)).filter fun l => l.any fun x => !isConB x
def andL (bs cs : List (List Str)) : List (List Str) := bs.flatMap fun b => andRow b cs
theorem andRow_mem {b l : List Str} {cs : List (List Str)} : l ∈ andRow b cs ↔ ∃ c ∈ cs, l = b.filter (fun x => decide (x ∈ c)) ∧ (l.any fun x => !isConB x) = true := by
  unfold andRow
  rw [List.mem_filter, List.mem_map]
  constructor
  · rintro ⟨⟨c, hc, e⟩, h⟩
    exact ⟨c, hc, e.symm, h⟩
  · rintro ⟨c, hc, e, h⟩
    exact ⟨⟨c, hc, e.symm⟩, h⟩
theorem andL_mem {l : List Str} {cs : List (List Str)} : l ∈ andL bs cs ↔ ∃ b ∈ bs, ∃ c ∈ cs, l = b.filter (fun x => decide (x ∈ c)) ∧ (l.any fun x => !isConB x) = true := by
  unfold andL
  rw [List.mem_flatMap]
  constructor
  · rintro ⟨b, hb, h⟩
    obtain ⟨c, hc, h⟩ := andRow_mem.mp h
    exact ⟨b, hb, c, hc, h⟩
  · rintro ⟨b, hb, c, hc, h⟩
    exact ⟨b, hb, andRow_mem.mpr ⟨c, hc, h⟩⟩
theorem andL_good {cs : List (List Str)} (g1 : GoodL ps bs) (g2 : GoodL ps cs) : GoodL ps (andL bs cs) := by
  refine ⟨?_, fun l hl x hx => ?_, fun l hl => ?_, fun l hl => ?_⟩
  · have row : ∀ b ∈ bs, (andRow b cs).flatten.Nodup := fun b hb => by
      have hbn : b.Nodup := by
        have : bs.flatten.Pairwise (· ≠ ·) := g1.nd
        rw [List.pairwise_flatten] at this
        exact this.1 b hb
      unfold List.Nodup
      rw [List.pairwise_flatten]
      refine ⟨fun l hl => ?_, ?_⟩
      · obtain ⟨c, _, e, _⟩ := andRow_mem.mp hl
        rw [e]
        exact hbn.filter _
      · unfold andRow
        refine List.Pairwise.filter _ ?_
        rw [List.pairwise_map]
        have : cs.flatten.Pairwise (· ≠ ·) := g2.nd
        rw [List.pairwise_flatten] at this
        refine List.Pairwise.imp (fun {c d} hcd => ?_) this.2
        intro x hx y hy
        exact hcd x (of_decide_eq_true (List.mem_filter.mp hx).2) y (of_decide_eq_true (List.mem_filter.mp hy).2)
    have sub : ∀ b x, x ∈ (andRow b cs).flatten → x ∈ b := fun b x hx => by
      obtain ⟨l, hl, hxl⟩ := List.mem_flatten.mp hx
      obtain ⟨c, _, e, _⟩ := andRow_mem.mp hl
      rw [e] at hxl
      exact (List.mem_filter.mp hxl).1
    have e : (andL bs cs).flatten = (bs.map fun b => (andRow b cs).flatten).flatten := by
      unfold andL
      rw [List.flatMap_def, List.flatten_flatten, List.map_map]
      rfl
    rw [e]
    unfold List.Nodup
    rw [List.pairwise_flatten]
    refine ⟨fun l hl => ?_, ?_⟩
    · obtain ⟨b, hb, e⟩ := List.mem_map.mp hl
      rw [← e]
      exact row b hb
    · rw [List.pairwise_map]
      have : bs.flatten.Pairwise (· ≠ ·) := g1.nd
      rw [List.pairwise_flatten] at this
      refine List.Pairwise.imp (fun {c d} hcd => ?_) this.2
      intro x hx y hy
      exact hcd x (sub _ x hx) y (sub _ y hy)
  · obtain ⟨b, hb, c, hc, e, _⟩ := andL_mem.mp hl
    rw [e] at hx
    exact g1.el b hb x (List.mem_filter.mp hx).1
  · obtain ⟨b, hb, c, hc, e, _⟩ := andL_mem.mp hl
    refine Nat.le_trans ?_ (g1.one b hb)
    rw [e]
    show (b.filter _).countP isConB ≤ b.countP isConB
    rw [List.countP_filter]
    exact List.countP_mono_left fun x _ hh => (Bool.and_eq_true_iff.mp hh).1
  · obtain ⟨b, hb, c, hc, e, h⟩ := andL_mem.mp hl
    show l.countP isConB < l.length
    rcases Nat.lt_or_ge (l.countP isConB) l.length with z | z
    · exact z
    · exfalso
      obtain ⟨x, hx, hh⟩ := List.any_eq_true.mp h
      have := List.countP_eq_length.mp (Nat.le_antisymm List.countP_le_length z) x hx
      rw [this] at hh
      cases hh
theorem and_canon {b1 b2 : Str → List Str} (h1 : Part ps b1) (h2 : Part ps b2) (P : PlainP ps) : ordBs ps (andL (canon ps b1) (canon ps b2)) = canon ps (meetB b1 b2) := by
  have g1 := h1.good P
  have g2 := h2.good P
  have g := andL_good g1 g2
  rw [g.ordBs P]
  refine canon_congr fun p hp => ?_
  have hin : meetB b1 b2 p ∈ andL (canon ps b1) (canon ps b2) := andL_mem.mpr ⟨b1 p, (canon_mem h1).mpr ⟨p, hp, rfl⟩, b2 p, (canon_mem h2).mpr ⟨p, hp, rfl⟩, rfl, List.any_eq_true.mpr ⟨p, (h1.meet h2).self p hp, by rw [P.plain p hp]; rfl⟩⟩
  rw [blkB_eq, g.raw hin ((h1.meet h2).self p hp), (h1.meet h2).ord p hp]
end
/-! a drawn pattern is such a division -/
theorem Drawn.plainP {ps : List Str} {ls : List Nat} {ts : List (Nat × Str)} (d : Drawn ps ls ts) : PlainP ps := ⟨d.nd, d.plain⟩
theorem Drawn.good {ps : List Str} {ls : List Nat} {ts : List (Nat × Str)} (d : Drawn ps ls ts) : GoodL ps (due ps ls ts) := by
  refine ⟨d.due_nd _, fun b hb x hx => ?_, fun b hb => ?_, fun b hb => ?_⟩
  all_goals
    obtain ⟨k, hk, hl, e⟩ := due_mem.mp hb
    obtain ⟨h1, h2, h3⟩ := d.block_ok hk hl
    rw [← e] at h1 h2 h3
  · exact h1 x hx
  · exact h2
  · exact h3
/-- each list is handed in as it is -/
theorem handed_refl (bs : List (List Str)) : Handed bs bs := ⟨fun h hh => ⟨h, hh, List.Perm.refl _⟩, fun b hb _ => ⟨b, hb, List.Perm.refl _⟩, fun h => h, Nat.le_refl _⟩
theorem Drawn.canon_eq {ps : List Str} {ls : List Nat} {ts : List (Nat × Str)} (d : Drawn ps ls ts) : due ps ls ts = canon ps (blkB ps (due ps ls ts)) := by
  have h := d.ord_all (handed_refl (due ps ls ts))
  rw [d.good.ordBs d.plainP] at h
  exact h.symm
theorem canon_len {ps : List Str} {blk : Str → List Str} : (canon ps blk).length ≤ ps.length := by
  unfold canon
  rw [List.length_map]
  exact List.length_filter_le _ _
end OA

/-! ### operators of an own class: len, str, <=, ==, in, &, | -/
namespace OA
open PySem PySem.Spec PyProof.Rows L2
section
variable {X : Cx} {C : Addr} {m : Str} {ps : List Str} {sp : Sp} {k j : Nat}
/-- a def runs, called from within a built-in -/
theorem run_at {A : Around} {pins : List (Addr × Obj)} {σ : L2.St} {H : Hp} {s : Shared} {Q : VK} {f : Addr} {fd : FuncData} {us : List Value} {vs : List V} (F : FnOk X.prog X.w X.K X.mg X.base CX0 k f fd ps sp) (hr : Room k A)
    (he : Env0 X.prog X.w X.K X.mg X.base A X.stack s H) (hb : Binds X.K fd ps []) (I : Inv X pins σ H s) (r : Vals vs us) (h : sp vs H Q E0) : wpAny (model X.prog X.w) A (call (.ref f) us) (EP X pins σ Q) X.xe s := by
  have hl : us.length = ps.length := by rw [← r.length]; exact F.len _ _ _ _ h
  have hbs := hb s us I.kIn (by rw [List.append_nil]; exact hl)
  rw [List.append_nil] at hbs
  refine wpAny_call (codeAny_mono (F.run A X.stack s H ⟨us, []⟩ us vs Q E0 hr he hbs r h) fun r s' hq => ?_)
  cases r with
  | error e => exact hq.elim
  | ok fl =>
    cases fl with
    | ret u => exact I.after hq
    | next => exact hq.elim
    | brk => exact hq.elim
    | cont => exact hq.elim
def rLenO (C : Addr) (sp : Sp) : List V → Hp → VK → Prop := fun xs H Q => ∃ a dx fs, xs = [.ref a] ∧ H a = some (.ins C dx fs) ∧ sp [.ref a] H (fun v H' => ∃ n : Int, v = .int n ∧ 0 ≤ n ∧ n < 2 ^ 63 ∧ Q (.int n) H') E0
theorem c_len_own (c : Method X.prog X.w X.K X.mg X.base C "__len__" ps sp k) (hr : Room j X.A) (hk : k + 1 ≤ j) : CallR X (.builtin "len") (rLenO C sp) := by
  intro pins s σ H xs us Q I r h
  obtain ⟨f, fd, F, b, cl, M⟩ := c.ex
  obtain ⟨a, dx, fs, rfl, ha, q⟩ := h
  obtain ⟨u, rfl, ru⟩ := vals1 r
  cases (show u = Value.ref a from ru)
  obtain ⟨mA, J, _⟩ := ins_get I.hok ha
  obtain ⟨od, J, _⟩ := J.look
  obtain ⟨m', hF⟩ := I.fr
  refine PySem.W.len_K hF I.ok.mod.kin J M.at_ M.fn ?_
  refine wpAny_mono (run_at F (Room.in1 (hr.mono hk)) I.env0.in1 b I (vs := [.ref a]) (.cons rfl .nil) q) (fun v s' hv => ?_) fun _ _ z => z
  obtain ⟨v0, H', I', rv, n, rfl, h0, h1, q'⟩ := hv
  obtain ⟨t, rfl⟩ := rv
  exact ⟨⟨h0, h1⟩, .int n, H', I'.tok _, ⟨_, rfl⟩, q'⟩
def rStrO (C : Addr) (sp : Sp) : List V → Hp → VK → Prop := fun xs H Q => ∃ a dx fs, xs = [.ref a] ∧ H a = some (.ins C dx fs) ∧ sp [.ref a] H (fun v H' => ∃ z : Str, v = .str z ∧ Q (.str z) H') E0
theorem c_str_own (c : Method X.prog X.w X.K X.mg X.base C "__str__" ps sp k) (hr : Room j X.A) (hk : k + 2 ≤ j) : CallR X (.type "str") (rStrO C sp) := by
  intro pins s σ H xs us Q I r h
  obtain ⟨f, fd, F, b, cl, M⟩ := c.ex
  obtain ⟨a, dx, fs, rfl, ha, q⟩ := h
  obtain ⟨u, rfl, ru⟩ := vals1 r
  cases (show u = Value.ref a from ru)
  obtain ⟨mA, J, _⟩ := ins_get I.hok ha
  obtain ⟨od, J, _⟩ := J.look
  have r2 : Room k X.A.in1.in1 := Room.in1 (Room.in1 (hr.mono hk))
  refine PySem.W.kso_call r2.units0 I.kIn J M.at_ M.fn ?_
  refine wpAny_mono (run_at F r2 I.env0.in1.in1 b I (vs := [.ref a]) (.cons rfl .nil) q) (fun v s' hv => ?_) fun _ _ z => z
  obtain ⟨v0, H', I', rv, z, rfl, q'⟩ := hv
  obtain ⟨t, rfl⟩ := rv
  exact ⟨.str z, H', I', ⟨_, rfl⟩, q'⟩
theorem back_of {pins : List (Addr × Obj)} {σ : L2.St} {Q : VK} {v : Value} {s' : Shared} (h : EP X pins σ Q v s') : PySem.W.CmpBack (EP X pins σ Q) v s' := by
  obtain ⟨v0, H', I', rv, q⟩ := id h
  cases v0 with
  | non => cases (show v = Value.none from rv); exact h
  | bl b => cases (show v = Value.bool b from rv); exact h
  | int i => obtain ⟨t, rfl⟩ := rv; exact h
  | str z => obtain ⟨t, rfl⟩ := rv; exact h
  | byt z => obtain ⟨t, rfl⟩ := rv; exact h
  | flt z => obtain ⟨t, rfl⟩ := rv; exact h
  | ref a => cases (show v = Value.ref a from rv); exact h
  | ty n => cases (show v = Value.type n from rv); exact h
/-- x op y of two instances -/
def rOwn2 (C : Addr) (sp : Sp) : R2 := fun x y H Q => ∃ a b dx fs dy gs, x = .ref a ∧ y = .ref b ∧ H a = some (.ins C dx fs) ∧ H b = some (.ins C dy gs) ∧ sp [.ref a, .ref b] H Q E0
theorem cmp_own {op : CmpOp} (hop : ∀ v u, compareOp op v u = richCompare op v u) (hm : (cmpInfo op).2.1 = m) (c : Method X.prog X.w X.K X.mg X.base C m ps sp k) (hr : Room j X.A) (hk : k ≤ j) : OpR X (compareOp op) (rOwn2 C sp) := by
  intro pins s σ H x y v u Q I rx ry h
  obtain ⟨f, fd, F, b, cl, M⟩ := c.ex
  obtain ⟨a, b', dx, fs, dy, gs, rfl, rfl, ha, hb, q⟩ := h
  cases (show v = Value.ref a from rx)
  cases (show u = Value.ref b' from ry)
  obtain ⟨mA, J, _⟩ := ins_get I.hok ha
  obtain ⟨mB, J', _⟩ := ins_get I.hok hb
  obtain ⟨od, J, _⟩ := J.look
  obtain ⟨od', J', _⟩ := J'.look
  obtain ⟨m', hF⟩ := I.fr
  rw [hop]
  refine PySem.W.cmp_K (op := op) (tb := .ref C) hr.units0 hF I.ok.mod.kin J J'.type (by simp [PySem.W.notFirst]) (by rw [hm]; exact M.at_) M.fn ?_
  exact wpAny_mono (run_at F (hr.mono hk) I.env0 b I (vs := [.ref a, .ref b']) (.cons rfl (.cons rfl .nil)) q) (fun v s' hv => back_of hv) fun _ _ z => z
theorem o_le_own (c : Method X.prog X.w X.K X.mg X.base C "__le__" ps sp k) (hr : Room j X.A) (hk : k ≤ j) : OpR X (compareOp .LtE) (rOwn2 C sp) := cmp_own (fun _ _ => rfl) rfl c hr hk
theorem o_eq_own (c : Method X.prog X.w X.K X.mg X.base C "__eq__" ps sp k) (hr : Room j X.A) (hk : k ≤ j) : OpR X (compareOp .Eq) (rOwn2 C sp) := cmp_own (fun _ _ => rfl) rfl c hr hk
theorem bin_own {op : Operator} (hm : PySem.dunder op.info.2 = m) (c : Method X.prog X.w X.K X.mg X.base C m ps sp k) (hs : PySem.W.selfFirst X.K C = true) (hr : Room j X.A) (hk : k ≤ j) : OpR X (binaryOp op) (rOwn2 C sp) := by
  intro pins s σ H x y v u Q I rx ry h
  obtain ⟨f, fd, F, b, cl, M⟩ := c.ex
  obtain ⟨a, b', dx, fs, dy, gs, rfl, rfl, ha, hb, q⟩ := h
  cases (show v = Value.ref a from rx)
  cases (show u = Value.ref b' from ry)
  obtain ⟨mA, J, _⟩ := ins_get I.hok ha
  obtain ⟨mB, J', _⟩ := ins_get I.hok hb
  obtain ⟨od, J, _⟩ := J.look
  obtain ⟨od', J', _⟩ := J'.look
  obtain ⟨m', hF⟩ := I.fr
  refine PySem.W.binop_K hF I.ok.mod.kin J J'.type hs (by rw [hm]; exact M.at_) M.fn ?_
  exact wpAny_mono (run_at F (hr.mono hk) I.env0 b I (vs := [.ref a, .ref b']) (.cons rfl (.cons rfl .nil)) q) (fun v s' hv => back_of hv) fun _ _ z => z
theorem o_and_own (c : Method X.prog X.w X.K X.mg X.base C "__and__" ps sp k) (hs : PySem.W.selfFirst X.K C = true) (hr : Room j X.A) (hk : k ≤ j) : OpR X (binaryOp .BitAnd) (rOwn2 C sp) := bin_own (by decide +kernel) c hs hr hk
theorem o_or_own (c : Method X.prog X.w X.K X.mg X.base C "__or__" ps sp k) (hs : PySem.W.selfFirst X.K C = true) (hr : Room j X.A) (hk : k ≤ j) : OpR X (binaryOp .BitOr) (rOwn2 C sp) := bin_own (by decide +kernel) c hs hr hk
/-- y in x, y not in x: the method answers a bool -/
def rInO (C : Addr) (sp : Sp) (neg : Bool) : R2 := fun y x H Q => ∃ a dx fs, x = .ref a ∧ H a = some (.ins C dx fs) ∧ sp [.ref a, y] H (fun v H' => ∃ b : Bool, v = .bl b ∧ Q (.bl (if neg then !b else b)) H') E0
theorem o_in_own (c : Method X.prog X.w X.K X.mg X.base C "__contains__" ps sp k) (hr : Room j X.A) (hk : k ≤ j) : OpR X (compareOp .In) (rInO C sp false) := by
  intro pins s σ H x y v u Q I rx ry h
  obtain ⟨f, fd, F, b, cl, M⟩ := c.ex
  obtain ⟨a, dx, fs, rfl, ha, q⟩ := h
  cases (show u = Value.ref a from ry)
  obtain ⟨mA, J, _⟩ := ins_get I.hok ha
  obtain ⟨od, J, _⟩ := J.look
  obtain ⟨m', hF⟩ := I.fr
  refine PySem.W.in_K hF I.ok.mod.kin J M.at_ M.fn ?_
  refine wpAny_mono (run_at F (hr.mono hk) I.env0 b I (vs := [.ref a, x]) (.cons rfl (.cons rx .nil)) q) (fun v' s' hv => ?_) fun _ _ z => z
  obtain ⟨v0, H', I', rv, bb, rfl, q'⟩ := hv
  cases (show v' = Value.bool bb from rv)
  exact wpAny_truthy_bool ⟨.bl bb, H', I', rfl, q'⟩
theorem o_notin_own (c : Method X.prog X.w X.K X.mg X.base C "__contains__" ps sp k) (hr : Room j X.A) (hk : k ≤ j) : OpR X (compareOp .NotIn) (rInO C sp true) := by
  intro pins s σ H x y v u Q I rx ry h
  obtain ⟨f, fd, F, b, cl, M⟩ := c.ex
  obtain ⟨a, dx, fs, rfl, ha, q⟩ := h
  cases (show u = Value.ref a from ry)
  obtain ⟨mA, J, _⟩ := ins_get I.hok ha
  obtain ⟨od, J, _⟩ := J.look
  obtain ⟨m', hF⟩ := I.fr
  refine PySem.W.notIn_K hF I.ok.mod.kin J M.at_ M.fn ?_
  refine wpAny_mono (run_at F (hr.mono hk) I.env0 b I (vs := [.ref a, x]) (.cons rfl (.cons rx .nil)) q) (fun v' s' hv => ?_) fun _ _ z => z
  obtain ⟨v0, H', I', rv, bb, rfl, q'⟩ := hv
  cases (show v' = Value.bool bb from rv)
  exact wpAny_truthy_bool ⟨.bl (!bb), H', I', rfl, q'⟩
end
end OA

/-! ### a division changed a little: the mathematics -/
namespace OA
open PySem L2
structure GoodW (ps : List Str) (bs : List (List Str)) : Prop where
  nd : bs.flatten.Nodup
  el : ∀ b ∈ bs, ∀ x ∈ b, isConB x = true ∨ x ∈ ps
  one : ∀ b ∈ bs, nCon b ≤ 1
theorem GoodL.w {ps : List Str} {bs : List (List Str)} (h : GoodL ps bs) : GoodW ps bs := ⟨h.nd, h.el, h.one⟩
def outB (ps b : List Str) : List Str := b.filter fun x => !decide (x ∈ ps)
def insB (ps b : List Str) : List Str := b.filter fun x => decide (x ∈ ps)
theorem flat_sub {bs cs : List (List Str)} (h : cs.Sublist bs) : cs.flatten.Sublist bs.flatten := by
  induction h with
  | slnil => exact .slnil
  | cons a _ ih => exact ih.trans (List.sublist_append_right _ _)
  | cons_cons a _ ih => exact List.Sublist.append (List.Sublist.refl _) ih
theorem GoodW.flt {ps : List Str} {bs : List (List Str)} (P : PlainP ps) (h : GoodW ps bs) : GoodL ps (bs.filter fun b => !decide (insB ps b = [])) := by
  refine ⟨h.nd.sublist (flat_sub List.filter_sublist), fun b hb => h.el b (List.mem_filter.mp hb).1, fun b hb => h.one b (List.mem_filter.mp hb).1, fun b hb => ?_⟩
  obtain ⟨hb1, hb2⟩ := List.mem_filter.mp hb
  have hne : insB ps b ≠ [] := by simpa using hb2
  obtain ⟨x, hx⟩ := List.exists_mem_of_ne_nil _ hne
  obtain ⟨hx1, hx2⟩ := List.mem_filter.mp hx
  show b.countP isConB < b.length
  rcases Nat.lt_or_ge (b.countP isConB) b.length with z | z
  · exact z
  · exfalso
    have := List.countP_eq_length.mp (Nat.le_antisymm List.countP_le_length z) x hx1
    rw [P.plain x (of_decide_eq_true hx2)] at this
    cases this
theorem set_perm {bs : List (List Str)} {i : Nat} {b c : List Str} (hi : bs[i]? = some b) : (b ++ (bs.set i c).flatten).Perm (c ++ bs.flatten) := by
  induction bs generalizing i with
  | nil => simp at hi
  | cons d bs ih =>
    cases i with
    | zero =>
      have : d = b := by simpa using hi
      subst this
      rw [List.set_cons_zero, List.flatten_cons, List.flatten_cons]
      exact List.perm_append_comm_assoc _ _ _
    | succ i =>
      rw [List.set_cons_succ, List.flatten_cons, List.flatten_cons]
      have := ih (i := i) (by simpa using hi)
      exact ((List.perm_append_comm_assoc _ _ _).trans (this.append_left d)).trans (List.perm_append_comm_assoc _ _ _)
theorem erase_perm {bs : List (List Str)} {i : Nat} {b : List Str} (hi : bs[i]? = some b) : (b ++ (bs.eraseIdx i).flatten).Perm bs.flatten := by
  induction bs generalizing i with
  | nil => simp at hi
  | cons d bs ih =>
    cases i with
    | zero =>
      have : d = b := by simpa using hi
      subst this
      exact List.Perm.refl _
    | succ i =>
      rw [List.eraseIdx_cons_succ, List.flatten_cons, List.flatten_cons]
      have := ih (i := i) (by simpa using hi)
      exact (List.perm_append_comm_assoc _ _ _).trans (this.append_left d)
section
variable {ps : List Str} {bs : List (List Str)}
theorem GoodW.set (h : GoodW ps bs) {i : Nat} {c : List Str} (hn : (bs.set i c).flatten.Nodup) (he : ∀ x ∈ c, isConB x = true ∨ x ∈ ps) (h1 : nCon c ≤ 1) : GoodW ps (bs.set i c) := by
  refine ⟨hn, fun b hb => ?_, fun b hb => ?_⟩
  · rcases List.mem_or_eq_of_mem_set hb with z | z
    · exact h.el b z
    · rw [z]; exact he
  · rcases List.mem_or_eq_of_mem_set hb with z | z
    · exact h.one b z
    · rw [z]; exact h1
theorem GoodW.elApp (h : GoodW ps bs) {b c : List Str} (hb : b ∈ bs) (hc : c ∈ bs) : ∀ x ∈ b ++ c, isConB x = true ∨ x ∈ ps := fun x hx => by
  rcases List.mem_append.mp hx with z | z
  · exact h.el b hb x z
  · exact h.el c hc x z
/-- two blocks joined -/
theorem GoodW.join (h : GoodW ps bs) (P : PlainP ps) {i j : Nat} {b c : List Str} (hi : bs[i]? = some b) (hj : bs[j]? = some c) (hij : i ≠ j) (hc : (outB ps (b ++ c)).length < 2) : GoodW ps ((bs.set i (b ++ c)).eraseIdx j) := by
  have hb := List.mem_of_getElem? hi
  have hcm := List.mem_of_getElem? hj
  have e := h.elApp hb hcm
  have n1 : nCon (b ++ c) ≤ 1 := by
    have := out_le P e
    have : (outB ps (b ++ c)).length = nCon (b ++ c) := this
    omega
  have hj' : (bs.set i (b ++ c))[j]? = some c := by rw [List.getElem?_set_ne hij]; exact hj
  have p1 := erase_perm hj'
  have p2 := set_perm (c := b ++ c) hi
  have p3 : ((bs.set i (b ++ c)).eraseIdx j).flatten.Perm bs.flatten := by
    have q : (b ++ (c ++ ((bs.set i (b ++ c)).eraseIdx j).flatten)).Perm (b ++ (c ++ bs.flatten)) := by
      rw [← List.append_assoc b c bs.flatten]
      exact (p1.append_left b).trans p2
    exact (List.perm_append_left_iff c).mp ((List.perm_append_left_iff b).mp q)
  refine ⟨p3.nodup_iff.mpr h.nd, fun d hd => ?_, fun d hd => ?_⟩
  · rcases List.mem_or_eq_of_mem_set (List.mem_of_mem_eraseIdx hd) with z | z
    · exact h.el d z
    · rw [z]; exact e
  · rcases List.mem_or_eq_of_mem_set (List.mem_of_mem_eraseIdx hd) with z | z
    · exact h.one d z
    · rw [z]; exact n1
/-- a block gets a constant -/
theorem GoodW.add (h : GoodW ps bs) (P : PlainP ps) {i : Nat} {b : List Str} (hi : bs[i]? = some b) (hb : outB ps b = []) {pool : List Str} (hp : ∀ x ∈ pool, isConB x = true) : GoodW ps (bs.set i (b ++ (pool.filter fun x => !decide (x ∈ bs.flatten)).take 1)) := by
  have hbm := List.mem_of_getElem? hi
  have n0 : nCon b = 0 := by rw [← out_le P (h.el b hbm)]; show (outB ps b).length = 0; rw [hb]; rfl
  have mem : ∀ x ∈ (pool.filter fun x => !decide (x ∈ bs.flatten)).take 1, x ∈ pool ∧ x ∉ bs.flatten := fun x hx => by
    obtain ⟨h1, h2⟩ := List.mem_filter.mp (List.mem_of_mem_take hx)
    exact ⟨h1, by simpa using h2⟩
  generalize hf : (pool.filter fun x => !decide (x ∈ bs.flatten)).take 1 = f at mem
  have fl : f.length ≤ 1 := by rw [← hf, List.length_take]; omega
  have p2 := set_perm (c := b ++ f) hi
  have p3 : (bs.set i (b ++ f)).flatten.Perm (f ++ bs.flatten) := by
    rw [List.append_assoc] at p2
    exact (List.perm_append_left_iff b).mp p2
  refine h.set (p3.nodup_iff.mpr (List.nodup_append.mpr ⟨?_, h.nd, fun x hx y hy e => (mem x hx).2 (by rw [e]; exact hy)⟩)) (fun x hx => ?_) ?_
  · match f, fl with
    | [], _ => exact List.nodup_nil
    | [x], _ => simp
    | _ :: _ :: _, fl => simp at fl
  · rcases List.mem_append.mp hx with z | z
    · exact h.el b hbm x z
    · exact .inl (hp x (mem x z).1)
  · show (b ++ f).countP isConB ≤ 1
    rw [List.countP_append]
    have h1 : b.countP isConB = 0 := n0
    have h2 : f.countP isConB ≤ f.length := List.countP_le_length
    omega
/-- a block loses its first member -/
theorem GoodW.lose (h : GoodW ps bs) {i : Nat} {b : List Str} (hi : bs[i]? = some b) : GoodW ps (bs.set i (b.drop 1)) := by
  have hbm := List.mem_of_getElem? hi
  refine h.set ?_ (fun x hx => h.el b hbm x (List.mem_of_mem_drop hx)) (Nat.le_trans (List.Sublist.countP_le (List.drop_sublist 1 b)) (h.one b hbm))
  have p2 := set_perm (c := b.drop 1) hi
  have e : b = b.take 1 ++ b.drop 1 := (List.take_append_drop 1 b).symm
  have p3 : (b.take 1 ++ (b.drop 1 ++ (bs.set i (b.drop 1)).flatten)).Perm (b.drop 1 ++ bs.flatten) := by
    rw [← List.append_assoc, ← e]
    exact p2
  have p4 : (b.take 1 ++ (bs.set i (b.drop 1)).flatten).Perm bs.flatten := by
    have q := (List.perm_append_comm_assoc (b.drop 1) (b.take 1) (bs.set i (b.drop 1)).flatten).trans p3
    exact (List.perm_append_left_iff _).mp q
  exact (List.nodup_append.mp (p4.nodup_iff.mpr h.nd)).2.1
end
/-! what a constant is made of -/
theorem sign_lt {c : Nat} (h : c ∈ signL) : c < 1114112 := by
  unfold signL at h
  obtain ⟨k, hk, e⟩ := List.mem_map.mp h
  have := List.mem_range.mp hk
  rw [← e]
  unfold sg
  split <;> omega
theorem con_of {z : Str} (h : isConB z = true) : ∃ w, z = quote w ∧ isValB w = true := by
  unfold isConB at h
  rw [Bool.and_eq_true, Bool.and_eq_true, Bool.and_eq_true] at h
  obtain ⟨⟨⟨h1, h2⟩, h3⟩, h4⟩ := h
  have h1 : 3 ≤ z.length := of_decide_eq_true h1
  rw [len_list] at h1
  have h2 : z.cps.toList.head? = some 39 := beq_iff_eq.mp h2
  have h3 : z.cps.toList.getLast? = some 39 := beq_iff_eq.mp h3
  have e : ∃ m : List Nat, z.cps.toList = 39 :: (m ++ [39]) := by
    generalize z.cps.toList = l at h1 h2 h3
    match l, h1, h2, h3 with
    | a :: b :: r, _, h2, h3 =>
      have ha : a = 39 := by simpa using h2
      rw [List.getLast?_cons_cons] at h3
      obtain ⟨m, hm⟩ := List.getLast?_eq_some_iff.mp h3
      exact ⟨m, by rw [ha, hm]⟩
  obtain ⟨m, hm⟩ := e
  have ez : z = quote ⟨m.toArray⟩ := str_ext (by rw [hm, quote_list])
  exact ⟨_, ez, by rw [ez, cut_quote] at h4; exact h4⟩
theorem con_small {z : Str} (h : isConB z = true) : Asc z ∧ z.length ≤ 22 := by
  obtain ⟨w, e, hv⟩ := con_of h
  unfold isValB at hv
  rw [Bool.and_eq_true, Bool.and_eq_true] at hv
  obtain ⟨⟨_, h2⟩, h3⟩ := hv
  have h2 : w.length ≤ 20 := of_decide_eq_true h2
  rw [List.all_eq_true] at h3
  rw [e]
  refine ⟨quote_asc fun c hc => sign_lt (of_decide_eq_true (h3 c hc)), ?_⟩
  rw [len_list] at h2
  rw [len_list, quote_list]
  simp
  simp at h2
  omega
theorem due_canon {ps : List Str} {blk : Str → List Str} (P : PlainP ps) (h : Part ps blk) (ha : ∀ p ∈ ps, Asc p) (hl : ∀ p ∈ ps, p.length ≤ 100) : DueOk ps (canon ps blk) := by
  have key : ∀ b ∈ canon ps blk, ∀ x ∈ b, x ∈ ps ∨ isConB x = true := fun b hb x hx => by
    obtain ⟨p, hp, e⟩ := (canon_mem h).mp hb
    by_cases z : x ∈ ps
    · exact .inl z
    · exact .inr (h.con p hp x (by rw [← e]; exact hx) z)
  refine ⟨fun b hb x hx => ?_, canon_len, fun b hb => ?_, fun b hb x hx => ?_, fun h1 z => ?_⟩
  · rcases key b hb x hx with z | z
    · exact ha x z
    · exact (con_small z).1
  · obtain ⟨p, hp, e⟩ := (canon_mem h).mp hb
    rw [e, ← h.ord p hp]
    unfold ordB
    have h1 := h.one p hp
    have h2 := List.length_filter_le (fun x => decide (x ∈ blk p)) ps
    rw [List.length_append]
    omega
  · rcases key b hb x hx with z | z
    · exact hl x z
    · have := (con_small z).2
      omega
  · cases ps with
    | nil => exact absurd h1 (by decide)
    | cons p r =>
      have := (canon_mem h).mpr ⟨p, List.mem_cons_self, rfl⟩
      rw [z] at this
      cases this
end OA

/-! ### own errors: making, raising, catching; defs and methods that may raise -/
namespace OA
open PySem PySem.Spec PyProof.Rows L2
structure CalleeX (P : Program) (w : World) (K : PySem.W.Frag) (mg : Str → Option Value) (base : Heap) (x : Str) (ps : List Str) (sp : Sp) (k : Nat) : Prop where
  ex : ∃ f fd, FnOk P w K mg base (L2.CX P w) k f fd ps sp ∧ Binds K fd ps [] ∧ mg x = some (.ref f) ∧ PySem.W.keepIn K (.ref f) = true
structure MethodX (P : Program) (w : World) (K : PySem.W.Frag) (mg : Str → Option Value) (base : Heap) (C : Addr) (m : Str) (ps : List Str) (sp : Sp) (k : Nat) : Prop where
  ex : ∃ f fd, FnOk P w K mg base (L2.CX P w) k f fd ps sp ∧ Binds K fd ps [] ∧ Cls K C ∧ Meth K C m f
/-- an own error's class with its __init__ -/
structure ErrMk (P : Program) (w : World) (K : PySem.W.Frag) (mg : Str → Option Value) (base : Heap) (x : Str) (C : Addr) (ps : List Str) (sp : Sp) (k : Nat) : Prop where
  ex : ∃ f fd, FnOk P w K mg base CX0 k f fd ps sp ∧ Binds K fd ps [] ∧ mg x = some (.ref C) ∧ OexC K C ∧ PySem.W.findIn K (.ref C) "__init__" = some (some (.ref f)) ∧ PySem.W.typeIn K (.ref f) = some (.type "function")
section
variable {X : Cx} {C : Addr} {m x : Str} {ps : List Str} {sp : Sp} {k j : Nat} {W : WX} {e : Expr} {es : List Expr} {t : TA} {p pos pos' : Pos}
theorem pe_coX (c : CalleeX X.prog X.w X.K X.mg X.base x ps sp k) (hr : Room j X.A) (hk : k ≤ j) (tk : Takes X W) (hg : Gl X x) (ha : PA X (e :: es) t)
    (hdb : (x == ("__debug__" : Str)) = false := by decide) (he : starEach (e :: es) X.env = (false, eval e X.env) :: starEach es X.env := by rfl) (hpl : (backTo pos (starEach es X.env)).any (·.1) = false := by rfl) :
    PE X (.Call (.Name x p) (e :: es) [] pos) (tCallS sp (WE W) t) := by
  obtain ⟨f, fd, F, b, mm, kp⟩ := c.ex
  exact pe_callS F (hr.mono hk) hg mm kp b (fun σ => passAt tk σ) ha hdb he hpl
/-- an operation whose reading knows the slots -/
def OpRS (X : Cx) (f : Value → Value → Sem Value) (r : L2.St → R2) : Prop :=
  ∀ (pins : List (Addr × Obj)) (s : Shared) (σ : L2.St) (H : Hp) (x y : V) (v u : Value) (Q : VK), Inv X pins σ H s → RelV x v → RelV y u → r σ x y H Q → wpAny (model X.prog X.w) X.A (f v u) (EP X pins σ Q) X.xe s
def tOpS (r : L2.St → R2) (ta tb : TE) : TE := fun σ H Q => ta σ H fun x H1 => tb σ H1 fun y H2 => r σ x y H2 Q
theorem pe_cmpS {a b : Expr} {ta tb : TE} {op : CmpOp} {r : L2.St → R2} (ho : OpRS X (compareOp op) r) (ha : PE X a ta) (hb : PE X b tb) (hm : behindInMarks op b = false) : PE X (.Compare a [op] [b] pos) (tOpS r ta tb) := by
  refine ⟨fun pins s σ H Q I h => ?_⟩
  exact wpAny_Compare1 (binT ha hb I h fun v u s2 x y H2 I2 rx ry q => ho pins s2 σ H2 x y v u Q I2 rx ry q) hm
/-- y in x, where the method may raise -/
def rInX (C : Addr) (sp : Sp) (W : WX) (neg : Bool) : L2.St → R2 := fun σ y x H Q => ∃ a dx fs, x = .ref a ∧ H a = some (.ins C dx fs) ∧ sp [.ref a, y] H (fun v H' => ∃ b : Bool, v = .bl b ∧ Q (.bl (if neg then !b else b)) H') (WE W σ)
theorem o_in_ownX (c : MethodX X.prog X.w X.K X.mg X.base C "__contains__" ps sp k) (hr : Room j X.A) (hk : k ≤ j) (tk : Takes X W) : OpRS X (compareOp .In) (rInX C sp W false) := by
  intro pins s σ H x y v u Q I rx ry h
  obtain ⟨f, fd, F, b, cl, M⟩ := c.ex
  obtain ⟨a, dx, fs, rfl, ha, q⟩ := h
  cases (show u = Value.ref a from ry)
  obtain ⟨mA, J, _⟩ := ins_get I.hok ha
  obtain ⟨od, J, _⟩ := J.look
  obtain ⟨m', hF⟩ := I.fr
  refine PySem.W.in_K hF I.ok.mod.kin J M.at_ M.fn ?_
  refine wpAny_mono (run_fnS (E := WE W) F (hr.mono hk) b (passAt tk σ) I (vs := [.ref a, x]) (.cons rfl (.cons rx .nil)) q) (fun v' s' hv => ?_) fun _ _ z => z
  obtain ⟨v0, H', I', rv, bb, rfl, q'⟩ := hv
  cases (show v' = Value.bool bb from rv)
  exact wpAny_truthy_bool ⟨.bl bb, H', I', rfl, q'⟩
/-- raise C(..) -/
def tRaise (C : Addr) (sp : Sp) (W : WX) (ta : TA) : TS := fun _ σ H => tMkO C sp [] ta σ H fun cls d H' => W cls d σ H'
theorem ps_raiseE (c : ErrMk X.prog X.w X.K X.mg X.base x C ps sp k) (hr : Room j X.A) (hk : k + 1 ≤ j) (tk : Takes X W) (hg : Gl X x) (ha : PA X (e :: es) t) (hc : X.calm = true := by rfl)
    (hdb : (x == ("__debug__" : Str)) = false := by decide) (he : starEach (e :: es) X.env = (false, eval e X.env) :: starEach es X.env := by rfl) (hpl : (backTo pos (starEach es X.env)).any (·.1) = false := by rfl) :
    PS X (.Raise (some (.Call (.Name x p) (e :: es) [] pos)) none pos') (tRaise C sp W t) := by
  obtain ⟨f, fd, F, b, mm, T, iC, tI⟩ := c.ex
  exact L2.ps_raise hc tk (pmk_oex T iC tI F (hr.mono hk) b .nil pass0 hg mm ha hdb he hpl)
/-- isinstance(e, c), e the error that the suite holds, with its own dict -/
def rIsED (K : PySem.W.Frag) (a : Addr) (cls : Value) (d : Option Addr) : List V → Hp → VK → Prop := fun xs H Q => ∃ (D dd : Addr) (fs : List (Str × V)) (c : V) (cv : Value) (b : Bool), xs = [.ref a, c] ∧ cls = .ref D ∧ d = some dd ∧ H dd = some (.xd fs) ∧ ExcC K D ∧ ClsV c cv ∧ PySem.W.kitOne K (.ref D) cv = some b ∧ Q (.bl b) H
theorem call_isED {a : Addr} {oe : Obj} {cls : Value} {d : Option Addr} {pn : List (Addr × Obj)} (K : PySem.W.Frag) (hz : Zc cls d oe) (hf : ∃ vs, oe.data = .fields vs) (hK : X.K = K := by rfl) : CallR (X.suite a ((a, oe) :: pn)) (.builtin "isinstance") (rIsED K a cls d) := by
  subst hK
  intro pins s σ H xs us Q I r h
  obtain ⟨D, dd, fs, c, cv, b, rfl, rfl, rfl, hx, T, hc, ke, q⟩ := h
  obtain ⟨u1, u2, rfl, r1, r2⟩ := vals2 r
  cases (show u1 = Value.ref a from r1)
  have e2 := hc.eq r2
  subst e2
  obtain ⟨hg, _⟩ := I.pin (a, oe) (List.mem_append.mpr (.inl List.mem_cons_self))
  obtain ⟨vs, hv⟩ := hf
  obtain ⟨mA, hns, _⟩ := (show ObjOk X.prog X.w H s.heap dd (.xd fs) from I.hok dd _ hx)
  obtain ⟨od, ho, _⟩ := lookIn_ns hns
  have J : PySem.W.InstAt s.heap a oe D (some od) := ⟨hg, hz.1, by unfold PySem.W.notCls; rw [hv] <;> rfl, by rw [hz.2]; exact ho⟩
  have hcl : (PySem.W.clsIn X.K D).isSome = true := by obtain ⟨cd, h, _⟩ := PySem.W.any_some T.hd; rw [h]; rfl
  exact PySem.W.kia_one (PySem.W.kitx_exc hcl T.hg T.hk T.hs T.ha T.hn T.ht T.hm) I.kIn J ke (fun z => nomatch z) fun tk => ⟨.bl b, H, I.tok tk, rfl, q⟩
end
/-- what __init__ of an error with two fields promises -/
def spErr2 (C : Addr) (f1 f2 : Str) : Sp := fun vs H Q _ => ∃ (a : Addr) (x1 x2 : V), vs = [.ref a, x1, x2] ∧ H a = some (exo a C none) ∧ ∀ dx, H dx = none → dx ≠ a → Q .non (upd (upd (upd H dx (exd dx [(f1, x1)])) a (exo a C (some dx))) dx (exd dx [(f2, x2), (f1, x1)]))
def spErr1 (C : Addr) (f1 : Str) : Sp := fun vs H Q _ => ∃ (a : Addr) (x1 : V), vs = [.ref a, x1] ∧ H a = some (exo a C none) ∧ ∀ dx, H dx = none → dx ≠ a → Q .non (upd (upd H dx (exd dx [(f1, x1)])) a (exo a C (some dx)))
theorem mk_err2 {C : Addr} {f1 f2 : Str} {ta : TA} {σ : L2.St} {H : Hp} {Q : XK} (h : ta σ H fun vs H1 => ∃ x1 x2, vs = [x1, x2] ∧ ∀ d, H1 d = none → Q (.ref C) (some d) (upd H1 d (.xd [(f2, x2), (f1, x1)])))
    (hm : ∀ (Q Q' : List V → Hp → Prop), (∀ vs H, Q vs H → Q' vs H) → ta σ H Q → ta σ H Q') : tMkO C (spErr2 C f1 f2) [] ta σ H Q := by
  refine hm _ _ (fun vs H1 hh => ?_) h
  obtain ⟨x1, x2, rfl, q⟩ := hh
  refine ⟨(by show 2 ≤ 1000; decide), fun a ha => ⟨a, x1, x2, rfl, upd_same, fun dx hdx hne => ?_⟩⟩
  have hd1 : H1 dx = none := by rw [upd_ne hne] at hdx; exact hdx
  refine ⟨rfl, dx, _, ?_, upd_same, hd1, ?_⟩
  · rw [upd_ne hne.symm, upd_same]
  · have e : upd (del (upd (upd (upd (upd H1 a (exo a C none)) dx (exd dx [(f1, x1)])) a (exo a C (some dx))) dx (exd dx [(f2, x2), (f1, x1)])) a) dx (.xd [(f2, x2), (f1, x1)]) = upd H1 dx (.xd [(f2, x2), (f1, x1)]) := by
      funext b
      by_cases hb : b = dx
      · rw [hb, upd_same, upd_same]
      · rw [upd_ne hb, upd_ne hb]
        by_cases hb2 : b = a
        · rw [hb2, del_same, ha]
        · rw [del_ne hb2, upd_ne hb, upd_ne hb2, upd_ne hb, upd_ne hb2]
    rw [e]
    exact q dx hd1
theorem raise_err2 {C : Addr} {f1 f2 : Str} {ta : TA} {W : WX} {D : Ends} {σ : L2.St} {H : Hp} (h : ta σ H fun vs H1 => ∃ x1 x2, vs = [x1, x2] ∧ ∀ d, H1 d = none → W (.ref C) (some d) σ (upd H1 d (.xd [(f2, x2), (f1, x1)])))
    (hm : ∀ (Q Q' : List V → Hp → Prop), (∀ vs H, Q vs H → Q' vs H) → ta σ H Q → ta σ H Q') : tRaise C (spErr2 C f1 f2) W ta D σ H := mk_err2 h hm
end OA

/-! ### operators, makers and errors without own __init__, where something may be raised -/
namespace OA
open PySem PySem.Spec PyProof.Rows L2
/-- an own error's class without own __init__ -/
structure Err0 (K : PySem.W.Frag) (mg : Str → Option Value) (x : Str) (C : Addr) : Prop where
  g : mg x = some (.ref C)
  ex : PySem.W.excIn K C [.type "ValueError", .type "Exception", .type "BaseException", .type "object"] "ValueError.__new__" = true
  k : PySem.W.keepIn K (.ref C) = true
  b : PySem.W.subIn K (.ref C) (.type "BaseException") = some true
  t : PySem.W.typeIn K (.ref C) = some (.type "type")
/-- a class of the top with its __init__, which may raise -/
structure MakerX (P : Program) (w : World) (K : PySem.W.Frag) (mg : Str → Option Value) (base : Heap) (x : Str) (C : Addr) (ps : List Str) (sp : Sp) (k : Nat) : Prop where
  ex : ∃ f fd, FnOk P w K mg base (L2.CX P w) k f fd ps sp ∧ Binds K fd ps [] ∧ mg x = some (.ref C) ∧ Mk K C f
section
variable {X : Cx} {C : Addr} {m x : Str} {ps : List Str} {sp : Sp} {k j : Nat} {W : WX} {e : Expr} {es : List Expr} {t : TA} {p pos pos' : Pos}
def tRaise0 (C : Addr) (W : WX) : TS := fun _ σ H => W (.ref C) none σ H
theorem ps_raise0 (T : Err0 X.K X.mg x C) (tk : Takes X W) (hg : Gl X x) (hc : X.calm = true := by rfl) (hdb : (x == ("__debug__" : Str)) = false := by decide) :
    PS X (.Raise (some (.Call (.Name x p) [] [] pos)) none pos') (tRaise0 C W) := by
  refine L2.ps_raise (t := fun _ H Q => Q (.ref C) none H) hc tk ?_
  intro pins s σ H Q I h
  refine wpAny_Call_Name_kw (ld_glob I hg T.g ?_ hdb)
  refine PySem.W.callWith_K0 I.kIn T.k ?_
  obtain ⟨bm, N, nm, qn, bs, hdct, sn, sub, ab, col, dd, k0, k1, k2, k3, k5, mN, hC, hN, hni, T'⟩ := exc_obj I.kIn T.ex
  refine wpAny_call_exc_subT PySem.F.excBase_ValueError T' hC hN hni (fun h' e hm => ?_) (Nat.zero_le _)
  exact mk_of I hm (raises_own T.b T.t) h (I.hok.gone hm.new)
/-- isinstance(e, c), e the error that the suite holds, without a dict of its own -/
def rIsEN (K : PySem.W.Frag) (a : Addr) (cls : Value) (d : Option Addr) : List V → Hp → VK → Prop := fun xs H Q => ∃ (D : Addr) (c : V) (cv : Value) (b : Bool), xs = [.ref a, c] ∧ cls = .ref D ∧ d = none ∧ ExcC K D ∧ ClsV c cv ∧ PySem.W.kitOne K (.ref D) cv = some b ∧ Q (.bl b) H
theorem call_isEN {a : Addr} {oe : Obj} {cls : Value} {d : Option Addr} {pn : List (Addr × Obj)} (K : PySem.W.Frag) (hz : Zc cls d oe) (hf : ∃ vs, oe.data = .fields vs) (hK : X.K = K := by rfl) : CallR (X.suite a ((a, oe) :: pn)) (.builtin "isinstance") (rIsEN K a cls d) := by
  subst hK
  intro pins s σ H xs us Q I r h
  obtain ⟨D, c, cv, b, rfl, rfl, rfl, T, hc, ke, q⟩ := h
  exact call_isE T hz hf pins s σ H _ us Q I r ⟨c, cv, b, rfl, fun u hu => hc.eq hu, ke, q⟩
theorem pe_opS {a b : Expr} {ta tb : TE} {op : Operator} {r : L2.St → R2} (ho : OpRS X (binaryOp op) r) (ha : PE X a ta) (hb : PE X b tb) : PE X (.BinOp a op b pos) (tOpS r ta tb) := by
  refine ⟨fun pins s σ H Q I h => ?_⟩
  exact wpAny_BinOp (binT ha hb I h fun v u s2 x y H2 I2 rx ry q => ho pins s2 σ H2 x y v u Q I2 rx ry q)
theorem pt_cmpS {a b : Expr} {ta tb : TE} {op : CmpOp} {r : L2.St → R2} (ho : OpRS X (compareOp op) r) (ha : PE X a ta) (hb : PE X b tb) (hm : behindInMarks op b = false) : PT X (.Compare a [op] [b] pos) (tTest (tOpS r ta tb)) := by
  refine ⟨fun pins s σ H Q I h => ?_⟩
  refine wpAny_isTrue_Compare1 (thn (ha.run pins s σ H _ I h) fun v s1 ⟨x, H1, I1, r1, q1⟩ => thn (hb.run pins s1 σ H1 _ I1 q1) fun u s2 ⟨y, H2, I2, r2, q2⟩ =>
    thn (ho pins s2 σ H2 x y v u _ I2 r1 r2 q2) fun c s3 ⟨z, H3, I3, r3, k, e, q3⟩ => ?_) hm
  subst e
  cases r3
  exact wpAny_truthy_bool ⟨H3, I3, q3⟩
/-- x op y of two instances, where the method may raise -/
def rOwn2X (C : Addr) (sp : Sp) (W : WX) : L2.St → R2 := fun σ x y H Q => ∃ a b dx fs dy gs, x = .ref a ∧ y = .ref b ∧ H a = some (.ins C dx fs) ∧ H b = some (.ins C dy gs) ∧ sp [.ref a, .ref b] H Q (WE W σ)
theorem cmp_ownX {op : CmpOp} (hop : ∀ v u, compareOp op v u = richCompare op v u) (hm : (cmpInfo op).2.1 = m) (c : MethodX X.prog X.w X.K X.mg X.base C m ps sp k) (hr : Room j X.A) (hk : k ≤ j) (tk : Takes X W) : OpRS X (compareOp op) (rOwn2X C sp W) := by
  intro pins s σ H x y v u Q I rx ry h
  obtain ⟨f, fd, F, b, cl, M⟩ := c.ex
  obtain ⟨a, b', dx, fs, dy, gs, rfl, rfl, ha, hb, q⟩ := h
  cases (show v = Value.ref a from rx)
  cases (show u = Value.ref b' from ry)
  obtain ⟨mA, J, _⟩ := ins_get I.hok ha
  obtain ⟨mB, J', _⟩ := ins_get I.hok hb
  obtain ⟨od, J, _⟩ := J.look
  obtain ⟨od', J', _⟩ := J'.look
  obtain ⟨m', hF⟩ := I.fr
  rw [hop]
  refine PySem.W.cmp_K (op := op) (tb := .ref C) hr.units0 hF I.ok.mod.kin J J'.type (by simp [PySem.W.notFirst]) (by rw [hm]; exact M.at_) M.fn ?_
  exact wpAny_mono (run_fnS (E := WE W) F (hr.mono hk) b (passAt tk σ) I (vs := [.ref a, .ref b']) (.cons rfl (.cons rfl .nil)) q) (fun v s' hv => back_of hv) fun _ _ z => z
theorem o_le_ownX (c : MethodX X.prog X.w X.K X.mg X.base C "__le__" ps sp k) (hr : Room j X.A) (hk : k ≤ j) (tk : Takes X W) : OpRS X (compareOp .LtE) (rOwn2X C sp W) := cmp_ownX (fun _ _ => rfl) rfl c hr hk tk
theorem bin_ownX {op : Operator} (hm : PySem.dunder op.info.2 = m) (c : MethodX X.prog X.w X.K X.mg X.base C m ps sp k) (hs : PySem.W.selfFirst X.K C = true) (hr : Room j X.A) (hk : k ≤ j) (tk : Takes X W) : OpRS X (binaryOp op) (rOwn2X C sp W) := by
  intro pins s σ H x y v u Q I rx ry h
  obtain ⟨f, fd, F, b, cl, M⟩ := c.ex
  obtain ⟨a, b', dx, fs, dy, gs, rfl, rfl, ha, hb, q⟩ := h
  cases (show v = Value.ref a from rx)
  cases (show u = Value.ref b' from ry)
  obtain ⟨mA, J, _⟩ := ins_get I.hok ha
  obtain ⟨mB, J', _⟩ := ins_get I.hok hb
  obtain ⟨od, J, _⟩ := J.look
  obtain ⟨od', J', _⟩ := J'.look
  obtain ⟨m', hF⟩ := I.fr
  refine PySem.W.binop_K hF I.ok.mod.kin J J'.type hs (by rw [hm]; exact M.at_) M.fn ?_
  exact wpAny_mono (run_fnS (E := WE W) F (hr.mono hk) b (passAt tk σ) I (vs := [.ref a, .ref b']) (.cons rfl (.cons rfl .nil)) q) (fun v s' hv => back_of hv) fun _ _ z => z
theorem o_and_ownX (c : MethodX X.prog X.w X.K X.mg X.base C "__and__" ps sp k) (hs : PySem.W.selfFirst X.K C = true) (hr : Room j X.A) (hk : k ≤ j) (tk : Takes X W) : OpRS X (binaryOp .BitAnd) (rOwn2X C sp W) := bin_ownX (by decide +kernel) c hs hr hk tk
theorem o_or_ownX (c : MethodX X.prog X.w X.K X.mg X.base C "__or__" ps sp k) (hs : PySem.W.selfFirst X.K C = true) (hr : Room j X.A) (hk : k ≤ j) (tk : Takes X W) : OpRS X (binaryOp .BitOr) (rOwn2X C sp W) := bin_ownX (by decide +kernel) c hs hr hk tk
/-- C(e, ..), where __init__ may raise -/
def tMakeS (C : Addr) (sp : Sp) (E : L2.St → XK) (t : TA) : TE := fun σ H Q => t σ H fun vs H1 => ∀ x dx, H1 x = none → H1 dx = none → dx ≠ x → sp (V.ref x :: vs) (upd (upd H1 dx (.own x)) x (.ins C dx [])) (fun v H2 => v = .non ∧ Q (.ref x) H2) (E σ)
theorem run_makeS {f : Addr} {fd : FuncData} {E : L2.St → XK} {pins : List (Addr × Obj)} {σ : L2.St} {H : Hp} {s : Shared} {Q : VK} {us : List Value} {vs : List V} (M : Mk X.K C f) (F : FnOk X.prog X.w X.K X.mg X.base (L2.CX X.prog X.w) k f fd ps sp) (hr : Room (k + 1) X.A) (hb : Binds X.K fd ps [])
    (tk : Takes X W) (I : Inv X pins σ H s) (r : Vals vs us)
    (h : ∀ x dx, H x = none → H dx = none → dx ≠ x → sp (.ref x :: vs) (upd (upd H dx (.own x)) x (.ins C dx [])) (fun v H2 => v = .non ∧ Q (.ref x) H2) (WE W σ)) :
    wpAny (model X.prog X.w) X.A (call (.ref C) us) (EP X pins σ Q) X.xe s := by
  have hq := h (s.heap.objs.size + 1) s.heap.objs.size (I.hok.fresh (Nat.le_succ _)) (I.hok.fresh (Nat.le_refl _)) (Nat.ne_of_lt (Nat.lt_succ_self _))
  have I2 := Inv.made (C := C) I
  have r2 : Vals (V.ref (s.heap.objs.size + 1) :: vs) (Value.ref (s.heap.objs.size + 1) :: us) := .cons rfl r
  have hl : (Value.ref (s.heap.objs.size + 1) :: us ++ []).length = ps.length := by
    have e := r2.length
    rw [F.len _ _ _ _ hq] at e
    rw [List.append_nil]
    exact e.symm
  have hbb := hb _ (Value.ref (s.heap.objs.size + 1) :: us) I2.kIn hl
  rw [List.append_nil] at hbb
  refine wpAny_call (make_map (f := f) I.kIn M.makes M.init (beq_iff_eq.mp M.fn) (codeAny_mono (F.run _ X.stack _ _ ⟨Value.ref (s.heap.objs.size + 1) :: us, []⟩ (Value.ref (s.heap.objs.size + 1) :: us) _ _ (WE W σ) (hr.make C us [])
    (I2.env0.make C us []) hbb r2 hq) fun r s' hq' => ?_))
  cases r with
  | error e => exact passAt tk σ pins _ _ e s' I2 hq'
  | ok fl =>
    cases fl with
    | ret u =>
      obtain ⟨v, H', I3, rv, ev, q3⟩ := I2.after hq'
      subst ev
      exact ⟨rv, ⟨V.ref (s.heap.objs.size + 1), H', I3, rfl, q3⟩⟩
    | next => exact False.elim hq'
    | brk => exact False.elim hq'
    | cont => exact False.elim hq'
theorem pe_mkX (c : MakerX X.prog X.w X.K X.mg X.base x C ps sp k) (hr : Room j X.A) (hk : k + 1 ≤ j) (tk : Takes X W) (hg : Gl X x) (ha : PA X (e :: es) t)
    (hdb : (x == ("__debug__" : Str)) = false := by decide) (he : starEach (e :: es) X.env = (false, eval e X.env) :: starEach es X.env := by rfl) (hpl : (backTo pos (starEach es X.env)).any (·.1) = false := by rfl) :
    PE X (.Call (.Name x p) (e :: es) [] pos) (tMakeS C sp (WE W) t) := by
  obtain ⟨f, fd, F, b, mm, M⟩ := c.ex
  refine ⟨fun pins s σ H Q I h => ?_⟩
  refine wpAny_Call_Name_kw (ld_glob I hg mm ?_ hdb)
  refine PySem.W.callWith_K (h₀ := X.base) I.ok.mod.kin M.kp (thn (ha.run pos pins s σ H _ I h) fun us s1 ⟨vs, H1, I1, r, q⟩ => ⟨I1.kIn, ?_⟩) he hpl
  exact run_makeS (E := WE W) M F (hr.mono hk) b tk I1 r q
end
section
variable {X : Cx} {k : Nat}
theorem o_inD (K : PySem.W.Frag) (hr : Room k X.A) (h : X.K = K := by rfl) : OpR X (compareOp .In) (rInD K) := by subst h; exact op_inD (by have := hr.un; omega)
theorem o_notinD (K : PySem.W.Frag) (hr : Room k X.A) (h : X.K = K := by rfl) : OpR X (compareOp .NotIn) (rNotInD K) := by subst h; exact op_notInD (by have := hr.un; omega)
end
theorem mk_err1 {C : Addr} {f1 : Str} {ta : TA} {σ : L2.St} {H : Hp} {Q : XK} (h : ta σ H fun vs H1 => ∃ x1, vs = [x1] ∧ ∀ d, H1 d = none → Q (.ref C) (some d) (upd H1 d (.xd [(f1, x1)])))
    (hm : ∀ (Q Q' : List V → Hp → Prop), (∀ vs H, Q vs H → Q' vs H) → ta σ H Q → ta σ H Q') : tMkO C (spErr1 C f1) [] ta σ H Q := by
  refine hm _ _ (fun vs H1 hh => ?_) h
  obtain ⟨x1, rfl, q⟩ := hh
  refine ⟨(by show 1 ≤ 1000; decide), fun a ha => ⟨a, x1, rfl, upd_same, fun dx hdx hne => ?_⟩⟩
  have hd1 : H1 dx = none := by rw [upd_ne hne] at hdx; exact hdx
  refine ⟨rfl, dx, [(f1, x1)], upd_same, ?_, hd1, ?_⟩
  · rw [upd_ne hne, upd_same]
  · have e : upd (del (upd (upd (upd H1 a (exo a C none)) dx (exd dx [(f1, x1)])) a (exo a C (some dx))) a) dx (.xd [(f1, x1)]) = upd H1 dx (.xd [(f1, x1)]) := by
      funext b
      by_cases hb : b = dx
      · rw [hb, upd_same, upd_same]
      · rw [upd_ne hb, upd_ne hb]
        by_cases hb2 : b = a
        · rw [hb2, del_same, ha]
        · rw [del_ne hb2, upd_ne hb2, upd_ne hb, upd_ne hb2]
    rw [e]
    exact q dx hd1
theorem raise_err1 {C : Addr} {f1 : Str} {ta : TA} {W : WX} {D : Ends} {σ : L2.St} {H : Hp} (h : ta σ H fun vs H1 => ∃ x1, vs = [x1] ∧ ∀ d, H1 d = none → W (.ref C) (some d) σ (upd H1 d (.xd [(f1, x1)])))
    (hm : ∀ (Q Q' : List V → Hp → Prop), (∀ vs H, Q vs H → Q' vs H) → ta σ H Q → ta σ H Q') : tRaise C (spErr1 C f1) W ta D σ H := mk_err1 h hm
end OA

namespace OA
open PySem L2
def topS (i : Nat) : Stmt := PySem.Challenge.pw_ownersagree_k10_patterns_refused.main.body.getD i (.Pass ⟨0, 0, 0, 0⟩)
/-- what the top has left of the built-in names and the constants -/
structure Txt (K : PySem.W.Frag) (mg : Str → Option Value) : Prop where
  n_len : mg "len" = none
  n_abs : mg "abs" = none
  n_int : mg "int" = none
  n_str : mg "str" = none
  n_list : mg "list" = none
  n_tuple : mg "tuple" = none
  n_range : mg "range" = none
  n_isinstance : mg "isinstance" = none
  n_any : mg "any" = none
  n_all : mg "all" = none
  n_sorted : mg "sorted" = none
  n_bool : mg "bool" = none
  n_ValueError : mg "ValueError" = none
  c_SIGNS : ∃ t, mg "SIGNS" = some (.str "abcdefghijklmnopqrstuvwxyz0123456789" t)
  c_LONGEST_VALUE : ∃ t, mg "LONGEST_VALUE" = some (.int 20 t)
end OA

/-! ### the drawing of a law: get_state, draw -/
namespace OA
open PySem PySem.Spec PyProof.Rows L2
/-- draw(st, limit): some number below the limit; only the state changes -/
def spDraw : Sp := fun vs H Q _ => ∃ (G : Hp) (st inn : Addr) (n : Int), vs = [.ref st, .int n] ∧ Same G H ∧ StAt G H st inn ∧ 0 < n ∧ n < 1073741824 ∧
  ∀ (r : Int) (H' : Hp), Stp (F2 st inn) G H G H' → StAt G H' st inn → 0 ≤ r → r < n → Q (.int r) H'
/-- get_state(script) -/
def spState (K : PySem.W.Frag) : Sp := fun vs H Q _ => ∃ (a : Addr) (ns : List Int), vs = [.ref a] ∧ SqL K H a (ns.map V.int) ∧ ns.length ≤ 1000 ∧
  ∀ (st inn : Addr) (H' : Hp), Same H H' → StAt H H' st inn → Q (.ref st) H'
theorem St4.ne {G H : Hp} {st inn : Addr} {cs : List Int} {a b c : Int} (h1 : Cell G H st (.lst [.ref inn, .int a, .int b, .int c])) (h2 : Cell G H inn (.lst (cs.map V.int))) : st ≠ inn := by
  refine ne_of h1.at_ h2.at_ fun z => ?_
  cases cs with
  | nil => cases z
  | cons x xs => cases z
theorem seq0 {α : Type} {x : α} (xs : List α) : seqIndex? 0 (x :: xs).length = some 0 := by
  unfold seqIndex?
  simp
section
variable {P : Program} {w : World} {K : PySem.W.Frag} {mg : Str → Option Value} {base : Heap}
theorem sc_draw : FnScope ["_law_st", "_law_limit", "_law_cell", "_law_digit"] ["_law_st", "_law_limit"] (defScope (topS 26)) := ⟨rfl, rfl, rfl, by decide +kernel, rfl, by decide +kernel, by decide +kernel⟩
set_option maxHeartbeats 8000000 in
theorem ok_draw {f : Addr} {fd : FuncData} (F : Fun K "_law_draw" "_law_draw" (topS 26) f fd) (T : Txt K mg) : FnOk P w K mg base CX0 1 f fd ["_law_st", "_law_limit"] spDraw := by
  refine F.ok sc_draw (fun vs H Q E h => ?_) (fun cdv A outer s H vs Q E hr h => ?_)
  · obtain ⟨G, st, inn, n, rfl, _⟩ := h
    rfl
  · obtain ⟨G, st, inn, n, rfl, gh, S, n0, n1, k⟩ := h
    refine ⟨_, (C8.pss_cut (ps_if (PW.pt (pw_and (pt_cmpR op_eq (pe_ix (ix_lst K) (pv 0) pe_int (fun _ _ => rfl)) pe_int (nomark _)) (pw_and1 (pt_cmpR (o_neD K hr.units) (pe_ix (ix_lst K) (pv 0) pe_int (fun _ _ => rfl)) (pe_lst pa_nil) (nomark _))))) (pss_cons (ps_set (i := 2) sc_draw.nd rfl (Or.inl rfl) (pe_op o_mod (pe_callTy c_int (by rfl) T.n_int (by decide +kernel) (pa_cons (e_bm K PySem.F.plainAttrs_list PySem.F.slot_list_pop PySem.F.type_list_pop mt_popAt (pe_ix (ix_lst K) (pv 0) pe_int (fun _ _ => rfl)) (pa_cons pe_int pa_nil)) pa_nil)) (pe_op op_powW (pe_op o_pow pe_int pe_int) pe_int)))
      (pss_one (ps_if (pt_cmpR o_ge (pv 2) (pe_op o_pow pe_int pe_int) (nomark _)) (pss_one (ps_asg (pv 2) (pg_sub (pv 0) pe_int set_list))) (pss_one (ps_asg (pe_op o_mod (pe_callTy c_int (by rfl) T.n_int (by decide +kernel) (pa_cons (pe_op o_add (pe_op o_add (pe_op o_mul (pe_ix (ix_lst K) (pv 0) pe_int (fun _ _ => rfl)) pe_int) (pe_op o_mul (pv 2) pe_int)) pe_int) pa_nil)) pe_int) (pg_sub (pv 0) pe_int set_list)))))) pss_nil)
      (pss_cons (ps_if (pt_cmpR o_gt (pe_ix (ix_lst K) (pv 0) pe_int (fun _ _ => rfl)) pe_int (nomark _)) (pss_cons (ps_set (i := 3) sc_draw.nd rfl (Or.inl rfl) (pe_op o_mod (pe_callTy c_int (by rfl) T.n_int (by decide +kernel) (pa_cons (pe_ix (ix_lst K) (pv 0) pe_int (fun _ _ => rfl)) pa_nil)) (pv 1)))
      (pss_cons (ps_asg (pe_op o_fdiv (pe_ix (ix_lst K) (pv 0) pe_int (fun _ _ => rfl)) (pv 1)) (pg_sub (pv 0) pe_int set_list))
      (pss_one (ps_ret (pv 3))))) pss_nil)
      (pss_cons (ps_asg (pe_op o_add (pe_ix (ix_lst K) (pv 0) pe_int (fun _ _ => rfl)) pe_int) (pg_sub (pv 0) pe_int set_list))
      (pss_cons (ps_asg (pe_op o_mod (pe_callTy c_int (by rfl) T.n_int (by decide +kernel) (pa_cons (pe_op o_add (pe_op o_mul (pe_ix (ix_lst K) (pv 0) pe_int (fun _ _ => rfl)) pe_int) (pe_op o_mul (pe_ix (ix_lst K) (pv 0) pe_int (fun _ _ => rfl)) pe_int)) pa_nil)) pe_int) (pg_sub (pv 0) pe_int set_list))
      (pss_one (ps_ret (pe_op o_mod (pe_op o_mod (pe_callTy c_int (by rfl) T.n_int (by decide +kernel) (pa_cons (pe_op o_add (pe_op o_mul (pe_ix (ix_lst K) (pv 0) pe_int (fun _ _ => rfl)) pe_int) (pe_ix (ix_lst K) (pv 0) pe_int (fun _ _ => rfl))) pa_nil)) pe_int) (pv 1)))))))), ?_⟩
    refine ⟨fun σ H1 => ∃ x, σ = [some (.ref st), some (.int n), x, none] ∧ Stp (F2 st inn) G H G H1 ∧ StAt G H1 st inn, ?_, ?_⟩
    · obtain ⟨cs, a, b, c, h1, h2, hc, ha, hb, hd⟩ := S
      have ne := St4.ne h1 h2
      refine ⟨_, rfl, _, _, _, _, rfl, rfl, SqL.of h1.at_, rfl, rfl, _, rfl, ?_⟩
      refine ite2 (fun _ => ?_) (fun _ => ⟨none, rfl, Stp.refl gh, ⟨cs, a, b, c, h1, h2, hc, ha, hb, hd⟩⟩)
      refine ⟨_, rfl, _, _, _, _, rfl, rfl, SqL.of h1.at_, rfl, (by decide), fun p hp => ?_⟩
      have sp : Stp (F2 st inn) G H G (upd H p (.lst [])) := Stp.put gh hp _
      have off := StAt.off ⟨cs, a, b, c, h1, h2, hc, ha, hb, hd⟩ hp
      have k1 := h1.off (q := p) (fun e => off (.inl e.symm)) (.lst [])
      have k2 := h2.off (q := p) (fun e => off (.inr e.symm)) (.lst [])
      refine ⟨dI cs, .list [], .lst (SqL.of k2.at_) (dp_ints cs), .lst (SqL.of upd_same) .nil, sh_ints, rfl, _, rfl, ?_⟩
      rw [eqv_ints0]
      cases cs with
      | nil => exact iteF ⟨none, rfl, sp, ⟨[], a, b, c, k1, k2, hc, ha, hb, hd⟩⟩
      | cons x cs =>
        refine iteT ?_
        have hx : 0 ≤ x := hc x List.mem_cons_self
        have hc' : ∀ y ∈ cs, 0 ≤ y := fun y hy => hc y (List.mem_cons_of_mem _ hy)
        refine ⟨_, rfl, _, _, _, _, rfl, rfl, SqL.of k1.at_, rfl, Or.inl ⟨rfl, _, SqL.of k2.at_⟩, inn, _, 0, 0, .int x, rfl, rfl, k2.at_, (by decide), (by decide), seq0 _, rfl, .inl ⟨_, rfl, _, _, rfl, rfl, ⟨by decide, by decide, by decide⟩, _, _, rfl, rfl, ⟨by decide, by decide +kernel, by decide +kernel⟩, _, _, rfl, rfl, (by show (0 : Int) < ((10 : Int) ^ (50 : Int).toNat) ^ (8 : Int).toNat; decide +kernel), ?_⟩⟩
        have hm : 0 ≤ x % ((10 : Int) ^ (50 : Int).toNat) ^ (8 : Int).toNat := Int.emod_nonneg _ (by decide +kernel)
        generalize x % ((10 : Int) ^ (50 : Int).toNat) ^ (8 : Int).toNat = y at hm
        generalize eH2 : upd (upd H p (.lst [])) inn (.lst (((x :: cs).map V.int).eraseIdx 0)) = H2
        have s2 : Stp (F2 st inn) G H G H2 := by rw [← eH2]; exact sp.trans (Stp.write sp.gh k2 (.inr rfl) _)
        have j1 : Cell G H2 st (.lst [.ref inn, .int a, .int b, .int c]) := by rw [← eH2]; exact k1.off ne _
        have j2 : Cell G H2 inn (.lst (cs.map V.int)) := by rw [← eH2]; exact k2.set _
        refine ⟨_, rfl, _, _, rfl, rfl, ⟨by decide, by decide, by decide⟩, _, _, rfl, rfl, _, rfl, ?_⟩
        refine ite2 (fun _ => ?_) (fun _ => ?_)
        · refine ⟨_, rfl, _, rfl, st, _, 1, 1, rfl, rfl, j1.at_, rfl, ?_⟩
          exact ⟨_, rfl, s2.trans (Stp.write s2.gh j1 (.inl rfl) _), ⟨cs, y, b, c, j1.set _, j2.off ne.symm _, hc', hm, hb, hd⟩⟩
        · refine ⟨_, rfl, _, _, _, _, rfl, rfl, SqL.of j1.at_, rfl, _, _, rfl, rfl, .inr ⟨by decide, by decide⟩, _, rfl, _, _, rfl, rfl, .inr ⟨by decide, by decide⟩, _, _, rfl, rfl, _, _, rfl, rfl, .inl ⟨_, rfl, _, _, rfl, rfl, (by show (0 : Int) < 2147483647; decide), ?_⟩⟩
          refine ⟨_, rfl, st, _, 2, 2, rfl, rfl, j1.at_, rfl, ?_⟩
          exact ⟨_, rfl, s2.trans (Stp.write s2.gh j1 (.inl rfl) _), ⟨cs, a, _, c, j1.set _, j2.off ne.symm _, hc', ha, Int.emod_nonneg _ (by decide), hd⟩⟩
    · rintro σ H1 ⟨x, rfl, s1, cs, a, b, c, h1, h2, hc, ha, hb, hd⟩
      have ne := St4.ne h1 h2
      refine ⟨_, rfl, _, _, _, _, rfl, rfl, SqL.of h1.at_, rfl, _, _, rfl, rfl, _, rfl, ?_⟩
      refine ite2 (fun _ => ?_) (fun _ => ?_)
      · refine ⟨_, rfl, _, _, _, _, rfl, rfl, SqL.of h1.at_, rfl, .inl ⟨_, rfl, _, rfl, _, _, rfl, rfl, n0, ?_⟩⟩
        refine ⟨_, rfl, _, _, _, _, rfl, rfl, SqL.of h1.at_, rfl, _, rfl, _, _, rfl, rfl, ⟨n0, n1⟩, _, rfl, st, _, 1, 1, rfl, rfl, h1.at_, rfl, ?_⟩
        refine ⟨_, rfl, ?_⟩
        exact k _ _ (s1.trans (Stp.write s1.gh h1 (.inl rfl) _)) ⟨cs, _, b, c, h1.set _, h2.off ne.symm _, hc, Int.ediv_nonneg ha (Int.le_of_lt n0), hb, hd⟩ (Int.emod_nonneg _ (by omega)) (Int.emod_lt_of_pos _ n0)
      · refine ⟨_, rfl, _, _, _, _, rfl, rfl, SqL.of h1.at_, rfl, _, _, rfl, rfl, _, rfl, st, _, 3, 3, rfl, rfl, h1.at_, rfl, ?_⟩
        generalize eH2 : upd H1 st (.lst (([.ref inn, .int a, .int b, .int c] : List V).set 3 (.int (c + 1)))) = H2
        have s2 : Stp (F2 st inn) G H G H2 := by rw [← eH2]; exact s1.trans (Stp.write s1.gh h1 (.inl rfl) _)
        have j1 : Cell G H2 st (.lst [.ref inn, .int a, .int b, .int (c + 1)]) := by rw [← eH2]; exact h1.set _
        have j2 : Cell G H2 inn (.lst (cs.map V.int)) := by rw [← eH2]; exact h2.off ne.symm _
        refine ⟨_, rfl, _, _, _, _, rfl, rfl, SqL.of j1.at_, rfl, _, _, rfl, rfl, .inr ⟨by decide, by decide⟩, _, rfl, _, _, _, _, rfl, rfl, SqL.of j1.at_, rfl, _, _, rfl, rfl, .inr ⟨by decide, by decide⟩, _, _, rfl, rfl, .inl ⟨_, rfl, _, _, rfl, rfl, (by show (0 : Int) < 2147483647; decide), ?_⟩⟩
        refine ⟨_, rfl, st, _, 2, 2, rfl, rfl, j1.at_, rfl, ?_⟩
        generalize hz : (b * 48271 + (c + 1) * 69621) % 2147483647 = z
        have z0 : 0 ≤ z := by rw [← hz]; exact Int.emod_nonneg _ (by decide)
        generalize eH3 : upd H2 st (.lst (([.ref inn, .int a, .int b, .int (c + 1)] : List V).set 2 (.int z))) = H3
        have s3 : Stp (F2 st inn) G H G H3 := by rw [← eH3]; exact s2.trans (Stp.write s2.gh j1 (.inl rfl) _)
        have l1 : Cell G H3 st (.lst [.ref inn, .int a, .int z, .int (c + 1)]) := by rw [← eH3]; exact j1.set _
        have l2 : Cell G H3 inn (.lst (cs.map V.int)) := by rw [← eH3]; exact j2.off ne.symm _
        refine ⟨_, rfl, _, _, _, _, rfl, rfl, SqL.of l1.at_, rfl, _, _, rfl, rfl, .inr ⟨by decide, by decide⟩, _, rfl, _, _, _, _, rfl, rfl, SqL.of l1.at_, rfl, _, _, rfl, rfl, .inl ⟨_, rfl, _, _, rfl, rfl, (by show (0 : Int) < 2147483629; decide), _, rfl, _, _, rfl, rfl, n0, ?_⟩⟩
        exact k _ _ s3 ⟨cs, a, z, c + 1, l1, l2, hc, ha, z0, by omega⟩ (Int.emod_nonneg _ (by omega)) (Int.emod_lt_of_pos _ n0)
end
end OA

namespace OA
open PySem PySem.Spec PyProof.Rows L2
section
variable {P : Program} {w : World} {K : PySem.W.Frag} {mg : Str → Option Value} {base : Heap}
theorem sc_get_state : FnScope ["_law_script", "_law_cell"] ["_law_script"] (defScope (topS 25)) := ⟨rfl, rfl, rfl, by decide +kernel, rfl, by decide +kernel, by decide +kernel⟩
theorem cutV_mem {xs : List V} {lo hi : Option Int} {x : V} (h : x ∈ cutV xs lo hi) : x ∈ xs := List.mem_of_mem_drop (List.mem_of_mem_take h)
theorem cutV_len {xs : List V} {lo hi : Option Int} : (cutV xs lo hi).length ≤ xs.length := by
  unfold cutV
  rw [List.length_take, List.length_drop]
  omega
set_option maxHeartbeats 8000000 in
theorem ok_get_state {f : Addr} {fd : FuncData} (F : Fun K "_law_get_state" "_law_get_state" (topS 25) f fd) (T : Txt K mg) : FnOk P w K mg base CX0 1 f fd ["_law_script"] (spState K) := by
  refine F.ok sc_get_state (fun vs H Q E h => ?_) (fun cdv A outer s H vs Q E hr h => ?_)
  · obtain ⟨a, ns, rfl, _⟩ := h
    rfl
  · obtain ⟨a, ns, rfl, hS, hlen, k⟩ := h
    refine ⟨_, (pss_one (ps_ret (pe_lst (pa_cons (pe_lc (own := [("_law_cell", 1)]) (by rfl) sc_get_state.nd (i_list K (pe_slice (sl_lst K) (pv 0) po_none (po_some pe_int))) (blkOk_by (own := [("_law_cell", 1)]) (N := ["_law_script", "_law_cell"]) (sc := defScope (topS 25)) (by decide +kernel)) (fun _ _ _ _ _ => (pg_name (i := 1) sc_get_state.nd rfl (Or.inl rfl))) (fun _ _ _ _ _ => pts_nil) (fun _ _ _ _ _ => (pe_op o_add (pe_op o_mul pe_int (pe_callB c_abs (by rfl) T.n_abs (by decide +kernel) (pa_cons (pv 1) pa_nil))) (pe_callTy c_int (by rfl) T.n_int (by decide +kernel) (pa_cons (pe_cmpR o_lt (pv 1) pe_int (nomark _)) pa_nil))))) (pa_cons pe_int (pa_cons pe_int (pa_cons pe_int pa_nil))))))), ?_⟩
    refine ⟨_, rfl, _, rfl, a, _, rfl, hS, fun p hp => ⟨p, rfl, ⟨_, SqL.of upd_same⟩, fun D hD => ?_⟩⟩
    generalize exs : cutV (ns.map V.int) none (some 63) = xs at hD
    have hl : xs.length ≤ 1000 := by
      rw [← exs]
      have := cutV_len (xs := ns.map V.int) (lo := none) (hi := some 63)
      rw [List.length_map] at this
      omega
    have hpD : p ≠ D := ne_of_none upd_same hD
    have nD : H D = none := by rw [upd_ne hpD.symm] at hD; exact hD
    refine lc_list (K := K) (a := p) (xs := xs) (fun i H' => ∃ cs : List Int, Same H H' ∧ H' p = some (.lst xs) ∧ H' D = some (.lst (cs.map V.int)) ∧ (∀ c ∈ cs, 0 ≤ c) ∧ cs.length = i) ?_ ?_ ?_ ?_
    · refine ⟨[], fun b o e => ?_, ?_, upd_same, fun c hc => (by cases hc), rfl⟩
      · rw [upd_ne (ne_of_none e nD), upd_ne (ne_of_none e hp)]; exact e
      · rw [upd_ne hpD]; exact upd_same
    · rintro i H' _ ⟨cs, _, h, _⟩
      exact SqL.of h
    · rintro i x H' hx ⟨cs, s1, h1, h2, h3, h4⟩
      obtain ⟨z, rfl⟩ : ∃ z, x = V.int z := by
        have hm := cutV_mem (xs := ns.map V.int) (lo := none) (hi := some 63) (x := x) (by rw [exs]; exact List.mem_of_getElem? hx)
        obtain ⟨z, _, e⟩ := List.mem_map.mp hm
        exact ⟨z, e.symm⟩
      refine ⟨rfl, yes_of ?_⟩
      refine ⟨_, rfl, _, rfl, _, _, rfl, rfl, .inl ⟨by decide, by decide⟩, _, rfl, _, _, rfl, rfl, .inr ⟨_, rfl, _, _, rfl, rfl, _, h2, ?_, ?_⟩⟩
      · rw [List.length_map]; exact sz_lt (by have := get_lt hx; omega)
      · have hv : 0 ≤ 2 * (if z < 0 then -z else z) + (if decide (z < 0) = true then 1 else 0) := by
          split <;> split <;> omega
        refine ⟨cs ++ [2 * (if z < 0 then -z else z) + (if decide (z < 0) = true then 1 else 0)], fun b o e => ?_, ?_, ?_, ?_, ?_⟩
        · rw [upd_ne (ne_of_none e nD)]; exact s1 b o e
        · rw [upd_ne hpD]; exact h1
        · rw [upd_same, List.map_append]; rfl
        · intro c hc
          rcases List.mem_append.mp hc with h | h
          · exact h3 c h
          · rw [List.mem_singleton.mp h]; exact hv
        · rw [List.length_append, h4]; rfl
    · rintro H' ⟨cs, s1, h1, h2, h3, h4⟩
      refine ⟨by show 4 ≤ sizeLine; decide, fun st hst => ?_⟩
      have n1 : H st = none := s1.free hst
      refine k st D _ (fun b o e => ?_) ⟨cs, 0, 1, 0, ⟨upd_same, n1⟩, ⟨?_, nD⟩, h3, by decide, by decide, by decide⟩
      · rw [upd_ne (ne_of_none e n1)]; exact s1 b o e
      · rw [upd_ne (ne_of_none h2 hst)]; exact h2
end
end OA

/-! ### words that a law draws -/
namespace OA
open PySem PySem.Spec PyProof.Rows L2
def spWords : Sp := fun vs H Q _ => ∃ (G : Hp) (st inn : Addr) (m n : Nat), vs = [.ref st, .int m, .int n] ∧ Same G H ∧ StAt G H st inn ∧ 1 ≤ m ∧ m ≤ 1000 ∧ n ≤ 26 ∧
  ∀ (v : V) (ws : List Str) (G' H' : Hp), Stp (F2 st inn) G H G' H' → StAt G' H' st inn → Ss G' v ws → Words m n ws → Q v H'
section
variable {P : Program} {w : World} {K : PySem.W.Frag} {mg : Str → Option Value} {base : Heap}
theorem sc_get_words : FnScope ["_law_st", "_law_most", "_law_count", "_law_signs", "_law_size", "_law_place", "_law_fill", "_law_some", "_law_first", "_law_tail", "_law_k"] ["_law_st", "_law_most", "_law_count"] (defScope (topS 27)) := ⟨rfl, rfl, rfl, by decide +kernel, rfl, by decide +kernel, by decide +kernel⟩
set_option maxHeartbeats 8000000 in
theorem ok_get_words {f : Addr} {fd : FuncData} (F : Fun K "_law_get_words" "_law_get_words" (topS 27) f fd) (T : Txt K mg) (c_draw : Callee P w K mg base "_law_draw" ["_law_st", "_law_limit"] spDraw 1) : FnOk P w K mg base CX0 2 f fd ["_law_st", "_law_most", "_law_count"] spWords := by
  refine F.ok sc_get_words (fun vs H Q E h => ?_) (fun cdv A outer s H vs Q E hr h => ?_)
  · obtain ⟨G, st, inn, m, n, rfl, _⟩ := h
    rfl
  · obtain ⟨G, st, inn, m, n, rfl, gh, S, m0, m1, hn, k⟩ := h
    refine ⟨_, (pss_cons (ps_set (i := 3) sc_get_words.nd rfl (Or.inr rfl) pe_str)
      (pss_cons (ps_set (i := 4) sc_get_words.nd rfl (Or.inl rfl) (pe_op o_add pe_int (pe_co c_draw hr (by decide) (by rfl) (pa_cons (pv 0) (pa_cons (pv 1) pa_nil)))))
      (pss_cons (ps_set (i := 5) sc_get_words.nd rfl (Or.inr rfl) (pe_co c_draw hr (by decide) (by rfl) (pa_cons (pv 0) (pa_cons (pv 4) pa_nil))))
      (pss_cons (ps_set (i := 6) sc_get_words.nd rfl (Or.inr rfl) (pe_ix ix_str (pv 3) (pe_co c_draw hr (by decide) (by rfl) (pa_cons (pv 0) (pa_cons pe_int pa_nil))) (fun _ _ => rfl)))
      (C8.pss_cut (ps_if (PW.pt (pw_and (pt_cmpR op_eq (pv 4) pe_int (nomark _)) (pw_and1 (pt_cmpR o_ins (pv 6) pe_str (by rfl))))) (pss_one (ps_set (i := 6) sc_get_words.nd rfl (Or.inr rfl) pe_str)) pss_nil)
      (C8.pss_cut (ps_set (i := 7) sc_get_words.nd rfl (Or.inr rfl) (pe_ifExp (pt_cmpR op_eq (pv 5) pe_int (nomark _)) pe_int pe_int))
      (pss_cons (ps_set (i := 8) sc_get_words.nd rfl (Or.inr rfl) (pe_co c_draw hr (by decide) (by rfl) (pa_cons (pv 0) (pa_cons (pv 7) pa_nil))))
      (pss_cons (ps_set (i := 9) sc_get_words.nd rfl (Or.inr rfl) (pe_op op_rep_str (pv 6) (pe_op o_sub (pe_op o_sub (pv 4) (pv 5)) pe_int)))
      (pss_one (ps_ret (pe_lc (own := [("_law_k", 10)]) (by rfl) sc_get_words.nd (pi_range1 (by rfl) T.n_range (pa_cons (pv 2) pa_nil)) (blkOk_by (own := [("_law_k", 10)]) (N := ["_law_st", "_law_most", "_law_count", "_law_signs", "_law_size", "_law_place", "_law_fill", "_law_some", "_law_first", "_law_tail", "_law_k"]) (sc := defScope (topS 27)) (by decide +kernel)) (fun _ _ _ _ _ => (pg_name (i := 10) sc_get_words.nd rfl (Or.inl rfl))) (fun _ _ _ _ _ => pts_nil) (fun _ _ _ _ _ => (pe_op o_adds (pe_op o_adds (pe_op op_rep_str (pv 6) (pv 5)) (pe_ix ix_str (pv 3) (pe_op o_mod (pe_callTy c_int (by rfl) T.n_int (by decide +kernel) (pa_cons (pe_op o_add (pv 8) (pv 10)) pa_nil)) (pv 7)) (fun _ _ => rfl))) (pv 9)))))))))))))), ?_⟩
    -- size, place, fill
    refine ⟨_, rfl, _, rfl, G, st, inn, _, rfl, gh, S, by omega, by omega, fun r1 H1 s1 S1 a0 a1 => ⟨_, _, rfl, rfl, ?_⟩⟩
    obtain ⟨z, rfl⟩ := Int.eq_ofNat_of_zero_le a0
    refine ⟨_, rfl, _, rfl, G, st, inn, _, rfl, s1.gh, S1, by omega, by omega, fun r2 H2 s2 S2 b0 b1 => ?_⟩
    obtain ⟨p, rfl⟩ := Int.eq_ofNat_of_zero_le b0
    refine ⟨_, rfl, _, rfl, G, st, inn, _, rfl, s2.gh, S2, by decide, by decide, fun r3 H3 s3 S3 c0 c1 => ⟨_, _, _, rfl, rfl, signs_len, sign_at c0 (by omega), ?_⟩⟩
    have s3' := (s1.trans s2).trans s3
    have hf0 : Low (sg r3.toNat) := sg_low (by omega)
    generalize sg r3.toNat = f0 at hf0
    -- if size == 2 and fill in 'me': fill = 'z'
    refine ⟨fun σ Hx => ∃ f : Nat, Low f ∧ Hx = H3 ∧ σ = [some (.ref st), some (.int m), some (.int n), some (.str (Str.ofString "abcdefghijklmnopqrstuvwxyz0123456789")), some (.int (1 + z)), some (.int p), some (.str ⟨#[f]⟩), none, none, none, none], ?_, ?_⟩
    · refine ⟨_, rfl, rfl, _, rfl, ?_⟩
      refine ite2 (fun _ => ?_) (fun _ => ⟨f0, hf0, rfl, rfl⟩)
      refine ⟨_, rfl, _, _, rfl, rfl, _, rfl, ?_⟩
      refine ite2 (fun _ => ?_) (fun _ => ⟨f0, hf0, rfl, rfl⟩)
      exact ⟨122, ⟨by decide, by decide⟩, rfl, rfl⟩
    rintro σ Hx ⟨f, hf, rfl, rfl⟩
    -- some = 26 if place == 0 else 36
    refine ⟨fun σ Hy => ∃ m' : Nat, ((p = 0 ∧ m' = 26) ∨ (p ≠ 0 ∧ m' = 36)) ∧ Hy = Hx ∧ σ = [some (.ref st), some (.int m), some (.int n), some (.str (Str.ofString "abcdefghijklmnopqrstuvwxyz0123456789")), some (.int (1 + z)), some (.int p), some (.str ⟨#[f]⟩), some (.int m'), none, none, none], ?_, ?_⟩
    · refine ⟨_, rfl, rfl, _, rfl, ?_⟩
      refine ite2 (fun e => ⟨26, .inl ⟨?_, rfl⟩, rfl, rfl⟩) (fun e => ⟨36, .inr ⟨?_, rfl⟩, rfl, rfl⟩)
      · have := of_decide_eq_true e
        injection this with this
        omega
      · intro h
        subst h
        exact e (decide_eq_true rfl)
    rintro σ Hy ⟨m', hm', rfl, rfl⟩
    -- first, tail
    refine ⟨_, rfl, _, rfl, G, st, inn, _, rfl, s3.gh, S3, by omega, by omega, fun r4 H4 s4 S4 d0 d1 => ?_⟩
    obtain ⟨q, rfl⟩ := Int.eq_ofNat_of_zero_le d0
    have s4' := s3'.trans s4
    refine ⟨_, rfl, _, rfl, _, rfl, _, _, rfl, rfl, _, _, rfl, rfl, _, _, rfl, rfl, by omega, by omega, by show 1 ≤ 1000; decide, ?_⟩
    -- the words
    refine ⟨_, rfl, _, rfl, by omega, by omega, fun D hD => ?_⟩
    have hD0 : H D = none := s4'.new hD
    have off : ¬ F2 st inn D := S.off hD0
    refine lc_range (lo := 0) (n := n) (fun i H' => Stp (F2 st inn) G H G H' ∧ StAt G H' st inn ∧ Cell G H' D (.lst ((wordsOf f p (1 + z) m' q i).map V.str))) ?_ ?_ ?_
    · exact ⟨s4'.trans (Stp.put s4.gh hD _), S4.new hD s4.gh _, Cell.new s4.gh hD _⟩
    · rintro i H' hi ⟨s5, S5, c5⟩
      refine ⟨rfl, yes_of ?_⟩
      have hmod : (↑q + (0 + (i : Int))) % (m' : Int) = (((q + i) % m' : Nat) : Int) := by
        rw [Int.zero_add]
        exact (Int.natCast_emod (q + i) m').symm
      have hlt : (q + i) % m' < 36 := Nat.lt_of_lt_of_le (Nat.mod_lt _ (by omega)) (by omega)
      refine ⟨_, rfl, _, rfl, _, _, rfl, rfl, by omega, by omega, (by show 1 ≤ 1000; decide), _, rfl, _, rfl, _, rfl, _, _, rfl, rfl, .inl ⟨_, rfl, _, rfl, _, _, rfl, rfl, by omega, _, _, sg ((q + i) % m'), rfl, rfl, signs_len, ?_, _, _, rfl, rfl, ?_, _, rfl, _, _, rfl, rfl, ?_, _, c5.at_, ?_, ?_⟩⟩
      · rw [hmod]
        exact sign_at (by omega) (by omega)
      · refine sz_le ?_
        rw [len_list, repS_one, List.length_replicate]
        show _ + 1 ≤ _
        omega
      · refine sz_le ?_
        rw [app_len, len_list, len_list (repS _ _), repS_one, repS_one, List.length_replicate, List.length_replicate]
        show _ + 1 + _ ≤ _
        omega
      · rw [List.length_map]
        refine sz_lt ?_
        simp [wordsOf]
        omega
      · refine ⟨s5.loc c5 hD0 _, S5.write off _, ?_⟩
        have e : ((wordsOf f p (1 + z) m' q i).map V.str) ++ [V.str (repS ⟨#[f]⟩ (p : Int).toNat ++ (⟨#[sg ((q + i) % m')]⟩ : Str) ++ repS ⟨#[f]⟩ (1 + (z : Int) - p - 1).toNat)] = ((wordsOf f p (1 + z) m' q (i + 1)).map V.str) := by
          unfold wordsOf
          rw [List.range_succ, List.map_append, List.map_append]
          congr 2
          simp only [List.map_cons, List.map_nil]
          congr 2
          refine str_ext ?_
          rw [app_list, app_list, repS_one, repS_one]
          show _ = wordL f p (1 + z) (sg ((q + i) % m'))
          unfold wordL
          have e1 : (1 + (z : Int) - p - 1).toNat = 1 + z - p - 1 := by omega
          rw [e1, List.append_assoc]
          rfl
        rw [e]
        exact c5.set _
    · rintro H' ⟨s5, S5, c5⟩
      exact k (.ref D) _ (upd G D (.lst ((wordsOf f p (1 + z) m' q n).map V.str))) H' (s5.freeze c5 hD0) (S5.frz off _) ⟨D, rfl, upd_same⟩ (words_ok hf (by omega) (by omega) hm' hn)
end
end OA

/-! ### places, constants, labels, tags, lists, handed lists: the code -/
namespace OA
open PySem PySem.Spec PyProof.Rows L2
def Sn (G : Hp) (v : V) (ls : List Nat) : Prop := ∃ a, v = .ref a ∧ G a = some (.lst (ls.map fun (n : Nat) => V.int (n : Int)))
def Tg (G : Hp) (v : V) (ts : List (Nat × Str)) : Prop := ∃ a, v = .ref a ∧ G a = some (.dK (tagKV ts))
theorem Sn.mono {G G' : Hp} {v : V} {xs : List Nat} (s : Same G G') (h : Sn G v xs) : Sn G' v xs := by
  obtain ⟨a, e, h⟩ := h
  exact ⟨a, e, s a _ h⟩
theorem Stp.thaw {F : Addr → Prop} {G H H' : Hp} {p : Addr} {o : HO} (s : Stp F (upd G p o) H (upd G p o) H') (hp : G p = none) : Stp F G H G H' := by
  refine ⟨Same.refl G, fun b u e => s.gh b u ?_, fun b u e h2 => absurd (e.symm.trans h2) (fun z => nomatch z), s.fr, s.al⟩
  rw [upd_ne (ne_of_none e hp)]
  exact e
def spConsts : Sp := fun vs H Q _ => ∃ (G : Hp) (st inn : Addr) (n : Nat), vs = [.ref st, .int n] ∧ Same G H ∧ StAt G H st inn ∧ n ≤ 26 ∧
  ∀ (v : V) (ws : List Str) (G' H' : Hp), Stp (F2 st inn) G H G' H' → StAt G' H' st inn → Ss G' v (ws.map quote) → Words 20 n ws → Q v H'
def spPlaces : Sp := fun vs H Q _ => ∃ (G : Hp) (st inn : Addr) (m : Nat), vs = [.ref st, .int m] ∧ Same G H ∧ StAt G H st inn ∧ 1 ≤ m ∧ m ≤ 16 ∧
  ∀ (v : V) (ws ps : List Str) (G' H' : Hp), Stp (F2 st inn) G H G' H' → StAt G' H' st inn → Ss G' v ps → Words 12 16 ws → PlacesOf ws ps → 1 ≤ ps.length → ps.length ≤ m → Q v H'
def spLabels : Sp := fun vs H Q _ => ∃ (G : Hp) (st inn : Addr) (n : Nat) (m : Int), vs = [.ref st, .int n, .int m] ∧ Same G H ∧ StAt G H st inn ∧ n ≤ 1000 ∧ 0 < m ∧ m < 1073741824 ∧
  ∀ (v : V) (ls : List Nat) (G' H' : Hp), Stp (F2 st inn) G H G' H' → StAt G' H' st inn → Sn G' v ls → Labels n ls → Q v H'
def spShuffled : Sp := fun vs H Q _ => ∃ (G : Hp) (st inn a : Addr) (xs : List V), vs = [.ref st, .ref a] ∧ Same G H ∧ StAt G H st inn ∧ G a = some (.lst xs) ∧ xs.length ≤ 1000 ∧
  ∀ (p : Addr) (ys : List V) (H' : Hp), Stp (F2 st inn) G H G H' → StAt G H' st inn → H p = none → Cell G H' p (.lst ys) → ys.Perm xs → Q (.ref p) H'
def spHanded : Sp := fun vs H Q _ => ∃ (G : Hp) (st inn a : Addr) (as : List Addr) (due : List (List Str)), vs = [.ref st, .ref a] ∧ Same G H ∧ StAt G H st inn ∧ G a = some (.lst (as.map V.ref)) ∧
  Paired (fun p xs => G p = some (.lst (xs.map V.str))) as due ∧ due.length ≤ 1000 ∧ (∀ b ∈ due, b.length ≤ 1000) ∧
  ∀ (p : Addr) (qs : List Addr) (hs : List (List Str)) (H' : Hp), Stp (F2 st inn) G H G H' → StAt G H' st inn → H p = none → (∀ q ∈ qs, H q = none) → qs.Nodup → p ∉ qs → Cell G H' p (.lst (qs.map V.ref)) →
    Paired (fun q h => Cell G H' q (.lst (h.map V.str))) qs hs → Handed due hs → Q (.ref p) H'
theorem seqI {j n : Nat} (h : j < n) : seqIndex? (j : Int) n = some j := by
  unfold seqIndex?
  have h0 : ¬ ((j : Int) < 0) := by omega
  simp [h0, h]
theorem perm_erase {α : Type} : ∀ (l : List α) {j : Nat} (h : j < l.length), (l[j] :: l.eraseIdx j).Perm l
  | x :: l, 0, _ => List.Perm.refl _
  | x :: l, j + 1, h => by
    have ih := perm_erase l (j := j) (by simpa using h)
    show ((l[j]'(by simpa using h)) :: x :: l.eraseIdx j).Perm (x :: l)
    exact (List.Perm.swap _ _ _).trans (ih.cons x)
theorem atI_map {α : Type} {f : α → V} {xs : List α} {z : Int} {j : Nat} {x : α} (e : z = (j : Int)) (h : xs[j]? = some x) : atI (xs.map f) z = some (f x) := at_of e (by rw [List.getElem?_map, h]; rfl)
section
variable {P : Program} {w : World} {K : PySem.W.Frag} {mg : Str → Option Value} {base : Heap}
theorem sc_get_constants : FnScope ["_law_st", "_law_count", "_law_value"] ["_law_st", "_law_count"] (defScope (topS 28)) := ⟨rfl, rfl, rfl, by decide +kernel, rfl, by decide +kernel, by decide +kernel⟩
set_option maxHeartbeats 8000000 in
theorem ok_get_constants {f : Addr} {fd : FuncData} (F : Fun K "_law_get_constants" "_law_get_constants" (topS 28) f fd) (T : Txt K mg) (c_get_words : Callee P w K mg base "_law_get_words" ["_law_st", "_law_most", "_law_count"] spWords 2) : FnOk P w K mg base CX0 3 f fd ["_law_st", "_law_count"] spConsts := by
  refine F.ok sc_get_constants (fun vs H Q E h => ?_) (fun cdv A outer s H vs Q E hr h => ?_)
  · obtain ⟨G, st, inn, n, rfl, _⟩ := h
    rfl
  · obtain ⟨G, st, inn, n, rfl, gh, S, hn, k⟩ := h
    refine ⟨_, (pss_one (ps_ret (pe_lc (own := [("_law_value", 2)]) (by rfl) sc_get_constants.nd (i_list K (pe_co c_get_words hr (by decide) (by rfl) (pa_cons (pv 0) (pa_cons pe_int (pa_cons (pv 1) pa_nil))))) (blkOk_by (own := [("_law_value", 2)]) (N := ["_law_st", "_law_count", "_law_value"]) (sc := defScope (topS 28)) (by decide +kernel)) (fun _ _ _ _ _ => (pg_name (i := 2) sc_get_constants.nd rfl (Or.inl rfl))) (fun _ _ _ _ _ => pts_nil) (fun _ _ _ _ _ => (pe_op o_adds (pe_op o_adds pe_str (pv 2)) pe_str))))), ?_⟩
    refine ⟨_, rfl, _, rfl, G, st, inn, 20, n, rfl, gh, S, by decide, by decide, hn, fun v ws G1 H1 s1 S1 hv hw => ?_⟩
    obtain ⟨a, rfl, ha⟩ := hv
    refine ⟨a, rfl, ⟨_, SqL.of (s1.gh _ _ ha)⟩, fun D hD => ?_⟩
    have hD0 : H D = none := s1.new hD
    have off : ¬ F2 st inn D := S.off hD0
    refine lc_list (K := K) (a := a) (xs := ws.map V.str) (fun i H' => Stp (F2 st inn) G H G1 H' ∧ StAt G1 H' st inn ∧ Cell G1 H' D (.lst (((ws.take i).map quote).map V.str))) ?_ ?_ ?_ ?_
    · exact ⟨s1.trans (Stp.put s1.gh hD _), S1.new hD s1.gh _, Cell.new s1.gh hD _⟩
    · rintro i H' _ ⟨s2, _⟩
      exact SqL.of (s2.gh _ _ ha)
    · rintro i x H' hx ⟨s2, S2, c2⟩
      obtain ⟨y, hy, rfl⟩ := map_get hx
      have hyn := hw.all y (List.mem_of_getElem? hy)
      have hl := hyn.len
      refine ⟨rfl, yes_of ?_⟩
      refine ⟨_, rfl, _, _, rfl, rfl, sz_le ?_, _, _, rfl, rfl, sz_le ?_, _, c2.at_, sz_lt ?_, s2.loc c2 hD0 _, S2.write off _, ?_⟩
      · show 1 + y.length ≤ _
        omega
      · rw [app_len]
        show 1 + y.length + 1 ≤ _
        omega
      · have := hw.len
        rw [List.length_map, List.length_map, List.length_take]
        omega
      · rw [take_more hy, List.map_append, List.map_append]
        exact c2.set _
    · rintro H' ⟨s2, S2, c2⟩
      rw [List.length_map, List.take_length] at c2
      exact k (.ref D) ws (upd G1 D _) H' (s2.freeze c2 hD0) (S2.frz off _) ⟨D, rfl, upd_same⟩ hw
theorem sc_places_drawn : FnScope ["_law_state", "_law_most", "_law_words", "_law_count", "_law_found", "_law_k"] ["_law_state", "_law_most"] (defScope (topS 19)) := ⟨rfl, rfl, rfl, by decide +kernel, rfl, by decide +kernel, by decide +kernel⟩
set_option maxHeartbeats 8000000 in
theorem ok_places_drawn {f : Addr} {fd : FuncData} (F : Fun K "_law_places_drawn" "_law_places_drawn" (topS 19) f fd) (T : Txt K mg) (c_draw : Callee P w K mg base "_law_draw" ["_law_st", "_law_limit"] spDraw 1) (c_get_words : Callee P w K mg base "_law_get_words" ["_law_st", "_law_most", "_law_count"] spWords 2) : FnOk P w K mg base CX0 3 f fd ["_law_state", "_law_most"] spPlaces := by
  refine F.ok sc_places_drawn (fun vs H Q E h => ?_) (fun cdv A outer s H vs Q E hr h => ?_)
  · obtain ⟨G, st, inn, n, rfl, _⟩ := h
    rfl
  · obtain ⟨G, st, inn, m, rfl, gh, S, m0, m1, k⟩ := h
    refine ⟨_, (pss_cons (ps_set (i := 2) sc_places_drawn.nd rfl (Or.inl rfl) (pe_co c_get_words hr (by decide) (by rfl) (pa_cons (pv 0) (pa_cons pe_int (pa_cons pe_int pa_nil)))))
      (pss_cons (ps_set (i := 3) sc_places_drawn.nd rfl (Or.inl rfl) (pe_op o_add pe_int (pe_co c_draw hr (by decide) (by rfl) (pa_cons (pv 0) (pa_cons (pv 1) pa_nil)))))
      (pss_cons (ps_set (i := 4) sc_places_drawn.nd rfl (Or.inl rfl) (pe_lst pa_nil))
      (pss_cons (ps_for PassesOwn.never rfl (pi_range1 (by rfl) T.n_range (pa_cons (pv 3) pa_nil)) (pg_name (i := 5) sc_places_drawn.nd rfl (Or.inl rfl))
      (pss_one (ps_if (pt_cmpR op_eq (pe_co c_draw hr (by decide) (by rfl) (pa_cons (pv 0) (pa_cons pe_int pa_nil))) pe_int (nomark _)) (pss_one (ps_expr (e_bm K PySem.F.plainAttrs_list PySem.F.slot_list_append PySem.F.type_list_append mt_append (pv 4) (pa_cons (pe_ix (ix_lst K) (pv 2) (pv 5) (fun _ _ => rfl)) pa_nil)))) (pss_one (ps_expr (e_bm K PySem.F.plainAttrs_list PySem.F.slot_list_append PySem.F.type_list_append mt_append (pv 4) (pa_cons (pe_op o_adds (pe_op o_adds (pe_ix (ix_lst K) (pv 2) (pe_co c_draw hr (by decide) (by rfl) (pa_cons (pv 0) (pa_cons pe_int pa_nil))) (fun _ _ => rfl)) pe_str) (pe_ix (ix_lst K) (pv 2) (pv 5) (fun _ _ => rfl))) pa_nil)))))))
      (pss_one (ps_ret (pv 4))))))), ?_⟩
    refine ⟨_, rfl, G, st, inn, 12, 16, rfl, gh, S, by decide, by decide, by decide, fun v ws G1 H1 s1 S1 hv hw => ?_⟩
    obtain ⟨a, rfl, ha⟩ := hv
    refine ⟨_, rfl, _, rfl, G1, st, inn, _, rfl, s1.gh, S1, by omega, by omega, fun r2 H2 s2 S2 b0 b1 => ⟨_, _, rfl, rfl, ?_⟩⟩
    obtain ⟨z, rfl⟩ := Int.eq_ofNat_of_zero_le b0
    have s2' := s1.trans s2
    refine ⟨by decide, fun D hD => ?_⟩
    have hD0 : H D = none := s2'.new hD
    have off : ¬ F2 st inn D := S.off hD0
    refine ⟨_, rfl, _, rfl, by omega, by omega, for_range (fun i σ H' => ∃ x ps, σ = [some (.ref st), some (.int m), some (.ref a), some (.int (1 + z)), some (.ref D), x] ∧ Stp (F2 st inn) G H G1 H' ∧ StAt G1 H' st inn ∧ Cell G1 H' D (.lst (ps.map V.str)) ∧ PlacesOf ws ps ∧ ps.length = i) ?_ ?_ ?_⟩
    · exact ⟨none, [], rfl, s2'.trans (Stp.put s2.gh hD _), S2.new hD s2.gh _, Cell.new s2.gh hD _, PlacesOf.nil ws, rfl⟩
    · rintro i σ H' hi ⟨x, ps, rfl, s3, S3, c3, hp, hl⟩
      have hiw : i < ws.length := by rw [hw.len]; omega
      obtain ⟨wi, hwi⟩ : ∃ wi, ws[i]? = some wi := ⟨ws[i], by simp [hiw]⟩
      have hwil := (hw.all wi (List.mem_of_getElem? hwi)).len
      refine ⟨_, rfl, G1, st, inn, 2, rfl, s3.gh, S3, by decide, by decide, fun r4 H4 s4 S4 d0 d1 => ⟨rfl, _, rfl, ?_⟩⟩
      have c4 := s4.cell c3 off
      have s4' := s3.trans s4
      refine ite2 (fun _ => ?_) (fun _ => ?_)
      · refine ⟨_, rfl, Or.inl ⟨rfl, _, SqL.of c4.at_⟩, _, rfl, _, rfl, _, _, _, _, rfl, rfl, SqL.of (s4.gh _ _ ha), atI_map (by omega) hwi, _, _, _, rfl, rfl, c4.at_, sz_lt ?_, ?_⟩
        · rw [List.length_map]; omega
        · refine ⟨_, ps ++ [wi], rfl, s4'.loc c4 hD0 _, S4.write off _, ?_, hp.snoc (by rw [hl]; exact hwi) (.inl rfl), by rw [List.length_append, hl]; rfl⟩
          rw [List.map_append]
          exact c4.set _
      · refine ⟨_, rfl, Or.inl ⟨rfl, _, SqL.of c4.at_⟩, _, rfl, _, rfl, G1, st, inn, 16, rfl, s4.gh, S4, by decide, by decide, fun r5 H5 s5 S5 e0 e1 => ?_⟩
        obtain ⟨q, rfl⟩ := Int.eq_ofNat_of_zero_le e0
        have c5 := s5.cell c4 off
        have s5' := s4'.trans s5
        have hqw : q < ws.length := by rw [hw.len]; omega
        obtain ⟨wq, hwq⟩ : ∃ wq, ws[q]? = some wq := ⟨ws[q], by simp [hqw]⟩
        have hwql := (hw.all wq (List.mem_of_getElem? hwq)).len
        refine ⟨_, _, _, _, rfl, rfl, SqL.of (s5.gh _ _ ha), atI_map rfl hwq, _, _, rfl, rfl, sz_le ?_, _, rfl, _, rfl, _, _, _, _, rfl, rfl, SqL.of (s5.gh _ _ ha), atI_map (by omega) hwi, _, _, rfl, rfl, sz_le ?_, _, _, _, rfl, rfl, c5.at_, sz_lt ?_, ?_⟩
        · show wq.length + 1 ≤ _
          omega
        · rw [app_len]
          show wq.length + 1 + wi.length ≤ _
          omega
        · rw [List.length_map]; omega
        · refine ⟨_, ps ++ [wq ++ dot ++ wi], rfl, s5'.loc c5 hD0 _, S5.write off _, ?_, hp.snoc (by rw [hl]; exact hwi) (.inr ⟨wq, List.mem_of_getElem? hwq, rfl⟩), by rw [List.length_append, hl]; rfl⟩
          rw [List.map_append]
          exact c5.set _
    · rintro σ H' ⟨x, ps, rfl, s3, S3, c3, hp, hl⟩
      refine ⟨_, rfl, ?_⟩
      exact k (.ref D) ws ps (upd G1 D _) H' (s3.freeze c3 hD0) (S3.frz off _) ⟨D, rfl, upd_same⟩ hw hp (by omega) (by omega)
theorem sc_get_labels : FnScope ["_law_state", "_law_count", "_law_most", "_law_drawn", "_law_k", "_law_label"] ["_law_state", "_law_count", "_law_most"] (defScope (topS 23)) := ⟨rfl, rfl, rfl, by decide +kernel, rfl, by decide +kernel, by decide +kernel⟩
set_option maxHeartbeats 8000000 in
theorem ok_get_labels {f : Addr} {fd : FuncData} (F : Fun K "_law_get_labels" "_law_get_labels" (topS 23) f fd) (T : Txt K mg) (c_draw : Callee P w K mg base "_law_draw" ["_law_st", "_law_limit"] spDraw 1) : FnOk P w K mg base CX0 2 f fd ["_law_state", "_law_count", "_law_most"] spLabels := by
  refine F.ok sc_get_labels (fun vs H Q E h => ?_) (fun cdv A outer s H vs Q E hr h => ?_)
  · obtain ⟨G, st, inn, n, m, rfl, _⟩ := h
    rfl
  · obtain ⟨G, st, inn, n, m, rfl, gh, S, hn, m0, m1, k⟩ := h
    refine ⟨_, (pss_cons (ps_set (i := 3) sc_get_labels.nd rfl (Or.inr rfl) (pe_lc (own := [("_law_k", 4)]) (by rfl) sc_get_labels.nd (pi_range1 (by rfl) T.n_range (pa_cons (pv 1) pa_nil)) (blkOk_by (own := [("_law_k", 4)]) (N := ["_law_state", "_law_count", "_law_most", "_law_drawn", "_law_k", "_law_label"]) (sc := defScope (topS 23)) (by decide +kernel)) (fun _ _ _ _ _ => (pg_name (i := 4) sc_get_labels.nd rfl (Or.inl rfl))) (fun _ _ _ _ _ => pts_nil) (fun _ _ _ _ _ => (pe_co c_draw hr (by decide) (by rfl) (pa_cons (pv 0) (pa_cons (pv 2) pa_nil))))))
      (pss_one (ps_ret (pe_lc (own := [("_law_label", 5)]) (by rfl) sc_get_labels.nd (i_list K (pv 3)) (blkOk_by (own := [("_law_label", 5)]) (N := ["_law_state", "_law_count", "_law_most", "_law_drawn", "_law_k", "_law_label"]) (sc := defScope (topS 23)) (by decide +kernel)) (fun _ _ _ _ _ => (pg_name (i := 5) sc_get_labels.nd rfl (Or.inl rfl))) (fun _ _ _ _ _ => pts_nil) (fun _ _ _ _ _ => (e_bm K PySem.F.plainAttrs_list PySem.F.slot_list_index PySem.F.type_list_index (m_index K) (pv 3) (pa_cons (pv 5) pa_nil))))))), ?_⟩
    refine ⟨_, rfl, _, rfl, by omega, by omega, fun D hD => ?_⟩
    have off : ¬ F2 st inn D := S.off hD
    refine lc_range (fun i H' => ∃ ds : List Int, Stp (F2 st inn) G H G H' ∧ StAt G H' st inn ∧ Cell G H' D (.lst (ds.map V.int)) ∧ ds.length = i) ?_ ?_ ?_
    · exact ⟨[], Stp.put gh hD _, S.new hD gh _, Cell.new gh hD _, rfl⟩
    · rintro i H' hi ⟨ds, s2, S2, c2, hl⟩
      refine ⟨rfl, yes_of ?_⟩
      refine ⟨_, rfl, _, rfl, G, st, inn, m, rfl, s2.gh, S2, m0, m1, fun r3 H3 s3 S3 d0 d1 => ?_⟩
      have c3 := s3.cell c2 off
      refine ⟨_, c3.at_, sz_lt ?_, ds ++ [r3], (s2.trans s3).loc c3 hD _, S3.write off _, ?_, by rw [List.length_append, hl]; rfl⟩
      · rw [List.length_map]; omega
      · rw [List.map_append]
        exact c3.set _
    · rintro H1 ⟨ds, s1, S1, c1, hl⟩
      have hdl : ds.length = n := by rw [hl]; omega
      refine ⟨_, rfl, D, rfl, ⟨_, SqL.of c1.at_⟩, fun E1 hE => ?_⟩
      have hE0 : H E1 = none := s1.new hE
      have offE : ¬ F2 st inn E1 := S.off hE0
      have hDE : D ≠ E1 := c1.ne hE
      refine lc_list (K := K) (a := D) (xs := ds.map V.int) (fun i H' => ∃ ls : List Nat, Stp (F2 st inn) G H G H' ∧ StAt G H' st inn ∧ Cell G H' D (.lst (ds.map V.int)) ∧ Cell G H' E1 (.lst (ls.map fun (n : Nat) => V.int (n : Int))) ∧ ls.length = i ∧ ∀ k l : Nat, ls[k]? = some l → FirstIx ds k l) ?_ ?_ ?_ ?_
      · exact ⟨[], s1.trans (Stp.put s1.gh hE _), S1.new hE s1.gh _, c1.off hDE _, Cell.new s1.gh hE _, rfl, fun k l h => (by simp at h)⟩
      · rintro i H' _ ⟨ls, _, _, c, _⟩
        exact SqL.of c.at_
      · rintro i x H' hx ⟨ls, s2, S2, c2, e2, hl2, hf⟩
        obtain ⟨d, hd, rfl⟩ := map_get hx
        obtain ⟨l, h1, h2⟩ := first_ix (List.mem_of_getElem? hd)
        refine ⟨rfl, yes_of ?_⟩
        refine ⟨_, rfl, Or.inl ⟨rfl, _, SqL.of c2.at_⟩, _, rfl, D, _, _, l, .int d, rfl, rfl, SqL.of c2.at_, rfl, flat_ints _, by rw [List.getElem?_map, h1]; rfl, by simp [eqV], fun m z' hm hz => ?_, _, e2.at_, sz_lt ?_, ls ++ [l], s2.loc e2 hE0 _, S2.write offE _, c2.off hDE _, ?_, by rw [List.length_append, hl2]; rfl, fun k l' hk => ?_⟩
        · obtain ⟨y, hy, rfl⟩ := map_get hz
          show (y == d) = false
          exact beq_eq_false_iff_ne.mpr fun e => h2 m hm (by rw [hy, e])
        · have := get_lt hd
          rw [List.length_map]; omega
        · rw [List.map_append]
          exact e2.set _
        · by_cases hkl : k < ls.length
          · rw [List.getElem?_append_left hkl] at hk
            exact hf k l' hk
          · have hk2 := get_lt hk
            rw [List.length_append] at hk2
            have e : k = ls.length := by simp at hk2; omega
            subst e
            rw [List.getElem?_append_right (Nat.le_refl _)] at hk
            simp at hk
            subst hk
            exact ⟨d, by rw [hl2]; exact hd, h1, h2⟩
      · rintro H' ⟨ls, s2, S2, c2, e2, hl2, hf⟩
        rw [List.length_map] at hl2
        have hL := labels_of hl2 hf
        rw [hdl] at hL
        exact k (.ref E1) ls (upd G E1 _) H' (s2.freeze e2 hE0) (S2.frz offE _) ⟨E1, rfl, upd_same⟩ hL
theorem sc_shuffled : FnScope ["_law_state", "_law_things", "_law_rest", "_law_k"] ["_law_state", "_law_things"] (defScope (topS 22)) := ⟨rfl, rfl, rfl, by decide +kernel, rfl, by decide +kernel, by decide +kernel⟩
set_option maxHeartbeats 8000000 in
theorem ok_shuffled {f : Addr} {fd : FuncData} (F : Fun K "_law_shuffled" "_law_shuffled" (topS 22) f fd) (T : Txt K mg) (c_draw : Callee P w K mg base "_law_draw" ["_law_st", "_law_limit"] spDraw 1) : FnOk P w K mg base CX0 2 f fd ["_law_state", "_law_things"] spShuffled := by
  refine F.ok sc_shuffled (fun vs H Q E h => ?_) (fun cdv A outer s H vs Q E hr h => ?_)
  · obtain ⟨G, st, inn, a, xs, rfl, _⟩ := h
    rfl
  · obtain ⟨G, st, inn, a, xs, rfl, gh, S, ha, hx, k⟩ := h
    refine ⟨_, (pss_cons (ps_set (i := 2) sc_shuffled.nd rfl (Or.inr rfl) (pe_callTy (c_list K) (by rfl) T.n_list (by decide +kernel) (pa_cons (pv 1) pa_nil)))
      (pss_one (ps_ret (pe_lc (own := [("_law_k", 3)]) (by rfl) sc_shuffled.nd (pi_range1 (by rfl) T.n_range (pa_cons (pe_callB (c_len K) (by rfl) T.n_len (by decide +kernel) (pa_cons (pv 1) pa_nil)) pa_nil)) (blkOk_by (own := [("_law_k", 3)]) (N := ["_law_state", "_law_things", "_law_rest", "_law_k"]) (sc := defScope (topS 22)) (by decide +kernel)) (fun _ _ _ _ _ => (pg_name (i := 3) sc_shuffled.nd rfl (Or.inl rfl))) (fun _ _ _ _ _ => pts_nil) (fun _ _ _ _ _ => (e_bm K PySem.F.plainAttrs_list PySem.F.slot_list_pop PySem.F.type_list_pop mt_popAt (pv 2) (pa_cons (pe_co c_draw hr (by decide) (by rfl) (pa_cons (pv 0) (pa_cons (pe_callB (c_len K) (by rfl) T.n_len (by decide +kernel) (pa_cons (pv 2) pa_nil)) pa_nil))) pa_nil))))))), ?_⟩
    refine ⟨_, rfl, _, _, rfl, .inl (SqL.of (gh _ _ ha)), fun R hR => ?_⟩
    have offR : ¬ F2 st inn R := S.off hR
    have s1 : Stp (F2 st inn) G H G (upd H R (.lst xs)) := Stp.put gh hR _
    have S1 : StAt G (upd H R (.lst xs)) st inn := S.new hR gh _
    have r1 : Cell G (upd H R (.lst xs)) R (.lst xs) := Cell.new gh hR _
    refine ⟨_, rfl, _, _, rfl, .inl (SqL.of (s1.gh _ _ ha)), _, rfl, by omega, by omega, fun D hD => ?_⟩
    have hD0 : H D = none := s1.new hD
    have off : ¬ F2 st inn D := S.off hD0
    have hRD : R ≠ D := r1.ne hD
    refine lc_range (fun i H' => ∃ rs ys : List V, Stp (F2 st inn) G H G H' ∧ StAt G H' st inn ∧ Cell G H' R (.lst rs) ∧ Cell G H' D (.lst ys) ∧ (ys ++ rs).Perm xs ∧ ys.length = i) ?_ ?_ ?_
    · exact ⟨xs, [], s1.trans (Stp.put s1.gh hD _), S1.new hD s1.gh _, r1.off hRD _, Cell.new s1.gh hD _, List.Perm.refl _, rfl⟩
    · rintro i H' hi ⟨rs, ys, s2, S2, r2, c2, pm, hl⟩
      have hlen := pm.length_eq
      rw [List.length_append] at hlen
      refine ⟨rfl, yes_of ?_⟩
      refine ⟨_, rfl, Or.inl ⟨rfl, _, SqL.of r2.at_⟩, _, rfl, _, rfl, _, _, rfl, .inl (SqL.of r2.at_), G, st, inn, _, rfl, s2.gh, S2, by omega, by omega, fun q H3 s3 S3 d0 d1 => ?_⟩
      obtain ⟨j, rfl⟩ := Int.eq_ofNat_of_zero_le d0
      have r3 := s3.cell r2 offR
      have c3 := s3.cell c2 off
      have s3' := s2.trans s3
      have hj : j < rs.length := by omega
      refine ⟨R, rs, j, j, rs[j], rfl, rfl, r3.at_, by omega, by omega, ?_, by simp [hj], ?_⟩
      · exact seqI hj
      · have s4 := s3'.loc r3 hR (.lst (rs.eraseIdx j))
        have c4 : Cell G (upd H3 R (.lst (rs.eraseIdx j))) D (.lst ys) := c3.off hRD.symm _
        refine ⟨_, c4.at_, sz_lt (by omega), rs.eraseIdx j, ys ++ [rs[j]], s4.loc c4 hD0 _, (S3.write offR _).write off _, (r3.set _).off hRD _, c4.set _, ?_, by rw [List.length_append, hl]; rfl⟩
        refine List.Perm.trans ?_ pm
        rw [List.append_assoc]
        refine List.Perm.append_left ys ?_
        exact perm_erase rs hj
    · rintro H' ⟨rs, ys, s2, S2, r2, c2, pm, hl⟩
      have hlen := pm.length_eq
      rw [List.length_append] at hlen
      have : rs = [] := List.eq_nil_of_length_eq_zero (by omega)
      subst this
      rw [List.append_nil] at pm
      exact k D ys H' s2 S2 hD0 c2 pm
theorem sc_get_handed : FnScope ["_law_state", "_law_lists", "_law_found", "_law_block"] ["_law_state", "_law_lists"] (defScope (topS 21)) := ⟨rfl, rfl, rfl, by decide +kernel, rfl, by decide +kernel, by decide +kernel⟩
set_option maxHeartbeats 8000000 in
theorem ok_get_handed {f : Addr} {fd : FuncData} (F : Fun K "_law_get_handed" "_law_get_handed" (topS 21) f fd) (T : Txt K mg) (c_draw : Callee P w K mg base "_law_draw" ["_law_st", "_law_limit"] spDraw 1) (c_shuffled : Callee P w K mg base "_law_shuffled" ["_law_state", "_law_things"] spShuffled 2) : FnOk P w K mg base CX0 3 f fd ["_law_state", "_law_lists"] spHanded := by
  refine F.ok sc_get_handed (fun vs H Q E h => ?_) (fun cdv A outer s H vs Q E hr h => ?_)
  · obtain ⟨G, st, inn, a, as, due, rfl, _⟩ := h
    rfl
  · obtain ⟨G, st, inn, a, as, due, rfl, gh, S, ha, hp, hd1, hd2, k⟩ := h
    refine ⟨_, (pss_cons (ps_set (i := 2) sc_get_handed.nd rfl (Or.inl rfl) (pe_lst pa_nil))
      (pss_cons (ps_for PassesOwn.never rfl (i_list K (pv 1)) (pg_name (i := 3) sc_get_handed.nd rfl (Or.inl rfl))
      (pss_one (ps_if (PW.pt (pw_or (pt_cmpR o_gt (pe_callB (c_len K) (by rfl) T.n_len (by decide +kernel) (pa_cons (pv 3) pa_nil)) pe_int (nomark _)) (pw_or1 (pt_cmpR op_eq (pe_co c_draw hr (by decide) (by rfl) (pa_cons (pv 0) (pa_cons pe_int pa_nil))) pe_int (nomark _))))) (pss_one (ps_expr (e_bm K PySem.F.plainAttrs_list PySem.F.slot_list_append PySem.F.type_list_append mt_append (pv 2) (pa_cons (pe_co c_shuffled hr (by decide) (by rfl) (pa_cons (pv 0) (pa_cons (pv 3) pa_nil))) pa_nil)))) pss_nil)))
      (pss_one (ps_ret (pe_co c_shuffled hr (by decide) (by rfl) (pa_cons (pv 0) (pa_cons (pv 2) pa_nil))))))), ?_⟩
    refine ⟨by decide, fun D hD => ?_⟩
    have off : ¬ F2 st inn D := S.off hD
    have hasl : as.length = due.length := paired_len hp
    have s1 : Stp (F2 st inn) G H G (upd H D (.lst [])) := Stp.put gh hD _
    refine ⟨_, rfl, a, rfl, ⟨_, SqL.of (s1.gh _ _ ha)⟩, for_list (K := K) (a := a) (xs := as.map V.ref) (fun i σ H' => ∃ x qs hs, σ = [some (.ref st), some (.ref a), some (.ref D), x] ∧ Stp (F2 st inn) G H G H' ∧ StAt G H' st inn ∧ Cell G H' D (.lst (qs.map V.ref)) ∧
      Paired (fun q h => Cell G H' q (.lst (h.map V.str))) qs hs ∧ (∀ q ∈ qs, H q = none) ∧ qs.Nodup ∧ D ∉ qs ∧ Handed (due.take i) hs ∧ qs.length ≤ i) ?_ ?_ ?_ ?_⟩
    · exact ⟨none, [], [], rfl, s1, S.new hD gh _, Cell.new gh hD _, .nil, fun _ h => (by cases h), List.nodup_nil, fun h => (by cases h), handed_nil, Nat.le_refl _⟩
    · rintro i σ H' _ ⟨x, qs, hs, _, s2, _⟩
      exact SqL.of (s2.gh _ _ ha)
    · rintro i y σ H' hi ⟨x, qs, hs, rfl, s2, S2, c2, pq, nq, ndq, hDq, hh, hql⟩
      obtain ⟨b, hb, rfl⟩ := map_get hi
      obtain ⟨bl, hbl, hbG⟩ := paired_at hp hb
      have hbm : bl ∈ due := List.mem_of_getElem? hbl
      have hbln := hd2 bl hbm
      have hil := get_lt hb
      have more : due.take (i + 1) = due.take i ++ [bl] := take_more hbl
      -- what is left of the turn: a shuffled block is appended
      have put : ∀ H3, Stp (F2 st inn) G H G H3 → StAt G H3 st inn → Cell G H3 D (.lst (qs.map V.ref)) → Paired (fun q h => Cell G H3 q (.lst (h.map V.str))) qs hs →
          ∀ (q : Addr) (ys : List V) (H4 : Hp), Stp (F2 st inn) G H3 G H4 → StAt G H4 st inn → H3 q = none → Cell G H4 q (.lst ys) → ys.Perm (bl.map V.str) →
          ∃ (x' : Option V) (qs' : List Addr) (hs' : List (List Str)), ([some (.ref st), some (.ref a), some (.ref D), some (.ref b)] : List (Option V)) = [some (.ref st), some (.ref a), some (.ref D), x'] ∧ Stp (F2 st inn) G H G (upd H4 D (.lst (qs.map V.ref ++ [V.ref q]))) ∧ StAt G (upd H4 D (.lst (qs.map V.ref ++ [V.ref q]))) st inn ∧
            Cell G (upd H4 D (.lst (qs.map V.ref ++ [V.ref q]))) D (.lst (qs'.map V.ref)) ∧ Paired (fun r h => Cell G (upd H4 D (.lst (qs.map V.ref ++ [V.ref q]))) r (.lst (h.map V.str))) qs' hs' ∧ (∀ q ∈ qs', H q = none) ∧ qs'.Nodup ∧ D ∉ qs' ∧ Handed (due.take (i + 1)) hs' ∧ qs'.length ≤ i + 1 := by
        intro H3 s3 S3 c3 pq3 q ys H4 s4 S4 nq4 cq pm
        obtain ⟨h, rfl, pm'⟩ := perm_map_str pm
        have c4 := s4.cell c3 off
        have q0 : H q = none := s3.new nq4
        have hqD : q ≠ D := fun e => by rw [e, c3.at_] at nq4; cases nq4
        have hqn : q ∉ qs := fun hm => by
          obtain ⟨j, hj⟩ := List.getElem?_of_mem hm
          obtain ⟨hh', _, c⟩ := paired_at pq3 hj
          rw [c.at_] at nq4
          cases nq4
        refine ⟨_, qs ++ [q], hs ++ [h], rfl, (s3.trans s4).loc c4 hD _, S4.write off _, ?_, ?_, ?_, ?_, ?_, ?_, ?_⟩
        · rw [List.map_append]
          exact c4.set _
        · refine Paired.snoc ?_ (cq.off hqD _)
          refine paired_imp_mem pq3 fun q' h' hq' c => ?_
          exact (s4.cell c (S.off (nq q' hq'))).off (fun e => hDq (by rw [← e]; exact hq')) _
        · intro q' hq'
          rcases List.mem_append.mp hq' with z | z
          · exact nq q' z
          · rw [List.mem_singleton.mp z]; exact q0
        · refine List.nodup_append.mpr ⟨ndq, by simp, fun x hx y hy => ?_⟩
          rw [List.mem_singleton.mp hy]
          exact fun e => hqn (by rw [← e]; exact hx)
        · intro hm
          rcases List.mem_append.mp hm with z | z
          · exact hDq z
          · exact hqD (List.mem_singleton.mp z).symm
        · rw [more]
          exact hh.put pm'
        · rw [List.length_append]
          show _ + 1 ≤ _
          omega
      refine ⟨_, rfl, _, _, rfl, .inl (SqL.of (s2.gh _ _ hbG)), _, _, rfl, rfl, _, rfl, ?_⟩
      refine ite2 (fun _ => ?_) (fun hle => ?_)
      · refine iteT ?_
        refine ⟨_, rfl, Or.inl ⟨rfl, _, SqL.of c2.at_⟩, _, rfl, _, rfl, G, st, inn, b, _, rfl, s2.gh, S2, hbG, by rw [List.length_map]; exact hbln, fun q ys H4 s4 S4 nq4 cq pm => ?_⟩
        have c4 := s4.cell c2 off
        refine ⟨_, _, _, rfl, rfl, c4.at_, sz_lt ?_, ?_⟩
        · rw [List.length_map]; omega
        · obtain ⟨x', qs', hs', e, rest⟩ := put H' s2 S2 c2 pq q ys H4 s4 S4 nq4 cq pm
          exact ⟨_, qs', hs', rfl, rest⟩
      · refine ⟨_, rfl, G, st, inn, 2, rfl, s2.gh, S2, by decide, by decide, fun r3 H3 s3 S3 d0 d1 => ⟨rfl, _, rfl, ?_⟩⟩
        have c3 := s3.cell c2 off
        have pq3 : Paired (fun q h => Cell G H3 q (.lst (h.map V.str))) qs hs := paired_imp_mem pq fun q' h' hq' c => s3.cell c (S.off (nq q' hq'))
        have s3' := s2.trans s3
        refine ite2 (fun _ => ?_) (fun _ => ?_)
        · refine ⟨_, rfl, Or.inl ⟨rfl, _, SqL.of c3.at_⟩, _, rfl, _, rfl, G, st, inn, b, _, rfl, s3.gh, S3, hbG, by rw [List.length_map]; exact hbln, fun q ys H4 s4 S4 nq4 cq pm => ?_⟩
          have c4 := s4.cell c3 off
          refine ⟨_, _, _, rfl, rfl, c4.at_, sz_lt ?_, ?_⟩
          · rw [List.length_map]; omega
          · obtain ⟨x', qs', hs', e, rest⟩ := put H3 s3' S3 c3 pq3 q ys H4 s4 S4 nq4 cq pm
            exact ⟨_, qs', hs', rfl, rest⟩
        · refine ⟨_, qs, hs, rfl, s3', S3, c3, pq3, nq, ndq, hDq, ?_, by omega⟩
          rw [more]
          refine hh.skip ?_
          rw [List.length_map] at hle
          have : ¬ ((1 : Int) < (bl.length : Int)) := fun z => hle (decide_eq_true z)
          omega
    · rintro σ H' ⟨x, qs, hs, rfl, s2, S2, c2, pq, nq, ndq, hDq, hh, hql⟩
      have hmax : (as.map V.ref).length = due.length := by rw [List.length_map, hasl]
      rw [hmax, List.take_length] at hh
      rw [hmax] at hql
      have sG : Same (upd G D (.lst (qs.map V.ref))) H' := fun b o e => by
        by_cases hb : b = D
        · subst hb; rw [upd_same] at e; cases e; exact c2.at_
        · rw [upd_ne hb] at e; exact s2.gh b o e
      refine ⟨_, rfl, _, rfl, upd G D (.lst (qs.map V.ref)), st, inn, D, _, rfl, sG, S2.frz off _, upd_same, by rw [List.length_map]; omega, fun p ys H3 s3 S3 np cp pm => ?_⟩
      obtain ⟨qs', rfl, pm'⟩ := perm_map_ref pm
      have gD : G D = none := c2.no
      have s3g : Stp (F2 st inn) G H' G H3 := s3.thaw gD
      have p0 : H p = none := s2.new np
      have hpG : G p = none := gh.free p0
      obtain ⟨hs', hpm, pq'⟩ := paired_perm pm' pq
      refine k p qs' hs' H3 (s2.trans s3g) ?_ p0 (fun q hq => nq q (pm'.mem_iff.mp hq)) (pm'.nodup_iff.mpr ndq) ?_ ⟨cp.at_, hpG⟩ ?_ (hh.perm hpm)
      · obtain ⟨cs, x1, x2, x3, y1, y2, y3⟩ := S3
        refine ⟨cs, x1, x2, x3, ⟨y1.at_, ?_⟩, ⟨y2.at_, ?_⟩, y3⟩
        · have := y1.no
          by_cases e : st = D
          · rw [e]; exact gD
          · rw [upd_ne e] at this; exact this
        · have := y2.no
          by_cases e : inn = D
          · rw [e]; exact gD
          · rw [upd_ne e] at this; exact this
      · intro hm
        obtain ⟨j, hj⟩ := List.getElem?_of_mem (pm'.mem_iff.mp hm)
        obtain ⟨_, _, c⟩ := paired_at pq hj
        rw [c.at_] at np
        cases np
      · refine paired_imp_mem pq' fun q' h' hq' c => ?_
        exact s3g.cell c (S.off (nq q' (pm'.mem_iff.mp hq')))
end
end OA

/-! ### tags, lists, is_lists: the code -/
namespace OA
open PySem PySem.Spec PyProof.Rows L2
def spTags : Sp := fun vs H Q _ => ∃ (G : Hp) (st inn a b : Addr) (ls : List Nat) (pool : List Str), vs = [.ref st, .ref a, .ref b] ∧ Same G H ∧ StAt G H st inn ∧ G a = some (.lst (ls.map fun (n : Nat) => V.int (n : Int))) ∧ G b = some (.lst (pool.map V.str)) ∧
  ls.length ≤ 1000 ∧ pool.length ≤ 100 ∧ (∀ c ∈ pool, Asc c) ∧
  ∀ (v : V) (ts : List (Nat × Str)) (G' H' : Hp), Stp (F2 st inn) G H G' H' → StAt G' H' st inn → Tg G' v ts → Tags ls pool ts → Q v H'
def spLists : Sp := fun vs H Q _ => ∃ (G : Hp) (a b d : Addr) (ps : List Str) (ls : List Nat) (ts : List (Nat × Str)), vs = [.ref a, .ref b, .ref d] ∧ Same G H ∧ G a = some (.lst (ps.map V.str)) ∧ G b = some (.lst (ls.map fun (n : Nat) => V.int (n : Int))) ∧ G d = some (.dK (tagKV ts)) ∧
  ls.length = ps.length ∧ ps.length ≤ 1000 ∧ ∀ (v : V) (G' H' : Hp), Stp F0 G H G' H' → Sss G' v (listsOf ps ls ts ps.length) → Q v H'
theorem tagKV_vals (ts : List (Nat × Str)) : (tagKV ts).map (·.2) = (ts.map (·.2)).map V.str := by
  rw [List.map_map, List.map_map]; rfl
theorem notin_eq (c : Str) (xs : List Str) : (if true = true then !inV (.str c) (xs.map V.str) else inV (.str c) (xs.map V.str)) = !decide (c ∈ xs) := by
  rw [if_pos rfl, inV_str]
theorem eqv_strs0 : ∀ xs : List Str, PyData.eqv (dS xs) (.list []) = xs.isEmpty
  | [] => rfl
  | _ :: _ => rfl
theorem valV_fresh {ts : List (Nat × Str)} {i : Nat} (h : ∀ t ∈ ts, t.1 < i) : valV (tagKV ts) (Sum.inl (i : Int) : Key) = none := by
  rw [valV_tags]
  have : (ts.find? fun t => t.1 == i) = none := by
    rw [List.find?_eq_none]
    intro t ht
    have := h t ht
    simp
    omega
  rw [this]
  rfl
theorem Tags.snoc {ls : List Nat} {pool : List Str} {ts : List (Nat × Str)} (h : Tags ls pool ts) {i : Nat} {c : Str} (hi : ∀ t ∈ ts, t.1 < i) (hl : ls[i]? = some i) (hc : c ∈ pool) (hn : c ∉ ts.map (·.2)) : Tags ls pool (ts ++ [(i, c)]) := by
  refine ⟨?_, ?_, fun t ht => ?_, fun t ht => ?_⟩
  · rw [List.map_append]
    refine List.nodup_append.mpr ⟨h.keys, by simp, fun x hx y hy => ?_⟩
    obtain ⟨t, ht, rfl⟩ := List.mem_map.mp hx
    have := hi t ht
    simp at hy
    omega
  · rw [List.map_append]
    refine List.nodup_append.mpr ⟨h.vals, by simp, fun x hx y hy => ?_⟩
    simp at hy
    subst hy
    exact fun e => hn (by rw [← e]; exact hx)
  · rcases List.mem_append.mp ht with z | z
    · exact h.low t z
    · rw [List.mem_singleton.mp z]; exact hl
  · rcases List.mem_append.mp ht with z | z
    · exact h.pool t z
    · rw [List.mem_singleton.mp z]; exact hc
section
variable {P : Program} {w : World} {K : PySem.W.Frag} {mg : Str → Option Value} {base : Heap}
theorem sc_get_tags : FnScope ["_law_state", "_law_labels", "_law_pool", "_law_tags", "_law_k", "_law_free", "_law_constant"] ["_law_state", "_law_labels", "_law_pool"] (defScope (topS 20)) := ⟨rfl, rfl, rfl, by decide +kernel, rfl, by decide +kernel, by decide +kernel⟩
set_option maxHeartbeats 8000000 in
theorem ok_get_tags {f : Addr} {fd : FuncData} (F : Fun K "_law_get_tags" "_law_get_tags" (topS 20) f fd) (T : Txt K mg) (c_draw : Callee P w K mg base "_law_draw" ["_law_st", "_law_limit"] spDraw 1) : FnOk P w K mg base CX0 2 f fd ["_law_state", "_law_labels", "_law_pool"] spTags := by
  refine F.ok sc_get_tags (fun vs H Q E h => ?_) (fun cdv A outer s H vs Q E hr h => ?_)
  · obtain ⟨G, st, inn, a, b, ls, pool, rfl, _⟩ := h
    rfl
  · obtain ⟨G, st, inn, a, b, ls, pool, rfl, gh, S, ha, hb, hll, hpl, hasc, k⟩ := h
    refine ⟨_, (pss_cons (ps_set (i := 3) sc_get_tags.nd rfl (Or.inr rfl) pe_dnewK)
      (pss_cons (ps_for PassesOwn.never rfl (pi_range1 (by rfl) T.n_range (pa_cons (pe_callB (c_len K) (by rfl) T.n_len (by decide +kernel) (pa_cons (pv 1) pa_nil)) pa_nil)) (pg_name (i := 4) sc_get_tags.nd rfl (Or.inl rfl))
      (pss_cons (ps_setLc (i := 5) (own := [("_law_constant", 6)]) (by rfl) sc_get_tags.nd rfl rfl (sw_true rfl rfl rfl (by decide +kernel)) (i_list K (pv 2)) (blkOk_by (own := [("_law_constant", 6)]) (N := ["_law_state", "_law_labels", "_law_pool", "_law_tags", "_law_k", "_law_free", "_law_constant"]) (sc := defScope (topS 20)) (by decide +kernel)) (fun _ _ _ _ _ => (pg_name (i := 6) sc_get_tags.nd rfl (Or.inl rfl))) (fun _ _ _ _ _ => (pts_one (pt_cmpR (o_notin K) (pv 6) (pe_listValues rfl (pv 3) (by rfl) T.n_list (by decide +kernel)) (by rfl)))) (fun _ _ _ _ _ => (pv 6)))
      (pss_one (ps_if (PW.pt (pw_and (pt_cmpR op_eq (pe_ix (ix_lst K) (pv 1) (pv 4) (fun _ _ => rfl)) (pv 4) (nomark _)) (pw_and (pt_cmpR (o_neD K hr.units) (pv 5) (pe_lst pa_nil) (nomark _)) (pw_and1 (pt_cmpR op_eq (pe_co c_draw hr (by decide) (by rfl) (pa_cons (pv 0) (pa_cons pe_int pa_nil))) pe_int (nomark _)))))) (pss_one (ps_dput (hu_of hr) (pv 3) (pv 4) (pe_ix (ix_lst K) (pv 5) (pe_co c_draw hr (by decide) (by rfl) (pa_cons (pv 0) (pa_cons (pe_callB (c_len K) (by rfl) T.n_len (by decide +kernel) (pa_cons (pv 5) pa_nil)) pa_nil))) (fun _ _ => rfl)) rfl)) pss_nil))))
      (pss_one (ps_ret (pv 3))))), ?_⟩
    intro d hd
    have off : ¬ F2 st inn d := S.off hd
    have s1 : Stp (F2 st inn) G H G (upd H d (.dK [])) := Stp.put gh hd _
    refine ⟨_, rfl, _, _, rfl, .inl (SqL.of (s1.gh _ _ ha)), _, rfl, by simp only [List.length_map]; omega, by simp only [List.length_map]; omega, for_range (fun i σ H' => ∃ x y ts, σ = [some (.ref st), some (.ref a), some (.ref b), some (.ref d), x, y, none] ∧ Stp (F2 st inn) G H G H' ∧ StAt G H' st inn ∧ Cell G H' d (.dK (tagKV ts)) ∧ Tags ls pool ts ∧ (∀ t ∈ ts, t.1 < i) ∧ ts.length ≤ i) ?_ ?_ ?_⟩
    · exact ⟨none, none, [], rfl, s1, S.new hd gh _, Cell.new gh hd _, Tags.nil ls pool, fun _ h => (by cases h), Nat.le_refl _⟩
    · rintro i σ H' hi ⟨x, y, ts, rfl, s2, S2, c2, hT, hk, hl⟩
      have hi' : i < ls.length := by rw [List.length_map] at hi; omega
      obtain ⟨li, hli⟩ : ∃ li, ls[i]? = some li := ⟨ls[i], by simp [hi']⟩
      refine ⟨_, rfl, b, rfl, ⟨_, SqL.of (s2.gh _ _ hb)⟩, fun D hD => ?_⟩
      have hD0 : H D = none := s2.new hD
      have offD : ¬ F2 st inn D := S.off hD0
      have hdD : d ≠ D := c2.ne hD
      refine lc_list (K := K) (a := b) (xs := pool.map V.str) (fun j H2 => Stp (F2 st inn) G H G H2 ∧ StAt G H2 st inn ∧ Cell G H2 d (.dK (tagKV ts)) ∧ Cell G H2 D (.lst (((pool.take j).filter fun c => !decide (c ∈ ts.map (·.2))).map V.str))) ?_ ?_ ?_ ?_
      · exact ⟨s2.trans (Stp.put s2.gh hD _), S2.new hD s2.gh _, c2.off hdD _, Cell.new s2.gh hD _⟩
      · rintro j H2 _ ⟨s3, _⟩
        exact SqL.of (s3.gh _ _ hb)
      · rintro j z H2 hz ⟨s3, S3, c3, e3⟩
        obtain ⟨c, hc, rfl⟩ := map_get hz
        have hjl := get_lt hc
        refine ⟨rfl, ?_⟩
        refine ⟨_, rfl, _, rfl, d, _, rfl, c3.at_, fun q hq => ⟨q, _, rfl, .inl (SqL.of upd_same), rfl, (by rw [tagKV_vals]; exact flat_strs _), !decide (c ∈ ts.map (·.2)), ?_, ?_⟩⟩
        · rw [tagKV_vals, notin_eq]
        · have s4 := s3.trans (Stp.put (F := F2 st inn) s3.gh hq (.lst ((tagKV ts).map (·.2))))
          have S4 := S3.new hq s3.gh (.lst ((tagKV ts).map (·.2)))
          have c4 := c3.off (c3.ne hq) (.lst ((tagKV ts).map (·.2)))
          have e4 := e3.off (e3.ne hq) (.lst ((tagKV ts).map (·.2)))
          refine ite2 (fun hin => ?_) (fun hin => ?_)
          · refine ⟨_, rfl, _, e4.at_, sz_lt ?_, s4.loc e4 hD0 _, S4.write offD _, c4.off hdD _, ?_⟩
            · have := List.length_filter_le (fun c => !decide (c ∈ ts.map (·.2))) (pool.take j)
              rw [List.length_take] at this
              rw [List.length_map]
              omega
            · rw [take_more hc, List.filter_append, List.map_append]
              have e : [c].filter (fun c => !decide (c ∈ ts.map (·.2))) = [c] := by rw [List.filter_cons, if_pos hin]; rfl
              rw [e]
              exact e4.set _
          · refine ⟨s4, S4, c4, ?_⟩
            rw [take_more hc, List.filter_append]
            have e : [c].filter (fun c => !decide (c ∈ ts.map (·.2))) = [] := by rw [List.filter_cons, if_neg hin]; rfl
            rw [e, List.append_nil]
            exact e4
      · rintro H3 ⟨s3, S3, c3, e3⟩
        rw [List.length_map, List.take_length] at e3
        generalize hfr : pool.filter (fun c => !decide (c ∈ ts.map (·.2))) = fr at e3
        have hfm : ∀ c ∈ fr, c ∈ pool ∧ c ∉ ts.map (·.2) := fun c hc => by
          rw [← hfr] at hc
          obtain ⟨h1, h2⟩ := List.mem_filter.mp hc
          exact ⟨h1, by simpa using h2⟩
        have hfl : fr.length ≤ 100 := by
          rw [← hfr]
          exact Nat.le_trans (List.length_filter_le _ _) hpl
        have same : ∀ H4, Stp (F2 st inn) G H G H4 → StAt G H4 st inn → Cell G H4 d (.dK (tagKV ts)) → ∃ x' y' ts', ([some (.ref st), some (.ref a), some (.ref b), some (.ref d), some (.int (0 + (i : Int))), some (.ref D), none] : List (Option V)) = [some (.ref st), some (.ref a), some (.ref b), some (.ref d), x', y', none] ∧ Stp (F2 st inn) G H G H4 ∧ StAt G H4 st inn ∧ Cell G H4 d (.dK (tagKV ts')) ∧ Tags ls pool ts' ∧ (∀ t ∈ ts', t.1 < i + 1) ∧ ts'.length ≤ i + 1 :=
          fun H4 s4 S4 c4 => ⟨_, _, ts, rfl, s4, S4, c4, hT, fun t ht => Nat.lt_succ_of_lt (hk t ht), by omega⟩
        refine ⟨_, rfl, _, rfl, _, _, _, _, rfl, rfl, SqL.of (s3.gh _ _ ha), atI_map (f := fun (n : Nat) => V.int (n : Int)) (by omega) hli, _, rfl, rfl, _, rfl, ?_⟩
        refine ite2 (fun hlk => ?_) (fun _ => same H3 s3 S3 c3)
        have hlk' : li = i := by
          have := of_decide_eq_true hlk
          injection this with this
          omega
        subst hlk'
        refine ⟨_, rfl, by decide, fun E1 hE => ?_⟩
        have s4 := s3.trans (Stp.put (F := F2 st inn) s3.gh hE (.lst []))
        have S4 := S3.new hE s3.gh (.lst [])
        have c4 := c3.off (c3.ne hE) (.lst [])
        have e4 := e3.off (e3.ne hE) (.lst [])
        refine ⟨dS fr, .list [], .lst (SqL.of e4.at_) (dp_strs fr), .lst (SqL.of upd_same) .nil, sh_strs fun c hc => hasc c (hfm c hc).1, rfl, _, rfl, ?_⟩
        rw [eqv_strs0]
        refine ite2 (fun hne => ?_) (fun _ => same _ s4 S4 c4)
        have hne' : fr ≠ [] := fun e => by rw [e] at hne; exact absurd hne (by decide)
        have hpos : 0 < fr.length := List.length_pos_iff.mpr hne'
        refine ⟨_, rfl, G, st, inn, 3, rfl, s4.gh, S4, by decide, by decide, fun r5 H5 s5 S5 d0 d1 => ⟨rfl, _, rfl, ?_⟩⟩
        have c5 := s5.cell c4 off
        have e5 := s5.cell e4 offD
        have s5' := s4.trans s5
        refine ite2 (fun _ => ?_) (fun _ => same _ s5' S5 c5)
        refine ⟨_, rfl, _, rfl, _, rfl, _, _, rfl, .inl (SqL.of e5.at_), G, st, inn, _, rfl, s5.gh, S5, by rw [List.length_map]; omega, by rw [List.length_map]; omega, fun r6 H6 s6 S6 f0 f1 => ?_⟩
        obtain ⟨q, rfl⟩ := Int.eq_ofNat_of_zero_le f0
        rw [List.length_map] at f1
        have c6 := s6.cell c5 off
        have e6 := s6.cell e5 offD
        have s6' := s5'.trans s6
        have hq : q < fr.length := by omega
        have hcq := hfm fr[q] (List.getElem_mem hq)
        refine ⟨_, _, _, _, rfl, rfl, SqL.of e6.at_, atI_map (x := fr[q]) rfl (by simp [hq]), _, rfl, _, rfl, d, _, rfl, DPut.k (k := Sum.inl (0 + (li : Int))) c6.at_ (sz_lt ?_), ?_⟩
        · rw [List.length_map]; omega
        · have ek : (Sum.inl (0 + (li : Int)) : Key) = Sum.inl (li : Int) := by rw [Int.zero_add]
          have ep : putK (tagKV ts) (Sum.inl (0 + (li : Int)) : Key) (V.str fr[q]) = tagKV (ts ++ [(li, fr[q])]) := by
            rw [ek, putK_new _ (valV_fresh hk)]
            show _ = (ts ++ [(li, fr[q])]).map _
            rw [List.map_append]
            rfl
          refine ⟨_, _, ts ++ [(li, fr[q])], rfl, s6'.loc c6 hd _, S6.write off _, ?_, hT.snoc hk hli hcq.1 hcq.2, fun t ht => ?_, by rw [List.length_append]; show _ + 1 ≤ _; omega⟩
          · rw [ep]
            exact c6.set _
          · rcases List.mem_append.mp ht with z | z
            · exact Nat.lt_succ_of_lt (hk t z)
            · rw [List.mem_singleton.mp z]; exact Nat.lt_succ_self _
    · rintro σ H' ⟨x, y, ts, rfl, s2, S2, c2, hT, hk, hl⟩
      refine ⟨_, rfl, ?_⟩
      exact k (.ref d) ts (upd G d _) H' (s2.freeze c2 hd) (S2.frz off _) ⟨d, rfl, upd_same⟩ hT
theorem sc_get_lists : FnScope ["_law_places", "_law_labels", "_law_tags", "_law_found", "_law_k", "_law_block", "_law_j"] ["_law_places", "_law_labels", "_law_tags"] (defScope (topS 24)) := ⟨rfl, rfl, rfl, by decide +kernel, rfl, by decide +kernel, by decide +kernel⟩
theorem listsOf_succ {ps : List Str} {ls : List Nat} {ts : List (Nat × Str)} {i : Nat} : listsOf ps ls ts (i + 1) = if (ls.getD i 0 == i) = true then listsOf ps ls ts i ++ [blockOf ps ls ts i] else listsOf ps ls ts i := by
  unfold listsOf
  rw [List.range_succ, List.filter_append]
  split
  · rename_i h
    have e : [i].filter (fun k => ls.getD k 0 == k) = [i] := by rw [List.filter_cons, if_pos h]; rfl
    rw [e, List.map_append]
    rfl
  · rename_i h
    have e : [i].filter (fun k => ls.getD k 0 == k) = [] := by rw [List.filter_cons, if_neg h]; rfl
    rw [e, List.append_nil]
def blkTo (ps : List Str) (ls : List Nat) (k j : Nat) : List Str := ((List.range j).filter fun j => ls.getD j 0 == k).map (fun j => ps.getD j Str.empty)
theorem blkTo_succ {ps : List Str} {ls : List Nat} {k j : Nat} : blkTo ps ls k (j + 1) = if (ls.getD j 0 == k) = true then blkTo ps ls k j ++ [ps.getD j Str.empty] else blkTo ps ls k j := by
  unfold blkTo
  rw [List.range_succ, List.filter_append]
  split
  · rename_i h
    have e : [j].filter (fun j => ls.getD j 0 == k) = [j] := by rw [List.filter_cons, if_pos h]; rfl
    rw [e, List.map_append]
    rfl
  · rename_i h
    have e : [j].filter (fun j => ls.getD j 0 == k) = [] := by rw [List.filter_cons, if_neg h]; rfl
    rw [e, List.append_nil]
theorem blkTo_len {ps : List Str} {ls : List Nat} {k j : Nat} : (blkTo ps ls k j).length ≤ j := by
  unfold blkTo
  have := List.length_filter_le (fun j => ls.getD j 0 == k) (List.range j)
  rw [List.length_range] at this
  rw [List.length_map]
  exact this
theorem listsOf_len {ps : List Str} {ls : List Nat} {ts : List (Nat × Str)} {i : Nat} : (listsOf ps ls ts i).length ≤ i := by
  unfold listsOf
  have := List.length_filter_le (fun k => ls.getD k 0 == k) (List.range i)
  rw [List.length_range] at this
  rw [List.length_map]
  exact this
set_option maxHeartbeats 8000000 in
theorem ok_get_lists {f : Addr} {fd : FuncData} (F : Fun K "_law_get_lists" "_law_get_lists" (topS 24) f fd) (T : Txt K mg) : FnOk P w K mg base CX0 1 f fd ["_law_places", "_law_labels", "_law_tags"] spLists := by
  refine F.ok sc_get_lists (fun vs H Q E h => ?_) (fun cdv A outer s H vs Q E hr h => ?_)
  · obtain ⟨G, a, b, d, ps, ls, ts, rfl, _⟩ := h
    rfl
  · obtain ⟨G, a, b, d, ps, ls, ts, rfl, gh, ha, hb, hd, hll, hpl, k⟩ := h
    refine ⟨_, (pss_cons (ps_set (i := 3) sc_get_lists.nd rfl (Or.inl rfl) (pe_lst pa_nil))
      (pss_cons (ps_for PassesOwn.never rfl (pi_range1 (by rfl) T.n_range (pa_cons (pe_callB (c_len K) (by rfl) T.n_len (by decide +kernel) (pa_cons (pv 0) pa_nil)) pa_nil)) (pg_name (i := 4) sc_get_lists.nd rfl (Or.inr rfl))
      (pss_one (ps_if (pt_cmpR op_eq (pe_ix (ix_lst K) (pv 1) (pv 4) (fun _ _ => rfl)) (pv 4) (nomark _)) (pss_cons (ps_setLc (i := 5) (own := [("_law_j", 6)]) (by rfl) sc_get_lists.nd rfl rfl (sw_true rfl rfl rfl (by decide +kernel)) (pi_range1 (by rfl) T.n_range (pa_cons (pe_callB (c_len K) (by rfl) T.n_len (by decide +kernel) (pa_cons (pv 0) pa_nil)) pa_nil)) (blkOk_by (own := [("_law_j", 6)]) (N := ["_law_places", "_law_labels", "_law_tags", "_law_found", "_law_k", "_law_block", "_law_j"]) (sc := defScope (topS 24)) (by decide +kernel)) (fun _ _ _ _ _ => (pg_name (i := 6) sc_get_lists.nd rfl (Or.inl rfl))) (fun _ _ _ _ _ => (pts_one (pt_cmpR op_eq (pe_ix (ix_lst K) (pv 1) (pv 6) (fun _ _ => rfl)) (pv 4) (nomark _)))) (fun _ _ _ _ _ => (pe_ix (ix_lst K) (pv 0) (pv 6) (fun _ _ => rfl))))
      (pss_one (ps_expr (e_bm K PySem.F.plainAttrs_list PySem.F.slot_list_append PySem.F.type_list_append mt_append (pv 3) (pa_cons (pe_op op_cat (pv 5) (pe_ifExp (pt_cmp (pc_din (hu_of hr) (pv 4) (pv 2))) (pe_lst (pa_cons (pe_dget (hu_of hr) (pv 2) (pv 4) (fun _ _ => rfl)) pa_nil)) (pe_lst pa_nil))) pa_nil))))) pss_nil)))
      (pss_one (ps_ret (pv 3))))), ?_⟩
    refine ⟨by decide, fun D hD => ?_⟩
    have s1 : Stp F0 G H G (upd H D (.lst [])) := Stp.put gh hD _
    refine ⟨_, rfl, _, _, rfl, .inl (SqL.of (s1.gh _ _ ha)), _, rfl, by simp only [List.length_map]; omega, by simp only [List.length_map]; omega, for_range (fun i σ H' => ∃ x y G1 as, σ = [some (.ref a), some (.ref b), some (.ref d), some (.ref D), x, y, none] ∧ Stp F0 G H G1 H' ∧ Cell G1 H' D (.lst (as.map V.ref)) ∧ Paired (fun p xs => G1 p = some (.lst (xs.map V.str))) as (listsOf ps ls ts i)) ?_ ?_ ?_⟩
    · exact ⟨none, none, G, [], rfl, s1, Cell.new gh hD _, .nil⟩
    · rintro i σ H' hi ⟨x, y, G1, as, rfl, s2, c2, hp⟩
      have hip : i < ps.length := by rw [List.length_map] at hi; omega
      have hi' : i < ls.length := by omega
      obtain ⟨li, hli⟩ : ∃ li, ls[i]? = some li := ⟨ls[i], by simp [hi']⟩
      have hlD : ls.getD i 0 = li := by simp [List.getD, hli]
      have hG1 := s2.gg
      refine ⟨_, rfl, _, rfl, _, _, _, _, rfl, rfl, SqL.of (s2.gh _ _ (hG1 _ _ hb)), atI_map (f := fun (n : Nat) => V.int (n : Int)) (by omega) hli, _, rfl, rfl, _, rfl, ?_⟩
      refine ite2 (fun hlk => ?_) (fun hlk => ?_)
      · have hlk' : li = i := by
          have := of_decide_eq_true hlk
          injection this with this
          omega
        subst hlk'
        have hsucc : listsOf ps ls ts (li + 1) = listsOf ps ls ts li ++ [blockOf ps ls ts li] := by rw [listsOf_succ, if_pos (by rw [hlD]; exact beq_self_eq_true _)]
        refine ⟨_, rfl, _, _, rfl, .inl (SqL.of (s2.gh _ _ (hG1 _ _ ha))), _, rfl, by simp only [List.length_map]; omega, by simp only [List.length_map]; omega, fun B hB => ?_⟩
        have hB0 : H B = none := s2.new hB
        have hDB : D ≠ B := c2.ne hB
        refine lc_range (fun j H2 => Stp F0 G H G1 H2 ∧ Cell G1 H2 D (.lst (as.map V.ref)) ∧ Cell G1 H2 B (.lst ((blkTo ps ls li j).map V.str))) ?_ ?_ ?_
        · exact ⟨s2.trans (Stp.put s2.gh hB _), c2.off hDB _, Cell.new s2.gh hB _⟩
        · rintro j H2 hj ⟨s3, c3, b3⟩
          have hjp : j < ps.length := by rw [List.length_map] at hj; omega
          have hjl : j < ls.length := by omega
          obtain ⟨lj, hlj⟩ : ∃ lj, ls[j]? = some lj := ⟨ls[j], by simp [hjl]⟩
          obtain ⟨pj, hpj⟩ : ∃ pj, ps[j]? = some pj := ⟨ps[j], by simp [hjp]⟩
          have hljD : ls.getD j 0 = lj := by simp [List.getD, hlj]
          have hpjD : ps.getD j Str.empty = pj := by simp [List.getD, hpj]
          refine ⟨rfl, ?_⟩
          refine ⟨_, rfl, _, rfl, _, _, _, _, rfl, rfl, SqL.of (s3.gh _ _ (hG1 _ _ hb)), atI_map (f := fun (n : Nat) => V.int (n : Int)) (by omega) hlj, _, rfl, rfl, _, rfl, ?_⟩
          refine ite2 (fun he => ?_) (fun he => ?_)
          · have he' : (ls.getD j 0 == li) = true := by
              have := of_decide_eq_true he
              injection this with this
              rw [hljD]
              exact beq_iff_eq.mpr (by omega)
            refine ⟨_, rfl, _, rfl, _, _, _, _, rfl, rfl, SqL.of (s3.gh _ _ (hG1 _ _ ha)), atI_map (by omega) hpj, _, b3.at_, sz_lt ?_, s3.loc b3 hB0 _, c3.off hDB _, ?_⟩
            · have := blkTo_len (ps := ps) (ls := ls) (k := li) (j := j)
              rw [List.length_map]
              omega
            · rw [blkTo_succ, if_pos he', List.map_append, hpjD]
              exact b3.set _
          · have he' : ¬ (ls.getD j 0 == li) = true := fun z => he (decide_eq_true (by
              rw [hljD] at z
              rw [beq_iff_eq.mp z, Int.zero_add]))
            refine ⟨s3, c3, ?_⟩
            rw [blkTo_succ, if_neg he']
            exact b3
        · rintro H3 ⟨s3, c3, b3⟩
          have el : ((ps.map V.str).length : Int).toNat = ps.length := by rw [List.length_map]; omega
          rw [el] at b3
          have hbl := blkTo_len (ps := ps) (ls := ls) (k := li) (j := ps.length)
          -- the end of the turn: the block and its tag
          have fin : ∀ (tg : List Str) (L : Addr) (H4 : Hp), tagL ts li = tg → tg.length ≤ 1 → Stp F0 G H G1 H4 → Cell G1 H4 D (.lst (as.map V.ref)) → Cell G1 H4 B (.lst ((blkTo ps ls li ps.length).map V.str)) → H4 L = some (.lst (tg.map V.str)) → H L = none →
              ∃ l b' xs zs, (V.ref B) = V.ref l ∧ V.ref L = V.ref b' ∧ H4 l = some (.lst xs) ∧ H4 b' = some (.lst zs) ∧ xs.length + zs.length ≤ sizeLine ∧ ∀ p, H4 p = none → ∃ l xs' y, (V.ref D) = V.ref l ∧ [V.ref p] = [y] ∧ (upd H4 p (.lst (xs ++ zs))) l = some (.lst xs') ∧ xs'.length < sizeLine ∧
                ∃ x' y' G2 as', ([some (.ref a), some (.ref b), some (.ref d), some (.ref D), some (.int (0 + (li : Int))), some (.ref B), none] : List (Option V)) = [some (.ref a), some (.ref b), some (.ref d), some (.ref D), x', y', none] ∧ Stp F0 G H G2 (upd (upd H4 p (.lst (xs ++ zs))) l (.lst (xs' ++ [y]))) ∧ Cell G2 (upd (upd H4 p (.lst (xs ++ zs))) l (.lst (xs' ++ [y]))) D (.lst (as'.map V.ref)) ∧ Paired (fun q xs => G2 q = some (.lst (xs.map V.str))) as' (listsOf ps ls ts (li + 1)) := by
            intro tg L H4 ht htl s4 c4 b4 hL hL0
            refine ⟨B, L, _, _, rfl, rfl, b4.at_, hL, sz_le (by rw [List.length_map, List.length_map]; omega), fun p np => ?_⟩
            have np0 : H p = none := s4.new np
            have hDp : D ≠ p := c4.ne np
            have c5 := c4.off hDp (.lst ((blkTo ps ls li ps.length).map V.str ++ tg.map V.str))
            have s5 := s4.trans (Stp.put (F := F0) s4.gh np (.lst ((blkTo ps ls li ps.length).map V.str ++ tg.map V.str)))
            have p5 : Cell G1 (upd H4 p (.lst ((blkTo ps ls li ps.length).map V.str ++ tg.map V.str))) p (.lst ((blkTo ps ls li ps.length).map V.str ++ tg.map V.str)) := Cell.new s4.gh np _
            have s6 := s5.loc c5 hD (.lst (as.map V.ref ++ [V.ref p]))
            have p6 := p5.off hDp.symm (.lst (as.map V.ref ++ [V.ref p]))
            refine ⟨D, _, _, rfl, rfl, c5.at_, sz_lt ?_, _, _, upd G1 p (.lst ((blkTo ps ls li ps.length).map V.str ++ tg.map V.str)), as ++ [p], rfl, s6.freeze p6 np0, ?_, ?_⟩
            · rw [List.length_map]
              have h1 := paired_len hp
              have h2 := listsOf_len (ps := ps) (ls := ls) (ts := ts) (i := li)
              omega
            · rw [List.map_append]
              exact (c5.set _).lay hDp _
            · rw [hsucc]
              refine Paired.snoc (paired_imp_mem hp fun q xs hq e => ?_) ?_
              · rw [upd_ne (ne_of_none e p6.no)]
                exact e
              · rw [upd_same]
                unfold blockOf
                rw [ht, List.map_append]
                rfl
          have hdH : H3 d = some (.dK (tagKV ts)) := s3.gh _ _ (hG1 _ _ hd)
          refine ⟨_, rfl, Or.inl ⟨rfl, _, SqL.of c3.at_⟩, _, rfl, _, rfl, _, rfl, d, _, rfl, DGet.k (k := Sum.inl (0 + (li : Int))) hdH, _, rfl, ?_⟩
          have ek : (Sum.inl (0 + (li : Int)) : Key) = Sum.inl (li : Int) := by rw [Int.zero_add]
          have ev : valV (tagKV ts) (Sum.inl (0 + (li : Int)) : Key) = (ts.find? fun t => t.1 == li).map fun t => V.str t.2 := by rw [ek, valV_tags]
          cases e : (ts.find? fun t => t.1 == li) with
          | some t =>
            rw [ev, e]
            refine iteT ?_
            have hg : DGet H3 d (V.int (0 + (li : Int))) (some (V.str t.2)) := by
              have := DGet.k (k := Sum.inl (0 + (li : Int))) hdH
              rw [ev, e] at this
              exact this
            refine ⟨_, rfl, _, rfl, d, _, rfl, hg, (by show 1 ≤ sizeLine; decide), fun L hL => ?_⟩
            have hL0 : H L = none := s3.new hL
            exact fin [t.2] L _ (by unfold tagL; rw [e]) (Nat.le_refl 1) (s3.trans (Stp.put s3.gh hL _)) (c3.off (c3.ne hL) _) (b3.off (b3.ne hL) _) upd_same hL0
          | none =>
            rw [ev, e]
            refine iteF ?_
            refine ⟨by decide, fun L hL => ?_⟩
            have hL0 : H L = none := s3.new hL
            exact fin [] L _ (by unfold tagL; rw [e]) (by decide) (s3.trans (Stp.put s3.gh hL _)) (c3.off (c3.ne hL) _) (b3.off (b3.ne hL) _) upd_same hL0
      · have hne : ¬ (ls.getD i 0 == i) = true := fun z => hlk (decide_eq_true (by
          rw [hlD] at z
          rw [beq_iff_eq.mp z, Int.zero_add]))
        refine ⟨_, _, G1, as, rfl, s2, c2, ?_⟩
        rw [listsOf_succ, if_neg hne]
        exact hp
    · rintro σ H' ⟨x, y, G1, as, rfl, s2, c2, hp⟩
      have el : ((ps.map V.str).length : Int).toNat = ps.length := by rw [List.length_map]; omega
      rw [el] at hp
      refine ⟨_, rfl, ?_⟩
      refine k (.ref D) (upd G1 D (.lst (as.map V.ref))) H' (s2.freeze c2 hD) ⟨D, as, rfl, upd_same, paired_imp_mem hp fun q xs _ e => ?_⟩
      rw [upd_ne (ne_of_none e c2.no)]
      exact e
end
end OA

/-! ### is_value, is_constant: the code -/
namespace OA
open PySem PySem.Spec PyProof.Rows L2
def spIsVal : Sp := fun vs H Q _ => ∃ z : Str, vs = [.str z] ∧ z.length ≤ 1000 ∧ ∀ H', Same H H' → Q (.bl (isValB z)) H'
def spIsCon : Sp := fun vs H Q _ => ∃ z : Str, vs = [.str z] ∧ z.length ≤ 1000 ∧ ∀ H', Same H H' → Q (.bl (isConB z)) H'
theorem signs_eq : (Str.ofString "abcdefghijklmnopqrstuvwxyz0123456789").cps.toList = signL := signs_list
theorem str39 (c : Nat) : decide (V.str ⟨#[c]⟩ = V.str (Str.ofString "'")) = (some c == some 39) := by
  have e : Str.ofString "'" = ⟨#[39]⟩ := by decide +kernel
  rw [e]
  by_cases h : c = 39
  · subst h; simp
  · simp [h]
theorem cutS_len (z : Str) (lo hi : Option Int) : (cutS z lo hi).length ≤ z.length := by
  rw [len_list, len_list]
  unfold cutS
  simp
  omega
section
variable {P : Program} {w : World} {K : PySem.W.Frag} {mg : Str → Option Value} {base : Heap}
theorem sc_is_value : FnScope ["thing", "sign"] ["thing"] (defScope (topS 9)) := ⟨rfl, rfl, rfl, by decide +kernel, rfl, by decide +kernel, by decide +kernel⟩
set_option maxHeartbeats 8000000 in
theorem ok_is_value {f : Addr} {fd : FuncData} (F : Fun K "is_value" "is_value" (topS 9) f fd) (T : Txt K mg) : FnOk P w K mg base CX0 1 f fd ["thing"] spIsVal := by
  refine F.ok sc_is_value (fun vs H Q E h => ?_) (fun cdv A outer s H vs Q E hr h => ?_)
  · obtain ⟨z, rfl, _⟩ := h
    rfl
  · obtain ⟨z, rfl, hz, k⟩ := h
    refine ⟨_, (pss_cons (ps_if (PW.pt (pw_or (pt_not (pt_val (pe_callB (c_isi K) (by rfl) T.n_isinstance (by decide +kernel) (pa_cons (pv 0) (pa_cons (pe_bltn (v := .ty "str") rfl T.n_str (by decide +kernel) rfl) pa_nil))))) (pw_or1 (pt_not (pt_chain o_le o_le pe_int (pe_callB c_lenS (by rfl) T.n_len (by decide +kernel) (pa_cons (pv 0) pa_nil)) (pe_gint T.c_LONGEST_VALUE)))))) (pss_one (ps_ret pe_bl)) pss_nil)
      (pss_one (ps_ret (pe_callB (c_all K) (by rfl) T.n_all (by decide +kernel) (pa_cons (pe_lc (own := [("sign", 1)]) (by rfl) sc_is_value.nd (pi_str (pv 0)) (blkOk_by (own := [("sign", 1)]) (N := ["thing", "sign"]) (sc := defScope (topS 9)) (by decide +kernel)) (fun _ _ _ _ _ => (pg_name (i := 1) sc_is_value.nd rfl (Or.inl rfl))) (fun _ _ _ _ _ => pts_nil) (fun _ _ _ _ _ => (pe_cmpR o_insign (pv 1) (pe_gstr T.c_SIGNS) (by rfl)))) pa_nil))))), ?_⟩
    refine ⟨_, rfl, _, _, _, _, true, rfl, .ty "str", .base (.str z), kit_ty (by decide +kernel), true, rfl, ?_⟩
    refine iteF ?_
    refine ⟨_, rfl, z, rfl, sz_le (by omega), _, _, rfl, rfl, _, rfl, ?_⟩
    refine ite2 (fun h1 => ?_) (fun h1 => ?_)
    · have h1' : 1 ≤ z.length := by have := of_decide_eq_true h1; omega
      refine ⟨_, _, rfl, rfl, _, rfl, ?_⟩
      by_cases h2 : z.length ≤ 20
      · have e2 : decide ((z.length : Int) ≤ 20) = true := decide_eq_true (by omega)
        rw [e2]
        refine iteF ?_
        refine ⟨_, rfl, z, rfl, fun D hD => ?_⟩
        refine lc_it walk_str (fun i H' => Same H H' ∧ H' D = some (.lst (((z.cps.toList.take i).map fun c => decide (c ∈ signL)).map V.bl))) ?_ ?_ ?_ ?_
        · exact ⟨same_loc (Same.refl H) hD _, upd_same⟩
        · intro _ _ _ _
          trivial
        · rintro i x H1 H2 hi ⟨s1, h1⟩ ⟨rfl, c, hc, rfl⟩
          have hc' : z.cps.toList[i]? = some c := by rw [Array.getElem?_toList]; exact hc
          refine ⟨rfl, yes_of ?_⟩
          refine ⟨_, rfl, c, _, rfl, rfl, _, h1, sz_lt ?_, same_loc s1 hD _, ?_⟩
          · rw [List.length_map, List.length_map, List.length_take]
            rw [len_list] at hz
            omega
          · rw [take_more hc', List.map_append, List.map_append, signs_eq]
            exact upd_same
        · rintro H1 ⟨s1, h1⟩
          refine ⟨D, (z.cps.toList.map fun c => decide (c ∈ signL)), rfl, SqL.of ?_, ?_⟩
          · rw [h1]
            have e : z.cps.toList.take z.cps.size = z.cps.toList := by
              rw [List.take_of_length_le]
              simp
            rw [e]
          · have e : isValB z = (z.cps.toList.map fun c => decide (c ∈ signL)).all id := by
              unfold isValB
              rw [decide_eq_true h1', decide_eq_true h2, List.all_map]
              rfl
            rw [← e]
            exact k H1 s1
      · have e2 : decide ((z.length : Int) ≤ 20) = false := decide_eq_false (by omega)
        rw [e2]
        refine iteT ?_
        have e : isValB z = false := by
          unfold isValB
          rw [decide_eq_false h2]
          simp
        have := k H (Same.refl H)
        rw [e] at this
        exact this
    · have h1' : ¬ 1 ≤ z.length := fun q => h1 (decide_eq_true (by omega))
      refine ⟨_, rfl, ?_⟩
      refine iteT ?_
      have e : isValB z = false := by
        unfold isValB
        rw [decide_eq_false h1']
        rfl
      have := k H (Same.refl H)
      rw [e] at this
      exact this
theorem sc_is_constant : FnScope ["thing"] ["thing"] (defScope (topS 10)) := ⟨rfl, rfl, rfl, by decide +kernel, rfl, by decide +kernel, by decide +kernel⟩
set_option maxHeartbeats 8000000 in
theorem ok_is_constant {f : Addr} {fd : FuncData} (F : Fun K "is_constant" "is_constant" (topS 10) f fd) (T : Txt K mg) (c_is_value : Callee P w K mg base "is_value" ["thing"] spIsVal 1) : FnOk P w K mg base CX0 2 f fd ["thing"] spIsCon := by
  refine F.ok sc_is_constant (fun vs H Q E h => ?_) (fun cdv A outer s H vs Q E hr h => ?_)
  · obtain ⟨z, rfl, _⟩ := h
    rfl
  · obtain ⟨z, rfl, hz, k⟩ := h
    refine ⟨_, (pss_cons (ps_if (PW.pt (pw_or (pt_not (pt_val (pe_callB (c_isi K) (by rfl) T.n_isinstance (by decide +kernel) (pa_cons (pv 0) (pa_cons (pe_bltn (v := .ty "str") rfl T.n_str (by decide +kernel) rfl) pa_nil))))) (pw_or1 (pt_cmpR o_lt (pe_callB c_lenS (by rfl) T.n_len (by decide +kernel) (pa_cons (pv 0) pa_nil)) pe_int (nomark _))))) (pss_one (ps_ret pe_bl)) pss_nil)
      (pss_one (ps_ret (pe_and (pe_cmpR op_eq (pe_ix ix_str (pv 0) pe_int (fun _ _ => rfl)) pe_str (nomark _)) (pe_and (pe_cmpR op_eq (pe_ix ix_str (pv 0) (pe_un un_neg pe_int) (fun _ _ => rfl)) pe_str (nomark _)) (pe_one (pe_co c_is_value hr (by decide) (by rfl) (pa_cons (pe_slice sl_str (pv 0) (po_some pe_int) (po_some (pe_un un_neg pe_int))) pa_nil)))))))), ?_⟩
    have hs : z.length ≤ sizeLine := sz_le (by omega)
    refine ⟨_, rfl, _, _, _, _, true, rfl, .ty "str", .base (.str z), kit_ty (by decide +kernel), true, rfl, ?_⟩
    refine iteF ?_
    refine ⟨_, rfl, z, rfl, hs, _, _, rfl, rfl, _, rfl, ?_⟩
    refine ite2 (fun h1 => ?_) (fun h1 => ?_)
    · have h1' : ¬ 3 ≤ z.length := by have := of_decide_eq_true h1; omega
      have e : isConB z = false := by
        unfold isConB
        rw [decide_eq_false h1']
        rfl
      have := k H (Same.refl H)
      rw [e] at this
      exact this
    · have h1' : 3 ≤ z.length := by
        by_cases q : 3 ≤ z.length
        · exact q
        · exact absurd (decide_eq_true (by omega)) h1
      obtain ⟨c, r, e1⟩ : ∃ c r, z.cps.toList = c :: r := by
        cases e : z.cps.toList with
        | nil => rw [len_list, e] at h1'; simp at h1'
        | cons c r => exact ⟨c, r, rfl⟩
      obtain ⟨ini, d, e2⟩ : ∃ ini d, z.cps.toList = ini ++ [d] := by
        refine ⟨z.cps.toList.dropLast, z.cps.toList.getLast (by rw [e1]; simp), ?_⟩
        rw [List.dropLast_concat_getLast]
      have hh : z.cps.toList.head? = some c := by rw [e1]; rfl
      have hl : z.cps.toList.getLast? = some d := by rw [e2, List.getLast?_append]; rfl
      have ec : isConB z = ((some c == some 39) && (some d == some 39) && isValB (cutS z (some 1) (some (-1)))) := by
        unfold isConB
        rw [decide_eq_true h1', hh, hl]
        rfl
      refine ⟨_, rfl, z, 0, c, rfl, rfl, hs, (by rw [e1]; exact atI_nat (j := 0) rfl), rfl, _, rfl, ?_⟩
      rw [str39]
      refine ite2 (fun q1 => ?_) (fun q1 => ?_)
      · refine ⟨_, rfl, _, rfl, z, -1, d, rfl, rfl, hs, (by rw [e2]; exact atI_last ini d), rfl, _, rfl, ?_⟩
        rw [str39]
        refine ite2 (fun q2 => ?_) (fun q2 => ?_)
        · refine ⟨_, rfl, _, rfl, _, rfl, _, rfl, z, rfl, hs, cutS z (some 1) (some (-1)), rfl, Nat.le_trans (cutS_len _ _ _) hz, fun H' s' => ?_⟩
          have := k H' s'
          rw [ec, q1, q2] at this
          exact this
        · have := k H (Same.refl H)
          have q2' : (some d == some 39) = false := by simpa using q2
          rw [ec, q2'] at this
          simpa using this
      · have := k H (Same.refl H)
        have q1' : (some c == some 39) = false := by simpa using q1
        rw [ec, q1'] at this
        simpa using this
end
end OA

/-! ### patterns: the code -/
namespace OA
open PySem PySem.Spec PyProof.Rows L2
/-- the places, a list or a tuple -/
def PlV (K : PySem.W.Frag) (H : Hp) (a : Addr) (ps : List Str) : Prop := H a = some (.lst (ps.map V.str)) ∨ H a = some (.tup (ps.map V.str))
theorem PlV.mono {K : PySem.W.Frag} {H H' : Hp} {a : Addr} {ps : List Str} (s : Same H H') (h : PlV K H a ps) : PlV K H' a ps := by
  rcases h with h | h
  · exact .inl (s _ _ h)
  · exact .inr (s _ _ h)
theorem PlV.sq {K : PySem.W.Frag} {H : Hp} {a : Addr} {ps : List Str} (h : PlV K H a ps) : SqL K H a (ps.map V.str) ∨ SqT K H a (ps.map V.str) := by
  rcases h with h | h
  · exact .inl (SqL.of h)
  · exact .inr (SqT.of h)
/-- a list of lists of texts at its addresses -/
abbrev LL (H : Hp) (as : List Addr) (bs : List (List Str)) : Prop := Paired (fun p xs => H p = some (.lst (xs.map V.str))) as bs
theorem LL.mono {H H' : Hp} {as : List Addr} {bs : List (List Str)} (s : Same H H') (h : LL H as bs) : LL H' as bs := Paired.mapP h fun p xs e => s p _ e
structure Small (ps : List Str) (bs : List (List Str)) : Prop where
  lp : ps.length ≤ 100
  lb : bs.length ≤ 1000
  le : ∀ b ∈ bs, b.length ≤ 100
  lx : ∀ b ∈ bs, ∀ x ∈ b, x.length ≤ 1000
def spCheck (K : PySem.W.Frag) : Sp := fun vs H Q _ => ∃ (a b : Addr) (ps : List Str) (as : List Addr) (bs : List (List Str)), vs = [.ref a, .ref b] ∧ PlV K H a ps ∧ H b = some (.lst (as.map V.ref)) ∧ LL H as bs ∧ Small ps bs ∧ chkBs ps bs [] = .ok () ∧ ∀ H', Same H H' → Q .non H'
def spOrdB : Sp := fun vs H Q _ => ∃ (a b : Addr) (ps bl : List Str), vs = [.ref a, .ref b] ∧ H a = some (.lst (ps.map V.str)) ∧ H b = some (.lst (bl.map V.str)) ∧ ps.length ≤ 100 ∧ bl.length ≤ 100 ∧
  ∀ (p : Addr) (H' : Hp), Same H H' → H p = none → H' p = some (.lst ((ordB ps bl).map V.str)) → Q (.ref p) H'
def spOrdBs : Sp := fun vs H Q _ => ∃ (a b : Addr) (ps : List Str) (as : List Addr) (bs : List (List Str)), vs = [.ref a, .ref b] ∧ H a = some (.lst (ps.map V.str)) ∧ H b = some (.lst (as.map V.ref)) ∧ LL H as bs ∧ Small ps bs ∧
  ∀ (p : Addr) (qs : List Addr) (H' : Hp), Same H H' → H p = none → (∀ q ∈ qs, H q = none) → H' p = some (.lst (qs.map V.ref)) → LL H' qs (ordBs ps bs) → Q (.ref p) H'
theorem np : ¬ (("places" : Str) = "parts") := by decide +kernel
def pflds (tp pl : Addr) : List (Str × V) := putF "parts" (.ref pl) (putF "places" (.ref tp) [])
theorem pflds_eq (tp pl : Addr) : pflds tp pl = [(("places" : Str), V.ref tp), (("parts" : Str), V.ref pl)] := by
  show (if ("places" : Str) = "parts" then [(("places" : Str), V.ref pl)] else (("places" : Str), V.ref tp) :: putF "parts" (V.ref pl) []) = _
  rw [if_neg np]
  rfl
theorem pflds_places (tp pl : Addr) : (pflds tp pl).lookup ("places" : Str) = some (.ref tp) := by
  unfold pflds
  rw [lookup_putF, if_neg np, lookup_putF, if_pos rfl]
theorem pflds_parts (tp pl : Addr) : (pflds tp pl).lookup ("parts" : Str) = some (.ref pl) := by
  unfold pflds
  rw [lookup_putF, if_pos rfl]
theorem pflds_no (tp pl : Addr) {m : Str} (h1 : ¬ m = "places") (h2 : ¬ m = "parts") : (pflds tp pl).lookup m = none := by
  unfold pflds
  rw [lookup_putF, if_neg h2, lookup_putF, if_neg h1]
  rfl
structure PTxt (K : PySem.W.Frag) (mg : Str → Option Value) (C : Addr) : Prop where
  cl : Cls K C
  n1 : NoAttr K C "places"
  n2 : NoAttr K C "parts"
def spInit (K : PySem.W.Frag) (C : Addr) : Sp := fun vs H Q _ => ∃ (x dx a b : Addr) (ps : List Str) (as : List Addr) (bs : List (List Str)), vs = [.ref x, .ref a, .ref b] ∧ H x = some (.ins C dx []) ∧ PlV K H a ps ∧ H b = some (.lst (as.map V.ref)) ∧ LL H as bs ∧ Small ps bs ∧ chkBs ps bs [] = .ok () ∧
  ∀ (tp pl : Addr) (qs : List Addr) (H' : Hp), (∀ b o, H b = some o → b ≠ x → H' b = some o) → H' x = some (.ins C dx (pflds tp pl)) → H' tp = some (.tup (ps.map V.str)) → (H tp = none ∨ tp = a) → H pl = none → (∀ q ∈ qs, H q = none) → H' pl = some (.lst (qs.map V.ref)) → LL H' qs (ordBs ps bs) → Q .non H'
def spBlocks (C : Addr) : Sp := fun vs H Q _ => ∃ (x dx tp pl : Addr) (as : List Addr) (bs : List (List Str)), vs = [.ref x] ∧ H x = some (.ins C dx (pflds tp pl)) ∧ H pl = some (.lst (as.map V.ref)) ∧ LL H as bs ∧ bs.length ≤ 1000 ∧
  ∀ (p : Addr) (qs : List Addr) (H' : Hp), Same H H' → H p = none → (∀ q ∈ qs, H q = none) → qs.Nodup → p ∉ qs → H' p = some (.lst (qs.map V.ref)) → LL H' qs bs → Q (.ref p) H'
theorem in_eq (c : Str) (xs : List Str) : (if false = true then !inV (.str c) (xs.map V.str) else inV (.str c) (xs.map V.str)) = decide (c ∈ xs) := by
  rw [if_neg Bool.false_ne_true, inV_str]
theorem drop_at {α : Type} {l : List α} {i : Nat} {x : α} (h : l[i]? = some x) : l.drop i = x :: l.drop (i + 1) := by
  obtain ⟨hi, e⟩ := List.getElem?_eq_some_iff.mp h
  rw [List.drop_eq_getElem_cons hi, e]
/-- the rest of a block goes well -/
def GoodB (ps : List Str) (n : Nat) (rest : List (List Str)) (r kn : List Str) (c : Nat) : Prop := match chkB ps r kn c with
  | .error _ => False
  | .ok (kn', c') => n ≠ c' ∧ chkBs ps rest kn' = .ok ()
theorem good_of {ps : List Str} {b : List Str} {rest : List (List Str)} {kn : List Str} (h : chkBs ps (b :: rest) kn = .ok ()) : GoodB ps b.length rest b kn 0 := by
  unfold chkBs at h
  unfold GoodB
  cases e : chkB ps b kn 0 with
  | error x => rw [e] at h; cases h
  | ok p =>
    rw [e] at h
    obtain ⟨kn', c'⟩ := p
    have h : (if b.length = c' then Except.error Str.empty else chkBs ps rest kn') = .ok () := h
    by_cases q : b.length = c'
    · rw [if_pos q] at h; cases h
    · rw [if_neg q] at h; exact ⟨q, h⟩
theorem good_step {ps : List Str} {n : Nat} {rest : List (List Str)} {p : Str} {r kn : List Str} {c : Nat} (h : GoodB ps n rest (p :: r) kn c) :
    (isConB p = true ∧ p ∉ kn ∧ ¬ 1 < c + 1 ∧ GoodB ps n rest r (kn ++ [p]) (c + 1)) ∨ (isConB p = false ∧ p ∈ ps ∧ p ∉ kn ∧ ¬ 1 < c ∧ GoodB ps n rest r (kn ++ [p]) c) := by
  unfold GoodB at h
  unfold chkB at h
  by_cases e : isConB p = true
  · rw [if_pos e] at h
    by_cases q : p ∈ kn ∨ 1 < c + 1
    · rw [if_pos q] at h; exact h.elim
    · rw [if_neg q] at h
      exact .inl ⟨e, fun z => q (.inl z), fun z => q (.inr z), h⟩
  · rw [if_neg e] at h
    by_cases hp : p ∈ ps
    · rw [if_pos hp] at h
      by_cases q : p ∈ kn ∨ 1 < c
      · rw [if_pos q] at h; exact h.elim
      · rw [if_neg q] at h
        exact .inr ⟨by simpa using e, hp, fun z => q (.inl z), fun z => q (.inr z), h⟩
    · rw [if_neg hp] at h; exact h.elim
section
variable {P : Program} {w : World} {K : PySem.W.Frag} {mg : Str → Option Value} {base : Heap}
theorem sc_check_blocks : FnScope ["places", "blocks", "known", "block", "constants", "place"] ["places", "blocks"] (defScope (topS 12)) := ⟨rfl, rfl, rfl, by decide +kernel, rfl, by decide +kernel, by decide +kernel⟩
set_option maxHeartbeats 8000000 in
theorem ok_check_blocks {f : Addr} {fd : FuncData} (F : Fun K "check_blocks" "check_blocks" (topS 12) f fd) (T : Txt K mg) (c_is_constant : Callee P w K mg base "is_constant" ["thing"] spIsCon 2) : FnOk P w K mg base CX0 3 f fd ["places", "blocks"] (spCheck K) := by
  refine F.ok sc_check_blocks (fun vs H Q E h => ?_) (fun cdv A outer s H vs Q E hr h => ?_)
  · obtain ⟨a, b, ps, as, bs, rfl, _⟩ := h
    rfl
  · obtain ⟨a, b, ps, as, bs, rfl, ha, hb, hl, sm, ck, k⟩ := h
    refine ⟨_, (pss_cons (ps_set (i := 2) sc_check_blocks.nd rfl (Or.inl rfl) (pe_lst pa_nil))
      (pss_one (ps_for PassesOwn.never rfl (i_list K (pv 1)) (pg_name (i := 3) sc_check_blocks.nd rfl (Or.inl rfl))
      (pss_cons (ps_set (i := 4) sc_check_blocks.nd rfl (Or.inl rfl) pe_int)
      (pss_cons (ps_for PassesOwn.never rfl (i_list K (pv 3)) (pg_name (i := 5) sc_check_blocks.nd rfl (Or.inl rfl))
      (C8.pss_cut (ps_if (pt_val (pe_co c_is_constant hr (by decide) (by rfl) (pa_cons (pv 5) pa_nil))) (pss_one (ps_aug (i := 4) sc_check_blocks.nd rfl (Or.inl rfl) pe_int ip_add)) (pss_one (ps_if (pt_cmpR (o_notin K) (pv 5) (pv 0) (by rfl)) (pss_one ps_never) pss_nil)))
      (pss_cons (ps_if (PW.pt (pw_or (pt_cmpR (o_in K) (pv 5) (pv 2) (by rfl)) (pw_or1 (pt_cmpR o_gt (pv 4) pe_int (nomark _))))) (pss_one ps_never) pss_nil)
      (pss_one (ps_expr (e_bm K PySem.F.plainAttrs_list PySem.F.slot_list_append PySem.F.type_list_append mt_append (pv 2) (pa_cons (pv 5) pa_nil)))))))
      (pss_one (ps_if (pt_cmpR op_eq (pe_callB (c_len K) (by rfl) T.n_len (by decide +kernel) (pa_cons (pv 3) pa_nil)) (pv 4) (nomark _)) (pss_one ps_never) pss_nil))))))), ?_⟩
    refine ⟨by decide, fun Kn hK => ?_⟩
    have s1 : Same H (upd H Kn (.lst [])) := same_loc (Same.refl H) hK _
    have hal : as.length = bs.length := paired_len hl
    refine ⟨_, rfl, b, rfl, ⟨_, SqL.of (s1 _ _ hb)⟩, for_list (K := K) (a := b) (xs := as.map V.ref) (fun i σ H' => ∃ x3 x4 x5 kn, σ = [some (.ref a), some (.ref b), some (.ref Kn), x3, x4, x5] ∧ Same H H' ∧ H' Kn = some (.lst (kn.map V.str)) ∧ kn.length ≤ i * 100 ∧ chkBs ps (bs.drop i) kn = .ok ()) ?_ ?_ ?_ ?_⟩
    · exact ⟨none, none, none, [], rfl, s1, upd_same, Nat.le_refl _, ck⟩
    · rintro i σ H' _ ⟨_, _, _, _, _, s2, _⟩
      exact SqL.of (s2 _ _ hb)
    · rintro i y σ H' hi ⟨x3, x4, x5, kn, rfl, s2, h2, hkl, hc⟩
      obtain ⟨q, hq, rfl⟩ := map_get hi
      obtain ⟨bl, hbl, hqb⟩ := paired_at hl hq
      have hbm := List.mem_of_getElem? hbl
      have hbll := sm.le bl hbm
      have hib := get_lt hbl
      have hbs := sm.lb
      rw [drop_at hbl] at hc
      have g0 := good_of hc
      refine ⟨_, rfl, q, rfl, ⟨_, SqL.of (s2 _ _ hqb)⟩, for_list (K := K) (a := q) (xs := bl.map V.str) (fun j σ H' => ∃ (x5 : Option V) (kn : List Str) (c : Nat), σ = [some (.ref a), some (.ref b), some (.ref Kn), some (.ref q), some (.int c), x5] ∧ Same H H' ∧ H' Kn = some (.lst (kn.map V.str)) ∧ kn.length ≤ i * 100 + j ∧ GoodB ps bl.length (bs.drop (i + 1)) (bl.drop j) kn c) ?_ ?_ ?_ ?_⟩
      · exact ⟨x5, kn, 0, rfl, s2, h2, by omega, g0⟩
      · rintro j σ H' _ ⟨_, _, _, _, s3, _⟩
        exact SqL.of (s3 _ _ hqb)
      · rintro j y σ H3 hj ⟨x5', kn', c, rfl, s3, h3, hkl3, g⟩
        obtain ⟨p, hp, rfl⟩ := map_get hj
        have hpm := List.mem_of_getElem? hp
        have hjl := get_lt hp
        rw [drop_at hp] at g
        refine ⟨fun σ' H' => ∃ c' : Nat, σ' = [some (.ref a), some (.ref b), some (.ref Kn), some (.ref q), some (.int c'), some (.str p)] ∧ Same H H' ∧ H' Kn = some (.lst (kn'.map V.str)) ∧ p ∉ kn' ∧ ¬ 1 < c' ∧ GoodB ps bl.length (bs.drop (i + 1)) (bl.drop (j + 1)) (kn' ++ [p]) c', ?_, ?_⟩
        · refine ⟨_, rfl, p, rfl, sm.lx bl hbm p hpm, fun H4 s4 => ⟨isConB p, rfl, ?_⟩⟩
          have s4' := s3.trans s4
          have h4 := s4 _ _ h3
          rcases good_step g with ⟨e, q1, q2, q3⟩ | ⟨e, q0, q1, q2, q3⟩
          · rw [e]
            refine iteT ?_
            exact ⟨_, rfl, _, _, rfl, rfl, c + 1, rfl, s4', h4, q1, q2, q3⟩
          · rw [e]
            refine iteF ?_
            refine ⟨_, rfl, _, rfl, a, _, rfl, (PlV.mono s4' ha).sq, rfl, flat_strs _, false, ?_, ?_⟩
            · rw [notin_eq, decide_eq_true q0]
              rfl
            · refine iteF ?_
              exact ⟨c, rfl, s4', h4, q1, q2, q3⟩
        · rintro σ' H4 ⟨c', rfl, s4, h4, q1, q2, q3⟩
          refine ⟨_, rfl, _, rfl, Kn, _, rfl, .inl (SqL.of h4), rfl, flat_strs _, false, ?_, ?_⟩
          · rw [in_eq, decide_eq_false q1]
          · refine iteF ?_
            refine ⟨_, rfl, _, _, rfl, rfl, _, rfl, ?_⟩
            have e : decide ((1 : Int) < (c' : Int)) = false := decide_eq_false (by omega)
            rw [e]
            refine iteF ?_
            refine ⟨_, rfl, Or.inl ⟨rfl, _, SqL.of h4⟩, _, rfl, _, _, _, rfl, rfl, h4, sz_lt ?_, ?_⟩
            · rw [List.length_map]; omega
            · refine ⟨_, kn' ++ [p], c', rfl, same_loc s4 hK _, ?_, ?_, q3⟩
              · rw [List.map_append]
                exact upd_same
              · rw [List.length_append]
                show _ + 1 ≤ _
                omega
      · rintro σ H3 ⟨x5', kn', c, rfl, s3, h3, hkl3, g⟩
        rw [List.length_map, List.drop_length] at g
        obtain ⟨g1, g2⟩ : bl.length ≠ c ∧ chkBs ps (bs.drop (i + 1)) kn' = .ok () := g
        refine ⟨_, rfl, _, _, rfl, .inl (SqL.of (s3 _ _ hqb)), _, rfl, rfl, _, rfl, ?_⟩
        have e : decide (V.int ((bl.map V.str).length : Int) = V.int (c : Int)) = false := decide_eq_false fun z => by
          injection z with z
          rw [List.length_map] at z
          omega
        rw [e]
        refine iteF ?_
        refine ⟨_, _, _, kn', rfl, s3, h3, ?_, g2⟩
        rw [List.length_map] at hkl3
        omega
    · rintro σ H' ⟨x3, x4, x5, kn, rfl, s2, _⟩
      exact k H' s2
theorem sc_ordered_block : FnScope ["places", "block", "found", "place"] ["places", "block"] (defScope (topS 13)) := ⟨rfl, rfl, rfl, by decide +kernel, rfl, by decide +kernel, by decide +kernel⟩
set_option maxHeartbeats 8000000 in
theorem ok_ordered_block {f : Addr} {fd : FuncData} (F : Fun K "ordered_block" "ordered_block" (topS 13) f fd) (T : Txt K mg) : FnOk P w K mg base CX0 1 f fd ["places", "block"] spOrdB := by
  refine F.ok sc_ordered_block (fun vs H Q E h => ?_) (fun cdv A outer s H vs Q E hr h => ?_)
  · obtain ⟨a, b, ps, bl, rfl, _⟩ := h
    rfl
  · obtain ⟨a, b, ps, bl, rfl, ha, hb, l1, l2, k⟩ := h
    refine ⟨_, (pss_cons (ps_setLc (i := 2) (own := [("place", 3)]) (by rfl) sc_ordered_block.nd rfl rfl (sw_true rfl rfl rfl (by decide +kernel)) (i_list K (pv 0)) (blkOk_by (own := [("place", 3)]) (N := ["places", "block", "found", "place"]) (sc := defScope (topS 13)) (by decide +kernel)) (fun _ _ _ _ _ => (pg_name (i := 3) sc_ordered_block.nd rfl (Or.inl rfl))) (fun _ _ _ _ _ => (pts_one (pt_cmpR (o_in K) (pv 3) (pv 1) (by rfl)))) (fun _ _ _ _ _ => (pv 3)))
      (pss_one (ps_ret (pe_op op_cat (pv 2) (pe_lc (own := [("place", 3)]) (by rfl) sc_ordered_block.nd (i_list K (pv 1)) (blkOk_by (own := [("place", 3)]) (N := ["places", "block", "found", "place"]) (sc := defScope (topS 13)) (by decide +kernel)) (fun _ _ _ _ _ => (pg_name (i := 3) sc_ordered_block.nd rfl (Or.inl rfl))) (fun _ _ _ _ _ => (pts_one (pt_cmpR (o_notin K) (pv 3) (pv 0) (by rfl)))) (fun _ _ _ _ _ => (pv 3))))))), ?_⟩
    refine ⟨_, rfl, a, rfl, ⟨_, SqL.of ha⟩, fun D hD => ?_⟩
    refine lc_list (K := K) (a := a) (xs := ps.map V.str) (fun i H' => Same H H' ∧ H' D = some (.lst (((ps.take i).filter fun p => decide (p ∈ bl)).map V.str))) ?_ ?_ ?_ ?_
    · exact ⟨same_loc (Same.refl H) hD _, upd_same⟩
    · rintro i H' _ ⟨s1, _⟩
      exact SqL.of (s1 _ _ ha)
    · rintro i x H' hx ⟨s1, h1⟩
      obtain ⟨p, hp, rfl⟩ := map_get hx
      refine ⟨rfl, ?_⟩
      refine ⟨_, rfl, _, rfl, b, _, rfl, .inl (SqL.of (s1 _ _ hb)), rfl, flat_strs _, decide (p ∈ bl), congrArg V.bl (in_eq p bl), ?_⟩
      refine ite2 (fun hin => ?_) (fun hin => ?_)
      · refine ⟨_, rfl, _, h1, sz_lt ?_, same_loc s1 hD _, ?_⟩
        · have := List.length_filter_le (fun p => decide (p ∈ bl)) (ps.take i)
          rw [List.length_take] at this
          rw [List.length_map]
          omega
        · rw [take_more hp, List.filter_append, List.map_append]
          have e : [p].filter (fun p => decide (p ∈ bl)) = [p] := by rw [List.filter_cons, if_pos hin]; rfl
          rw [e]
          exact upd_same
      · refine ⟨s1, ?_⟩
        rw [take_more hp, List.filter_append]
        have e : [p].filter (fun p => decide (p ∈ bl)) = [] := by rw [List.filter_cons, if_neg hin]; rfl
        rw [e, List.append_nil]
        exact h1
    · rintro H1 ⟨s1, h1⟩
      rw [List.length_map, List.take_length] at h1
      refine ⟨_, rfl, _, rfl, b, rfl, ⟨_, SqL.of (s1 _ _ hb)⟩, fun D2 hD2 => ?_⟩
      have n2 : H D2 = none := s1.free hD2
      have ne : D ≠ D2 := ne_of_none h1 hD2
      refine lc_list (K := K) (a := b) (xs := bl.map V.str) (fun i H' => Same H H' ∧ H' D = some (.lst ((ps.filter fun p => decide (p ∈ bl)).map V.str)) ∧ H' D2 = some (.lst (((bl.take i).filter fun p => !decide (p ∈ ps)).map V.str))) ?_ ?_ ?_ ?_
      · exact ⟨same_loc s1 n2 _, by rw [upd_ne ne]; exact h1, upd_same⟩
      · rintro i H' _ ⟨s2, _⟩
        exact SqL.of (s2 _ _ hb)
      · rintro i x H' hx ⟨s2, h2, g2⟩
        obtain ⟨p, hp, rfl⟩ := map_get hx
        refine ⟨rfl, ?_⟩
        refine ⟨_, rfl, _, rfl, a, _, rfl, .inl (SqL.of (s2 _ _ ha)), rfl, flat_strs _, !decide (p ∈ ps), congrArg V.bl (notin_eq p ps), ?_⟩
        refine ite2 (fun hin => ?_) (fun hin => ?_)
        · refine ⟨_, rfl, _, g2, sz_lt ?_, same_loc s2 n2 _, by rw [upd_ne ne]; exact h2, ?_⟩
          · have := List.length_filter_le (fun p => !decide (p ∈ ps)) (bl.take i)
            rw [List.length_take] at this
            rw [List.length_map]
            omega
          · rw [take_more hp, List.filter_append, List.map_append]
            have e : [p].filter (fun p => !decide (p ∈ ps)) = [p] := by rw [List.filter_cons, if_pos hin]; rfl
            rw [e]
            exact upd_same
        · refine ⟨s2, h2, ?_⟩
          rw [take_more hp, List.filter_append]
          have e : [p].filter (fun p => !decide (p ∈ ps)) = [] := by rw [List.filter_cons, if_neg hin]; rfl
          rw [e, List.append_nil]
          exact g2
      · rintro H2 ⟨s2, h2, g2⟩
        rw [List.length_map, List.take_length] at g2
        refine ⟨D, D2, _, _, rfl, rfl, h2, g2, sz_le ?_, fun p np => ?_⟩
        · have e1 := List.length_filter_le (fun p => decide (p ∈ bl)) ps
          have e2 := List.length_filter_le (fun p => !decide (p ∈ ps)) bl
          rw [List.length_map, List.length_map]
          omega
        · refine k p _ (same_loc s2 (s2.free np) _) (s2.free np) ?_
          rw [upd_same]
          unfold ordB
          rw [List.map_append]
theorem sc_ordered_blocks : FnScope ["places", "blocks", "found", "done", "place", "block", "other"] ["places", "blocks"] (defScope (topS 14)) := ⟨rfl, rfl, rfl, by decide +kernel, rfl, by decide +kernel, by decide +kernel⟩
theorem ordB_len {ps b : List Str} : (ordB ps b).length ≤ ps.length + b.length := by
  unfold ordB
  rw [List.length_append]
  have e1 := List.length_filter_le (fun p => decide (p ∈ b)) ps
  have e2 := List.length_filter_le (fun p => !decide (p ∈ ps)) b
  omega
theorem blk_len {ps : List Str} {p : Str} : ∀ {bs : List (List Str)} {acc : List Str}, ps.length ≤ 100 → (∀ b ∈ bs, b.length ≤ 100) → acc.length ≤ 200 → (bs.foldl (fun acc o => if p ∈ o then ordB ps o else acc) acc).length ≤ 200
  | [], acc, _, _, h => h
  | b :: bs, acc, h1, h2, h3 => by
    rw [List.foldl_cons]
    refine blk_len h1 (fun x hx => h2 x (List.mem_cons_of_mem _ hx)) ?_
    split
    · have := ordB_len (ps := ps) (b := b)
      have := h2 b List.mem_cons_self
      omega
    · exact h3
set_option maxHeartbeats 8000000 in
theorem ok_ordered_blocks {f : Addr} {fd : FuncData} (F : Fun K "ordered_blocks" "ordered_blocks" (topS 14) f fd) (T : Txt K mg) (c_ordered_block : Callee P w K mg base "ordered_block" ["places", "block"] spOrdB 1) : FnOk P w K mg base CX0 2 f fd ["places", "blocks"] spOrdBs := by
  refine F.ok sc_ordered_blocks (fun vs H Q E h => ?_) (fun cdv A outer s H vs Q E hr h => ?_)
  · obtain ⟨a, b, ps, as, bs, rfl, _⟩ := h
    rfl
  · obtain ⟨a, b, ps, as, bs, rfl, ha, hb, hl, sm, k⟩ := h
    refine ⟨_, (pss_cons (ps_set (i := 2) sc_ordered_blocks.nd rfl (Or.inl rfl) (pe_lst pa_nil))
      (pss_cons (ps_set (i := 3) sc_ordered_blocks.nd rfl (Or.inl rfl) (pe_lst pa_nil))
      (pss_cons (ps_for PassesOwn.never rfl (i_list K (pv 0)) (pg_name (i := 4) sc_ordered_blocks.nd rfl (Or.inl rfl))
      (pss_cons (ps_if (pt_cmpR (o_in K) (pv 4) (pv 3) (by rfl)) (pss_one ps_continue) pss_nil)
      (pss_cons (ps_set (i := 5) sc_ordered_blocks.nd rfl (Or.inl rfl) (pe_lst (pa_cons (pv 4) pa_nil)))
      (pss_cons (ps_for PassesOwn.never rfl (i_list K (pv 1)) (pg_name (i := 6) sc_ordered_blocks.nd rfl (Or.inl rfl))
      (pss_one (ps_if (pt_cmpR (o_in K) (pv 4) (pv 6) (by rfl)) (pss_one (ps_set (i := 5) sc_ordered_blocks.nd rfl (Or.inl rfl) (pe_co c_ordered_block hr (by decide) (by rfl) (pa_cons (pv 0) (pa_cons (pv 6) pa_nil))))) pss_nil)))
      (pss_cons (ps_expr (e_bm K PySem.F.plainAttrs_list PySem.F.slot_list_append PySem.F.type_list_append mt_append (pv 2) (pa_cons (pv 5) pa_nil)))
      (pss_one (ps_expr (e_bm K PySem.F.plainAttrs_list PySem.F.slot_list_extend PySem.F.type_list_extend mt_extend (pv 3) (pa_cons (pv 5) pa_nil)))))))))
      (pss_one (ps_ret (pv 2)))))), ?_⟩
    refine ⟨by decide, fun Fd hF => ?_⟩
    refine ⟨by decide, fun Dn hN => ?_⟩
    have nN : H Dn = none := by
      have ne : Fd ≠ Dn := ne_of_none upd_same hN
      rw [upd_ne ne.symm] at hN
      exact hN
    have hFN : Fd ≠ Dn := ne_of_none upd_same hN
    have s1 : Same H (upd (upd H Fd (.lst [])) Dn (.lst [])) := same_loc (same_loc (Same.refl H) hF _) nN _
    have hal : as.length = bs.length := paired_len hl
    have hps := sm.lp
    refine ⟨_, rfl, a, rfl, ⟨_, SqL.of (s1 _ _ ha)⟩, for_list (K := K) (a := a) (xs := ps.map V.str) (fun i σ H' => ∃ x4 x5 x6 qs fd, σ = [some (.ref a), some (.ref b), some (.ref Fd), some (.ref Dn), x4, x5, x6] ∧ Same H H' ∧ H' Fd = some (.lst (qs.map V.ref)) ∧ LL H' qs fd.1 ∧ H' Dn = some (.lst (fd.2.map V.str)) ∧ (∀ q ∈ qs, H q = none ∧ q ≠ Fd ∧ q ≠ Dn) ∧ fd.2.length ≤ i * 200 ∧ qs.length ≤ i ∧ fd = (ps.take i).foldl (ordStep ps bs) ([], [])) ?_ ?_ ?_ ?_⟩
    · refine ⟨none, none, none, [], ([], []), rfl, s1, ?_, .nil, upd_same, fun _ h => (by cases h), Nat.zero_le _, Nat.zero_le _, rfl⟩
      rw [upd_ne hFN]
      exact upd_same
    · rintro i σ H' _ ⟨_, _, _, _, _, _, s2, _⟩
      exact SqL.of (s2 _ _ ha)
    · rintro i y σ H' hi ⟨x4, x5, x6, qs, fd, rfl, s2, f2, l2, d2, nq, dl, ql, e2⟩
      obtain ⟨p, hp, rfl⟩ := map_get hi
      have hil := get_lt hp
      have estep : (ps.take (i + 1)).foldl (ordStep ps bs) ([], []) = ordStep ps bs fd p := by
        rw [take_more hp, List.foldl_append, ← e2]
        rfl
      refine ⟨_, rfl, _, rfl, Dn, _, rfl, .inl (SqL.of d2), rfl, flat_strs _, decide (p ∈ fd.2), congrArg V.bl (in_eq p fd.2), ?_⟩
      refine ite2 (fun hin => ?_) (fun hin => ?_)
      · have hin' := of_decide_eq_true hin
        refine ⟨_, _, _, qs, fd, rfl, s2, f2, l2, d2, nq, by omega, by omega, ?_⟩
        rw [estep]
        unfold ordStep
        rw [if_pos hin']
      · have hin' : ¬ p ∈ fd.2 := fun z => hin (decide_eq_true z)
        refine ⟨_, rfl, by show 1 ≤ sizeLine; decide, fun B0 hB0 => ?_⟩
        have nB0 : H B0 = none := s2.free hB0
        have s3 := same_loc s2 nB0 (.lst [V.str p])
        have t3 : Same H' (upd H' B0 (.lst [V.str p])) := same_loc (Same.refl H') hB0 _
        refine ⟨_, rfl, b, rfl, ⟨_, SqL.of (s3 _ _ hb)⟩, for_list (K := K) (a := b) (xs := as.map V.ref) (fun j σ H3 => ∃ x6 B acc, σ = [some (.ref a), some (.ref b), some (.ref Fd), some (.ref Dn), some (.str p), some (.ref B), x6] ∧ Same H' H3 ∧ H' B = none ∧ H3 B = some (.lst (acc.map V.str)) ∧ acc = (bs.take j).foldl (fun acc o => if p ∈ o then ordB ps o else acc) [p]) ?_ ?_ ?_ ?_⟩
        · exact ⟨_, B0, [p], rfl, t3, hB0, upd_same, rfl⟩
        · rintro j σ H3 _ ⟨_, _, _, _, t4, _⟩
          exact SqL.of (t4 _ _ (s2 _ _ hb))
        · rintro j y σ H3 hj ⟨x6', B, acc, rfl, t4, nB, b4, eacc⟩
          obtain ⟨o, ho, rfl⟩ := map_get hj
          obtain ⟨ob, hob, hoH⟩ := paired_at hl ho
          have hom := List.mem_of_getElem? hob
          have hol := sm.le ob hom
          have oH3 : H3 o = some (.lst (ob.map V.str)) := t4 _ _ (s2 _ _ hoH)
          have eacc' : (bs.take (j + 1)).foldl (fun acc o => if p ∈ o then ordB ps o else acc) [p] = if p ∈ ob then ordB ps ob else acc := by
            rw [take_more hob, List.foldl_append, ← eacc]
            rfl
          refine ⟨_, rfl, _, rfl, o, _, rfl, .inl (SqL.of oH3), rfl, flat_strs _, decide (p ∈ ob), congrArg V.bl (in_eq p ob), ?_⟩
          refine ite2 (fun hpo => ?_) (fun hpo => ?_)
          · have hpo' := of_decide_eq_true hpo
            refine ⟨_, rfl, _, rfl, a, o, ps, ob, rfl, t4 _ _ (s2 _ _ ha), oH3, hps, hol, fun q H4 t5 nq4 q4 => ?_⟩
            refine ⟨_, q, ordB ps ob, rfl, t4.trans t5, t4.free nq4, q4, ?_⟩
            rw [eacc', if_pos hpo']
          · have hpo' : ¬ p ∈ ob := fun z => hpo (decide_eq_true z)
            refine ⟨_, B, acc, rfl, t4, nB, b4, ?_⟩
            rw [eacc', if_neg hpo']
        · rintro σ H3 ⟨x6', B, acc, rfl, t4, nB, b4, eacc⟩
          have hmx : (as.map V.ref).length = bs.length := by rw [List.length_map, hal]
          rw [hmx, List.take_length] at eacc
          have ebl : acc = blkFor ps bs p := eacc
          have hacc : acc.length ≤ 200 := by rw [eacc]; exact blk_len hps sm.le (by simp)
          have f3 := t4 _ _ f2
          have d3 := t4 _ _ d2
          have hBF : B ≠ Fd := fun z => by rw [z, f2] at nB; cases nB
          have hBD : B ≠ Dn := fun z => by rw [z, d2] at nB; cases nB
          have nBH : H B = none := s2.free nB
          refine ⟨_, rfl, Or.inl ⟨rfl, _, SqL.of f3⟩, _, rfl, _, _, _, rfl, rfl, f3, sz_lt (by rw [List.length_map]; omega), ?_⟩
          have d4 : (upd H3 Fd (.lst (qs.map V.ref ++ [V.ref B]))) Dn = some (.lst (fd.2.map V.str)) := by rw [upd_ne hFN.symm]; exact d3
          have b5 : (upd H3 Fd (.lst (qs.map V.ref ++ [V.ref B]))) B = some (.lst (acc.map V.str)) := by rw [upd_ne hBF]; exact b4
          refine ⟨_, rfl, Or.inl ⟨rfl, _, SqL.of d4⟩, _, rfl, _, _, _, _, rfl, rfl, d4, b5, sz_le (by rw [List.length_map, List.length_map]; omega), ?_⟩
          refine ⟨_, _, _, qs ++ [B], (fd.1 ++ [acc], fd.2 ++ acc), rfl, same_loc (same_loc (s2.trans t4) hF _) nN _, ?_, ?_, ?_, ?_, ?_, ?_, ?_⟩
          · rw [upd_ne hFN, upd_same, List.map_append]
            rfl
          · refine Paired.snoc (paired_imp_mem l2 fun q xs hq e => ?_) ?_
            · obtain ⟨_, n1, n2⟩ := nq q hq
              rw [upd_ne n2, upd_ne n1]
              exact t4 _ _ e
            · rw [upd_ne hBD, upd_ne hBF]
              exact b4
          · rw [upd_same, List.map_append]
          · intro q hq
            rcases List.mem_append.mp hq with z | z
            · exact nq q z
            · rw [List.mem_singleton.mp z]
              exact ⟨nBH, hBF, hBD⟩
          · rw [List.length_append]
            omega
          · rw [List.length_append]
            show _ + 1 ≤ _
            omega
          · rw [estep]
            unfold ordStep
            rw [if_neg hin', ← ebl]
    · rintro σ H' ⟨x4, x5, x6, qs, fd, rfl, s2, f2, l2, d2, nq, dl, ql, e2⟩
      rw [List.length_map, List.take_length] at e2
      have e3 : fd.1 = ordBs ps bs := by rw [e2]; rfl
      rw [e3] at l2
      refine ⟨_, rfl, ?_⟩
      exact k Fd qs H' s2 hF (fun q hq => (nq q hq).1) f2 l2
theorem sc_Pattern___init__ : FnScope ["self", "places", "blocks", "block"] ["self", "places", "blocks"] (defScope (inClass (topS 17) 0)) := ⟨rfl, rfl, rfl, by decide +kernel, rfl, by decide +kernel, by decide +kernel⟩
set_option maxHeartbeats 8000000 in
theorem ok_init {f C : Addr} {fd : FuncData} (F : Fun K "__init__" "Pattern.__init__" (inClass (topS 17) 0) f fd) (T : Txt K mg) (TP : PTxt K mg C) (c_check_blocks : Callee P w K mg base "check_blocks" ["places", "blocks"] (spCheck K) 3) (c_ordered_blocks : Callee P w K mg base "ordered_blocks" ["places", "blocks"] spOrdBs 2) :
    FnOk P w K mg base CX0 4 f fd ["self", "places", "blocks"] (spInit K C) := by
  refine F.ok sc_Pattern___init__ (fun vs H Q E h => ?_) (fun cdv A outer s H vs Q E hr h => ?_)
  · obtain ⟨x, dx, a, b, ps, as, bs, rfl, _⟩ := h
    rfl
  · obtain ⟨x, dx, a, b, ps, as, bs, rfl, hx, ha, hb, hl, sm, ck, k⟩ := h
    refine ⟨_, (pss_cons (ps_expr (pe_co c_check_blocks hr (by decide) (by rfl) (pa_cons (pv 1) (pa_cons (pv 2) pa_nil))))
      (C8.pss_cut (ps_fld (pv 0) (pe_callTy (c_tuple K) (by rfl) T.n_tuple (by decide +kernel) (pa_cons (pv 1) pa_nil)) rfl)
      (pss_one (ps_fld (pv 0) (pe_co c_ordered_blocks hr (by decide) (by rfl) (pa_cons (pe_callTy (c_list K) (by rfl) T.n_list (by decide +kernel) (pa_cons (pv 1) pa_nil)) (pa_cons (pe_lc (own := [("block", 3)]) (by rfl) sc_Pattern___init__.nd (i_list K (pv 2)) (blkOk_by (own := [("block", 3)]) (N := ["self", "places", "blocks", "block"]) (sc := defScope (inClass (topS 17) 0)) (by decide +kernel)) (fun _ _ _ _ _ => (pg_name (i := 3) sc_Pattern___init__.nd rfl (Or.inl rfl))) (fun _ _ _ _ _ => pts_nil) (fun _ _ _ _ _ => (pe_callTy (c_list K) (by rfl) T.n_list (by decide +kernel) (pa_cons (pv 3) pa_nil)))) pa_nil))) rfl)))), ?_⟩
    have hal : as.length = bs.length := paired_len hl
    refine ⟨_, rfl, _, rfl, a, b, ps, as, bs, rfl, ha, hb, hl, sm, ck, fun H1 s1 => ?_⟩
    have hx1 := s1 _ _ hx
    have hxa : a ≠ x := by
      rcases ha with h | h
      · exact ne_of h hx (by intro z; cases z)
      · exact ne_of h hx (by intro z; cases z)
    have hxb : b ≠ x := ne_of hb hx (by intro z; cases z)
    have hxq : ∀ q ∈ as, q ≠ x := fun q hq => by
      obtain ⟨j, hj⟩ := List.getElem?_of_mem hq
      obtain ⟨bl, _, e⟩ := paired_at hl hj
      exact ne_of e hx (by intro z; cases z)
    refine ⟨fun σ H3 => ∃ tp, σ = [some (.ref x), some (.ref a), some (.ref b), none] ∧ (∀ c o, H c = some o → c ≠ x → H3 c = some o) ∧ H3 tp = some (.tup (ps.map V.str)) ∧ (H tp = none ∨ tp = a) ∧ H3 x = some (.ins C dx (putF "places" (.ref tp) [])), ?_, ?_⟩
    · refine ⟨_, rfl, a, ps.map V.str, rfl, ?_⟩
      rcases ha with h | h
      · refine .inl ⟨SqL.of (s1 _ _ h), fun tp ntp => ?_⟩
        have tpx : x ≠ tp := ne_of_none hx1 ntp
        refine ⟨_, rfl, x, C, dx, _, rfl, (by rw [upd_ne tpx]; exact hx1), TP.cl, TP.n1, (by show 0 < 1000; decide), tp, rfl, fun c o e hc => ?_, ?_, .inl (s1.free ntp), upd_same⟩
        · rw [upd_ne hc, upd_ne (ne_of_none (s1 _ _ e) ntp)]
          exact s1 _ _ e
        · rw [upd_ne tpx.symm, upd_same]
      · refine .inr ⟨SqT.of (s1 _ _ h), ?_⟩
        refine ⟨_, rfl, x, C, dx, _, rfl, hx1, TP.cl, TP.n1, (by show 0 < 1000; decide), a, rfl, fun c o e hc => ?_, ?_, .inr rfl, upd_same⟩
        · rw [upd_ne hc]
          exact s1 _ _ e
        · rw [upd_ne hxa]
          exact s1 _ _ h
    · rintro σ H3 ⟨tp, rfl, k3, tp3, ntp, x3⟩
      have ha3 : PlV K H3 a ps := by
        rcases ha with h | h
        · exact .inl (k3 _ _ h hxa)
        · exact .inr (k3 _ _ h hxa)
      refine ⟨_, rfl, a, _, rfl, ha3.sq, fun l nl => ?_⟩
      have t4 : Same H3 (upd H3 l (.lst (ps.map V.str))) := same_loc (Same.refl H3) nl _
      refine ⟨_, rfl, b, rfl, ⟨_, SqL.of (t4 _ _ (k3 _ _ hb hxb))⟩, fun D hD => ?_⟩
      have nlD : l ≠ D := ne_of_none upd_same hD
      have hD3 : H3 D = none := t4.free hD
      refine lc_list (K := K) (a := b) (xs := as.map V.ref) (fun i H' => ∃ qs, Same H3 H' ∧ H' l = some (.lst (ps.map V.str)) ∧ H' D = some (.lst (qs.map V.ref)) ∧ LL H' qs (bs.take i) ∧ D ∉ qs ∧ qs.length = i) ?_ ?_ ?_ ?_
      · exact ⟨[], same_loc t4 hD3 _, by rw [upd_ne nlD]; exact upd_same, upd_same, .nil, fun h => (by cases h), rfl⟩
      · rintro i H' _ ⟨_, s4, _⟩
        exact SqL.of (s4 _ _ (k3 _ _ hb hxb))
      · rintro i y H' hy ⟨qs, s4, l4, h4, L4, nD, hql⟩
        obtain ⟨o, ho, rfl⟩ := map_get hy
        obtain ⟨ob, hob, hoH⟩ := paired_at hl ho
        have hoil := get_lt hob
        have hbl := sm.lb
        refine ⟨rfl, yes_of ?_⟩
        refine ⟨_, rfl, o, _, rfl, .inl (SqL.of (s4 _ _ (k3 _ _ hoH (hxq o (List.mem_of_getElem? ho))))), fun q nq1 => ?_⟩
        have hqD : q ≠ D := fun z => by rw [z, h4] at nq1; cases nq1
        have hql' : l ≠ q := ne_of_none l4 nq1
        have h5 : (upd H' q (.lst (ob.map V.str))) D = some (.lst (qs.map V.ref)) := by rw [upd_ne hqD.symm]; exact h4
        have hqn : q ∉ qs := fun hm => by
          obtain ⟨j, hj⟩ := List.getElem?_of_mem hm
          obtain ⟨_, _, c⟩ := paired_at L4 hj
          rw [c] at nq1
          cases nq1
        refine ⟨_, h5, sz_lt (by rw [List.length_map]; omega), qs ++ [q], same_loc (same_loc s4 (s4.free nq1) _) hD3 _, ?_, ?_, ?_, ?_, ?_⟩
        · rw [upd_ne nlD, upd_ne hql']
          exact l4
        · rw [upd_same, List.map_append]
          rfl
        · rw [take_more hob]
          refine Paired.snoc (paired_imp_mem L4 fun r xs hr e => ?_) ?_
          · rw [upd_ne (fun z => nD (by rw [← z]; exact hr)), upd_ne (fun z => hqn (by rw [← z]; exact hr))]
            exact e
          · rw [upd_ne hqD, upd_same]
        · intro hm
          rcases List.mem_append.mp hm with z | z
          · exact nD z
          · exact hqD (List.mem_singleton.mp z).symm
        · rw [List.length_append, hql]
          rfl
      · rintro H5 ⟨qs, s4, l5, h5, L5, nD, hql⟩
        have hmx : (as.map V.ref).length = bs.length := by rw [List.length_map, hal]
        rw [hmx, List.take_length] at L5
        refine ⟨l, D, ps, qs, bs, rfl, l5, h5, L5, sm, fun pl qs' H6 t6 npl nqs p6 L6 => ?_⟩
        have x5 := s4 _ _ x3
        have x6 := t6 _ _ x5
        have sub : ∀ c o, H c = some o → c ≠ x → H5 c = some o := fun c o e hc => s4 _ _ (k3 c o e hc)
        have hxn : ∀ c, H5 c = none → H c = none := fun c hc => by
          cases e : H c with
          | none => rfl
          | some o =>
            by_cases hcx : c = x
            · rw [hcx, x5] at hc; cases hc
            · rw [sub c o e hcx] at hc; cases hc
        have plx : pl ≠ x := fun z => by rw [z, x5] at npl; cases npl
        have tpx : tp ≠ x := ne_of tp3 x3 (by intro z; cases z)
        refine ⟨_, rfl, x, C, dx, _, rfl, x6, TP.cl, TP.n2, (by show 1 < 1000; decide), ?_⟩
        refine k tp pl qs' _ (fun c o e hc => ?_) upd_same ?_ ntp (hxn pl npl) (fun q hq => hxn q (nqs q hq)) ?_ ?_
        · rw [upd_ne hc]
          exact t6 _ _ (sub c o e hc)
        · rw [upd_ne tpx]
          exact t6 _ _ (s4 _ _ tp3)
        · rw [upd_ne plx]
          exact p6
        · refine paired_imp_mem L6 fun q xs hq e => ?_
          rw [upd_ne (fun z => by
            have := nqs q hq
            rw [z, x5] at this
            cases this)]
          exact e
theorem sc_Pattern_blocks : FnScope ["self", "part"] ["self"] (defScope (inClass (topS 17) 1)) := ⟨rfl, rfl, rfl, by decide +kernel, rfl, by decide +kernel, by decide +kernel⟩
set_option maxHeartbeats 8000000 in
theorem ok_blocks {f C : Addr} {fd : FuncData} (F : Fun K "blocks" "Pattern.blocks" (inClass (topS 17) 1) f fd) (T : Txt K mg) (TP : PTxt K mg C) : FnOk P w K mg base CX0 1 f fd ["self"] (spBlocks C) := by
  refine F.ok sc_Pattern_blocks (fun vs H Q E h => ?_) (fun cdv A outer s H vs Q E hr h => ?_)
  · obtain ⟨x, dx, tp, pl, as, bs, rfl, _⟩ := h
    rfl
  · obtain ⟨x, dx, tp, pl, as, bs, rfl, hx, hp, hl, hn, k⟩ := h
    refine ⟨_, (pss_one (ps_ret (pe_lc (own := [("part", 1)]) (by rfl) sc_Pattern_blocks.nd (i_list K (e_fld K (pv 0) rfl)) (blkOk_by (own := [("part", 1)]) (N := ["self", "part"]) (sc := defScope (inClass (topS 17) 1)) (by decide +kernel)) (fun _ _ _ _ _ => (pg_name (i := 1) sc_Pattern_blocks.nd rfl (Or.inl rfl))) (fun _ _ _ _ _ => pts_nil) (fun _ _ _ _ _ => (pe_callTy (c_list K) (by rfl) T.n_list (by decide +kernel) (pa_cons (pv 1) pa_nil)))))), ?_⟩
    have hal : as.length = bs.length := paired_len hl
    refine ⟨_, rfl, x, C, dx, _, _, rfl, hx, TP.cl, TP.n2, pflds_parts tp pl, pl, rfl, ⟨_, SqL.of hp⟩, fun D hD => ?_⟩
    refine lc_list (K := K) (a := pl) (xs := as.map V.ref) (fun i H' => ∃ qs, Same H H' ∧ H' D = some (.lst (qs.map V.ref)) ∧ LL H' qs (bs.take i) ∧ (∀ q ∈ qs, H q = none) ∧ qs.Nodup ∧ D ∉ qs) ?_ ?_ ?_ ?_
    · exact ⟨[], same_loc (Same.refl H) hD _, upd_same, .nil, fun _ h => (by cases h), List.nodup_nil, fun h => (by cases h)⟩
    · rintro i H' _ ⟨_, s1, _⟩
      exact SqL.of (s1 _ _ hp)
    · rintro i y H' hy ⟨qs, s1, h1, l1, nq, ndq, nD⟩
      obtain ⟨o, ho, rfl⟩ := map_get hy
      obtain ⟨ob, hob, hoH⟩ := paired_at hl ho
      have hoil := get_lt hob
      refine ⟨rfl, yes_of ?_⟩
      refine ⟨_, rfl, o, _, rfl, .inl (SqL.of (s1 _ _ hoH)), fun q nq1 => ?_⟩
      have hqD : q ≠ D := fun z => by rw [z, h1] at nq1; cases nq1
      have h2 : (upd H' q (.lst (ob.map V.str))) D = some (.lst (qs.map V.ref)) := by rw [upd_ne hqD.symm]; exact h1
      have hqn : q ∉ qs := fun hm => by
        obtain ⟨j, hj⟩ := List.getElem?_of_mem hm
        obtain ⟨_, _, c⟩ := paired_at l1 hj
        rw [c] at nq1
        cases nq1
      refine ⟨_, h2, sz_lt ?_, qs ++ [q], same_loc (same_loc s1 (s1.free nq1) _) hD _, ?_, ?_, ?_, ?_, ?_⟩
      · have := paired_len l1
        rw [List.length_take] at this
        rw [List.length_map]
        omega
      · rw [upd_same, List.map_append]
        rfl
      · rw [take_more hob]
        refine Paired.snoc (paired_imp_mem l1 fun r xs hr e => ?_) ?_
        · rw [upd_ne (fun z => nD (by rw [← z]; exact hr)), upd_ne (fun z => hqn (by rw [← z]; exact hr))]
          exact e
        · rw [upd_ne hqD, upd_same]
      · intro r hr
        rcases List.mem_append.mp hr with z | z
        · exact nq r z
        · rw [List.mem_singleton.mp z]
          exact s1.free nq1
      · refine List.nodup_append.mpr ⟨ndq, by simp, fun r hr y hy => ?_⟩
        rw [List.mem_singleton.mp hy]
        exact fun z => hqn (by rw [← z]; exact hr)
      · intro hm
        rcases List.mem_append.mp hm with z | z
        · exact nD z
        · exact hqD (List.mem_singleton.mp z).symm
    · rintro H' ⟨qs, s1, h1, l1, nq, ndq, nD⟩
      have hmx : (as.map V.ref).length = bs.length := by rw [List.length_map, hal]
      rw [hmx, List.take_length] at l1
      exact k D qs H' s1 hD nq ndq nD h1 l1
end
end OA

/-! ### check_blocks and Pattern(..) with the error: the code -/
namespace OA
open PySem PySem.Spec PyProof.Rows L2
section
variable {P : Program} {w : World} {K : PySem.W.Frag} {mg : Str → Option Value} {base : Heap}
theorem sc_BadPattern___init__ : FnScope ["self", "place"] ["self", "place"] (defScope (inClass (topS 3) 0)) := ⟨rfl, rfl, rfl, by decide +kernel, rfl, by decide +kernel, by decide +kernel⟩
theorem ok_BadPattern {f U : Addr} {fd : FuncData} (F : Fun K "__init__" "BadPattern.__init__" (inClass (topS 3) 0) f fd) (TX : OexC K U) (n1 : PySem.W.findIn K (.ref U) "place" = some none) : FnOk P w K mg base CX0 1 f fd ["self", "place"] (spErr1 U "place") := by
  refine F.ok sc_BadPattern___init__ (fun vs H Q E h => ?_) (fun cdv A outer s H vs Q E hr h => ?_)
  · obtain ⟨a, x1, rfl, _⟩ := h
    rfl
  · obtain ⟨a, x1, rfl, ha, k⟩ := h
    refine ⟨_, (pss_one (ps_ost (pv 0) (pv 1))), ?_⟩
    refine ⟨_, rfl, _, rfl, a, U, rfl, TX, n1, .inl ⟨ha, fun dx hd hne => ?_⟩⟩
    exact k dx hd hne
end
/-- the rest of a block and the blocks behind it -/
def restB (ps : List Str) (n : Nat) (rest : List (List Str)) (r kn : List Str) (c : Nat) : Except Str Unit := match chkB ps r kn c with
  | .error e => .error e
  | .ok (kn', c') => if n = c' then .error Str.empty else chkBs ps rest kn'
theorem rest_of {ps b : List Str} {rest : List (List Str)} {kn : List Str} : chkBs ps (b :: rest) kn = restB ps b.length rest b kn 0 := rfl
theorem rest_con {ps : List Str} {n : Nat} {rest : List (List Str)} {p : Str} {r kn : List Str} {c : Nat} (h : isConB p = true) : restB ps n rest (p :: r) kn c = if p ∈ kn ∨ 1 < c + 1 then .error p else restB ps n rest r (kn ++ [p]) (c + 1) := by
  unfold restB
  have e : chkB ps (p :: r) kn c = if p ∈ kn ∨ 1 < c + 1 then .error p else chkB ps r (kn ++ [p]) (c + 1) := by
    show (if isConB p = true then _ else _) = _
    rw [if_pos h]
  rw [e]
  by_cases hh : p ∈ kn ∨ 1 < c + 1
  · rw [if_pos hh, if_pos hh]
  · rw [if_neg hh, if_neg hh]
theorem rest_pos {ps : List Str} {n : Nat} {rest : List (List Str)} {p : Str} {r kn : List Str} {c : Nat} (h : isConB p = false) (hp : p ∈ ps) : restB ps n rest (p :: r) kn c = if p ∈ kn ∨ 1 < c then .error p else restB ps n rest r (kn ++ [p]) c := by
  unfold restB
  have e : chkB ps (p :: r) kn c = if p ∈ kn ∨ 1 < c then .error p else chkB ps r (kn ++ [p]) c := by
    show (if isConB p = true then _ else if p ∈ ps then _ else _) = _
    rw [h, if_neg Bool.false_ne_true, if_pos hp]
  rw [e]
  by_cases hh : p ∈ kn ∨ 1 < c
  · rw [if_pos hh, if_pos hh]
  · rw [if_neg hh, if_neg hh]
theorem rest_out {ps : List Str} {n : Nat} {rest : List (List Str)} {p : Str} {r kn : List Str} {c : Nat} (h : isConB p = false) (hp : p ∉ ps) : restB ps n rest (p :: r) kn c = .error p := by
  unfold restB
  have e : chkB ps (p :: r) kn c = .error p := by
    show (if isConB p = true then _ else if p ∈ ps then _ else _) = _
    rw [h, if_neg Bool.false_ne_true, if_neg hp]
  rw [e]
def spCheckX (K : PySem.W.Frag) (CB : Addr) : Sp := fun vs H Q E => ∃ (a b : Addr) (ps : List Str) (as : List Addr) (bs : List (List Str)), vs = [.ref a, .ref b] ∧ PlV K H a ps ∧ H b = some (.lst (as.map V.ref)) ∧ LL H as bs ∧ Small ps bs ∧
  (chkBs ps bs [] = .ok () → ∀ H', Same H H' → Q .non H') ∧ (∀ z, chkBs ps bs [] = .error z → ∀ d H', Same H H' → H' d = none → E (.ref CB) (some d) (upd H' d (.xd [(("place" : Str), .str z)])))
def spInitX (K : PySem.W.Frag) (C CB : Addr) : Sp := fun vs H Q E => ∃ (x dx a b : Addr) (ps : List Str) (as : List Addr) (bs : List (List Str)), vs = [.ref x, .ref a, .ref b] ∧ H x = some (.ins C dx []) ∧ PlV K H a ps ∧ H b = some (.lst (as.map V.ref)) ∧ LL H as bs ∧ Small ps bs ∧
  (chkBs ps bs [] = .ok () → ∀ (tp pl : Addr) (qs : List Addr) (H' : Hp), (∀ b o, H b = some o → b ≠ x → H' b = some o) → H' x = some (.ins C dx (pflds tp pl)) → H' tp = some (.tup (ps.map V.str)) → (H tp = none ∨ tp = a) → H pl = none → (∀ q ∈ qs, H q = none) → H' pl = some (.lst (qs.map V.ref)) → LL H' qs (ordBs ps bs) → Q .non H') ∧
  (∀ z, chkBs ps bs [] = .error z → ∀ d H', Same H H' → H' d = none → E (.ref CB) (some d) (upd H' d (.xd [(("place" : Str), .str z)])))
section
variable {P : Program} {w : World} {K : PySem.W.Frag} {mg : Str → Option Value} {base : Heap}
set_option maxHeartbeats 8000000 in
theorem ok_check_blocksX {f CB : Addr} {fd : FuncData} (F : Fun K "check_blocks" "check_blocks" (topS 12) f fd) (T : Txt K mg) (c_is_constant : Callee P w K mg base "is_constant" ["thing"] spIsCon 2) (c_BadPattern : ErrMk P w K mg base "BadPattern" CB ["self", "place"] (spErr1 CB "place") 1) : FnOk P w K mg base (L2.CX P w) 3 f fd ["places", "blocks"] (spCheckX K CB) := by
  refine F.okX sc_check_blocks (fun vs H Q E h => ?_) (fun cdv A outer s H vs Q E hr h => ?_)
  · obtain ⟨a, b, ps, as, bs, rfl, _⟩ := h
    rfl
  · obtain ⟨a, b, ps, as, bs, rfl, ha, hb, hl, sm, k, kE⟩ := h
    refine ⟨_, (pss_cons (ps_set (i := 2) sc_check_blocks.nd rfl (Or.inl rfl) (pe_lst pa_nil))
      (pss_one (ps_for (passes_of rfl) rfl (i_list K (pv 1)) (pg_name (i := 3) sc_check_blocks.nd rfl (Or.inl rfl))
      (pss_cons (ps_set (i := 4) sc_check_blocks.nd rfl (Or.inl rfl) pe_int)
      (pss_cons (ps_for (passes_of rfl) rfl (i_list K (pv 3)) (pg_name (i := 5) sc_check_blocks.nd rfl (Or.inl rfl))
      (C8.pss_cut (ps_if (pt_val (pe_co c_is_constant hr (by decide) (by rfl) (pa_cons (pv 5) pa_nil))) (pss_one (ps_aug (i := 4) sc_check_blocks.nd rfl (Or.inl rfl) pe_int ip_add)) (pss_one (ps_if (pt_cmpR (o_notin K) (pv 5) (pv 0) (by rfl)) (pss_one (ps_raiseE c_BadPattern hr (by decide) (takes_of rfl rfl rfl rfl) (by rfl) (pa_cons (pv 5) pa_nil))) pss_nil)))
      (pss_cons (ps_if (PW.pt (pw_or (pt_cmpR (o_in K) (pv 5) (pv 2) (by rfl)) (pw_or1 (pt_cmpR o_gt (pv 4) pe_int (nomark _))))) (pss_one (ps_raiseE c_BadPattern hr (by decide) (takes_of rfl rfl rfl rfl) (by rfl) (pa_cons (pv 5) pa_nil))) pss_nil)
      (pss_one (ps_expr (e_bm K PySem.F.plainAttrs_list PySem.F.slot_list_append PySem.F.type_list_append mt_append (pv 2) (pa_cons (pv 5) pa_nil)))))))
      (pss_one (ps_if (pt_cmpR op_eq (pe_callB (c_len K) (by rfl) T.n_len (by decide +kernel) (pa_cons (pv 3) pa_nil)) (pv 4) (nomark _)) (pss_one (ps_raiseE c_BadPattern hr (by decide) (takes_of rfl rfl rfl rfl) (by rfl) (pa_cons pe_str pa_nil))) pss_nil))))))), ?_⟩
    refine ⟨by decide, fun Kn hK => ?_⟩
    have s1 : Same H (upd H Kn (.lst [])) := same_loc (Same.refl H) hK _
    have hal : as.length = bs.length := paired_len hl
    refine ⟨_, rfl, b, rfl, ⟨_, SqL.of (s1 _ _ hb)⟩, for_list (K := K) (a := b) (xs := as.map V.ref) (fun i σ H' => ∃ x3 x4 x5 kn, σ = [some (.ref a), some (.ref b), some (.ref Kn), x3, x4, x5] ∧ Same H H' ∧ H' Kn = some (.lst (kn.map V.str)) ∧ kn.length ≤ i * 100 ∧ chkBs ps (bs.drop i) kn = chkBs ps bs []) ?_ ?_ ?_ ?_⟩
    · exact ⟨none, none, none, [], rfl, s1, upd_same, Nat.le_refl _, rfl⟩
    · rintro i σ H' _ ⟨_, _, _, _, _, s2, _⟩
      exact SqL.of (s2 _ _ hb)
    · rintro i y σ H' hi ⟨x3, x4, x5, kn, rfl, s2, h2, hkl, hc⟩
      obtain ⟨q, hq, rfl⟩ := map_get hi
      obtain ⟨bl, hbl, hqb⟩ := paired_at hl hq
      have hbm := List.mem_of_getElem? hbl
      have hbll := sm.le bl hbm
      have hib := get_lt hbl
      have hbs := sm.lb
      rw [drop_at hbl, rest_of] at hc
      refine ⟨_, rfl, q, rfl, ⟨_, SqL.of (s2 _ _ hqb)⟩, for_list (K := K) (a := q) (xs := bl.map V.str) (fun j σ H' => ∃ (x5 : Option V) (kn : List Str) (c : Nat), σ = [some (.ref a), some (.ref b), some (.ref Kn), some (.ref q), some (.int c), x5] ∧ Same H H' ∧ H' Kn = some (.lst (kn.map V.str)) ∧ kn.length ≤ i * 100 + j ∧ restB ps bl.length (bs.drop (i + 1)) (bl.drop j) kn c = chkBs ps bs []) ?_ ?_ ?_ ?_⟩
      · exact ⟨x5, kn, 0, rfl, s2, h2, by omega, hc⟩
      · rintro j σ H' _ ⟨_, _, _, _, s3, _⟩
        exact SqL.of (s3 _ _ hqb)
      · rintro j y σ H3 hj ⟨x5', kn', c, rfl, s3, h3, hkl3, g⟩
        obtain ⟨p, hp, rfl⟩ := map_get hj
        have hpm := List.mem_of_getElem? hp
        have hjl := get_lt hp
        rw [drop_at hp] at g
        refine ⟨fun σ' H' => ∃ c' : Nat, σ' = [some (.ref a), some (.ref b), some (.ref Kn), some (.ref q), some (.int c'), some (.str p)] ∧ Same H H' ∧ H' Kn = some (.lst (kn'.map V.str)) ∧ (if p ∈ kn' ∨ 1 < c' then Except.error p else restB ps bl.length (bs.drop (i + 1)) (bl.drop (j + 1)) (kn' ++ [p]) c') = chkBs ps bs [], ?_, ?_⟩
        · refine ⟨_, rfl, p, rfl, sm.lx bl hbm p hpm, fun H4 s4 => ⟨isConB p, rfl, ?_⟩⟩
          have s4' := s3.trans s4
          have h4 := s4 _ _ h3
          refine ite2 (fun e => ?_) (fun e => ?_)
          · rw [rest_con e] at g
            exact ⟨_, rfl, _, _, rfl, rfl, c + 1, rfl, s4', h4, g⟩
          · have e' : isConB p = false := by simpa using e
            refine ⟨_, rfl, _, rfl, a, _, rfl, (PlV.mono s4' ha).sq, rfl, flat_strs _, _, rfl, ?_⟩
            rw [notin_eq]
            refine ite2 (fun q0 => ?_) (fun q0 => ?_)
            · have q0' : p ∉ ps := by simpa using q0
              rw [rest_out e' q0'] at g
              refine raise_err1 ⟨_, rfl, ?_⟩ ?_
              · exact ⟨_, rfl, fun d nd => kE p g.symm d H4 s4' nd⟩
              · rintro Q Q' hq ⟨x1, e1, hh⟩
                exact ⟨x1, e1, hq _ _ hh⟩
            · have q0' : p ∈ ps := by simpa using q0
              rw [rest_pos e' q0'] at g
              exact ⟨c, rfl, s4', h4, g⟩
        · rintro σ' H4 ⟨c', rfl, s4, h4, g4⟩
          have rz : (p ∈ kn' ∨ 1 < c') → tRaise CB (spErr1 CB "place") (fun cls d _ H => E cls d H) (tCons (tVar 5) tNil) { nx := fun _ _ => True, rt := fun _ _ => True, bk := fun _ _ => True, ct := fun _ _ => True } [some (.ref a), some (.ref b), some (.ref Kn), some (.ref q), some (.int c'), some (.str p)] H4   := fun hh => by
            rw [if_pos hh] at g4
            refine raise_err1 ⟨_, rfl, ?_⟩ ?_
            · exact ⟨_, rfl, fun d nd => kE p g4.symm d H4 s4 nd⟩
            · rintro Q Q' hq ⟨x1, e1, hh⟩
              exact ⟨x1, e1, hq _ _ hh⟩
          refine ⟨_, rfl, _, rfl, Kn, _, rfl, .inl (SqL.of h4), rfl, flat_strs _, _, rfl, ?_⟩
          rw [in_eq]
          refine ite2 (fun q1 => ?_) (fun q1 => ?_)
          · exact rz (.inl (of_decide_eq_true q1))
          · have q1' : ¬ p ∈ kn' := by simpa using q1
            refine ⟨_, rfl, _, _, rfl, rfl, _, rfl, ?_⟩
            refine ite2 (fun q2 => ?_) (fun q2 => ?_)
            · have q2' : 1 < c' := by have := of_decide_eq_true q2; omega
              exact rz (.inr q2')
            · have q2' : ¬ 1 < c' := fun z => q2 (decide_eq_true (by omega))
              rw [if_neg (by rintro (z | z); exact q1' z; exact q2' z)] at g4
              refine ⟨_, rfl, Or.inl ⟨rfl, _, SqL.of h4⟩, _, rfl, _, _, _, rfl, rfl, h4, sz_lt ?_, ?_⟩
              · rw [List.length_map]; omega
              · refine ⟨_, kn' ++ [p], c', rfl, same_loc s4 hK _, ?_, ?_, g4⟩
                · rw [List.map_append]
                  exact upd_same
                · rw [List.length_append]
                  show _ + 1 ≤ _
                  omega
      · rintro σ H3 ⟨x5', kn', c, rfl, s3, h3, hkl3, g⟩
        rw [List.length_map, List.drop_length] at g
        have g : (if bl.length = c then Except.error Str.empty else chkBs ps (bs.drop (i + 1)) kn') = chkBs ps bs [] := g
        refine ⟨_, rfl, _, _, rfl, .inl (SqL.of (s3 _ _ hqb)), _, rfl, rfl, _, rfl, ?_⟩
        refine ite2 (fun e => ?_) (fun e => ?_)
        · have e' : bl.length = c := by
            have := V.int.inj (of_decide_eq_true e)
            rw [List.length_map] at this
            omega
          rw [if_pos e'] at g
          refine raise_err1 ?_ ?_
          · exact ⟨_, rfl, fun d nd => kE Str.empty g.symm d H3 s3 nd⟩
          · intro Q Q' hq h
            exact hq _ _ h
        · have e' : ¬ bl.length = c := fun z => e (decide_eq_true (by rw [List.length_map, z]))
          rw [if_neg e'] at g
          refine ⟨_, _, _, kn', rfl, s3, h3, ?_, g⟩
          rw [List.length_map] at hkl3
          omega
    · rintro σ H' ⟨x3, x4, x5, kn, rfl, s2, _, _, g⟩
      have hmx : (as.map V.ref).length = bs.length := by rw [List.length_map, hal]
      rw [hmx, List.drop_length] at g
      exact k g.symm H' s2
set_option maxHeartbeats 8000000 in
theorem ok_initX {f C CB : Addr} {fd : FuncData} (F : Fun K "__init__" "Pattern.__init__" (inClass (topS 17) 0) f fd) (T : Txt K mg) (TP : PTxt K mg C) (c_check_blocks : CalleeX P w K mg base "check_blocks" ["places", "blocks"] (spCheckX K CB) 3) (c_ordered_blocks : Callee P w K mg base "ordered_blocks" ["places", "blocks"] spOrdBs 2) :
    FnOk P w K mg base (L2.CX P w) 4 f fd ["self", "places", "blocks"] (spInitX K C CB) := by
  refine F.okX sc_Pattern___init__ (fun vs H Q E h => ?_) (fun cdv A outer s H vs Q E hr h => ?_)
  · obtain ⟨x, dx, a, b, ps, as, bs, rfl, _⟩ := h
    rfl
  · obtain ⟨x, dx, a, b, ps, as, bs, rfl, hx, ha, hb, hl, sm, kk, kE⟩ := h
    refine ⟨_, (pss_cons (ps_expr (pe_coX c_check_blocks hr (by decide) (takes_of rfl rfl rfl rfl) (by rfl) (pa_cons (pv 1) (pa_cons (pv 2) pa_nil))))
      (C8.pss_cut (ps_fld (pv 0) (pe_callTy (c_tuple K) (by rfl) T.n_tuple (by decide +kernel) (pa_cons (pv 1) pa_nil)) rfl)
      (pss_one (ps_fld (pv 0) (pe_co c_ordered_blocks hr (by decide) (by rfl) (pa_cons (pe_callTy (c_list K) (by rfl) T.n_list (by decide +kernel) (pa_cons (pv 1) pa_nil)) (pa_cons (pe_lc (own := [("block", 3)]) (by rfl) sc_Pattern___init__.nd (i_list K (pv 2)) (blkOk_by (own := [("block", 3)]) (N := ["self", "places", "blocks", "block"]) (sc := defScope (inClass (topS 17) 0)) (by decide +kernel)) (fun _ _ _ _ _ => (pg_name (i := 3) sc_Pattern___init__.nd rfl (Or.inl rfl))) (fun _ _ _ _ _ => pts_nil) (fun _ _ _ _ _ => (pe_callTy (c_list K) (by rfl) T.n_list (by decide +kernel) (pa_cons (pv 3) pa_nil)))) pa_nil))) rfl)))), ?_⟩
    have hal : as.length = bs.length := paired_len hl
    refine ⟨_, rfl, _, rfl, a, b, ps, as, bs, rfl, ha, hb, hl, sm, fun ck H1 s1 => ?_, kE⟩
    have k := kk ck
    have hx1 := s1 _ _ hx
    have hxa : a ≠ x := by
      rcases ha with h | h
      · exact ne_of h hx (by intro z; cases z)
      · exact ne_of h hx (by intro z; cases z)
    have hxb : b ≠ x := ne_of hb hx (by intro z; cases z)
    have hxq : ∀ q ∈ as, q ≠ x := fun q hq => by
      obtain ⟨j, hj⟩ := List.getElem?_of_mem hq
      obtain ⟨bl, _, e⟩ := paired_at hl hj
      exact ne_of e hx (by intro z; cases z)
    refine ⟨fun σ H3 => ∃ tp, σ = [some (.ref x), some (.ref a), some (.ref b), none] ∧ (∀ c o, H c = some o → c ≠ x → H3 c = some o) ∧ H3 tp = some (.tup (ps.map V.str)) ∧ (H tp = none ∨ tp = a) ∧ H3 x = some (.ins C dx (putF "places" (.ref tp) [])), ?_, ?_⟩
    · refine ⟨_, rfl, a, ps.map V.str, rfl, ?_⟩
      rcases ha with h | h
      · refine .inl ⟨SqL.of (s1 _ _ h), fun tp ntp => ?_⟩
        have tpx : x ≠ tp := ne_of_none hx1 ntp
        refine ⟨_, rfl, x, C, dx, _, rfl, (by rw [upd_ne tpx]; exact hx1), TP.cl, TP.n1, (by show 0 < 1000; decide), tp, rfl, fun c o e hc => ?_, ?_, .inl (s1.free ntp), upd_same⟩
        · rw [upd_ne hc, upd_ne (ne_of_none (s1 _ _ e) ntp)]
          exact s1 _ _ e
        · rw [upd_ne tpx.symm, upd_same]
      · refine .inr ⟨SqT.of (s1 _ _ h), ?_⟩
        refine ⟨_, rfl, x, C, dx, _, rfl, hx1, TP.cl, TP.n1, (by show 0 < 1000; decide), a, rfl, fun c o e hc => ?_, ?_, .inr rfl, upd_same⟩
        · rw [upd_ne hc]
          exact s1 _ _ e
        · rw [upd_ne hxa]
          exact s1 _ _ h
    · rintro σ H3 ⟨tp, rfl, k3, tp3, ntp, x3⟩
      have ha3 : PlV K H3 a ps := by
        rcases ha with h | h
        · exact .inl (k3 _ _ h hxa)
        · exact .inr (k3 _ _ h hxa)
      refine ⟨_, rfl, a, _, rfl, ha3.sq, fun l nl => ?_⟩
      have t4 : Same H3 (upd H3 l (.lst (ps.map V.str))) := same_loc (Same.refl H3) nl _
      refine ⟨_, rfl, b, rfl, ⟨_, SqL.of (t4 _ _ (k3 _ _ hb hxb))⟩, fun D hD => ?_⟩
      have nlD : l ≠ D := ne_of_none upd_same hD
      have hD3 : H3 D = none := t4.free hD
      refine lc_list (K := K) (a := b) (xs := as.map V.ref) (fun i H' => ∃ qs, Same H3 H' ∧ H' l = some (.lst (ps.map V.str)) ∧ H' D = some (.lst (qs.map V.ref)) ∧ LL H' qs (bs.take i) ∧ D ∉ qs ∧ qs.length = i) ?_ ?_ ?_ ?_
      · exact ⟨[], same_loc t4 hD3 _, by rw [upd_ne nlD]; exact upd_same, upd_same, .nil, fun h => (by cases h), rfl⟩
      · rintro i H' _ ⟨_, s4, _⟩
        exact SqL.of (s4 _ _ (k3 _ _ hb hxb))
      · rintro i y H' hy ⟨qs, s4, l4, h4, L4, nD, hql⟩
        obtain ⟨o, ho, rfl⟩ := map_get hy
        obtain ⟨ob, hob, hoH⟩ := paired_at hl ho
        have hoil := get_lt hob
        have hbl := sm.lb
        refine ⟨rfl, yes_of ?_⟩
        refine ⟨_, rfl, o, _, rfl, .inl (SqL.of (s4 _ _ (k3 _ _ hoH (hxq o (List.mem_of_getElem? ho))))), fun q nq1 => ?_⟩
        have hqD : q ≠ D := fun z => by rw [z, h4] at nq1; cases nq1
        have hql' : l ≠ q := ne_of_none l4 nq1
        have h5 : (upd H' q (.lst (ob.map V.str))) D = some (.lst (qs.map V.ref)) := by rw [upd_ne hqD.symm]; exact h4
        have hqn : q ∉ qs := fun hm => by
          obtain ⟨j, hj⟩ := List.getElem?_of_mem hm
          obtain ⟨_, _, c⟩ := paired_at L4 hj
          rw [c] at nq1
          cases nq1
        refine ⟨_, h5, sz_lt (by rw [List.length_map]; omega), qs ++ [q], same_loc (same_loc s4 (s4.free nq1) _) hD3 _, ?_, ?_, ?_, ?_, ?_⟩
        · rw [upd_ne nlD, upd_ne hql']
          exact l4
        · rw [upd_same, List.map_append]
          rfl
        · rw [take_more hob]
          refine Paired.snoc (paired_imp_mem L4 fun r xs hr e => ?_) ?_
          · rw [upd_ne (fun z => nD (by rw [← z]; exact hr)), upd_ne (fun z => hqn (by rw [← z]; exact hr))]
            exact e
          · rw [upd_ne hqD, upd_same]
        · intro hm
          rcases List.mem_append.mp hm with z | z
          · exact nD z
          · exact hqD (List.mem_singleton.mp z).symm
        · rw [List.length_append, hql]
          rfl
      · rintro H5 ⟨qs, s4, l5, h5, L5, nD, hql⟩
        have hmx : (as.map V.ref).length = bs.length := by rw [List.length_map, hal]
        rw [hmx, List.take_length] at L5
        refine ⟨l, D, ps, qs, bs, rfl, l5, h5, L5, sm, fun pl qs' H6 t6 npl nqs p6 L6 => ?_⟩
        have x5 := s4 _ _ x3
        have x6 := t6 _ _ x5
        have sub : ∀ c o, H c = some o → c ≠ x → H5 c = some o := fun c o e hc => s4 _ _ (k3 c o e hc)
        have hxn : ∀ c, H5 c = none → H c = none := fun c hc => by
          cases e : H c with
          | none => rfl
          | some o =>
            by_cases hcx : c = x
            · rw [hcx, x5] at hc; cases hc
            · rw [sub c o e hcx] at hc; cases hc
        have plx : pl ≠ x := fun z => by rw [z, x5] at npl; cases npl
        have tpx : tp ≠ x := ne_of tp3 x3 (by intro z; cases z)
        refine ⟨_, rfl, x, C, dx, _, rfl, x6, TP.cl, TP.n2, (by show 1 < 1000; decide), ?_⟩
        refine k tp pl qs' _ (fun c o e hc => ?_) upd_same ?_ ntp (hxn pl npl) (fun q hq => hxn q (nqs q hq)) ?_ ?_
        · rw [upd_ne hc]
          exact t6 _ _ (sub c o e hc)
        · rw [upd_ne tpx]
          exact t6 _ _ (s4 _ _ tp3)
        · rw [upd_ne plx]
          exact p6
        · refine paired_imp_mem L6 fun q xs hq e => ?_
          rw [upd_ne (fun z => by
            have := nqs q hq
            rw [z, x5] at this
            cases this)]
          exact e
end
end OA

/-! ### a pattern made, as the laws use it -/
namespace OA
open PySem PySem.Spec PyProof.Rows L2
/-- a pattern over ps with the parts bs stands at x -/
def PatAt (C : Addr) (G : Hp) (x : Addr) (ps : List Str) (bs : List (List Str)) : Prop := ∃ dx tp pl as, G x = some (.ins C dx (pflds tp pl)) ∧ G tp = some (.tup (ps.map V.str)) ∧ G pl = some (.lst (as.map V.ref)) ∧ LL G as bs
theorem PatAt.mono {C : Addr} {G G' : Hp} {x : Addr} {ps : List Str} {bs : List (List Str)} (s : Same G G') (h : PatAt C G x ps bs) : PatAt C G' x ps bs := by
  obtain ⟨dx, tp, pl, as, h1, h2, h3, h4⟩ := h
  exact ⟨dx, tp, pl, as, s _ _ h1, s _ _ h2, s _ _ h3, LL.mono s h4⟩
theorem DueOk.small {ps : List Str} {bs hs : List (List Str)} (d : DueOk ps bs) (H : Handed bs hs) (hl : ps.length ≤ 16) : Small ps hs := by
  have hb : ∀ h ∈ hs, h.length ≤ 100 ∧ ∀ x ∈ h, x.length ≤ 1000 := fun h hh => by
    obtain ⟨b, hb, pm⟩ := H.sub h hh
    have := d.blen b hb
    refine ⟨by rw [pm.length_eq]; omega, fun x hx => ?_⟩
    have := d.xlen b hb x (pm.mem_iff.mp hx)
    omega
  have h1 := H.len
  have h2 := d.len
  exact ⟨by omega, by omega, fun b h => (hb b h).1, fun b h x hx => (hb b h).2 x hx⟩
/-- Pattern(places, blocks): the new pattern stands still from then on -/
theorem make_pat {K : PySem.W.Frag} {C : Addr} {G H : Hp} {g p : Addr} {ps : List Str} {qs : List Addr} {hs : List (List Str)} {R : VK} {x dx : Addr} (nx : H x = none) (ndx : H dx = none) (gh : Same G H) (hg : H g = some (.lst (ps.map V.str)) ∨ G g = some (.tup (ps.map V.str))) (hp : H p = some (.lst (qs.map V.ref))) (L : LL H qs hs) (sm : Small ps hs) (ck : chkBs ps hs [] = .ok ())
    (k : ∀ G' H', Stp F0 G H G' H' → Same H H' → PatAt C G' x ps (ordBs ps hs) → R .non H') :
    spInit K C [.ref x, .ref g, .ref p] (upd (upd H dx (.own x)) x (.ins C dx [])) R E0 := by
  have t1 : Same H (upd (upd H dx (.own x)) x (.ins C dx [])) := fun b o e => by
    rw [upd_ne (ne_of_none e nx), upd_ne (ne_of_none e ndx)]
    exact e
  have hg1 : PlV K (upd (upd H dx (.own x)) x (.ins C dx [])) g ps := by
    rcases hg with h | h
    · exact .inl (t1 _ _ h)
    · exact .inr (t1 _ _ (gh _ _ h))
  refine ⟨x, dx, g, p, ps, qs, hs, rfl, upd_same, hg1, t1 _ _ hp, LL.mono t1 L, sm, ck, fun tp pl qs' H2 k2 x2 tp2 ntp npl nqs pl2 L2 => ?_⟩
  have t2 : Same H H2 := fun b o e => k2 b o (t1 b o e) (ne_of_none e nx)
  have fr : ∀ c, (upd (upd H dx (.own x)) x (.ins C dx [])) c = none → H c = none := fun c h => t1.free h
  have s2 : Stp F0 G H G H2 := Stp.same gh t2
  -- the tuple is new, or stood still before
  have tpc : H tp = none ∨ G tp = some (.tup (ps.map V.str)) := by
    rcases ntp with h | h
    · exact .inl (fr tp h)
    · rcases hg with h' | h'
      · exfalso
        rw [h, t2 _ _ h'] at tp2
        cases tp2
      · right
        rw [h]
        exact h'
  rcases tpc with htp | htp
  · have hL : ∀ b ∈ x :: tp :: pl :: qs', H b = none := fun b hb => by
      rcases List.mem_cons.mp hb with z | hb
      · rw [z]; exact nx
      rcases List.mem_cons.mp hb with z | hb
      · rw [z]; exact htp
      rcases List.mem_cons.mp hb with z | hb
      · rw [z]; exact fr pl npl
      · exact fr b (nqs b hb)
    refine k _ H2 (s2.freezeL hL) t2 ⟨dx, tp, pl, qs', frzL_in List.mem_cons_self x2, frzL_in (by simp) tp2, frzL_in (by simp) pl2, paired_imp_mem L2 fun q xs hq e => ?_⟩
    exact frzL_in (by simp [hq]) e
  · have hL : ∀ b ∈ x :: pl :: qs', H b = none := fun b hb => by
      rcases List.mem_cons.mp hb with z | hb
      · rw [z]; exact nx
      rcases List.mem_cons.mp hb with z | hb
      · rw [z]; exact fr pl npl
      · exact fr b (nqs b hb)
    refine k _ H2 (s2.freezeL hL) t2 ⟨dx, tp, pl, qs', frzL_in List.mem_cons_self x2, frzL_sub s2.gh _ _ htp, frzL_in (by simp) pl2, paired_imp_mem L2 fun q xs hq e => ?_⟩
    exact frzL_in (by simp [hq]) e
def spLaw (K : PySem.W.Frag) : Sp := fun vs H Q _ => ∃ (a : Addr) (ns : List Int), vs = [.ref a] ∧ SqL K H a (ns.map V.int) ∧ ns.length ≤ 63 ∧ ∀ H', Q (.bl true) H'
end OA

/-! ### [x for x in xs if test]: a filter; [e for x in xs]: a map -/
namespace OA
open PySem PySem.Spec PyProof.Rows L2
theorem at_seq {t u : TS} {D : Ends} {σ : L2.St} {H : Hp} (h : t { D with nx := u D } σ H) : tSeq t u D σ H := h
theorem at_asg {te : TE} {g : TG} {D : Ends} {σ : L2.St} {H : Hp} (h : te σ H fun x H1 => g x σ H1 D.nx) : tAsg te g D σ H := h
theorem at_op {r : R2} {ta tb : TE} {σ : L2.St} {H : Hp} {Q : VK} (h : ta σ H fun x H1 => tb σ H1 fun y H2 => r x y H2 Q) : tOp r ta tb σ H Q := h
theorem at_cut {t u : TS} {D : Ends} {σ : L2.St} {H : Hp} (Mid : L2.St → Hp → Prop) (h1 : t { D with nx := Mid } σ H) (h2 : ∀ σ' H', Mid σ' H' → u D σ' H') : C8.tCut t u D σ H := ⟨Mid, h1, h2⟩
theorem at_ret {te : TE} {D : Ends} {σ : L2.St} {H : Hp} (h : te σ H D.rt) : tRet te D σ H := h
theorem at_test {t : TE} {σ : L2.St} {H : Hp} {Q : Bool → Hp → Prop} (h : t σ H fun x H' => ∃ k, x = .bl k ∧ Q k H') : tTest t σ H Q := h
theorem at_if {c : TT} {t u : TS} {D : Ends} {σ : L2.St} {H : Hp} (h : c σ H fun b H1 => if b = true then t D σ H1 else u D σ H1) : tIfS c t u D σ H := h
theorem at_B {t : TE} {σ : L2.St} {H : Hp} {Q : Bool → Hp → Prop} (h : t σ H fun x H1 => ∃ c, x = .bl c ∧ Q c H1) : tB t σ H Q := h
theorem at_cb {r : List V → Hp → VK → Prop} {t : TA} {σ : L2.St} {H : Hp} {Q : VK} (h : t σ H fun vs H1 => r vs H1 Q) : tCB r t σ H Q := h
theorem at_cons {ta : TE} {tr : TA} {σ : L2.St} {H : Hp} {Q : List V → Hp → Prop} (h : ta σ H fun x H1 => tr σ H1 fun xs H2 => Q (x :: xs) H2) : tCons ta tr σ H Q := h
theorem set_wipe {σ : L2.St} {i : Nat} {v : Option V} : wipe ((wipe σ [i]).set i v) [i] = wipe σ [i] := by
  show ((σ.set i none).set i v).set i none = σ.set i none
  rw [List.set_set, List.set_set]
theorem lc_flt {K : PySem.W.Frag} {tl : TE} {tt : TT} {i : Nat} {σ : L2.St} {H : Hp} {Q : VK} {a : Addr} {xs : List V} (f : V → Bool) (hi : i < σ.length) (hl : ∀ R : VK, R (.ref a) H → tl σ H R) (ha : H a = some (.lst xs)) (hn : xs.length ≤ 1000000)
    (ht : ∀ x ∈ xs, ∀ H1, Same H H1 → ∀ R : Bool → Hp → Prop, (∀ H2, Same H1 H2 → R (f x) H2) → tt ((wipe σ [i]).set i (some x)) H1 R)
    (k : ∀ D H', Same H H' → H D = none → H' D = some (.lst (xs.filter f)) → Q (.ref D) H') : tLc (iList K tl) (gName i) tt (tVar i) [i] σ H Q := by
  refine hl _ ⟨a, rfl, ⟨_, SqL.of ha⟩, fun D hD => ?_⟩
  refine lc_list (K := K) (a := a) (xs := xs) (fun j H' => Same H H' ∧ H' D = some (.lst ((xs.take j).filter f))) ?_ ?_ ?_ ?_
  · exact ⟨same_loc (Same.refl H) hD _, upd_same⟩
  · rintro j H' _ ⟨s, _⟩
    exact SqL.of (s _ _ ha)
  · rintro j x H' hx ⟨s, h⟩
    have hxm := List.mem_of_getElem? hx
    have hjl := get_lt hx
    refine ⟨set_wipe, ht x hxm H' s _ fun H2 s2 => ?_⟩
    have h2 := s2 _ _ h
    by_cases hf : f x = true
    · rw [hf, if_pos rfl]
      refine ⟨x, ?_, _, h2, ?_, same_loc (s.trans s2) hD _, ?_⟩
      · rw [List.getElem?_set_self (by rw [wipe_length]; exact hi)]
      · have := List.length_filter_le f (xs.take j)
        rw [List.length_take] at this
        exact sz_lt (by omega)
      · rw [take_more hx, List.filter_append]
        have e : [x].filter f = [x] := by rw [List.filter_cons, if_pos hf]; rfl
        rw [e]
        exact upd_same
    · have hf' : f x = false := by simpa using hf
      rw [hf', if_neg Bool.false_ne_true]
      refine ⟨s.trans s2, ?_⟩
      rw [take_more hx, List.filter_append]
      have e : [x].filter f = [] := by rw [List.filter_cons, if_neg hf]; rfl
      rw [e, List.append_nil]
      exact h2
  · rintro H' ⟨s, h⟩
    rw [List.take_length] at h
    exact k D H' s hD h
/-- [e for x in xs]: a map -/
theorem lc_mp {K : PySem.W.Frag} {tl te : TE} {i : Nat} {σ : L2.St} {H : Hp} {Q : VK} {a : Addr} {xs : List V} (f : V → V) (hl : ∀ R : VK, R (.ref a) H → tl σ H R) (ha : H a = some (.lst xs)) (hn : xs.length ≤ 1000000)
    (he : ∀ x ∈ xs, ∀ H1, Same H H1 → ∀ R : VK, (∀ H2, Same H1 H2 → R (f x) H2) → te ((wipe σ [i]).set i (some x)) H1 R)
    (k : ∀ D H', Same H H' → H D = none → H' D = some (.lst (xs.map f)) → Q (.ref D) H') : tLc (iList K tl) (gName i) tYes te [i] σ H Q := by
  refine hl _ ⟨a, rfl, ⟨_, SqL.of ha⟩, fun D hD => ?_⟩
  refine lc_list (K := K) (a := a) (xs := xs) (fun j H' => Same H H' ∧ H' D = some (.lst ((xs.take j).map f))) ?_ ?_ ?_ ?_
  · exact ⟨same_loc (Same.refl H) hD _, upd_same⟩
  · rintro j H' _ ⟨s, _⟩
    exact SqL.of (s _ _ ha)
  · rintro j x H' hx ⟨s, h⟩
    have hxm := List.mem_of_getElem? hx
    have hjl := get_lt hx
    refine ⟨set_wipe, yes_of (he x hxm H' s _ fun H2 s2 => ⟨_, s2 _ _ h, ?_, same_loc (s.trans s2) hD _, ?_⟩)⟩
    · rw [List.length_map, List.length_take]
      exact sz_lt (by omega)
    · rw [take_more hx, List.map_append]
      exact upd_same
  · rintro H' ⟨s, h⟩
    rw [List.take_length] at h
    exact k D H' s hD h
/-- texts -/
theorem flt_str (f : Str → Bool) (g : V → Bool) (h : ∀ x, g (.str x) = f x) : ∀ xs : List Str, (xs.map V.str).filter g = (xs.filter f).map V.str
  | [] => rfl
  | x :: xs => by
    rw [List.map_cons, List.filter_cons, List.filter_cons, h x, flt_str f g h xs]
    split <;> rfl
def sB (f : Str → Bool) : V → Bool
  | .str x => f x
  | _ => false
/-- lists of texts, by their addresses -/
theorem flt_ref {G : Hp} (f : List Str → Bool) (g : V → Bool) : ∀ {as : List Addr} {bs : List (List Str)}, LL G as bs → (∀ p b, G p = some (.lst (b.map V.str)) → p ∈ as → b ∈ bs → g (.ref p) = f b) → ∃ as', (as.map V.ref).filter g = as'.map V.ref ∧ LL G as' (bs.filter f)
  | _, _, .nil, _ => ⟨[], rfl, .nil⟩
  | p :: as, b :: bs, .cons h t, hg => by
    obtain ⟨as', e, L⟩ := flt_ref f g t fun q c hq hm hc => hg q c hq (List.mem_cons_of_mem _ hm) (List.mem_cons_of_mem _ hc)
    rw [List.map_cons, List.filter_cons, List.filter_cons, hg p b h List.mem_cons_self List.mem_cons_self, e]
    by_cases hf : f b = true
    · rw [if_pos hf, if_pos hf]
      exact ⟨p :: as', rfl, .cons h L⟩
    · rw [if_neg hf, if_neg hf]
      exact ⟨as', rfl, L⟩
end OA

/-! ### does the list at an address hold a text -/
namespace OA
open PySem PySem.Spec PyProof.Rows L2
/-- the address of a block among others, or none -/
def hasB (H : Hp) (p : Str) : V → Bool
  | .ref q => match H q with
    | some (.lst xs) => inV (.str p) xs
    | _ => false
  | _ => false
theorem hasB_eq {H : Hp} {q : Addr} {b : List Str} {p : Str} (h : H q = some (.lst (b.map V.str))) : hasB H p (.ref q) = decide (p ∈ b) := by
  show (match H q with | some (.lst xs) => inV (.str p) xs | _ => false) = decide (p ∈ b)
  rw [h]
  exact inV_str p b
theorem LL.len_le {H : Hp} {as : List Addr} {bs : List (List Str)} {q : Addr} (L : LL H as bs) (hq : q ∈ as) : ∃ b ∈ bs, H q = some (.lst (b.map V.str)) := by
  obtain ⟨j, hj⟩ := List.getElem?_of_mem hq
  obtain ⟨b, hb, e⟩ := paired_at L hj
  exact ⟨b, List.mem_of_getElem? hb, e⟩
def bS (f : Str → Bool) : V → V
  | .str x => .bl (f x)
  | v => v
theorem map_bS (f : Str → Bool) : ∀ xs : List Str, (xs.map V.str).map (bS f) = (xs.map f).map V.bl
  | [] => rfl
  | x :: xs => by rw [List.map_cons, List.map_cons, List.map_cons, List.map_cons, map_bS f xs]; rfl
theorem lc_copy {K : PySem.W.Frag} {tl te : TE} {i : Nat} {σ : L2.St} {H : Hp} {Q : VK} {a : Addr} {as : List Addr} {bs : List (List Str)} (hl : ∀ R : VK, R (.ref a) H → tl σ H R) (ha : H a = some (.lst (as.map V.ref))) (L : LL H as bs) (hn : bs.length ≤ 1000)
    (he : ∀ (q : Addr) (ob : List Str) (H1 : Hp), Same H H1 → H1 q = some (.lst (ob.map V.str)) → ∀ R : VK, (∀ p, H1 p = none → R (.ref p) (upd H1 p (.lst (ob.map V.str)))) → te ((wipe σ [i]).set i (some (.ref q))) H1 R)
    (k : ∀ (D : Addr) (qs : List Addr) (H' : Hp), Same H H' → H D = none → (∀ q ∈ qs, H q = none) → qs.Nodup → D ∉ qs → H' D = some (.lst (qs.map V.ref)) → LL H' qs bs → Q (.ref D) H') : tLc (iList K tl) (gName i) tYes te [i] σ H Q := by
  have hal : as.length = bs.length := paired_len L
  refine hl _ ⟨a, rfl, ⟨_, SqL.of ha⟩, fun D hD => ?_⟩
  refine lc_list (K := K) (a := a) (xs := as.map V.ref) (fun i H' => ∃ qs, Same H H' ∧ H' D = some (.lst (qs.map V.ref)) ∧ LL H' qs (bs.take i) ∧ (∀ q ∈ qs, H q = none) ∧ qs.Nodup ∧ D ∉ qs) ?_ ?_ ?_ ?_
  · exact ⟨[], same_loc (Same.refl H) hD _, upd_same, .nil, fun _ h => (by cases h), List.nodup_nil, fun h => (by cases h)⟩
  · rintro i H' _ ⟨_, s1, _⟩
    exact SqL.of (s1 _ _ ha)
  · rintro i y H' hy ⟨qs, s1, h1, l1, nq, ndq, nD⟩
    obtain ⟨o, ho, rfl⟩ := map_get hy
    obtain ⟨ob, hob, hoH⟩ := paired_at L ho
    have hoil := get_lt hob
    refine ⟨set_wipe, yes_of ?_⟩
    refine he o ob H' s1 (s1 _ _ hoH) _ fun q nq1 => ?_
    have hqD : q ≠ D := fun z => by rw [z, h1] at nq1; cases nq1
    have h2 : (upd H' q (.lst (ob.map V.str))) D = some (.lst (qs.map V.ref)) := by rw [upd_ne hqD.symm]; exact h1
    have hqn : q ∉ qs := fun hm => by
      obtain ⟨j, hj⟩ := List.getElem?_of_mem hm
      obtain ⟨_, _, c⟩ := paired_at l1 hj
      rw [c] at nq1
      cases nq1
    refine ⟨_, h2, sz_lt ?_, qs ++ [q], same_loc (same_loc s1 (s1.free nq1) _) hD _, ?_, ?_, ?_, ?_, ?_⟩
    · have := paired_len l1
      rw [List.length_take] at this
      rw [List.length_map]
      omega
    · rw [upd_same, List.map_append]
      rfl
    · rw [take_more hob]
      refine Paired.snoc (paired_imp_mem l1 fun r xs hr e => ?_) ?_
      · rw [upd_ne (fun z => nD (by rw [← z]; exact hr)), upd_ne (fun z => hqn (by rw [← z]; exact hr))]
        exact e
      · rw [upd_ne hqD, upd_same]
    · intro r hr
      rcases List.mem_append.mp hr with z | z
      · exact nq r z
      · rw [List.mem_singleton.mp z]
        exact s1.free nq1
    · refine List.nodup_append.mpr ⟨ndq, by simp, fun r hr y hy => ?_⟩
      rw [List.mem_singleton.mp hy]
      exact fun z => hqn (by rw [← z]; exact hr)
    · intro hm
      rcases List.mem_append.mp hm with z | z
      · exact nD z
      · exact hqD (List.mem_singleton.mp z).symm
  · rintro H' ⟨qs, s1, h1, l1, nq, ndq, nD⟩
    have hmx : (as.map V.ref).length = bs.length := by rw [List.length_map, hal]
    rw [hmx, List.take_length] at l1
    exact k D qs H' s1 hD nq ndq nD h1 l1
theorem lc_via {K : PySem.W.Frag} {tl te : TE} {g : TG} {tt : TT} {own : List Nat} {σ : L2.St} {H : Hp} {Q : VK} (h : tl σ H fun x H1 => tLc (iList K fun _ H R => R x H) g tt te own σ H1 Q) : tLc (iList K tl) g tt te own σ H Q := h
theorem at_if2 {c : TT} {t u : TS} {D : Ends} {σ : L2.St} {H : Hp} (f : Bool) (hc : ∀ R : Bool → Hp → Prop, (∀ H2, Same H H2 → R f H2) → c σ H R) (h1 : f = true → ∀ H2, Same H H2 → t D σ H2) (h2 : f = false → ∀ H2, Same H H2 → u D σ H2) : tIfS c t u D σ H := by
  refine hc _ fun H2 t2 => ?_
  cases f with
  | true => exact h1 rfl H2 t2
  | false => exact h2 rfl H2 t2
theorem erase_map {α β : Type} (f : α → β) : ∀ (xs : List α) (i : Nat), (xs.map f).eraseIdx i = (xs.eraseIdx i).map f
  | [], _ => rfl
  | _ :: _, 0 => rfl
  | x :: xs, i + 1 => by
    show f x :: (xs.map f).eraseIdx i = f x :: (xs.eraseIdx i).map f
    rw [erase_map f xs i]
end OA

/-! ### the class as a value; tuples of texts as data -/
namespace OA
open PySem PySem.Spec PyProof.Rows L2
structure PTx2 (K : PySem.W.Frag) (mg : Str → Option Value) (C : Addr) : Prop where
  ic : C8.InsC K C
  sf : PySem.W.selfFirst K C = true
  g : mg "Pattern" = some (.ref C)
abbrev dT (xs : List Str) : PyData := .tuple (xs.map PyData.str)
theorem sh_tup {xs : List Str} (h : ∀ x ∈ xs, Asc x) : SeqAt.shaped (dT xs) = true := by
  unfold SeqAt.shaped
  have h1 : PyData.canLay0 (dT xs) = true := lay_strs h
  have h2 : PyData.depth (dT xs) = 1 := by show PyData.depthAll (xs.map PyData.str) + 1 = 1; rw [depth_strs]
  rw [h1, h2]; rfl
theorem eqv_dT (xs ys : List Str) : PyData.eqv (dT xs) (dT ys) = decide (xs = ys) := eqv_strs xs ys
theorem at_next {D : Ends} {σ : L2.St} {H : Hp} (h : D.nx σ H) : tNext D σ H := h
end OA

/-! ### is_constant, first_wrong, refusal: the law's code -/
namespace OA
open PySem PySem.Spec PyProof.Rows L2
def quo : Str := Str.ofString "'"
theorem quo_list : quo.cps.toList = [39] := by decide +kernel
theorem cut_head (z : Str) : (cutS z none (some 1)).cps.toList = z.cps.toList.take 1 := by
  unfold cutS
  have e : HT.sIx z.length z.length (some 1) = min 1 z.length := HT.sIx_nat z.length z.length 1
  have e0 : HT.sIx z.length 0 none = 0 := rfl
  rw [e, e0]
  show (z.cps.toList.drop 0).take (min 1 z.length - 0) = _
  rw [List.drop_zero, Nat.sub_zero, len_list]
  cases z.cps.toList with
  | nil => rfl
  | cons c r => simp
/-- a member that shows by its first sign what it is -/
def QOk (z : Str) : Prop := decide (cutS z none (some 1) = quo) = isConB z
theorem q_low {z : Str} {c : Nat} {r : List Nat} (e : z.cps.toList = c :: r) (h : Low c) : QOk z := by
  unfold QOk
  rw [not_con e h]
  refine decide_eq_false fun k => ?_
  have := congrArg (fun s : Str => s.cps.toList) k
  rw [cut_head, quo_list, e] at this
  have : c = 39 := by simpa using this
  unfold Low at h
  omega
theorem q_con {w : Str} (h : Name 20 w) : QOk (quote w) := by
  unfold QOk
  rw [con_quote h]
  refine decide_eq_true (str_ext ?_)
  rw [cut_head, quo_list, quote_list]
  rfl
def spQ : Sp := fun vs H Q _ => ∃ z : Str, vs = [.str z] ∧ z.length ≤ 1000 ∧ QOk z ∧ Q (.bl (isConB z)) H
/-- the first wrong member, or none -/
def wrongV (e : Except Str Unit) : V := match e with
  | .ok _ => .non
  | .error z => .str z
def spWrong : Sp := fun vs H Q _ => ∃ (a b : Addr) (ps : List Str) (as : List Addr) (bs : List (List Str)), vs = [.ref a, .ref b] ∧ H a = some (.lst (ps.map V.str)) ∧ H b = some (.lst (as.map V.ref)) ∧ LL H as bs ∧ Small ps bs ∧ (∀ c ∈ bs, ∀ x ∈ c, QOk x) ∧ ∀ H', Same H H' → Q (wrongV (chkBs ps bs [])) H'
structure ETb (K : PySem.W.Frag) (mg : Str → Option Value) (C_BadPattern C_AgreeError C_OtherPlaces : Addr) : Prop where
  g_BadPattern : mg "BadPattern" = some (.ref C_BadPattern)
  g_AgreeError : mg "AgreeError" = some (.ref C_AgreeError)
  g_OtherPlaces : mg "OtherPlaces" = some (.ref C_OtherPlaces)
  exc : ExcC K C_BadPattern
  xf_BadPattern : XfC K C_BadPattern
  no_BadPattern_place : PySem.W.findIn K (.ref C_BadPattern) "place" = some none
  kA : PySem.W.kitOne K (.ref C_BadPattern) (.ref C_AgreeError) = some true
  kV : PySem.W.kitOne K (.ref C_BadPattern) (.type "ValueError") = some true
  kO : PySem.W.kitOne K (.ref C_BadPattern) (.ref C_OtherPlaces) = some false
  exm : PySem.W.exmOne K (.ref C_BadPattern) (.ref C_BadPattern) = some true
def spRefusal : Sp := fun vs H Q _ => ∃ (a b : Addr) (ps : List Str) (as : List Addr) (bs : List (List Str)), vs = [.ref a, .ref b] ∧ H a = some (.lst (ps.map V.str)) ∧ H b = some (.lst (as.map V.ref)) ∧ LL H as bs ∧ Small ps bs ∧
  (chkBs ps bs [] = .ok () → ∀ H', Same H H' → Q .non H') ∧ (∀ z, chkBs ps bs [] = .error z → ∀ (p : Addr) (H' : Hp), Same H H' → H' p = some (.tup [.bl true, .str z]) → Q (.ref p) H')
section
variable {P : Program} {w : World} {K : PySem.W.Frag} {mg : Str → Option Value} {base : Heap}
theorem sc__law_is_constant : FnScope ["_law_place"] ["_law_place"] (defScope (topS 29)) := ⟨rfl, rfl, rfl, by decide +kernel, rfl, by decide +kernel, by decide +kernel⟩
theorem ok__law_is_constant {f : Addr} {fd : FuncData} (F : Fun K "_law_is_constant" "_law_is_constant" (topS 29) f fd) (T : Txt K mg) : FnOk P w K mg base CX0 1 f fd ["_law_place"] spQ := by
  refine F.ok sc__law_is_constant (fun vs H Q E h => ?_) (fun cdv A outer s H vs Q E hr h => ?_)
  · obtain ⟨z, rfl, _⟩ := h
    rfl
  · obtain ⟨z, rfl, hz, hq, k⟩ := h
    refine ⟨_, (pss_one (ps_ret (pe_cmpR op_eq (pe_slice sl_str (pv 0) po_none (po_some pe_int)) pe_str (nomark _)))), ?_⟩
    refine ⟨_, rfl, _, rfl, z, rfl, sz_le (by omega), rfl, ?_⟩
    have e : decide (V.str (cutS z none (some 1)) = V.str (Str.ofString "'")) = isConB z := by
      rw [← show decide (cutS z none (some 1) = quo) = isConB z from hq]
      exact decide_eq_decide.mpr ⟨fun h => V.str.inj h, fun h => by rw [h]; rfl⟩
    show Q (.bl (decide (V.str (cutS z none (some 1)) = V.str (Str.ofString "'")))) H
    rw [e]
    exact k
theorem sc_first_wrong : FnScope ["_law_places", "_law_blocks", "_law_known", "_law_block", "_law_constants", "_law_found", "_law_place"] ["_law_places", "_law_blocks"] (defScope (topS 30)) := ⟨rfl, rfl, rfl, by decide +kernel, rfl, by decide +kernel, by decide +kernel⟩
set_option maxHeartbeats 8000000 in
theorem ok_first_wrong {f : Addr} {fd : FuncData} (F : Fun K "_law_first_wrong" "_law_first_wrong" (topS 30) f fd) (T : Txt K mg) (c__law_is_constant : Callee P w K mg base "_law_is_constant" ["_law_place"] spQ 1) : FnOk P w K mg base CX0 2 f fd ["_law_places", "_law_blocks"] spWrong := by
  refine F.ok sc_first_wrong (fun vs H Q E h => ?_) (fun cdv A outer s H vs Q E hr h => ?_)
  · obtain ⟨a, b, ps, as, bs, rfl, _⟩ := h
    rfl
  · obtain ⟨a, b, ps, as, bs, rfl, ha, hb, hl, sm, hq, k⟩ := h
    refine ⟨_, (pss_cons (ps_set (i := 2) sc_first_wrong.nd rfl (Or.inl rfl) (pe_lst pa_nil))
      (pss_cons (ps_for PassesOwn.never rfl (i_list K (pv 1)) (pg_name (i := 3) sc_first_wrong.nd rfl (Or.inl rfl))
      (pss_cons (ps_setLc (i := 4) (own := [("_law_place", 6)]) (by rfl) sc_first_wrong.nd rfl rfl (sw_true rfl rfl rfl (by decide +kernel)) (i_list K (pv 3)) (blkOk_by (own := [("_law_place", 6)]) (N := ["_law_places", "_law_blocks", "_law_known", "_law_block", "_law_constants", "_law_found", "_law_place"]) (sc := defScope (topS 30)) (by decide +kernel)) (fun _ _ _ _ _ => (pg_name (i := 6) sc_first_wrong.nd rfl (Or.inl rfl))) (fun _ _ _ _ _ => (pts_one (pt_val (pe_co c__law_is_constant hr (by decide) (by rfl) (pa_cons (pv 6) pa_nil))))) (fun _ _ _ _ _ => (pv 6)))
      (pss_cons (ps_set (i := 5) sc_first_wrong.nd rfl (Or.inl rfl) pe_int)
      (pss_cons (ps_for PassesOwn.never rfl (i_list K (pv 3)) (pg_name (i := 6) sc_first_wrong.nd rfl (Or.inl rfl))
      (pss_cons (ps_set (i := 5) sc_first_wrong.nd rfl (Or.inl rfl) (pe_op o_add (pv 5) (pe_callTy c_int (by rfl) T.n_int (by decide +kernel) (pa_cons (pe_co c__law_is_constant hr (by decide) (by rfl) (pa_cons (pv 6) pa_nil)) pa_nil))))
      (pss_cons (ps_if (PW.pt (pw_or (pt_cmpR (o_in K) (pv 6) (pv 2) (by rfl)) (pw_or1 (pt_cmpR o_gt (pv 5) pe_int (nomark _))))) (pss_one (ps_ret (pv 6))) pss_nil)
      (pss_cons (ps_if (PW.pt (pw_and (pt_not (pt_val (pe_co c__law_is_constant hr (by decide) (by rfl) (pa_cons (pv 6) pa_nil)))) (pw_and1 (pt_cmpR (o_notin K) (pv 6) (pv 0) (by rfl))))) (pss_one (ps_ret (pv 6))) pss_nil)
      (pss_one (ps_expr (e_bm K PySem.F.plainAttrs_list PySem.F.slot_list_append PySem.F.type_list_append mt_append (pv 2) (pa_cons (pv 6) pa_nil))))))))
      (pss_one (ps_if (pt_cmpR op_eq (pe_callB (c_len K) (by rfl) T.n_len (by decide +kernel) (pa_cons (pv 4) pa_nil)) (pe_callB (c_len K) (by rfl) T.n_len (by decide +kernel) (pa_cons (pv 3) pa_nil)) (nomark _)) (pss_one (ps_ret pe_str)) pss_nil))))))
      (pss_one (ps_ret pe_non)))), ?_⟩
    refine ⟨by decide, fun Kn hK => ?_⟩
    have s1 : Same H (upd H Kn (.lst [])) := same_loc (Same.refl H) hK _
    have hal : as.length = bs.length := paired_len hl
    refine ⟨_, rfl, b, rfl, ⟨_, SqL.of (s1 _ _ hb)⟩, for_list (K := K) (a := b) (xs := as.map V.ref) (fun i σ H' => ∃ x3 x4 x5 x6 kn, σ = [some (.ref a), some (.ref b), some (.ref Kn), x3, x4, x5, x6] ∧ Same H H' ∧ H' Kn = some (.lst (kn.map V.str)) ∧ kn.length ≤ i * 100 ∧ chkBs ps (bs.drop i) kn = chkBs ps bs []) ?_ ?_ ?_ ?_⟩
    · exact ⟨none, none, none, none, [], rfl, s1, upd_same, Nat.le_refl _, rfl⟩
    · rintro i σ H' _ ⟨_, _, _, _, _, _, s2, _⟩
      exact SqL.of (s2 _ _ hb)
    · rintro i y σ H' hi ⟨x3, x4, x5, x6, kn, rfl, s2, h2, hkl, hc⟩
      obtain ⟨o, ho, rfl⟩ := map_get hi
      obtain ⟨bl, hbl, hob⟩ := paired_at hl ho
      have hbm := List.mem_of_getElem? hbl
      have hbll := sm.le bl hbm
      have hib := get_lt hbl
      have hbs := sm.lb
      rw [drop_at hbl, rest_of] at hc
      -- constants
      refine at_seq (lc_flt (a := o) (xs := bl.map V.str) (sB isConB) (by show 6 < 7; decide) (fun R r => ⟨_, rfl, r⟩) (s2 _ _ hob) (by rw [List.length_map]; omega) (fun z hz H1 t1 R r => ?_) fun Cn H1 t1 nC hC => ?_)
      · obtain ⟨z', hz', rfl⟩ := List.mem_map.mp hz
        refine ⟨_, rfl, z', rfl, sm.lx bl hbm z' hz', hq bl hbm z' hz', _, rfl, ?_⟩
        exact r H1 (Same.refl H1)
      rw [flt_str isConB _ (fun _ => rfl)] at hC
      have s3 := s2.trans t1
      refine ⟨_, rfl, o, rfl, ⟨_, SqL.of (s3 _ _ hob)⟩, for_list (K := K) (a := o) (xs := bl.map V.str) (fun j σ H' => ∃ (x6 : Option V) (kn : List Str), σ = [some (.ref a), some (.ref b), some (.ref Kn), some (.ref o), some (.ref Cn), some (.int (nCon (bl.take j) : Nat)), x6] ∧ Same H H' ∧ H' Kn = some (.lst (kn.map V.str)) ∧ H' Cn = some (.lst ((bl.filter isConB).map V.str)) ∧ kn.length ≤ i * 100 + j ∧ restB ps bl.length (bs.drop (i + 1)) (bl.drop j) kn (nCon (bl.take j)) = chkBs ps bs []) ?_ ?_ ?_ ?_⟩
      · exact ⟨_, kn, rfl, s3, t1 _ _ h2, hC, by omega, hc⟩
      · rintro j σ H' _ ⟨_, _, _, s4, _⟩
        exact SqL.of (s4 _ _ hob)
      · rintro j y σ H4 hj ⟨x6', kn', rfl, s4, h4, c4, hkl4, g⟩
        obtain ⟨p, hp, rfl⟩ := map_get hj
        have hpm := List.mem_of_getElem? hp
        have hjl := get_lt hp
        rw [drop_at hp] at g
        have hqp := hq bl hbm p hpm
        have hlp := sm.lx bl hbm p hpm
        have hKC : Cn ≠ Kn := fun z => by rw [z, h2] at nC; cases nC
        have cnt : nCon (bl.take (j + 1)) = nCon (bl.take j) + (if isConB p = true then 1 else 0) := by
          rw [take_more hp, show nCon (bl.take j ++ [p]) = nCon (bl.take j) + nCon [p] from List.countP_append]
          show _ + (List.countP isConB [p]) = _
          rw [List.countP_cons]
          simp
        refine ⟨_, rfl, _, rfl, p, rfl, hlp, hqp, .inr ⟨_, rfl, _, _, rfl, rfl, ?_⟩⟩
        have ec : ((nCon (bl.take j) : Nat) : Int) + (if isConB p = true then 1 else 0) = ((nCon (bl.take (j + 1)) : Nat) : Int) := by
          rw [cnt]
          split <;> simp
        rw [ec]
        generalize hcc : nCon (bl.take (j + 1)) = c' at cnt
        -- what the check says
        have gg : (if p ∈ kn' ∨ 1 < c' then Except.error p else if isConB p = false ∧ p ∉ ps then Except.error p else restB ps bl.length (bs.drop (i + 1)) (bl.drop (j + 1)) (kn' ++ [p]) c') = chkBs ps bs [] := by
          rw [← g]
          by_cases e : isConB p = true
          · rw [rest_con e, if_pos e] at *
            rw [cnt]
            by_cases hh : p ∈ kn' ∨ 1 < nCon (bl.take j) + 1
            · rw [if_pos hh, if_pos hh]
            · rw [if_neg hh, if_neg hh, if_neg (by rw [e]; simp)]
          · have e' : isConB p = false := by simpa using e
            rw [if_neg e, Nat.add_zero] at cnt
            rw [cnt]
            by_cases hp' : p ∈ ps
            · rw [rest_pos e' hp']
              by_cases hh : p ∈ kn' ∨ 1 < nCon (bl.take j)
              · rw [if_pos hh, if_pos hh]
              · rw [if_neg hh, if_neg hh, if_neg (fun z => z.2 hp')]
            · rw [rest_out e' hp']
              split
              · rfl
              · rw [if_pos ⟨e', hp'⟩]
        clear g cnt ec
        refine at_next ?_
        dsimp only
        refine at_seq (at_if2 (decide (p ∈ kn') || decide (1 < c')) (fun R r => ?_) (fun hc H5 t5 => ?_) (fun hc H5 t5 => ?_))
        · refine ⟨_, rfl, _, rfl, Kn, _, rfl, .inl (SqL.of h4), rfl, flat_strs _, _, rfl, ?_⟩
          rw [in_eq]
          refine ite2 (fun q1 => ?_) (fun q1 => ?_)
          · rw [q1, Bool.true_or] at r
            exact r H4 (Same.refl H4)
          · have q1' : decide (p ∈ kn') = false := by simpa using q1
            rw [q1', Bool.false_or] at r
            refine ⟨_, rfl, _, _, rfl, rfl, _, rfl, ?_⟩
            have e2 : decide ((1 : Int) < (c' : Int)) = decide (1 < c') := decide_eq_decide.mpr (by omega)
            rw [e2]
            exact r H4 (Same.refl H4)
        · have hc' : p ∈ kn' ∨ 1 < c' := by
            rcases Bool.or_eq_true_iff.mp hc with z | z
            · exact .inl (of_decide_eq_true z)
            · exact .inr (of_decide_eq_true z)
          rw [if_pos hc'] at gg
          refine ⟨_, rfl, ?_⟩
          have := k H5 (s4.trans t5)
          rw [← gg] at this
          exact this
        · have hc' : ¬ (p ∈ kn' ∨ 1 < c') := by
            obtain ⟨z1, z2⟩ := Bool.or_eq_false_iff.mp hc
            rintro (z | z)
            · exact of_decide_eq_false z1 z
            · exact of_decide_eq_false z2 z
          rw [if_neg hc'] at gg
          have h5 := t5 _ _ h4
          have s5 := s4.trans t5
          refine at_next ?_
          dsimp only
          refine at_seq (at_if2 (!isConB p && !decide (p ∈ ps)) (fun R r => ?_) (fun hd H6 t6 => ?_) (fun hd H6 t6 => ?_))
          · refine ⟨_, rfl, p, rfl, hlp, hqp, _, rfl, ?_⟩
            cases e : isConB p with
            | true =>
              rw [e] at r
              refine iteF ?_
              exact r H5 (Same.refl H5)
            | false =>
              rw [e, Bool.not_false, Bool.true_and] at r
              refine iteT ?_
              refine ⟨_, rfl, _, rfl, a, _, rfl, .inl (SqL.of (s5 _ _ ha)), rfl, flat_strs _, _, rfl, ?_⟩
              rw [notin_eq]
              exact r H5 (Same.refl H5)
          · obtain ⟨z1, z2⟩ := Bool.and_eq_true_iff.mp hd
            rw [if_pos ⟨by simpa using z1, by simpa using z2⟩] at gg
            refine ⟨_, rfl, ?_⟩
            have := k H6 (s5.trans t6)
            rw [← gg] at this
            exact this
          · rw [if_neg (fun z => by rw [z.1] at hd; simp at hd; exact z.2 hd)] at gg
            have h6 := t6 _ _ h5
            refine ⟨_, rfl, Or.inl ⟨rfl, _, SqL.of h6⟩, _, rfl, _, _, _, rfl, rfl, h6, sz_lt (by rw [List.length_map]; omega), ?_⟩
            refine ⟨_, kn' ++ [p], rfl, same_loc (s5.trans t6) hK _, ?_, ?_, ?_, gg⟩
            · rw [List.map_append]
              exact upd_same
            · rw [upd_ne hKC]
              exact t6 _ _ (t5 _ _ c4)
            · rw [List.length_append]
              show _ + 1 ≤ _
              omega
      · rintro σ H4 ⟨x6', kn', rfl, s4, h4, c4, hkl4, g⟩
        have hmx : (bl.map V.str).length = bl.length := List.length_map _
        rw [hmx, List.drop_length, List.take_length] at g
        rw [hmx] at hkl4
        have g : (if bl.length = nCon bl then Except.error Str.empty else chkBs ps (bs.drop (i + 1)) kn') = chkBs ps bs [] := g
        have en : (bl.filter isConB).length = nCon bl := List.countP_eq_length_filter.symm
        refine ⟨_, rfl, _, _, rfl, .inl (SqL.of c4), _, rfl, _, _, rfl, .inl (SqL.of (s4 _ _ hob)), rfl, _, rfl, ?_⟩
        refine ite2 (fun e => ?_) (fun e => ?_)
        · have e' : bl.length = nCon bl := by
            have := V.int.inj (of_decide_eq_true e)
            rw [List.length_map, List.length_map, en] at this
            omega
          rw [if_pos e'] at g
          have := k H4 s4
          rw [← g] at this
          exact this
        · have e' : ¬ bl.length = nCon bl := fun z => e (decide_eq_true (by rw [List.length_map, List.length_map, en, z]))
          rw [if_neg e'] at g
          exact ⟨_, _, _, _, kn', rfl, s4, h4, by omega, g⟩
    · rintro σ H' ⟨x3, x4, x5, x6, kn, rfl, s2, _, _, g⟩
      have hmx : (as.map V.ref).length = bs.length := by rw [List.length_map, hal]
      rw [hmx, List.drop_length] at g
      have := k H' s2
      rw [← g] at this
      exact this
theorem sc_refusal : FnScope ["_law_places", "_law_blocks", "e", "_law_block"] ["_law_places", "_law_blocks"] (defScope (topS 32)) := ⟨rfl, rfl, rfl, by decide +kernel, rfl, by decide +kernel, by decide +kernel⟩
set_option maxHeartbeats 8000000 in
theorem ok_refusal {f C C_BadPattern C_AgreeError C_OtherPlaces : Addr} {fd : FuncData} (F : Fun K "_law_refusal" "_law_refusal" (topS 32) f fd) (T : Txt K mg) (TE : ETb K mg C_BadPattern C_AgreeError C_OtherPlaces) (c_Pattern : MakerX P w K mg base "Pattern" C ["self", "places", "blocks"] (spInitX K C C_BadPattern) 4) : FnOk P w K mg base CX0 6 f fd ["_law_places", "_law_blocks"] spRefusal := by
  refine F.ok sc_refusal (fun vs H Q E h => ?_) (fun cdv A outer s H vs Q E hr h => ?_)
  · obtain ⟨a, b, ps, as, bs, rfl, _⟩ := h
    rfl
  · obtain ⟨a, b, ps, as, bs, rfl, ha, hb, hl, sm, k, kE⟩ := h
    refine ⟨_, (pss_cons (ps_try_as (i := 2) (c := .ref C_BadPattern) (Wout := fun _ _ _ _ => False) rfl rfl sc_refusal.nd rfl rfl ⟨rfl, by decide, Or.inl TE.g_BadPattern⟩ takes0
      (fun W pn xe tk po => (pss_one (ps_expr (pe_mkX c_Pattern hr (by decide) tk (by rfl) (pa_cons (pe_callTy (c_list K) (by rfl) T.n_list (by decide +kernel) (pa_cons (pv 0) pa_nil)) (pa_cons (pe_lc (own := [("_law_block", 3)]) (by rfl) sc_refusal.nd (i_list K (pv 1)) (blkOk_by (own := [("_law_block", 3)]) (N := ["_law_places", "_law_blocks", "e", "_law_block"]) (sc := defScope (topS 32)) (by decide +kernel)) (fun _ _ _ _ _ => (pg_name (i := 3) sc_refusal.nd rfl (Or.inl rfl))) (fun _ _ _ _ _ => pts_nil) (fun _ _ _ _ _ => (pe_callTy (c_list K) (by rfl) T.n_list (by decide +kernel) (pa_cons (pv 3) pa_nil)))) pa_nil))))))
      (fun a oe cls d pn hz hf => (pss_one (ps_ret (pe_tup (pa_cons (pe_and (pe_callB (call_isED K hz hf) (by rfl) T.n_isinstance (by decide +kernel) (pa_cons (pv 2) (pa_cons (pe_glob (v := .ref C_AgreeError) rfl TE.g_AgreeError rfl) pa_nil))) (pe_and (pe_callB (call_isED K hz hf) (by rfl) T.n_isinstance (by decide +kernel) (pa_cons (pv 2) (pa_cons (pe_bltn (v := .ty "ValueError") rfl T.n_ValueError (by decide +kernel) rfl) pa_nil))) (pe_one (pe_not (pe_callB (call_isED K hz hf) (by rfl) T.n_isinstance (by decide +kernel) (pa_cons (pv 2) (pa_cons (pe_glob (v := .ref C_OtherPlaces) rfl TE.g_OtherPlaces rfl) pa_nil))))))) (pa_cons (pe_xf (C := C_BadPattern) TE.xf_BadPattern TE.no_BadPattern_place hz hf (pv 2)) pa_nil)))))))
      (pss_one (ps_ret pe_non))), ?_⟩
    refine ⟨_, rfl, _, _, rfl, .inl (SqL.of ha), fun g ng => ?_⟩
    have t1 : Same H (upd H g (.lst (ps.map V.str))) := same_loc (Same.refl H) ng _
    have hg : (upd H g (.lst (ps.map V.str))) g = some (.lst (ps.map V.str)) := upd_same
    generalize upd H g (.lst (ps.map V.str)) = H1 at t1 hg
    refine at_cons (lc_copy (a := b) (as := as) (bs := bs) (fun R r => ⟨_, rfl, r⟩) (t1 _ _ hb) (LL.mono t1 hl) sm.lb (fun q ob H2 t2 e R r => ?_) fun D qs H2 t2 nD nqs ndq nDq hD Lq => ?_)
    · exact ⟨_, rfl, q, _, rfl, .inl (SqL.of e), r⟩
    have t12 := t1.trans t2
    intro x dx nx ndx nex
    have t3 : Same H2 (upd (upd H2 dx (.own x)) x (.ins C dx [])) := fun b o e => by
      rw [upd_ne (ne_of_none e nx), upd_ne (ne_of_none e ndx)]
      exact e
    refine ⟨x, dx, g, D, ps, qs, bs, rfl, upd_same, .inl (t3 _ _ (t2 _ _ hg)), t3 _ _ hD, LL.mono t3 Lq, sm, fun ck tp pl qs' H4 k4 _ _ _ _ _ _ _ => ⟨rfl, ?_⟩, fun z ck d H4 t4 nd => ?_⟩
    · refine k ck H4 fun b o e => ?_
      have e2 := t12 _ _ e
      exact k4 b o (t3 _ _ e2) (ne_of_none e2 nx)
    · refine ⟨true, TE.exm, fun _ a0 na => ?_, fun q => Bool.noConfusion q⟩
      have t5 : Same H4 (upd H4 d (.xd [(("place" : Str), .str z)])) := same_loc (Same.refl H4) nd _
      have hd1 : (upd H4 d (.xd [(("place" : Str), .str z)])) d = some (.xd [(("place" : Str), .str z)]) := upd_same
      generalize upd H4 d (.xd [(("place" : Str), .str z)]) = H5 at t5 hd1 na
      have f1 : ([(("place" : Str), V.str z)] : List (Str × V)).lookup ("place" : Str) = some (V.str z) := by rw [lookup_put, if_pos rfl]
      refine ⟨_, rfl, C_BadPattern, d, _, _, _, true, rfl, rfl, rfl, hd1, TE.exc, .own C_AgreeError, TE.kA, _, rfl, ?_⟩
      refine iteT ?_
      refine ⟨_, rfl, C_BadPattern, d, _, _, _, true, rfl, rfl, rfl, hd1, TE.exc, .ty "ValueError", TE.kV, _, rfl, ?_⟩
      refine iteT ?_
      refine ⟨_, rfl, C_BadPattern, d, _, _, _, false, rfl, rfl, rfl, hd1, TE.exc, .own C_OtherPlaces, TE.kO, _, rfl, ?_⟩
      refine ⟨_, rfl, rfl, rfl, d, _, _, rfl, hd1, f1, (by show 2 ≤ sizeLine; decide), fun p np => ?_⟩
      exact kE z ck p _ (((t12.trans t3).trans (t4.trans t5)).trans (same_loc (Same.refl H5) np _)) upd_same
end
end OA

/-! ### get_spoil: the code -/
namespace OA
open PySem PySem.Spec PyProof.Rows L2
def qq : Str := Str.ofString "q"
theorem paired_of_get {α β : Type} {F : α → β → Prop} : ∀ {as : List α} {bs : List β}, as.length = bs.length → (∀ (j : Nat) (a : α) (b : β), as[j]? = some a → bs[j]? = some b → F a b) → Paired F as bs
  | [], [], _, _ => .nil
  | [], _ :: _, h, _ => by cases h
  | _ :: _, [], h, _ => by cases h
  | a :: as, b :: bs, h, k => .cons (k 0 a b rfl rfl) (paired_of_get (by simpa using h) fun j x y h1 h2 => k (j + 1) x y h1 h2)
theorem paired_ins {α β : Type} {F : α → β → Prop} {a : α} {b : β} (hab : F a b) : ∀ {as : List α} {bs : List β} (i : Nat), Paired F as bs → Paired F (as.take i ++ [a] ++ as.drop i) (bs.take i ++ [b] ++ bs.drop i)
  | _, _, 0, h => .cons hab h
  | [], [], _ + 1, .nil => .cons hab .nil
  | _ :: _, _ :: _, i + 1, .cons h t => .cons h (paired_ins hab i t)
structure BlkAt (G H : Hp) (Bk : Addr) (ks : List Addr) (bs : List (List Str)) : Prop where
  top : Cell G H Bk (.lst (ks.map V.ref))
  all : Paired (fun q b => Cell G H q (.lst (b.map V.str))) ks bs
  nd : ks.Nodup
  out : Bk ∉ ks
def FS (st inn Bk : Addr) (ks : List Addr) : Addr → Prop := fun p => F2 st inn p ∨ p = Bk ∨ p ∈ ks
section
variable {F : Addr → Prop} {G H G' H' : Hp} {Bk E q : Addr} {ks : List Addr} {bs : List (List Str)}
theorem BlkAt.keep (B : BlkAt G H Bk ks bs) (s : Stp F G H G' H') (h1 : ¬ F Bk) (h2 : ∀ q ∈ ks, ¬ F q) : BlkAt G' H' Bk ks bs := ⟨s.cell B.top h1, paired_imp_mem B.all fun q b hq c => s.cell c (h2 q hq), B.nd, B.out⟩
theorem BlkAt.same (B : BlkAt G H Bk ks bs) (t : Same H H') : BlkAt G H' Bk ks bs := ⟨⟨t _ _ B.top.at_, B.top.no⟩, paired_imp_mem B.all fun q b _ c => ⟨t _ _ c.at_, c.no⟩, B.nd, B.out⟩
theorem BlkAt.ll (B : BlkAt G H Bk ks bs) : LL H ks bs := Paired.mapP B.all fun q b c => c.at_
theorem BlkAt.len (B : BlkAt G H Bk ks bs) : ks.length = bs.length := paired_len B.all
theorem BlkAt.mem (B : BlkAt G H Bk ks bs) (hq : q ∈ ks) : ∃ o, H q = some o := by
  obtain ⟨j, hj⟩ := List.getElem?_of_mem hq
  obtain ⟨b, _, c⟩ := paired_at B.all hj
  exact ⟨_, c.at_⟩
theorem BlkAt.ins (B : BlkAt G H Bk ks bs) (gh : Same G H) (nE : H E = none) (y : List Str) (i : Nat) :
    BlkAt G (upd (upd H E (.lst (y.map V.str))) Bk (.lst ((ks.map V.ref).take i ++ [V.ref E] ++ (ks.map V.ref).drop i))) Bk (ks.take i ++ [E] ++ ks.drop i) (bs.take i ++ [y] ++ bs.drop i) := by
  have hE : ∀ q ∈ ks, q ≠ E := fun q hq e => by
    obtain ⟨o, ho⟩ := B.mem hq
    rw [e, nE] at ho
    cases ho
  have hEB : E ≠ Bk := fun e => by rw [e, B.top.at_] at nE; cases nE
  have cE : Cell G (upd H E (.lst (y.map V.str))) E (.lst (y.map V.str)) := Cell.new gh nE _
  have cB : Cell G (upd H E (.lst (y.map V.str))) Bk (.lst (ks.map V.ref)) := B.top.off (fun e => hEB e.symm) _
  refine ⟨?_, ?_, ?_, ?_⟩
  · have e : (ks.map V.ref).take i ++ [V.ref E] ++ (ks.map V.ref).drop i = (ks.take i ++ [E] ++ ks.drop i).map V.ref := by
      rw [List.map_append, List.map_append, List.map_take, List.map_drop]
      rfl
    rw [e]
    exact cB.set _
  · have P2 : Paired (fun q b => Cell G (upd (upd H E (.lst (y.map V.str))) Bk (.lst ((ks.map V.ref).take i ++ [V.ref E] ++ (ks.map V.ref).drop i))) q (.lst (b.map V.str))) ks bs := paired_imp_mem B.all fun q b hq c => (c.off (hE q hq) _).off (fun e => B.out (by rw [← e]; exact hq)) _
    refine paired_ins ?_ i P2
    exact cE.off hEB _
  · have pm : (ks.take i ++ [E] ++ ks.drop i).Perm (E :: ks) := by
      rw [List.append_assoc]
      refine List.perm_append_comm.trans ?_
      show (E :: (ks.drop i ++ ks.take i)).Perm (E :: ks)
      refine List.Perm.cons E (List.perm_append_comm.trans ?_)
      rw [List.take_append_drop]
    rw [pm.nodup_iff]
    exact List.nodup_cons.mpr ⟨fun h => hE E h rfl, B.nd⟩
  · intro h
    rcases List.mem_append.mp h with h | h
    · rcases List.mem_append.mp h with h | h
      · exact B.out (List.mem_of_mem_take h)
      · exact hEB (List.mem_singleton.mp h).symm
    · exact B.out (List.mem_of_mem_drop h)
theorem BlkAt.setB (B : BlkAt G H Bk ks bs) {i : Nat} (hi : ks[i]? = some q) (c : List Str) : BlkAt G (upd H q (.lst (c.map V.str))) Bk ks (bs.set i c) := by
  have hq := List.mem_of_getElem? hi
  have hqB : Bk ≠ q := fun e => B.out (by rw [e]; exact hq)
  obtain ⟨b, hb, cq⟩ := paired_at B.all hi
  refine ⟨B.top.off hqB _, paired_of_get (by rw [List.length_set]; exact B.len) fun j a d h1 h2 => ?_, B.nd, B.out⟩
  by_cases e : j = i
  · subst e
    rw [hi] at h1
    cases h1
    rw [List.getElem?_set_self (get_lt hb)] at h2
    cases h2
    exact cq.set _
  · rw [List.getElem?_set_ne (fun z => e z.symm)] at h2
    obtain ⟨d', hd', cd⟩ := paired_at B.all h1
    rw [hd'] at h2
    cases h2
    refine cd.off (fun z => e ?_) _
    exact nd_ix B.nd h1 (by rw [z]; exact hi)
end
def spSpoil (Pm : Str → Prop) : Sp := fun vs H Q _ => ∃ (G : Hp) (st inn pa ca Bk : Addr) (ps pool : List Str) (ks : List Addr) (bs : List (List Str)) (N : Nat), vs = [.ref st, .ref pa, .ref ca, .ref Bk] ∧ Same G H ∧ StAt G H st inn ∧ G pa = some (.lst (ps.map V.str)) ∧ G ca = some (.lst (pool.map V.str)) ∧ BlkAt G H Bk ks bs ∧
  ¬ F2 st inn Bk ∧ (∀ q ∈ ks, ¬ F2 st inn q) ∧ 1 ≤ ps.length ∧ ps.length ≤ 100 ∧ 1 ≤ pool.length ∧ pool.length ≤ 100 ∧ (∀ p ∈ ps, p.length ≤ 100) ∧ bs.length ≤ N ∧ (∀ b ∈ bs, b.length ≤ N) ∧ N ≤ 50 ∧
  (∀ x, Pm x → Asc x) ∧ (∀ p ∈ ps, Pm p ∧ Pm (p ++ qq)) ∧ (∀ c ∈ pool, Pm c) ∧ (∀ b ∈ bs, ∀ x ∈ b, Pm x) ∧
  ∀ (ks' : List Addr) (bs' : List (List Str)) (H' : Hp), Stp (FS st inn Bk ks) G H G H' → StAt G H' st inn → BlkAt G H' Bk ks' bs' → (∀ q ∈ ks', q ∈ ks ∨ H q = none) → bs'.length ≤ N + 1 → (∀ b ∈ bs', b.length ≤ N + 1) → (∀ b ∈ bs', ∀ x ∈ b, Pm x) → Q .non H'
theorem ins_len {α : Type} (l : List α) (i : Nat) (y : α) : (l.take i ++ [y] ++ l.drop i).length = l.length + 1 := by
  rw [List.length_append, List.length_append, List.length_take, List.length_drop]
  show _ + 1 + _ = _
  omega
theorem ins_mem {α : Type} {l : List α} {i : Nat} {x y : α} (h : x ∈ l.take i ++ [y] ++ l.drop i) : x ∈ l ∨ x = y := by
  rcases List.mem_append.mp h with h | h
  · rcases List.mem_append.mp h with h | h
    · exact .inl (List.mem_of_mem_take h)
    · exact .inr (List.mem_singleton.mp h)
  · exact .inl (List.mem_of_mem_drop h)
section
variable {P : Program} {w : World} {K : PySem.W.Frag} {mg : Str → Option Value} {base : Heap}
theorem sc_get_spoil : FnScope ["_law_state", "_law_places", "_law_pool", "_law_blocks", "_law_kind", "_law_block", "_law_at"] ["_law_state", "_law_places", "_law_pool", "_law_blocks"] (defScope (topS 31)) := ⟨rfl, rfl, rfl, by decide +kernel, rfl, by decide +kernel, by decide +kernel⟩
set_option maxHeartbeats 16000000 in
theorem ok_get_spoil {f : Addr} {fd : FuncData} (Pm : Str → Prop) (F : Fun K "_law_get_spoil" "_law_get_spoil" (topS 31) f fd) (T : Txt K mg) (c_draw : Callee P w K mg base "_law_draw" ["_law_st", "_law_limit"] spDraw 1) : FnOk P w K mg base CX0 2 f fd ["_law_state", "_law_places", "_law_pool", "_law_blocks"] (spSpoil Pm) := by
  refine F.ok sc_get_spoil (fun vs H Q E h => ?_) (fun cdv A outer s H vs Q E hr h => ?_)
  · obtain ⟨G, st, inn, pa, ca, Bk, ps, pool, ks, bs, N, rfl, _⟩ := h
    rfl
  · obtain ⟨G, st, inn, pa, ca, Bk, ps, pool, ks, bs, N, rfl, gh, S0, hpa, hca, B0, offB, offK, p1, p2, q1, q2, pl, bl, bbl, hN, pA, pP, pC, pB, k⟩ := h
    refine ⟨_, (pss_cons (ps_set (i := 4) sc_get_spoil.nd rfl (Or.inl rfl) (pe_co c_draw hr (by decide) (by rfl) (pa_cons (pv 0) (pa_cons pe_int pa_nil))))
      (pss_cons (ps_if (PW.pt (pw_or (pt_cmpR op_eq (pv 4) pe_int (nomark _)) (pw_or1 (pt_cmpR (o_eqD K hr.units) (pv 3) (pe_lst pa_nil) (nomark _))))) (pss_cons (ps_expr (e_bm K PySem.F.plainAttrs_list PySem.F.slot_list_insert PySem.F.type_list_insert mt_insert (pv 3) (pa_cons (pe_co c_draw hr (by decide) (by rfl) (pa_cons (pv 0) (pa_cons (pe_op o_add (pe_callB (c_len K) (by rfl) T.n_len (by decide +kernel) (pa_cons (pv 3) pa_nil)) pe_int) pa_nil))) (pa_cons (pe_lst pa_nil) pa_nil))))
      (pss_one ps_retN)) pss_nil)
      (pss_cons (ps_set (i := 5) sc_get_spoil.nd rfl (Or.inl rfl) (pe_ix (ix_lst K) (pv 3) (pe_co c_draw hr (by decide) (by rfl) (pa_cons (pv 0) (pa_cons (pe_callB (c_len K) (by rfl) T.n_len (by decide +kernel) (pa_cons (pv 3) pa_nil)) pa_nil))) (fun _ _ => rfl)))
      (pss_cons (ps_set (i := 6) sc_get_spoil.nd rfl (Or.inl rfl) (pe_co c_draw hr (by decide) (by rfl) (pa_cons (pv 0) (pa_cons (pe_op o_add (pe_callB (c_len K) (by rfl) T.n_len (by decide +kernel) (pa_cons (pv 5) pa_nil)) pe_int) pa_nil))))
      (pss_one (ps_if (pt_cmpR op_eq (pv 4) pe_int (nomark _)) (pss_one (ps_expr (e_bm K PySem.F.plainAttrs_list PySem.F.slot_list_insert PySem.F.type_list_insert mt_insert (pv 5) (pa_cons (pv 6) (pa_cons (pe_op o_adds (pe_ix (ix_lst K) (pv 1) (pe_co c_draw hr (by decide) (by rfl) (pa_cons (pv 0) (pa_cons (pe_callB (c_len K) (by rfl) T.n_len (by decide +kernel) (pa_cons (pv 1) pa_nil)) pa_nil))) (fun _ _ => rfl)) pe_str) pa_nil))))) (pss_one (ps_if (pt_cmpR op_eq (pv 4) pe_int (nomark _)) (pss_one (ps_expr (e_bm K PySem.F.plainAttrs_list PySem.F.slot_list_insert PySem.F.type_list_insert mt_insert (pv 5) (pa_cons (pv 6) (pa_cons (pe_ix (ix_lst K) (pv 1) (pe_co c_draw hr (by decide) (by rfl) (pa_cons (pv 0) (pa_cons (pe_callB (c_len K) (by rfl) T.n_len (by decide +kernel) (pa_cons (pv 1) pa_nil)) pa_nil))) (fun _ _ => rfl)) pa_nil))))) (pss_one (ps_if (pt_cmpR op_eq (pv 4) pe_int (nomark _)) (pss_one (ps_expr (e_bm K PySem.F.plainAttrs_list PySem.F.slot_list_insert PySem.F.type_list_insert mt_insert (pv 5) (pa_cons (pv 6) (pa_cons (pe_ix (ix_lst K) (pv 2) (pe_co c_draw hr (by decide) (by rfl) (pa_cons (pv 0) (pa_cons (pe_callB (c_len K) (by rfl) T.n_len (by decide +kernel) (pa_cons (pv 2) pa_nil)) pa_nil))) (fun _ _ => rfl)) pa_nil))))) (pss_one (ps_expr (e_bm K PySem.F.plainAttrs_list PySem.F.slot_list_insert PySem.F.type_list_insert mt_insert (pv 3) (pa_cons (pe_co c_draw hr (by decide) (by rfl) (pa_cons (pv 0) (pa_cons (pe_op o_add (pe_callB (c_len K) (by rfl) T.n_len (by decide +kernel) (pa_cons (pv 3) pa_nil)) pe_int) pa_nil))) (pa_cons (pe_lst (pa_cons (pe_ix (ix_lst K) (pv 2) (pe_co c_draw hr (by decide) (by rfl) (pa_cons (pv 0) (pa_cons (pe_callB (c_len K) (by rfl) T.n_len (by decide +kernel) (pa_cons (pv 2) pa_nil)) pa_nil))) (fun _ _ => rfl)) pa_nil)) pa_nil))))))))))))))), ?_⟩
    have hkl := B0.len
    have fs2 : ∀ b, F2 st inn b → FS st inn Bk ks b := fun _ z => .inl z
    -- kind
    refine ⟨_, rfl, G, st, inn, 5, rfl, gh, S0, by decide, by decide, fun kd H1 s1 S1 k0 k1 => ?_⟩
    have B1 := B0.keep s1 offB offK
    have w1 := s1.wide fs2
    dsimp only [gName]
    refine at_seq (at_if2 (decide (kd = 0) || bs.isEmpty) (fun R r => ?_) (fun hc H2 t2 => ?_) (fun hc H2 t2 => ?_))
    · refine ⟨_, rfl, rfl, _, rfl, ?_⟩
      refine ite2 (fun h1 => ?_) (fun h1 => ?_)
      · have e : kd = 0 := V.int.inj (of_decide_eq_true h1)
        rw [decide_eq_true e, Bool.true_or] at r
        exact r H1 (Same.refl H1)
      · have e : kd ≠ 0 := fun z => h1 (decide_eq_true (by rw [z]))
        rw [decide_eq_false e, Bool.false_or] at r
        refine ⟨_, rfl, by decide, fun E0 nE0 => ?_⟩
        have t2 : Same H1 (upd H1 E0 (.lst [])) := same_loc (Same.refl H1) nE0 _
        refine ⟨dSS bs, .list [], Sss.dp (Same.refl _) ⟨Bk, ks, rfl, t2 _ _ B1.top.at_, LL.mono t2 B1.ll⟩, .lst (SqL.of upd_same) .nil, sh_lists fun b hb x hx => pA x (pB b hb x hx), by decide +kernel, _, rfl, ?_⟩
        have e0 : PyData.eqv (dSS bs) (.list []) = bs.isEmpty := by cases bs <;> rfl
        rw [e0]
        exact r _ t2
    · -- a list without a position
      have w2 := w1.trans (Stp.same w1.gh t2)
      have B2 := B1.same t2
      have S2 : StAt G H2 st inn := S1.keep0 (Stp.same w1.gh t2)
      refine ⟨_, rfl, Or.inl ⟨rfl, _, SqL.of B2.top.at_⟩, _, rfl, _, rfl, _, _, rfl, .inl (SqL.of B2.top.at_), _, _, rfl, rfl, G, st, inn, _, rfl, w2.gh, S2, by omega, by rw [List.length_map]; omega, fun r H3 s3 S3 r0 r1 => ?_⟩
      rw [List.length_map] at r1
      have w3 := w2.trans (s3.wide fs2)
      have B3 := B2.keep s3 offB offK
      refine ⟨by decide, fun E1 nE1 => ?_⟩
      have hE1B : Bk ≠ E1 := ne_of_none B3.top.at_ nE1
      have w4 := w3.trans (Stp.put (F := FS st inn Bk ks) w3.gh nE1 (.lst []))
      have c4 : Cell G (upd H3 E1 (.lst [])) Bk (.lst (ks.map V.ref)) := B3.top.off hE1B _
      refine ⟨Bk, _, r, .ref E1, rfl, rfl, c4.at_, sz_lt (by rw [List.length_map]; omega), r0, by omega, ?_⟩
      refine k _ _ _ (w4.trans (Stp.write w4.gh c4 (.inr (.inl rfl)) _)) ((S3.new nE1 w3.gh _).write offB _) (B3.ins w3.gh nE1 [] r.toNat) (fun q hq => ?_) ?_ (fun b hb => ?_) fun b hb x hx => ?_
      · rcases ins_mem hq with z | z
        · exact .inl z
        · rw [z]; exact .inr (w3.new nE1)
      · rw [ins_len]; omega
      · rcases ins_mem hb with z | z
        · have := bbl b z; omega
        · rw [z]; exact Nat.zero_le _
      · rcases ins_mem hb with z | z
        · exact pB b z x hx
        · rw [z] at hx; cases hx
    · -- one of the lists
      obtain ⟨hc1, hc2⟩ := Bool.or_eq_false_iff.mp hc
      have hne : 1 ≤ bs.length := by
        cases bs with
        | nil => cases hc2
        | cons _ _ => exact Nat.le_add_left _ _
      have w2 := w1.trans (Stp.same w1.gh t2)
      have B2 := B1.same t2
      have S2 : StAt G H2 st inn := S1.keep0 (Stp.same w1.gh t2)
      refine ⟨_, rfl, _, rfl, _, rfl, _, _, rfl, .inl (SqL.of B2.top.at_), G, st, inn, _, rfl, w2.gh, S2, by rw [List.length_map]; omega, by rw [List.length_map]; omega, fun r H3 s3 S3 r0 r1 => ?_⟩
      rw [List.length_map] at r1
      obtain ⟨i, rfl⟩ := Int.eq_ofNat_of_zero_le r0
      have w3 := w2.trans (s3.wide fs2)
      have B3 := B2.keep s3 offB offK
      have hik : i < ks.length := by omega
      have hi : ks[i]? = some ks[i] := List.getElem?_eq_getElem hik
      generalize ks[i] = q at hi
      obtain ⟨b, hb, cq3⟩ := paired_at B3.all hi
      have hqm := List.mem_of_getElem? hi
      have hbm := List.mem_of_getElem? hb
      have hbN := bbl b hbm
      have offq := offK q hqm
      refine ⟨_, _, _, .ref q, rfl, rfl, SqL.of B3.top.at_, atI_map rfl hi, ?_⟩
      -- at
      refine ⟨_, rfl, _, rfl, _, _, rfl, .inl (SqL.of cq3.at_), _, _, rfl, rfl, G, st, inn, _, rfl, w3.gh, S3, by omega, by rw [List.length_map]; omega, fun ra H4 s4 S4 a0 a1 => ?_⟩
      rw [List.length_map] at a1
      have w4 := w3.trans (s4.wide fs2)
      have B4 := B3.keep s4 offB offK
      -- a member more
      have fin : ∀ (y : Str) (H5 : Hp), Stp (F2 st inn) G H4 G H5 → StAt G H5 st inn → Pm y → Q .non (upd H5 q (.lst ((b.map V.str).take ra.toNat ++ [V.str y] ++ (b.map V.str).drop ra.toNat))) := fun y H5 s5 S5 py => by
        have B5 := B4.keep s5 offB offK
        have w5 := w4.trans (s5.wide fs2)
        obtain ⟨b', hb', cq5⟩ := paired_at B5.all hi
        rw [hb] at hb'
        cases hb'
        have e : (b.map V.str).take ra.toNat ++ [V.str y] ++ (b.map V.str).drop ra.toNat = (b.take ra.toNat ++ [y] ++ b.drop ra.toNat).map V.str := by
          rw [List.map_append, List.map_append, List.map_take, List.map_drop]
          rfl
        rw [e]
        refine k ks _ _ (w5.trans (Stp.write w5.gh cq5 (.inr (.inr hqm)) _)) (S5.write offq _) (B5.setB hi _) (fun q hq => .inl hq) ?_ (fun c hc => ?_) fun c hc x hx => ?_
        · rw [List.length_set]; omega
        · rcases List.mem_or_eq_of_mem_set hc with z | z
          · have := bbl c z; omega
          · rw [z, ins_len]; omega
        · rcases List.mem_or_eq_of_mem_set hc with z | z
          · exact pB c z x hx
          · rw [z] at hx
            rcases ins_mem hx with z | z
            · exact pB b hbm x z
            · rw [z]; exact py
      have cq4 : H4 q = some (.lst (b.map V.str)) := s4.fr _ _ cq3.at_ offq
      have qat : ∀ {H5 : Hp}, Stp (F2 st inn) G H4 G H5 → H5 q = some (.lst (b.map V.str)) := fun s5 => s5.fr _ _ cq4 offq
      -- a drawn member of a list that stands still
      refine ⟨_, rfl, rfl, _, rfl, ?_⟩
      refine ite2 (fun h1 => ?_) (fun h1 => ?_)
      · refine ⟨_, rfl, Or.inl ⟨rfl, _, SqL.of cq4⟩, _, rfl, _, rfl, _, rfl, _, rfl, _, _, rfl, .inl (SqL.of (w4.gh _ _ hpa)), G, st, inn, _, rfl, w4.gh, S4, by rw [List.length_map]; omega, by rw [List.length_map]; omega, fun rp H5 s5 S5 b0 b1 => ?_⟩
        rw [List.length_map] at b1
        obtain ⟨n, rfl⟩ := Int.eq_ofNat_of_zero_le b0
        have hn : ps[n]? = some ps[n] := List.getElem?_eq_getElem (by omega)
        generalize ps[n]'(by omega) = pn at hn
        have pnm := List.mem_of_getElem? hn
        refine ⟨pa, _, _, .str pn, rfl, rfl, SqL.of (s5.gh _ _ hpa), atI_map rfl hn, _, _, rfl, rfl, sz_le (by have := pl pn pnm; show pn.length + 1 ≤ 1000000; omega), q, _, ra, _, rfl, rfl, qat s5, sz_lt (by rw [List.length_map]; omega), a0, by omega, ?_⟩
        exact fin (pn ++ qq) H5 s5 S5 (pP pn pnm).2
      · refine ⟨_, rfl, rfl, _, rfl, ?_⟩
        refine ite2 (fun h2 => ?_) (fun h2 => ?_)
        · refine ⟨_, rfl, Or.inl ⟨rfl, _, SqL.of cq4⟩, _, rfl, _, rfl, _, rfl, _, rfl, _, _, rfl, .inl (SqL.of (w4.gh _ _ hpa)), G, st, inn, _, rfl, w4.gh, S4, by rw [List.length_map]; omega, by rw [List.length_map]; omega, fun rp H5 s5 S5 b0 b1 => ?_⟩
          rw [List.length_map] at b1
          obtain ⟨n, rfl⟩ := Int.eq_ofNat_of_zero_le b0
          have hn : ps[n]? = some ps[n] := List.getElem?_eq_getElem (by omega)
          generalize ps[n]'(by omega) = pn at hn
          have pnm := List.mem_of_getElem? hn
          refine ⟨pa, _, _, .str pn, rfl, rfl, SqL.of (s5.gh _ _ hpa), atI_map rfl hn, q, _, ra, _, rfl, rfl, qat s5, sz_lt (by rw [List.length_map]; omega), a0, by omega, ?_⟩
          exact fin pn H5 s5 S5 (pP pn pnm).1
        · refine ⟨_, rfl, rfl, _, rfl, ?_⟩
          refine ite2 (fun h3 => ?_) (fun h3 => ?_)
          · refine ⟨_, rfl, Or.inl ⟨rfl, _, SqL.of cq4⟩, _, rfl, _, rfl, _, rfl, _, rfl, _, _, rfl, .inl (SqL.of (w4.gh _ _ hca)), G, st, inn, _, rfl, w4.gh, S4, by rw [List.length_map]; omega, by rw [List.length_map]; omega, fun rp H5 s5 S5 b0 b1 => ?_⟩
            rw [List.length_map] at b1
            obtain ⟨n, rfl⟩ := Int.eq_ofNat_of_zero_le b0
            have hn : pool[n]? = some pool[n] := List.getElem?_eq_getElem (by omega)
            generalize pool[n]'(by omega) = pn at hn
            have pnm := List.mem_of_getElem? hn
            refine ⟨ca, _, _, .str pn, rfl, rfl, SqL.of (s5.gh _ _ hca), atI_map rfl hn, q, _, ra, _, rfl, rfl, qat s5, sz_lt (by rw [List.length_map]; omega), a0, by omega, ?_⟩
            exact fin pn H5 s5 S5 (pC pn pnm)
          · -- a list of a constant alone
            refine ⟨_, rfl, Or.inl ⟨rfl, _, SqL.of B4.top.at_⟩, _, rfl, _, rfl, _, _, rfl, .inl (SqL.of B4.top.at_), _, _, rfl, rfl, G, st, inn, _, rfl, w4.gh, S4, by omega, by rw [List.length_map]; omega, fun r H5 s5 S5 r0 r1 => ?_⟩
            rw [List.length_map] at r1
            have w5 := w4.trans (s5.wide fs2)
            have B5 := B4.keep s5 offB offK
            refine ⟨_, rfl, _, rfl, _, rfl, _, _, rfl, .inl (SqL.of (w5.gh _ _ hca)), G, st, inn, _, rfl, w5.gh, S5, by rw [List.length_map]; omega, by rw [List.length_map]; omega, fun rp H6 s6 S6 b0 b1 => ?_⟩
            rw [List.length_map] at b1
            obtain ⟨n, rfl⟩ := Int.eq_ofNat_of_zero_le b0
            have hn : pool[n]? = some pool[n] := List.getElem?_eq_getElem (by omega)
            generalize pool[n]'(by omega) = pn at hn
            have pnm := List.mem_of_getElem? hn
            have w6 := w5.trans (s6.wide fs2)
            have B6 := B5.keep s6 offB offK
            refine ⟨ca, _, _, .str pn, rfl, rfl, SqL.of (w6.gh _ _ hca), atI_map rfl hn, by show 1 ≤ sizeLine; decide, fun E1 nE1 => ?_⟩
            have hE1B : Bk ≠ E1 := ne_of_none B6.top.at_ nE1
            have w7 := w6.trans (Stp.put (F := FS st inn Bk ks) w6.gh nE1 (.lst [.str pn]))
            have c7 : Cell G (upd H6 E1 (.lst [.str pn])) Bk (.lst (ks.map V.ref)) := B6.top.off hE1B _
            refine ⟨Bk, _, r, .ref E1, rfl, rfl, c7.at_, sz_lt (by rw [List.length_map]; omega), r0, by omega, ?_⟩
            refine k _ _ _ (w7.trans (Stp.write w7.gh c7 (.inr (.inl rfl)) _)) ((S6.new nE1 w6.gh _).write offB _) (B6.ins w6.gh nE1 [pn] r.toNat) (fun q hq => ?_) ?_ (fun b hb => ?_) fun b hb x hx => ?_
            · rcases ins_mem hq with z | z
              · exact .inl z
              · rw [z]; exact .inr (w6.new nE1)
            · rw [ins_len]; omega
            · rcases ins_mem hb with z | z
              · have := bbl b z; omega
              · rw [z]; show 1 ≤ _; omega
            · rcases ins_mem hb with z | z
              · exact pB b z x hx
              · rw [z] at hx
                rw [List.mem_singleton.mp hx]
                exact pC pn pnm
end
end OA

/-! ### the law -/
namespace OA
open PySem PySem.Spec PyProof.Rows L2
theorem q_isCon {z : Str} (h : isConB z = true) : QOk z := by
  unfold QOk
  rw [h]
  unfold isConB at h
  rw [Bool.and_eq_true, Bool.and_eq_true, Bool.and_eq_true] at h
  have h1 : z.cps.toList.head? = some 39 := by simpa using h.1.1.2
  refine decide_eq_true (str_ext ?_)
  rw [cut_head, quo_list]
  cases e : z.cps.toList with
  | nil => rw [e] at h1; cases h1
  | cons c r =>
    rw [e] at h1
    have : c = 39 := by simpa using h1
    rw [this]
    rfl
def PmB (x : Str) : Prop := QOk x ∧ Asc x ∧ x.length ≤ 200
section
variable {P : Program} {w : World} {K : PySem.W.Frag} {mg : Str → Option Value} {base : Heap}
theorem sc_law : FnScope ["_law_script", "_law_state", "_law_places", "_law_pool", "_law_labels", "_law_right", "_law_blocks", "_law_turn", "_law_wrong", "_law_told", "_law_block"] ["_law_script"] (defScope (topS 33)) := ⟨rfl, rfl, rfl, by decide +kernel, rfl, by decide +kernel, by decide +kernel⟩
set_option maxHeartbeats 16000000 in
theorem ok_law {f : Addr} {fd : FuncData} (F : Fun K "law" "law" (topS 33) f fd) (T : Txt K mg)
    (c_get_state : Callee P w K mg base "_law_get_state" ["_law_script"] (spState K) 1) (c_draw : Callee P w K mg base "_law_draw" ["_law_st", "_law_limit"] spDraw 1)
    (c_places_drawn : Callee P w K mg base "_law_places_drawn" ["_law_state", "_law_most"] spPlaces 3) (c_get_constants : Callee P w K mg base "_law_get_constants" ["_law_st", "_law_count"] spConsts 3)
    (c_get_labels : Callee P w K mg base "_law_get_labels" ["_law_state", "_law_count", "_law_most"] spLabels 2) (c_get_tags : Callee P w K mg base "_law_get_tags" ["_law_state", "_law_labels", "_law_pool"] spTags 2)
    (c_get_lists : Callee P w K mg base "_law_get_lists" ["_law_places", "_law_labels", "_law_tags"] spLists 1) (c_get_handed : Callee P w K mg base "_law_get_handed" ["_law_state", "_law_lists"] spHanded 3)
    (c_get_spoil : Callee P w K mg base "_law_get_spoil" ["_law_state", "_law_places", "_law_pool", "_law_blocks"] (spSpoil PmB) 2) (c_first_wrong : Callee P w K mg base "_law_first_wrong" ["_law_places", "_law_blocks"] spWrong 2) (c_refusal : Callee P w K mg base "_law_refusal" ["_law_places", "_law_blocks"] spRefusal 6) :
    FnOk P w K mg base CX0 7 f fd ["_law_script"] (spLaw K) := by
  refine F.ok sc_law (fun vs H Q E h => ?_) (fun cdv A outer s H vs Q E hr h => ?_)
  · obtain ⟨a, ns, rfl, _⟩ := h
    rfl
  · obtain ⟨a, ns, rfl, hS, hlen, k⟩ := h
    refine ⟨_, (pss_cons (ps_set (i := 1) sc_law.nd rfl (Or.inl rfl) (pe_co c_get_state hr (by decide) (by rfl) (pa_cons (pv 0) pa_nil)))
      (pss_cons (ps_set (i := 2) sc_law.nd rfl (Or.inl rfl) (pe_co c_places_drawn hr (by decide) (by rfl) (pa_cons (pv 1) (pa_cons pe_int pa_nil))))
      (pss_cons (ps_set (i := 3) sc_law.nd rfl (Or.inl rfl) (pe_co c_get_constants hr (by decide) (by rfl) (pa_cons (pv 1) (pa_cons pe_int pa_nil))))
      (pss_cons (ps_set (i := 4) sc_law.nd rfl (Or.inl rfl) (pe_co c_get_labels hr (by decide) (by rfl) (pa_cons (pv 1) (pa_cons (pe_callB (c_len K) (by rfl) T.n_len (by decide +kernel) (pa_cons (pv 2) pa_nil)) (pa_cons (pe_op o_add pe_int (pe_co c_draw hr (by decide) (by rfl) (pa_cons (pv 1) (pa_cons pe_int pa_nil)))) pa_nil)))))
      (pss_cons (ps_set (i := 5) sc_law.nd rfl (Or.inl rfl) (pe_co c_get_handed hr (by decide) (by rfl) (pa_cons (pv 1) (pa_cons (pe_co c_get_lists hr (by decide) (by rfl) (pa_cons (pv 2) (pa_cons (pv 4) (pa_cons (pe_co c_get_tags hr (by decide) (by rfl) (pa_cons (pv 1) (pa_cons (pv 4) (pa_cons (pv 3) pa_nil)))) pa_nil)))) pa_nil))))
      (pss_cons (ps_setLc (i := 6) (own := [("_law_block", 10)]) (by rfl) sc_law.nd rfl rfl (sw_true rfl rfl rfl (by decide +kernel)) (i_list K (pv 5)) (blkOk_by (own := [("_law_block", 10)]) (N := ["_law_script", "_law_state", "_law_places", "_law_pool", "_law_labels", "_law_right", "_law_blocks", "_law_turn", "_law_wrong", "_law_told", "_law_block"]) (sc := defScope (topS 33)) (by decide +kernel)) (fun _ _ _ _ _ => (pg_name (i := 10) sc_law.nd rfl (Or.inl rfl))) (fun _ _ _ _ _ => pts_nil) (fun _ _ _ _ _ => (pe_callTy (c_list K) (by rfl) T.n_list (by decide +kernel) (pa_cons (pv 10) pa_nil))))
      (pss_cons (ps_for PassesOwn.never rfl (pi_range1 (by rfl) T.n_range (pa_cons (pe_op o_add pe_int (pe_co c_draw hr (by decide) (by rfl) (pa_cons (pv 1) (pa_cons pe_int pa_nil)))) pa_nil)) (pg_name (i := 7) sc_law.nd rfl (Or.inl rfl))
      (pss_one (ps_expr (pe_co c_get_spoil hr (by decide) (by rfl) (pa_cons (pv 1) (pa_cons (pv 2) (pa_cons (pv 3) (pa_cons (pv 6) pa_nil))))))))
      (pss_cons (ps_set (i := 8) sc_law.nd rfl (Or.inl rfl) (pe_co c_first_wrong hr (by decide) (by rfl) (pa_cons (pv 2) (pa_cons (pv 6) pa_nil))))
      (pss_cons (ps_set (i := 9) sc_law.nd rfl (Or.inl rfl) (pe_co c_refusal hr (by decide) (by rfl) (pa_cons (pv 2) (pa_cons (pv 6) pa_nil))))
      (pss_cons (ps_if (pt_cmpR op_isN (pv 8) pe_non (nomark _)) (pss_one (ps_ret (pe_and (pe_cmpR op_isN (pv 9) pe_non (nomark _)) (pe_one (pe_cmpR op_isN (pe_co c_refusal hr (by decide) (by rfl) (pa_cons (pv 2) (pa_cons (pv 5) pa_nil))) pe_non (nomark _)))))) pss_nil)
      (pss_cons (ps_if (PW.pt (pw_or (pt_cmpR op_isN (pv 9) pe_non (nomark _)) (pw_or (pt_cmpR op_isnot_bl (pe_ix (ix_tpl K) (pv 9) pe_int (fun _ _ => rfl)) pe_bl (nomark _)) (pw_or1 (pt_not (pt_val (pe_callB (c_isi K) (by rfl) T.n_isinstance (by decide +kernel) (pa_cons (pe_ix (ix_tpl K) (pv 9) pe_int (fun _ _ => rfl)) (pa_cons (pe_bltn (v := .ty "str") rfl T.n_str (by decide +kernel) rfl) pa_nil))))))))) (pss_one (ps_ret pe_bl)) pss_nil)
      (pss_one (ps_ret (pe_and (pe_cmpR op_eq (pe_ix (ix_tpl K) (pv 9) pe_int (fun _ _ => rfl)) (pv 8) (nomark _)) (pe_one (pe_cmpR op_isN (pe_co c_refusal hr (by decide) (by rfl) (pa_cons (pv 2) (pa_cons (pv 5) pa_nil))) pe_non (nomark _))))))))))))))))), ?_⟩
    refine ⟨_, rfl, a, ns, rfl, hS, by omega, fun st inn H1 s1 S1 => ?_⟩
    refine ⟨_, rfl, H, st, inn, 9, rfl, s1, S1, by decide, by decide, fun v ws ps G2 H2 s2 S2 hv hw hp l1 l2 => ?_⟩
    obtain ⟨pa, rfl, hpa⟩ := hv
    refine ⟨_, rfl, G2, st, inn, 4, rfl, s2.gh, S2, by decide, fun v cs G3 H3 s3 S3 hv hc => ?_⟩
    obtain ⟨ca, rfl, hca⟩ := hv
    have hpa3 := s3.gg _ _ hpa
    have lenp : ∀ p ∈ ps, p.length ≤ 25 := fun p h => place_len hw hp h
    -- labels
    refine ⟨_, rfl, _, rfl, _, _, rfl, .inl (SqL.of (s3.gh _ _ hpa3)), _, rfl, G3, st, inn, 6, rfl, s3.gh, S3, by decide, by decide, fun r5 H5 s5 S5 r0 r1 => ⟨_, _, rfl, rfl, ?_⟩⟩
    refine ⟨G3, st, inn, _, _, rfl, s5.gh, S5, by rw [List.length_map]; omega, by omega, by omega, fun v ls G6 H6 s6 S6 hv hL => ?_⟩
    obtain ⟨la, rfl, hla⟩ := hv
    rw [List.length_map] at hL
    have hcs : (cs.map quote).length ≤ 100 := by rw [List.length_map, hc.len]; decide
    have hcasc : ∀ c ∈ cs.map quote, Asc c := fun c h => by
      obtain ⟨z, hz, e⟩ := List.mem_map.mp h
      rw [← e]
      exact quote_asc (hc.all z hz).asc
    have hpa6 := s6.gg _ _ hpa3
    have hca6 := s6.gg _ _ hca
    -- right
    refine ⟨_, rfl, _, rfl, _, rfl, _, rfl, _, rfl, _, rfl, G6, st, inn, la, ca, ls, cs.map quote, rfl, s6.gh, S6, hla, hca6, by rw [hL.len]; omega, hcs, hcasc, fun v ts G7 H7 s7 S7 hT hTg => ?_⟩
    obtain ⟨ta, rfl, hta⟩ := hT
    refine ⟨G7, pa, la, ta, ps, ls, ts, rfl, s7.gh, s7.gg _ _ hpa6, s7.gg _ _ hla, hta, hL.len, by omega, fun v G8 H8 s8 hSs => ?_⟩
    have dr := drawn_of hw hp hc hL hTg
    have dk := due_ok hw hp hc hL hTg
    have S8 := S7.keep0 s8
    obtain ⟨da, das, rfl, hda, hdl⟩ := hSs
    refine ⟨G8, st, inn, da, das, due ps ls ts, rfl, s8.gh, S8, hda, hdl, by have := dk.len; omega, fun b hb => by have := dk.blen b hb; omega, fun ra qs hs H9 s9 S9 np nq ndq npq cp pc hH => ?_⟩
    have nL : ∀ b ∈ ra :: qs, H8 b = none := fun b hb => by
      rcases List.mem_cons.mp hb with z | z
      · rw [z]; exact np
      · exact nq b z
    have s9' := s9.freezeL nL
    have S9' : StAt (frzL G8 H9 (ra :: qs)) H9 st inn := S9.frzL fun b hb => S8.off (nL b hb)
    have hra : (frzL G8 H9 (ra :: qs)) ra = some (.lst (qs.map V.ref)) := frzL_in List.mem_cons_self cp.at_
    have hLr : LL (frzL G8 H9 (ra :: qs)) qs hs := paired_imp_mem pc fun q b hq c => frzL_in (List.mem_cons_of_mem _ hq) c.at_
    have hpa9 : (frzL G8 H9 (ra :: qs)) pa = some (.lst (ps.map V.str)) := s9'.gg _ _ (s8.gg _ _ (s7.gg _ _ hpa6))
    have hca9 : (frzL G8 H9 (ra :: qs)) ca = some (.lst ((cs.map quote).map V.str)) := s9'.gg _ _ (s8.gg _ _ (s7.gg _ _ hca6))
    have gh9 := s9'.gh
    generalize frzL G8 H9 (ra :: qs) = G9 at s9' S9' hra hLr hpa9 hca9 gh9
    have smR : Small ps hs := dk.small hH (by omega)
    have ckR : chkBs ps hs [] = .ok () := dr.chk hH
    have hsl := hH.len
    have dl := dk.len
    -- members
    have mP : ∀ p ∈ ps, PmB p ∧ PmB (p ++ qq) := fun p h => by
      obtain ⟨c, r, e, hl⟩ := place_first hw hp h
      have h1 := lenp p h
      refine ⟨⟨q_low e hl, place_asc hw hp h, by omega⟩, q_low (c := c) (r := r ++ [113]) ?_ hl, fun c hc => ?_, ?_⟩
      · rw [app_list, e]
        rfl
      · rw [app_list] at hc
        rcases List.mem_append.mp hc with z | z
        · exact place_asc hw hp h c z
        · have e2 : qq.cps.toList = [113] := by decide +kernel
          rw [e2] at z
          have := List.mem_singleton.mp z
          omega
      · rw [app_len]
        have e2 : qq.length = 1 := by decide +kernel
        omega
    have mC : ∀ x, isConB x = true → PmB x := fun x h => by
      obtain ⟨h1, h2⟩ := con_small h
      exact ⟨q_isCon h, h1, by omega⟩
    have mPool : ∀ c ∈ cs.map quote, PmB c := fun c h => by
      obtain ⟨z, hz, e⟩ := List.mem_map.mp h
      rw [← e]
      exact mC _ (con_quote (hc.all z hz))
    have mH : ∀ b ∈ hs, ∀ x ∈ b, PmB x := fun b hb x hx => by
      obtain ⟨d, hd, pm⟩ := hH.sub b hb
      rcases dr.good.el d hd x (pm.mem_iff.mp hx) with z | z
      · exact mC x z
      · exact (mP x z).1
    -- blocks
    dsimp only [gName]
    refine at_seq (lc_copy (a := ra) (as := qs) (bs := hs) (fun R r => ⟨_, rfl, r⟩) (gh9 _ _ hra) (LL.mono gh9 hLr) (by omega) (fun q ob H1 t1 e R r => ?_) fun Bk ks H10 t10 nB nks ndk nBk hB Lk => ?_)
    · exact ⟨_, rfl, q, _, rfl, .inl (SqL.of e), r⟩
    have s10 : Stp (F2 st inn) G9 H9 G9 H10 := Stp.same gh9 t10
    have S10 : StAt G9 H10 st inn := S9'.keep0 (Stp.same gh9 t10)
    have B10 : BlkAt G9 H10 Bk ks hs := ⟨⟨hB, gh9.free nB⟩, paired_imp_mem Lk fun q b hq e => ⟨e, gh9.free (nks q hq)⟩, ndk, nBk⟩
    have offB : ¬ F2 st inn Bk := S9'.off nB
    refine ⟨_, rfl, G9, st, inn, 2, rfl, s10.gh, S10, by decide, by decide, fun rt H11 s11 S11 t0 t1 => ⟨_, _, rfl, rfl, ?_⟩⟩
    have B11 := B10.keep s11 offB fun q hq => S9'.off (nks q hq)
    refine ⟨_, rfl, by omega, by omega, for_range (fun i σ H' => ∃ (x7 : Option V) (ks : List Addr) (bs : List (List Str)), σ = [some (.ref a), some (.ref st), some (.ref pa), some (.ref ca), some (.ref la), some (.ref ra), some (.ref Bk), x7, none, none, none] ∧ Stp (F2 st inn) G9 H9 G9 H' ∧ StAt G9 H' st inn ∧ BlkAt G9 H' Bk ks bs ∧ (∀ q ∈ ks, H9 q = none) ∧ bs.length ≤ 20 + i ∧ (∀ b ∈ bs, b.length ≤ 20 + i) ∧ ∀ b ∈ bs, ∀ x ∈ b, PmB x) ?_ ?_ ?_⟩
    · refine ⟨_, ks, hs, rfl, s10.trans s11, S11, B11, nks, by omega, fun b hb => ?_, mH⟩
      obtain ⟨d, hd, pm⟩ := hH.sub b hb
      have := dk.blen d hd
      rw [pm.length_eq]
      omega
    · rintro i σ H' hi ⟨x7, ks', bs, rfl, s12, S12, B12, nk, bl, bbl, mB⟩
      have hi2 : i < (1 + rt).toNat := hi
      refine ⟨_, rfl, _, rfl, _, rfl, _, rfl, G9, st, inn, pa, ca, Bk, ps, cs.map quote, ks', bs, 20 + i, rfl, s12.gh, S12, hpa9, hca9, B12, offB, fun q hq => S9'.off (nk q hq), l1, by omega, by rw [List.length_map, hc.len]; decide, hcs, fun p h => by have := lenp p h; omega, bl, bbl, by omega, fun x h => h.2.1, mP, mPool, mB, fun ks2 bs2 H13 s13 S13 B13 nk2 bl2 bbl2 mB2 => ?_⟩
      refine ⟨_, ks2, bs2, rfl, ((s12.wide (F' := FS st inn Bk ks') fun _ z => .inl z).trans s13).drop fun b hb => ?_, S13, B13, fun q hq => ?_, by omega, fun b hb => by have := bbl2 b hb; omega, mB2⟩
      · rcases hb with z | z | z
        · exact .inl z
        · rw [z]; exact .inr nB
        · exact .inr (nk b z)
      · rcases nk2 q hq with z | z
        · exact nk q z
        · exact s12.new z
    · rintro σ H12 ⟨x7, ks', bs, rfl, s12, S12, B12, nk, bl, bbl, mB⟩
      have hn2 : (1 + rt).toNat ≤ 2 := by omega
      have sm : Small ps bs := ⟨by omega, by omega, fun b hb => by have := bbl b hb; omega, fun b hb x hx => by have := (mB b hb x hx).2.2; omega⟩
      have gh12 := s12.gh
      refine ⟨_, rfl, _, rfl, pa, Bk, ps, ks', bs, rfl, gh12 _ _ hpa9, B12.top.at_, B12.ll, sm, fun b hb x hx => (mB b hb x hx).1, fun H13 t13 => ?_⟩
      have gh13 := gh12.trans t13
      have Bt := t13 _ _ B12.top.at_
      refine ⟨_, rfl, _, rfl, pa, Bk, ps, ks', bs, rfl, gh13 _ _ hpa9, Bt, LL.mono t13 B12.ll, sm, fun ck H14 t14 => ?_, fun z ck p H14 t14 hp14 => ?_⟩
      · rw [ck]
        refine ⟨_, rfl, rfl, _, rfl, ?_⟩
        rw [show decide (wrongV (.ok ()) = V.non) = true from decide_eq_true rfl]
        refine iteT ?_
        refine ⟨_, rfl, rfl, _, rfl, ?_⟩
        rw [show decide (V.non = V.non) = true from decide_eq_true rfl]
        refine iteT ?_
        refine ⟨_, rfl, _, rfl, pa, ra, ps, qs, hs, rfl, t14 _ _ (gh13 _ _ hpa9), t14 _ _ (gh13 _ _ hra), LL.mono (gh13.trans t14) hLr, smR, fun _ H15 t15 => ?_, fun z hz => by rw [ckR] at hz; cases hz⟩
        exact ⟨rfl, k H15⟩
      · rw [ck]
        refine ⟨_, rfl, rfl, _, rfl, ?_⟩
        rw [show decide (wrongV (.error z) = V.non) = false from decide_eq_false (by intro h; cases h)]
        refine iteF ?_
        refine ⟨_, rfl, rfl, _, rfl, ?_⟩
        rw [show decide (V.ref p = V.non) = false from decide_eq_false (by intro h; cases h)]
        refine iteF ?_
        refine ⟨_, rfl, p, _, _, .bl true, rfl, rfl, SqT.of hp14, at_of (j := 0) rfl rfl, ?_⟩
        refine ⟨true, true, rfl, rfl, _, rfl, ?_⟩
        refine iteF ?_
        refine ⟨_, rfl, p, _, _, .str z, rfl, rfl, SqT.of hp14, at_of (j := 1) rfl rfl, _, _, _, _, true, rfl, .ty "str", .base (.str z), kit_ty (by decide +kernel), true, rfl, ?_⟩
        refine iteF ?_
        refine ⟨_, rfl, p, _, _, .str z, rfl, rfl, SqT.of hp14, at_of (j := 1) rfl rfl, _, rfl, rfl, _, rfl, ?_⟩
        rw [show decide (V.str z = wrongV (.error z)) = true from decide_eq_true rfl]
        refine iteT ?_
        refine ⟨_, rfl, _, rfl, pa, ra, ps, qs, hs, rfl, t14 _ _ (gh13 _ _ hpa9), t14 _ _ (gh13 _ _ hra), LL.mono (gh13.trans t14) hLr, smR, fun _ H15 t15 => ?_, fun z hz => by rw [ckR] at hz; cases hz⟩
        exact ⟨rfl, k H15⟩
end
end OA

namespace OA
open PySem PySem.Spec PyProof.Rows L2
theorem all_mk {l : PySem.W.OpenLaw} {w : World} {K : PySem.W.Frag} {h : Heap} {mg : Str → Option Value} {fa C : Addr} (X : K.In h) (G : h.Ns mainGlobals mg) (hfa : mg "law" = some (.ref fa))
    {C_AgreeError : Addr}
    {C_OtherPlaces : Addr}
    {C_BadPattern : Addr}
    {nm_BadPattern qq_BadPattern : Str} {N_BadPattern : Addr} {bs_BadPattern : List Value} {sn_BadPattern : List Str} {sub_BadPattern : List Value} {ab_BadPattern : Bool} {col_BadPattern : Option Bool} {dd_BadPattern : Option Addr} {m0_BadPattern m1_BadPattern m2_BadPattern m3_BadPattern m5_BadPattern : Option Value}
    {f_is_value : Addr} {od_is_value an_is_value : Option Addr} {sl_is_value : Array (Option Value)} {oc_is_value kV_is_value dc_is_value pm_is_value cd_is_value ct_is_value : Value}
    {f_is_constant : Addr} {od_is_constant an_is_constant : Option Addr} {sl_is_constant : Array (Option Value)} {oc_is_constant kV_is_constant dc_is_constant pm_is_constant cd_is_constant ct_is_constant : Value}
    {f_BadPattern___init__ : Addr} {od_BadPattern___init__ an_BadPattern___init__ : Option Addr} {sl_BadPattern___init__ : Array (Option Value)} {oc_BadPattern___init__ kV_BadPattern___init__ dc_BadPattern___init__ pm_BadPattern___init__ cd_BadPattern___init__ ct_BadPattern___init__ : Value}
    {f_check_blocks : Addr} {od_check_blocks an_check_blocks : Option Addr} {sl_check_blocks : Array (Option Value)} {oc_check_blocks kV_check_blocks dc_check_blocks pm_check_blocks cd_check_blocks ct_check_blocks : Value}
    {f_ordered_block : Addr} {od_ordered_block an_ordered_block : Option Addr} {sl_ordered_block : Array (Option Value)} {oc_ordered_block kV_ordered_block dc_ordered_block pm_ordered_block cd_ordered_block ct_ordered_block : Value}
    {f_ordered_blocks : Addr} {od_ordered_blocks an_ordered_blocks : Option Addr} {sl_ordered_blocks : Array (Option Value)} {oc_ordered_blocks kV_ordered_blocks dc_ordered_blocks pm_ordered_blocks cd_ordered_blocks ct_ordered_blocks : Value}
    {f_Pattern___init__ : Addr} {od_Pattern___init__ an_Pattern___init__ : Option Addr} {sl_Pattern___init__ : Array (Option Value)} {oc_Pattern___init__ kV_Pattern___init__ dc_Pattern___init__ pm_Pattern___init__ cd_Pattern___init__ ct_Pattern___init__ : Value}
    {f_draw : Addr} {od_draw an_draw : Option Addr} {sl_draw : Array (Option Value)} {oc_draw kV_draw dc_draw pm_draw cd_draw ct_draw : Value}
    {f_get_state : Addr} {od_get_state an_get_state : Option Addr} {sl_get_state : Array (Option Value)} {oc_get_state kV_get_state dc_get_state pm_get_state cd_get_state ct_get_state : Value}
    {f_get_words : Addr} {od_get_words an_get_words : Option Addr} {sl_get_words : Array (Option Value)} {oc_get_words kV_get_words dc_get_words pm_get_words cd_get_words ct_get_words : Value}
    {f_get_constants : Addr} {od_get_constants an_get_constants : Option Addr} {sl_get_constants : Array (Option Value)} {oc_get_constants kV_get_constants dc_get_constants pm_get_constants cd_get_constants ct_get_constants : Value}
    {f_places_drawn : Addr} {od_places_drawn an_places_drawn : Option Addr} {sl_places_drawn : Array (Option Value)} {oc_places_drawn kV_places_drawn dc_places_drawn pm_places_drawn cd_places_drawn ct_places_drawn : Value}
    {f_get_labels : Addr} {od_get_labels an_get_labels : Option Addr} {sl_get_labels : Array (Option Value)} {oc_get_labels kV_get_labels dc_get_labels pm_get_labels cd_get_labels ct_get_labels : Value}
    {f_get_tags : Addr} {od_get_tags an_get_tags : Option Addr} {sl_get_tags : Array (Option Value)} {oc_get_tags kV_get_tags dc_get_tags pm_get_tags cd_get_tags ct_get_tags : Value}
    {f_get_lists : Addr} {od_get_lists an_get_lists : Option Addr} {sl_get_lists : Array (Option Value)} {oc_get_lists kV_get_lists dc_get_lists pm_get_lists cd_get_lists ct_get_lists : Value}
    {f_shuffled : Addr} {od_shuffled an_shuffled : Option Addr} {sl_shuffled : Array (Option Value)} {oc_shuffled kV_shuffled dc_shuffled pm_shuffled cd_shuffled ct_shuffled : Value}
    {f_get_handed : Addr} {od_get_handed an_get_handed : Option Addr} {sl_get_handed : Array (Option Value)} {oc_get_handed kV_get_handed dc_get_handed pm_get_handed cd_get_handed ct_get_handed : Value}
    {f__law_is_constant : Addr} {od__law_is_constant an__law_is_constant : Option Addr} {sl__law_is_constant : Array (Option Value)} {oc__law_is_constant kV__law_is_constant dc__law_is_constant pm__law_is_constant cd__law_is_constant ct__law_is_constant : Value}
    {f_first_wrong : Addr} {od_first_wrong an_first_wrong : Option Addr} {sl_first_wrong : Array (Option Value)} {oc_first_wrong kV_first_wrong dc_first_wrong pm_first_wrong cd_first_wrong ct_first_wrong : Value}
    {f_refusal : Addr} {od_refusal an_refusal : Option Addr} {sl_refusal : Array (Option Value)} {oc_refusal kV_refusal dc_refusal pm_refusal cd_refusal ct_refusal : Value}
    {f_get_spoil : Addr} {od_get_spoil an_get_spoil : Option Addr} {sl_get_spoil : Array (Option Value)} {oc_get_spoil kV_get_spoil dc_get_spoil pm_get_spoil cd_get_spoil ct_get_spoil : Value}
    {f_law : Addr} {od_law an_law : Option Addr} {sl_law : Array (Option Value)} {oc_law kV_law dc_law pm_law cd_law ct_law : Value}
    {t_SIGNS : Tok}
    {t_LONGEST_VALUE : Tok}
    (aC : PySem.W.nsIn K mainGlobals "Pattern" = some (some (.ref C))) (pg : PySem.W.plainGet K C Str.empty = true) (hd : PySem.W.hasDictIn K C = true) (po : PySem.W.plainOver K C = true) (sa : PySem.W.findIn K (.ref C) "__setattr__" = some (some (.builtin "object.__setattr__"))) (mk : PySem.W.makesIn K C = true) (kc : PySem.W.keepIn K (.ref C) = true) (n1 : PySem.W.findIn K (.ref C) "places" = some none) (n2 : PySem.W.findIn K (.ref C) "parts" = some none)
    (g_AgreeError : PySem.W.nsIn K mainGlobals "AgreeError" = some (some (.ref C_AgreeError)))
    (g_OtherPlaces : PySem.W.nsIn K mainGlobals "OtherPlaces" = some (some (.ref C_OtherPlaces)))
    (g_BadPattern : PySem.W.nsIn K mainGlobals "BadPattern" = some (some (.ref C_BadPattern)))
    (x_BadPattern : K.lookup C_BadPattern = some (PySem.excClassObj nm_BadPattern qq_BadPattern C_BadPattern N_BadPattern bs_BadPattern [.ref C_AgreeError, .type "ValueError", .type "Exception", .type "BaseException", .type "object"] true sn_BadPattern sub_BadPattern ab_BadPattern col_BadPattern dd_BadPattern m0_BadPattern m1_BadPattern m2_BadPattern m3_BadPattern m5_BadPattern "ValueError.__new__"))
    (sa_BadPattern : PySem.W.findIn K (.ref C_BadPattern) "__setattr__" = some (some (.builtin "object.__setattr__")))
    (ga_BadPattern : PySem.W.findIn K (.ref C_BadPattern) "__getattribute__" = some (some (.builtin "BaseException.__getattribute__")))
    (gg_BadPattern : PySem.W.findIn K (.ref C_BadPattern) "__getattr__" = some none)
    (eb_BadPattern : PySem.W.subIn K (.ref C_BadPattern) (.type "BaseException") = some true)
    (ty_BadPattern : PySem.W.typeIn K (.ref C_BadPattern) = some (.type "type"))
    (hd_BadPattern : PySem.W.hasDictIn K C_BadPattern = true)
    (kp_BadPattern : PySem.W.keepIn K (.ref C_BadPattern) = true)
    (ca_BadPattern : PySem.W.findIn K (.ref C_BadPattern) "__class__" = some (some (.builtin "object.__class__")))
    (mr_BadPattern : PySem.W.mroIn K C_BadPattern (.type "object") = some true)
    (ss_BadPattern : PySem.W.subIn K (.ref C_BadPattern) (.ref C_BadPattern) = some true)
    (no_BadPattern_place : PySem.W.findIn K (.ref C_BadPattern) "place" = some none)
    (a_is_value : PySem.W.nsIn K mainGlobals "is_value" = some (some (.ref f_is_value)))
    (l_is_value : K.lookup f_is_value = some ⟨oc_is_value, od_is_value, .func (PySem.W.fnOf "is_value" "is_value" (defArgs (topS 9)) (defBody (topS 9)) (defScope (topS 9)) .none kV_is_value dc_is_value pm_is_value an_is_value cd_is_value ct_is_value), sl_is_value⟩) (o_is_value : PySem.W.codeIn K cd_is_value "is_value" = true) (k_is_value : PySem.W.keepIn K (.ref f_is_value) = true)
    (a_is_constant : PySem.W.nsIn K mainGlobals "is_constant" = some (some (.ref f_is_constant)))
    (l_is_constant : K.lookup f_is_constant = some ⟨oc_is_constant, od_is_constant, .func (PySem.W.fnOf "is_constant" "is_constant" (defArgs (topS 10)) (defBody (topS 10)) (defScope (topS 10)) .none kV_is_constant dc_is_constant pm_is_constant an_is_constant cd_is_constant ct_is_constant), sl_is_constant⟩) (o_is_constant : PySem.W.codeIn K cd_is_constant "is_constant" = true) (k_is_constant : PySem.W.keepIn K (.ref f_is_constant) = true)
    (a_BadPattern___init__ : PySem.W.findIn K (.ref C_BadPattern) "__init__" = some (some (.ref f_BadPattern___init__))) (i_BadPattern___init__ : PySem.W.typeIn K (.ref f_BadPattern___init__) = some (.type "function"))
    (l_BadPattern___init__ : K.lookup f_BadPattern___init__ = some ⟨oc_BadPattern___init__, od_BadPattern___init__, .func (PySem.W.fnOf "__init__" "BadPattern.__init__" (defArgs (inClass (topS 3) 0)) (defBody (inClass (topS 3) 0)) (defScope (inClass (topS 3) 0)) .none kV_BadPattern___init__ dc_BadPattern___init__ pm_BadPattern___init__ an_BadPattern___init__ cd_BadPattern___init__ ct_BadPattern___init__), sl_BadPattern___init__⟩) (o_BadPattern___init__ : PySem.W.codeIn K cd_BadPattern___init__ "BadPattern.__init__" = true) (k_BadPattern___init__ : PySem.W.keepIn K (.ref f_BadPattern___init__) = true)
    (a_check_blocks : PySem.W.nsIn K mainGlobals "check_blocks" = some (some (.ref f_check_blocks)))
    (l_check_blocks : K.lookup f_check_blocks = some ⟨oc_check_blocks, od_check_blocks, .func (PySem.W.fnOf "check_blocks" "check_blocks" (defArgs (topS 12)) (defBody (topS 12)) (defScope (topS 12)) .none kV_check_blocks dc_check_blocks pm_check_blocks an_check_blocks cd_check_blocks ct_check_blocks), sl_check_blocks⟩) (o_check_blocks : PySem.W.codeIn K cd_check_blocks "check_blocks" = true) (k_check_blocks : PySem.W.keepIn K (.ref f_check_blocks) = true)
    (a_ordered_block : PySem.W.nsIn K mainGlobals "ordered_block" = some (some (.ref f_ordered_block)))
    (l_ordered_block : K.lookup f_ordered_block = some ⟨oc_ordered_block, od_ordered_block, .func (PySem.W.fnOf "ordered_block" "ordered_block" (defArgs (topS 13)) (defBody (topS 13)) (defScope (topS 13)) .none kV_ordered_block dc_ordered_block pm_ordered_block an_ordered_block cd_ordered_block ct_ordered_block), sl_ordered_block⟩) (o_ordered_block : PySem.W.codeIn K cd_ordered_block "ordered_block" = true) (k_ordered_block : PySem.W.keepIn K (.ref f_ordered_block) = true)
    (a_ordered_blocks : PySem.W.nsIn K mainGlobals "ordered_blocks" = some (some (.ref f_ordered_blocks)))
    (l_ordered_blocks : K.lookup f_ordered_blocks = some ⟨oc_ordered_blocks, od_ordered_blocks, .func (PySem.W.fnOf "ordered_blocks" "ordered_blocks" (defArgs (topS 14)) (defBody (topS 14)) (defScope (topS 14)) .none kV_ordered_blocks dc_ordered_blocks pm_ordered_blocks an_ordered_blocks cd_ordered_blocks ct_ordered_blocks), sl_ordered_blocks⟩) (o_ordered_blocks : PySem.W.codeIn K cd_ordered_blocks "ordered_blocks" = true) (k_ordered_blocks : PySem.W.keepIn K (.ref f_ordered_blocks) = true)
    (a_Pattern___init__ : PySem.W.findIn K (.ref C) "__init__" = some (some (.ref f_Pattern___init__))) (i_Pattern___init__ : PySem.W.isFn K (.ref f_Pattern___init__) = true)
    (l_Pattern___init__ : K.lookup f_Pattern___init__ = some ⟨oc_Pattern___init__, od_Pattern___init__, .func (PySem.W.fnOf "__init__" "Pattern.__init__" (defArgs (inClass (topS 17) 0)) (defBody (inClass (topS 17) 0)) (defScope (inClass (topS 17) 0)) .none kV_Pattern___init__ dc_Pattern___init__ pm_Pattern___init__ an_Pattern___init__ cd_Pattern___init__ ct_Pattern___init__), sl_Pattern___init__⟩) (o_Pattern___init__ : PySem.W.codeIn K cd_Pattern___init__ "Pattern.__init__" = true) (k_Pattern___init__ : PySem.W.keepIn K (.ref f_Pattern___init__) = true)
    (a_draw : PySem.W.nsIn K mainGlobals "_law_draw" = some (some (.ref f_draw)))
    (l_draw : K.lookup f_draw = some ⟨oc_draw, od_draw, .func (PySem.W.fnOf "_law_draw" "_law_draw" (defArgs (topS 26)) (defBody (topS 26)) (defScope (topS 26)) .none kV_draw dc_draw pm_draw an_draw cd_draw ct_draw), sl_draw⟩) (o_draw : PySem.W.codeIn K cd_draw "_law_draw" = true) (k_draw : PySem.W.keepIn K (.ref f_draw) = true)
    (a_get_state : PySem.W.nsIn K mainGlobals "_law_get_state" = some (some (.ref f_get_state)))
    (l_get_state : K.lookup f_get_state = some ⟨oc_get_state, od_get_state, .func (PySem.W.fnOf "_law_get_state" "_law_get_state" (defArgs (topS 25)) (defBody (topS 25)) (defScope (topS 25)) .none kV_get_state dc_get_state pm_get_state an_get_state cd_get_state ct_get_state), sl_get_state⟩) (o_get_state : PySem.W.codeIn K cd_get_state "_law_get_state" = true) (k_get_state : PySem.W.keepIn K (.ref f_get_state) = true)
    (a_get_words : PySem.W.nsIn K mainGlobals "_law_get_words" = some (some (.ref f_get_words)))
    (l_get_words : K.lookup f_get_words = some ⟨oc_get_words, od_get_words, .func (PySem.W.fnOf "_law_get_words" "_law_get_words" (defArgs (topS 27)) (defBody (topS 27)) (defScope (topS 27)) .none kV_get_words dc_get_words pm_get_words an_get_words cd_get_words ct_get_words), sl_get_words⟩) (o_get_words : PySem.W.codeIn K cd_get_words "_law_get_words" = true) (k_get_words : PySem.W.keepIn K (.ref f_get_words) = true)
    (a_get_constants : PySem.W.nsIn K mainGlobals "_law_get_constants" = some (some (.ref f_get_constants)))
    (l_get_constants : K.lookup f_get_constants = some ⟨oc_get_constants, od_get_constants, .func (PySem.W.fnOf "_law_get_constants" "_law_get_constants" (defArgs (topS 28)) (defBody (topS 28)) (defScope (topS 28)) .none kV_get_constants dc_get_constants pm_get_constants an_get_constants cd_get_constants ct_get_constants), sl_get_constants⟩) (o_get_constants : PySem.W.codeIn K cd_get_constants "_law_get_constants" = true) (k_get_constants : PySem.W.keepIn K (.ref f_get_constants) = true)
    (a_places_drawn : PySem.W.nsIn K mainGlobals "_law_places_drawn" = some (some (.ref f_places_drawn)))
    (l_places_drawn : K.lookup f_places_drawn = some ⟨oc_places_drawn, od_places_drawn, .func (PySem.W.fnOf "_law_places_drawn" "_law_places_drawn" (defArgs (topS 19)) (defBody (topS 19)) (defScope (topS 19)) .none kV_places_drawn dc_places_drawn pm_places_drawn an_places_drawn cd_places_drawn ct_places_drawn), sl_places_drawn⟩) (o_places_drawn : PySem.W.codeIn K cd_places_drawn "_law_places_drawn" = true) (k_places_drawn : PySem.W.keepIn K (.ref f_places_drawn) = true)
    (a_get_labels : PySem.W.nsIn K mainGlobals "_law_get_labels" = some (some (.ref f_get_labels)))
    (l_get_labels : K.lookup f_get_labels = some ⟨oc_get_labels, od_get_labels, .func (PySem.W.fnOf "_law_get_labels" "_law_get_labels" (defArgs (topS 23)) (defBody (topS 23)) (defScope (topS 23)) .none kV_get_labels dc_get_labels pm_get_labels an_get_labels cd_get_labels ct_get_labels), sl_get_labels⟩) (o_get_labels : PySem.W.codeIn K cd_get_labels "_law_get_labels" = true) (k_get_labels : PySem.W.keepIn K (.ref f_get_labels) = true)
    (a_get_tags : PySem.W.nsIn K mainGlobals "_law_get_tags" = some (some (.ref f_get_tags)))
    (l_get_tags : K.lookup f_get_tags = some ⟨oc_get_tags, od_get_tags, .func (PySem.W.fnOf "_law_get_tags" "_law_get_tags" (defArgs (topS 20)) (defBody (topS 20)) (defScope (topS 20)) .none kV_get_tags dc_get_tags pm_get_tags an_get_tags cd_get_tags ct_get_tags), sl_get_tags⟩) (o_get_tags : PySem.W.codeIn K cd_get_tags "_law_get_tags" = true) (k_get_tags : PySem.W.keepIn K (.ref f_get_tags) = true)
    (a_get_lists : PySem.W.nsIn K mainGlobals "_law_get_lists" = some (some (.ref f_get_lists)))
    (l_get_lists : K.lookup f_get_lists = some ⟨oc_get_lists, od_get_lists, .func (PySem.W.fnOf "_law_get_lists" "_law_get_lists" (defArgs (topS 24)) (defBody (topS 24)) (defScope (topS 24)) .none kV_get_lists dc_get_lists pm_get_lists an_get_lists cd_get_lists ct_get_lists), sl_get_lists⟩) (o_get_lists : PySem.W.codeIn K cd_get_lists "_law_get_lists" = true) (k_get_lists : PySem.W.keepIn K (.ref f_get_lists) = true)
    (a_shuffled : PySem.W.nsIn K mainGlobals "_law_shuffled" = some (some (.ref f_shuffled)))
    (l_shuffled : K.lookup f_shuffled = some ⟨oc_shuffled, od_shuffled, .func (PySem.W.fnOf "_law_shuffled" "_law_shuffled" (defArgs (topS 22)) (defBody (topS 22)) (defScope (topS 22)) .none kV_shuffled dc_shuffled pm_shuffled an_shuffled cd_shuffled ct_shuffled), sl_shuffled⟩) (o_shuffled : PySem.W.codeIn K cd_shuffled "_law_shuffled" = true) (k_shuffled : PySem.W.keepIn K (.ref f_shuffled) = true)
    (a_get_handed : PySem.W.nsIn K mainGlobals "_law_get_handed" = some (some (.ref f_get_handed)))
    (l_get_handed : K.lookup f_get_handed = some ⟨oc_get_handed, od_get_handed, .func (PySem.W.fnOf "_law_get_handed" "_law_get_handed" (defArgs (topS 21)) (defBody (topS 21)) (defScope (topS 21)) .none kV_get_handed dc_get_handed pm_get_handed an_get_handed cd_get_handed ct_get_handed), sl_get_handed⟩) (o_get_handed : PySem.W.codeIn K cd_get_handed "_law_get_handed" = true) (k_get_handed : PySem.W.keepIn K (.ref f_get_handed) = true)
    (a__law_is_constant : PySem.W.nsIn K mainGlobals "_law_is_constant" = some (some (.ref f__law_is_constant)))
    (l__law_is_constant : K.lookup f__law_is_constant = some ⟨oc__law_is_constant, od__law_is_constant, .func (PySem.W.fnOf "_law_is_constant" "_law_is_constant" (defArgs (topS 29)) (defBody (topS 29)) (defScope (topS 29)) .none kV__law_is_constant dc__law_is_constant pm__law_is_constant an__law_is_constant cd__law_is_constant ct__law_is_constant), sl__law_is_constant⟩) (o__law_is_constant : PySem.W.codeIn K cd__law_is_constant "_law_is_constant" = true) (k__law_is_constant : PySem.W.keepIn K (.ref f__law_is_constant) = true)
    (a_first_wrong : PySem.W.nsIn K mainGlobals "_law_first_wrong" = some (some (.ref f_first_wrong)))
    (l_first_wrong : K.lookup f_first_wrong = some ⟨oc_first_wrong, od_first_wrong, .func (PySem.W.fnOf "_law_first_wrong" "_law_first_wrong" (defArgs (topS 30)) (defBody (topS 30)) (defScope (topS 30)) .none kV_first_wrong dc_first_wrong pm_first_wrong an_first_wrong cd_first_wrong ct_first_wrong), sl_first_wrong⟩) (o_first_wrong : PySem.W.codeIn K cd_first_wrong "_law_first_wrong" = true) (k_first_wrong : PySem.W.keepIn K (.ref f_first_wrong) = true)
    (a_refusal : PySem.W.nsIn K mainGlobals "_law_refusal" = some (some (.ref f_refusal)))
    (l_refusal : K.lookup f_refusal = some ⟨oc_refusal, od_refusal, .func (PySem.W.fnOf "_law_refusal" "_law_refusal" (defArgs (topS 32)) (defBody (topS 32)) (defScope (topS 32)) .none kV_refusal dc_refusal pm_refusal an_refusal cd_refusal ct_refusal), sl_refusal⟩) (o_refusal : PySem.W.codeIn K cd_refusal "_law_refusal" = true) (k_refusal : PySem.W.keepIn K (.ref f_refusal) = true)
    (a_get_spoil : PySem.W.nsIn K mainGlobals "_law_get_spoil" = some (some (.ref f_get_spoil)))
    (l_get_spoil : K.lookup f_get_spoil = some ⟨oc_get_spoil, od_get_spoil, .func (PySem.W.fnOf "_law_get_spoil" "_law_get_spoil" (defArgs (topS 31)) (defBody (topS 31)) (defScope (topS 31)) .none kV_get_spoil dc_get_spoil pm_get_spoil an_get_spoil cd_get_spoil ct_get_spoil), sl_get_spoil⟩) (o_get_spoil : PySem.W.codeIn K cd_get_spoil "_law_get_spoil" = true) (k_get_spoil : PySem.W.keepIn K (.ref f_get_spoil) = true)
    (a_law : PySem.W.nsIn K mainGlobals "law" = some (some (.ref f_law)))
    (l_law : K.lookup f_law = some ⟨oc_law, od_law, .func (PySem.W.fnOf "law" "law" (defArgs (topS 33)) (defBody (topS 33)) (defScope (topS 33)) .none kV_law dc_law pm_law an_law cd_law ct_law), sl_law⟩) (o_law : PySem.W.codeIn K cd_law "law" = true) (k_law : PySem.W.keepIn K (.ref f_law) = true)
    (z_len : PySem.W.nsIn K mainGlobals "len" = some none)
    (z_abs : PySem.W.nsIn K mainGlobals "abs" = some none)
    (z_int : PySem.W.nsIn K mainGlobals "int" = some none)
    (z_str : PySem.W.nsIn K mainGlobals "str" = some none)
    (z_list : PySem.W.nsIn K mainGlobals "list" = some none)
    (z_tuple : PySem.W.nsIn K mainGlobals "tuple" = some none)
    (z_range : PySem.W.nsIn K mainGlobals "range" = some none)
    (z_isinstance : PySem.W.nsIn K mainGlobals "isinstance" = some none)
    (z_any : PySem.W.nsIn K mainGlobals "any" = some none)
    (z_all : PySem.W.nsIn K mainGlobals "all" = some none)
    (z_sorted : PySem.W.nsIn K mainGlobals "sorted" = some none)
    (z_bool : PySem.W.nsIn K mainGlobals "bool" = some none)
    (z_ValueError : PySem.W.nsIn K mainGlobals "ValueError" = some none)
    (v_SIGNS : PySem.W.nsIn K mainGlobals "SIGNS" = some (some (.str "abcdefghijklmnopqrstuvwxyz0123456789" t_SIGNS)))
    (v_LONGEST_VALUE : PySem.W.nsIn K mainGlobals "LONGEST_VALUE" = some (some (.int 20 t_LONGEST_VALUE)))
    (q_mea : PySem.W.kitOne K (.ref C_BadPattern) (.ref C_AgreeError) = some true)
    (q_mev : PySem.W.kitOne K (.ref C_BadPattern) (.type "ValueError") = some true)
    (q_meo : PySem.W.kitOne K (.ref C_BadPattern) (.ref C_OtherPlaces) = some false)
    (q_ha : PySem.W.findIn K (.ref C) "__class__" = some (some (.builtin "object.__class__")))
    (q_hn : PySem.W.specialIn K (.builtin "object.__class__") "__get__" = some (some (.builtin "getset_descriptor.__get__")))
    (q_htk : PySem.W.takesIn K (.builtin "object.__class__") = some true)
    (q_hm : PySem.W.mroIn K C (.type "object") = some true)
    (q_me : PySem.W.kitOne K (.ref C) (.ref C) = some true)
    (q_sf : PySem.W.selfFirst K C = true) :
    ∃ fd : FuncData, (∀ (s : Shared) (v : Value), BindsTo s fd ⟨[v], []⟩ [("_law_script", v)]) ∧ ∀ base : Heap, K.In base → base.Ns mainGlobals mg → FnOk l.prog w K mg base CX0 7 fa fd ["_law_script"] (spLaw K) := by
  have e := hfa.symm.trans (PySem.W.mg_of X G a_law)
  cases e
  have T : Txt K mg := ⟨PySem.W.mg_none_of X G z_len, PySem.W.mg_none_of X G z_abs, PySem.W.mg_none_of X G z_int, PySem.W.mg_none_of X G z_str, PySem.W.mg_none_of X G z_list, PySem.W.mg_none_of X G z_tuple, PySem.W.mg_none_of X G z_range, PySem.W.mg_none_of X G z_isinstance, PySem.W.mg_none_of X G z_any, PySem.W.mg_none_of X G z_all, PySem.W.mg_none_of X G z_sorted, PySem.W.mg_none_of X G z_bool, PySem.W.mg_none_of X G z_ValueError, ⟨_, PySem.W.mg_of X G v_SIGNS⟩, ⟨_, PySem.W.mg_of X G v_LONGEST_VALUE⟩⟩
  have TP : PTxt K mg C := ⟨⟨pg, hd, po, sa⟩, n1, n2⟩
  have TQ : PTx2 K mg C := ⟨⟨⟨pg, hd, po, sa⟩, q_ha, q_hn, q_htk, q_hm, q_me⟩, q_sf, PySem.W.mg_of X G aC⟩
  have oex_BadPattern : OexC K C_BadPattern := ⟨⟨_, _, _, _, _, _, _, _, _, _, _, _, _, _, _, x_BadPattern, (show PySem.HandSPX.refsVE PySem.HandSPX.veTail = true from by decide +kernel)⟩, sa_BadPattern, eb_BadPattern, ty_BadPattern, kp_BadPattern⟩
  have exc_BadPattern : ExcC K C_BadPattern := ⟨ga_BadPattern, gg_BadPattern, eb_BadPattern, hd_BadPattern, ca_BadPattern, q_hn, q_htk, mr_BadPattern⟩
  have xf_BadPattern : XfC K C_BadPattern := ⟨ga_BadPattern, gg_BadPattern, eb_BadPattern, hd_BadPattern⟩
  have exm_BadPattern := PySem.W.exm_ref eb_BadPattern hd_BadPattern ty_BadPattern ss_BadPattern
  have F_is_value := fun_mk (st := (topS 9)) l_is_value o_is_value k_is_value
  have b_is_value := F_is_value.binds (ps := ["thing"]) fun _ _ _ _ _ _ us hl => match us, hl with | [_], _ => rfl
  have F_is_constant := fun_mk (st := (topS 10)) l_is_constant o_is_constant k_is_constant
  have b_is_constant := F_is_constant.binds (ps := ["thing"]) fun _ _ _ _ _ _ us hl => match us, hl with | [_], _ => rfl
  have F_BadPattern___init__ := fun_mk (st := (inClass (topS 3) 0)) l_BadPattern___init__ o_BadPattern___init__ k_BadPattern___init__
  have b_BadPattern___init__ := F_BadPattern___init__.binds (ps := ["self", "place"]) fun _ _ _ _ _ _ us hl => match us, hl with | [_, _], _ => rfl
  have F_check_blocks := fun_mk (st := (topS 12)) l_check_blocks o_check_blocks k_check_blocks
  have b_check_blocks := F_check_blocks.binds (ps := ["places", "blocks"]) fun _ _ _ _ _ _ us hl => match us, hl with | [_, _], _ => rfl
  have F_ordered_block := fun_mk (st := (topS 13)) l_ordered_block o_ordered_block k_ordered_block
  have b_ordered_block := F_ordered_block.binds (ps := ["places", "block"]) fun _ _ _ _ _ _ us hl => match us, hl with | [_, _], _ => rfl
  have F_ordered_blocks := fun_mk (st := (topS 14)) l_ordered_blocks o_ordered_blocks k_ordered_blocks
  have b_ordered_blocks := F_ordered_blocks.binds (ps := ["places", "blocks"]) fun _ _ _ _ _ _ us hl => match us, hl with | [_, _], _ => rfl
  have F_Pattern___init__ := fun_mk (st := (inClass (topS 17) 0)) l_Pattern___init__ o_Pattern___init__ k_Pattern___init__
  have b_Pattern___init__ := F_Pattern___init__.binds (ps := ["self", "places", "blocks"]) fun _ _ _ _ _ _ us hl => match us, hl with | [_, _, _], _ => rfl
  have F_draw := fun_mk (st := (topS 26)) l_draw o_draw k_draw
  have b_draw := F_draw.binds (ps := ["_law_st", "_law_limit"]) fun _ _ _ _ _ _ us hl => match us, hl with | [_, _], _ => rfl
  have F_get_state := fun_mk (st := (topS 25)) l_get_state o_get_state k_get_state
  have b_get_state := F_get_state.binds (ps := ["_law_script"]) fun _ _ _ _ _ _ us hl => match us, hl with | [_], _ => rfl
  have F_get_words := fun_mk (st := (topS 27)) l_get_words o_get_words k_get_words
  have b_get_words := F_get_words.binds (ps := ["_law_st", "_law_most", "_law_count"]) fun _ _ _ _ _ _ us hl => match us, hl with | [_, _, _], _ => rfl
  have F_get_constants := fun_mk (st := (topS 28)) l_get_constants o_get_constants k_get_constants
  have b_get_constants := F_get_constants.binds (ps := ["_law_st", "_law_count"]) fun _ _ _ _ _ _ us hl => match us, hl with | [_, _], _ => rfl
  have F_places_drawn := fun_mk (st := (topS 19)) l_places_drawn o_places_drawn k_places_drawn
  have b_places_drawn := F_places_drawn.binds (ps := ["_law_state", "_law_most"]) fun _ _ _ _ _ _ us hl => match us, hl with | [_, _], _ => rfl
  have F_get_labels := fun_mk (st := (topS 23)) l_get_labels o_get_labels k_get_labels
  have b_get_labels := F_get_labels.binds (ps := ["_law_state", "_law_count", "_law_most"]) fun _ _ _ _ _ _ us hl => match us, hl with | [_, _, _], _ => rfl
  have F_get_tags := fun_mk (st := (topS 20)) l_get_tags o_get_tags k_get_tags
  have b_get_tags := F_get_tags.binds (ps := ["_law_state", "_law_labels", "_law_pool"]) fun _ _ _ _ _ _ us hl => match us, hl with | [_, _, _], _ => rfl
  have F_get_lists := fun_mk (st := (topS 24)) l_get_lists o_get_lists k_get_lists
  have b_get_lists := F_get_lists.binds (ps := ["_law_places", "_law_labels", "_law_tags"]) fun _ _ _ _ _ _ us hl => match us, hl with | [_, _, _], _ => rfl
  have F_shuffled := fun_mk (st := (topS 22)) l_shuffled o_shuffled k_shuffled
  have b_shuffled := F_shuffled.binds (ps := ["_law_state", "_law_things"]) fun _ _ _ _ _ _ us hl => match us, hl with | [_, _], _ => rfl
  have F_get_handed := fun_mk (st := (topS 21)) l_get_handed o_get_handed k_get_handed
  have b_get_handed := F_get_handed.binds (ps := ["_law_state", "_law_lists"]) fun _ _ _ _ _ _ us hl => match us, hl with | [_, _], _ => rfl
  have F__law_is_constant := fun_mk (st := (topS 29)) l__law_is_constant o__law_is_constant k__law_is_constant
  have b__law_is_constant := F__law_is_constant.binds (ps := ["_law_place"]) fun _ _ _ _ _ _ us hl => match us, hl with | [_], _ => rfl
  have F_first_wrong := fun_mk (st := (topS 30)) l_first_wrong o_first_wrong k_first_wrong
  have b_first_wrong := F_first_wrong.binds (ps := ["_law_places", "_law_blocks"]) fun _ _ _ _ _ _ us hl => match us, hl with | [_, _], _ => rfl
  have F_refusal := fun_mk (st := (topS 32)) l_refusal o_refusal k_refusal
  have b_refusal := F_refusal.binds (ps := ["_law_places", "_law_blocks"]) fun _ _ _ _ _ _ us hl => match us, hl with | [_, _], _ => rfl
  have F_get_spoil := fun_mk (st := (topS 31)) l_get_spoil o_get_spoil k_get_spoil
  have b_get_spoil := F_get_spoil.binds (ps := ["_law_state", "_law_places", "_law_pool", "_law_blocks"]) fun _ _ _ _ _ _ us hl => match us, hl with | [_, _, _, _], _ => rfl
  have F_law := fun_mk (st := (topS 33)) l_law o_law k_law
  have TE : ETb K mg C_BadPattern C_AgreeError C_OtherPlaces := ⟨PySem.W.mg_of X G g_BadPattern, PySem.W.mg_of X G g_AgreeError, PySem.W.mg_of X G g_OtherPlaces, exc_BadPattern, xf_BadPattern, no_BadPattern_place, q_mea, q_mev, q_meo, exm_BadPattern⟩
  refine ⟨PySem.W.fnOf "law" "law" (defArgs (topS 33)) (defBody (topS 33)) (defScope (topS 33)) .none kV_law dc_law pm_law an_law cd_law ct_law, fun s v => .of_eq rfl, fun base _ _ => ?_⟩
  have c_is_value : Callee l.prog w K mg base "is_value" ["thing"] spIsVal 1 := ⟨_, _, ok_is_value F_is_value T, b_is_value, PySem.W.mg_of X G a_is_value, k_is_value⟩
  have c_is_constant : Callee l.prog w K mg base "is_constant" ["thing"] spIsCon 2 := ⟨_, _, ok_is_constant F_is_constant T c_is_value, b_is_constant, PySem.W.mg_of X G a_is_constant, k_is_constant⟩
  have c_BadPattern : ErrMk l.prog w K mg base "BadPattern" C_BadPattern ["self", "place"] (spErr1 C_BadPattern "place") 1 := ⟨_, _, ok_BadPattern F_BadPattern___init__ oex_BadPattern no_BadPattern_place, b_BadPattern___init__, PySem.W.mg_of X G g_BadPattern, oex_BadPattern, a_BadPattern___init__, i_BadPattern___init__⟩
  have c_check_blocks : CalleeX l.prog w K mg base "check_blocks" ["places", "blocks"] (spCheckX K C_BadPattern) 3 := ⟨_, _, ok_check_blocksX F_check_blocks T c_is_constant c_BadPattern, b_check_blocks, PySem.W.mg_of X G a_check_blocks, k_check_blocks⟩
  have c_ordered_block : Callee l.prog w K mg base "ordered_block" ["places", "block"] spOrdB 1 := ⟨_, _, ok_ordered_block F_ordered_block T, b_ordered_block, PySem.W.mg_of X G a_ordered_block, k_ordered_block⟩
  have c_ordered_blocks : Callee l.prog w K mg base "ordered_blocks" ["places", "blocks"] spOrdBs 2 := ⟨_, _, ok_ordered_blocks F_ordered_blocks T c_ordered_block, b_ordered_blocks, PySem.W.mg_of X G a_ordered_blocks, k_ordered_blocks⟩
  have c_Pattern : MakerX l.prog w K mg base "Pattern" C ["self", "places", "blocks"] (spInitX K C C_BadPattern) 4 := ⟨_, _, ok_initX F_Pattern___init__ T TP c_check_blocks c_ordered_blocks, b_Pattern___init__, PySem.W.mg_of X G aC, ⟨mk, a_Pattern___init__, i_Pattern___init__, kc⟩⟩
  have c_draw : Callee l.prog w K mg base "_law_draw" ["_law_st", "_law_limit"] spDraw 1 := ⟨_, _, ok_draw F_draw T, b_draw, PySem.W.mg_of X G a_draw, k_draw⟩
  have c_get_state : Callee l.prog w K mg base "_law_get_state" ["_law_script"] (spState K) 1 := ⟨_, _, ok_get_state F_get_state T, b_get_state, PySem.W.mg_of X G a_get_state, k_get_state⟩
  have c_get_words : Callee l.prog w K mg base "_law_get_words" ["_law_st", "_law_most", "_law_count"] spWords 2 := ⟨_, _, ok_get_words F_get_words T c_draw, b_get_words, PySem.W.mg_of X G a_get_words, k_get_words⟩
  have c_get_constants : Callee l.prog w K mg base "_law_get_constants" ["_law_st", "_law_count"] spConsts 3 := ⟨_, _, ok_get_constants F_get_constants T c_get_words, b_get_constants, PySem.W.mg_of X G a_get_constants, k_get_constants⟩
  have c_places_drawn : Callee l.prog w K mg base "_law_places_drawn" ["_law_state", "_law_most"] spPlaces 3 := ⟨_, _, ok_places_drawn F_places_drawn T c_draw c_get_words, b_places_drawn, PySem.W.mg_of X G a_places_drawn, k_places_drawn⟩
  have c_get_labels : Callee l.prog w K mg base "_law_get_labels" ["_law_state", "_law_count", "_law_most"] spLabels 2 := ⟨_, _, ok_get_labels F_get_labels T c_draw, b_get_labels, PySem.W.mg_of X G a_get_labels, k_get_labels⟩
  have c_get_tags : Callee l.prog w K mg base "_law_get_tags" ["_law_state", "_law_labels", "_law_pool"] spTags 2 := ⟨_, _, ok_get_tags F_get_tags T c_draw, b_get_tags, PySem.W.mg_of X G a_get_tags, k_get_tags⟩
  have c_get_lists : Callee l.prog w K mg base "_law_get_lists" ["_law_places", "_law_labels", "_law_tags"] spLists 1 := ⟨_, _, ok_get_lists F_get_lists T, b_get_lists, PySem.W.mg_of X G a_get_lists, k_get_lists⟩
  have c_shuffled : Callee l.prog w K mg base "_law_shuffled" ["_law_state", "_law_things"] spShuffled 2 := ⟨_, _, ok_shuffled F_shuffled T c_draw, b_shuffled, PySem.W.mg_of X G a_shuffled, k_shuffled⟩
  have c_get_handed : Callee l.prog w K mg base "_law_get_handed" ["_law_state", "_law_lists"] spHanded 3 := ⟨_, _, ok_get_handed F_get_handed T c_draw c_shuffled, b_get_handed, PySem.W.mg_of X G a_get_handed, k_get_handed⟩
  have c__law_is_constant : Callee l.prog w K mg base "_law_is_constant" ["_law_place"] spQ 1 := ⟨_, _, ok__law_is_constant F__law_is_constant T, b__law_is_constant, PySem.W.mg_of X G a__law_is_constant, k__law_is_constant⟩
  have c_first_wrong : Callee l.prog w K mg base "_law_first_wrong" ["_law_places", "_law_blocks"] spWrong 2 := ⟨_, _, ok_first_wrong F_first_wrong T c__law_is_constant, b_first_wrong, PySem.W.mg_of X G a_first_wrong, k_first_wrong⟩
  have c_refusal : Callee l.prog w K mg base "_law_refusal" ["_law_places", "_law_blocks"] spRefusal 6 := ⟨_, _, ok_refusal F_refusal T TE c_Pattern, b_refusal, PySem.W.mg_of X G a_refusal, k_refusal⟩
  have c_get_spoil : Callee l.prog w K mg base "_law_get_spoil" ["_law_state", "_law_places", "_law_pool", "_law_blocks"] (spSpoil PmB) 2 := ⟨_, _, ok_get_spoil PmB F_get_spoil T c_draw, b_get_spoil, PySem.W.mg_of X G a_get_spoil, k_get_spoil⟩
  exact ok_law F_law T c_get_state c_draw c_places_drawn c_get_constants c_get_labels c_get_tags c_get_lists c_get_handed c_get_spoil c_first_wrong c_refusal
theorem walk {l : PySem.W.OpenLaw} {q : Program} {loose : List Str} {XP : (Str → Option Value) → Heap → Prop} {YP : World → Heap → Prop} {d : DefRec} {K : Params → PySem.W.Frag} (hn : l.most = some 63) (hdf : d.params.defaults = [])
    (hY : ∀ (w : World) (h : Heap), YP w h → (K w.params).In h)
    (F : ∀ (w : World) (mg : Str → Option Value) (fa : Addr) (h : Heap), (K w.params).In h → h.Ns mainGlobals mg → mg d.name = some (.ref fa) →
      ∃ fd : FuncData, (∀ (s : Shared) (u : Value), BindsTo s fd ⟨[u], []⟩ [("_law_script", u)]) ∧ ∀ base : Heap, (K w.params).In base → base.Ns mainGlobals mg → FnOk l.prog w (K w.params) mg base CX0 7 fa fd ["_law_script"] (spLaw (K w.params))) :
    PySem.W.WalkO q loose XP YP l.row.toRowW d [] (fun f vs => PySem.call f vs) :=
  L2.walk_of (n := 63) (k := 7) (x := "_law_script") (CX := fun _ => CX0) (sp := fun w => spLaw (K w.params)) hn (by decide) hdf ⟨rfl, by decide, by decide⟩ hY F (fun _ _ a ns hl _ hS => ⟨a, ns, rfl, hS, hl, fun _ => rfl⟩) fun _ _ _ _ _ z => z
end OA
open PySem PySem.W PyProof.Rows
set_option maxRecDepth 100000 in
set_option maxHeartbeats 0 in
theorem PySem.Challenge.cw_ownersagree_k10_patterns_refused_holds : PySem.Challenge.rw_ownersagree_k10_patterns_refused.Holds := by
  w_on; o_law; k_head; (case hw => w_witness2)
  k_fill
  refine OA.walk (l := PySem.Challenge.rw_ownersagree_k10_patterns_refused) rfl rfl (fun w h Y => PySem.W.kIn_of Y) ?F
  case F =>
    intro w mg fa h KX G hmg
    refine' OA.all_mk KX G hmg ?aC ?pg ?hd ?po ?sa ?mk ?kc ?n1 ?n2 ?g_AgreeError ?g_OtherPlaces ?g_BadPattern ?x_BadPattern ?sa_BadPattern ?ga_BadPattern ?gg_BadPattern ?eb_BadPattern ?ty_BadPattern ?hd_BadPattern ?kp_BadPattern ?ca_BadPattern ?mr_BadPattern ?ss_BadPattern ?no_BadPattern_place ?a_is_value ?l_is_value ?o_is_value ?k_is_value ?a_is_constant ?l_is_constant ?o_is_constant ?k_is_constant ?a_BadPattern___init__ ?i_BadPattern___init__ ?l_BadPattern___init__ ?o_BadPattern___init__ ?k_BadPattern___init__ ?a_check_blocks ?l_check_blocks ?o_check_blocks ?k_check_blocks ?a_ordered_block ?l_ordered_block ?o_ordered_block ?k_ordered_block ?a_ordered_blocks ?l_ordered_blocks ?o_ordered_blocks ?k_ordered_blocks ?a_Pattern___init__ ?i_Pattern___init__ ?l_Pattern___init__ ?o_Pattern___init__ ?k_Pattern___init__ ?a_draw ?l_draw ?o_draw ?k_draw ?a_get_state ?l_get_state ?o_get_state ?k_get_state ?a_get_words ?l_get_words ?o_get_words ?k_get_words ?a_get_constants ?l_get_constants ?o_get_constants ?k_get_constants ?a_places_drawn ?l_places_drawn ?o_places_drawn ?k_places_drawn ?a_get_labels ?l_get_labels ?o_get_labels ?k_get_labels ?a_get_tags ?l_get_tags ?o_get_tags ?k_get_tags ?a_get_lists ?l_get_lists ?o_get_lists ?k_get_lists ?a_shuffled ?l_shuffled ?o_shuffled ?k_shuffled ?a_get_handed ?l_get_handed ?o_get_handed ?k_get_handed ?a__law_is_constant ?l__law_is_constant ?o__law_is_constant ?k__law_is_constant ?a_first_wrong ?l_first_wrong ?o_first_wrong ?k_first_wrong ?a_refusal ?l_refusal ?o_refusal ?k_refusal ?a_get_spoil ?l_get_spoil ?o_get_spoil ?k_get_spoil ?a_law ?l_law ?o_law ?k_law ?z_len ?z_abs ?z_int ?z_str ?z_list ?z_tuple ?z_range ?z_isinstance ?z_any ?z_all ?z_sorted ?z_bool ?z_ValueError ?v_SIGNS ?v_LONGEST_VALUE ?q_mea ?q_mev ?q_meo ?q_ha ?q_hn ?q_htk ?q_hm ?q_me ?q_sf
    (case aC => k_is)
    (case pg => k_is)
    (case hd => k_is)
    (case po => k_is)
    (case sa => k_is)
    (case mk => k_is)
    (case kc => k_is)
    (case n1 => k_is)
    (case n2 => k_is)
    (case g_AgreeError => k_is)
    (case g_OtherPlaces => k_is)
    (case g_BadPattern => k_is)
    (case x_BadPattern => k_is)
    (case sa_BadPattern => k_is)
    (case ga_BadPattern => k_is)
    (case gg_BadPattern => k_is)
    (case eb_BadPattern => k_is)
    (case ty_BadPattern => k_is)
    (case hd_BadPattern => k_is)
    (case kp_BadPattern => k_is)
    (case ca_BadPattern => k_is)
    (case mr_BadPattern => k_is)
    (case ss_BadPattern => k_is)
    (case no_BadPattern_place => k_is)
    (case a_is_value => k_is)
    (case l_is_value => k_is)
    (case o_is_value => k_is)
    (case k_is_value => k_is)
    (case a_is_constant => k_is)
    (case l_is_constant => k_is)
    (case o_is_constant => k_is)
    (case k_is_constant => k_is)
    (case a_BadPattern___init__ => k_is)
    (case i_BadPattern___init__ => k_is)
    (case l_BadPattern___init__ => k_is)
    (case o_BadPattern___init__ => k_is)
    (case k_BadPattern___init__ => k_is)
    (case a_check_blocks => k_is)
    (case l_check_blocks => k_is)
    (case o_check_blocks => k_is)
    (case k_check_blocks => k_is)
    (case a_ordered_block => k_is)
    (case l_ordered_block => k_is)
    (case o_ordered_block => k_is)
    (case k_ordered_block => k_is)
    (case a_ordered_blocks => k_is)
    (case l_ordered_blocks => k_is)
    (case o_ordered_blocks => k_is)
    (case k_ordered_blocks => k_is)
    (case a_Pattern___init__ => k_is)
    (case i_Pattern___init__ => k_is)
    (case l_Pattern___init__ => k_is)
    (case o_Pattern___init__ => k_is)
    (case k_Pattern___init__ => k_is)
    (case a_draw => k_is)
    (case l_draw => k_is)
    (case o_draw => k_is)
    (case k_draw => k_is)
    (case a_get_state => k_is)
    (case l_get_state => k_is)
    (case o_get_state => k_is)
    (case k_get_state => k_is)
    (case a_get_words => k_is)
    (case l_get_words => k_is)
    (case o_get_words => k_is)
    (case k_get_words => k_is)
    (case a_get_constants => k_is)
    (case l_get_constants => k_is)
    (case o_get_constants => k_is)
    (case k_get_constants => k_is)
    (case a_places_drawn => k_is)
    (case l_places_drawn => k_is)
    (case o_places_drawn => k_is)
    (case k_places_drawn => k_is)
    (case a_get_labels => k_is)
    (case l_get_labels => k_is)
    (case o_get_labels => k_is)
    (case k_get_labels => k_is)
    (case a_get_tags => k_is)
    (case l_get_tags => k_is)
    (case o_get_tags => k_is)
    (case k_get_tags => k_is)
    (case a_get_lists => k_is)
    (case l_get_lists => k_is)
    (case o_get_lists => k_is)
    (case k_get_lists => k_is)
    (case a_shuffled => k_is)
    (case l_shuffled => k_is)
    (case o_shuffled => k_is)
    (case k_shuffled => k_is)
    (case a_get_handed => k_is)
    (case l_get_handed => k_is)
    (case o_get_handed => k_is)
    (case k_get_handed => k_is)
    (case a__law_is_constant => k_is)
    (case l__law_is_constant => k_is)
    (case o__law_is_constant => k_is)
    (case k__law_is_constant => k_is)
    (case a_first_wrong => k_is)
    (case l_first_wrong => k_is)
    (case o_first_wrong => k_is)
    (case k_first_wrong => k_is)
    (case a_refusal => k_is)
    (case l_refusal => k_is)
    (case o_refusal => k_is)
    (case k_refusal => k_is)
    (case a_get_spoil => k_is)
    (case l_get_spoil => k_is)
    (case o_get_spoil => k_is)
    (case k_get_spoil => k_is)
    (case a_law => k_is)
    (case l_law => k_is)
    (case o_law => k_is)
    (case k_law => k_is)
    (case z_len => k_is)
    (case z_abs => k_is)
    (case z_int => k_is)
    (case z_str => k_is)
    (case z_list => k_is)
    (case z_tuple => k_is)
    (case z_range => k_is)
    (case z_isinstance => k_is)
    (case z_any => k_is)
    (case z_all => k_is)
    (case z_sorted => k_is)
    (case z_bool => k_is)
    (case z_ValueError => k_is)
    (case v_SIGNS => k_is)
    (case v_LONGEST_VALUE => k_is)
    (case q_mea => kit_is)
    (case q_mev => kit_is)
    (case q_meo => kit_is)
    (case q_ha => k_is)
    (case q_hn => k_is)
    (case q_htk => k_is)
    (case q_hm => k_is)
    (case q_me => kit_is)
    (case q_sf => k_is)

