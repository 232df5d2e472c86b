import PyProof.Rows.All
import Wide.All
import OpenK.AllK
import Wide.FinOn
import HandS.ForMost
import HandS.ForExc
import HandS.IsInst
import HandS.Conv
import HandS.Codes
import HandS.Walk
import KE.KDictList
import KE.KCallOwn
import HandS.ListItems
import HandS.TupLe
import HandS.ExcInit
import HandS.ExcField
import HandS.ExcIs
import KE.KExcIs
import HandS.RaiseMore
import HandS.Deep
import HandS.More
import HandS.TryOnly
import HandS.ExcValue
import HandS.Defaults
import HandS.ClsMeth
import PySem.Challenge.RW_ownersagree_k01_errors_made
set_option Elab.async false
set_option linter.all false
set_option maxRecDepth 100000
set_option maxHeartbeats 4000000
namespace OA
open PySem PySem.Spec PyProof.Rows L2
/-! ### the heap in two tiers: G is what stands still, H is all -/
structure Stp (F : Addr → Prop) (G H G' H' : Hp) : Prop where
  gg : Same G G'
  gh : Same G' H'
  nw : ∀ b o, G' b = some o → G b = none → H b = none
  fr : ∀ b o, H b = some o → ¬ F b → H' b = some o
  al : ∀ b o, H b = some o → ∃ o', H' b = some o'
structure Cell (G H : Hp) (p : Addr) (o : HO) : Prop where
  at_ : H p = some o
  no : G p = none
abbrev F0 : Addr → Prop := fun _ => False
abbrev F2 (a b : Addr) : Addr → Prop := fun p => p = a ∨ p = b
section
variable {F F' : Addr → Prop} {G H G' H' G1 H1 G2 H2 : Hp} {p q : Addr} {o o' : HO}
theorem none_of (h : ∀ o, H p ≠ some o) : H p = none := by
  cases e : H p with
  | none => rfl
  | some o => exact absurd e (h o)
theorem Stp.refl (h : Same G H) : Stp F G H G H := ⟨Same.refl G, h, fun b o h1 h2 => absurd (h1.symm.trans h2) (fun z => nomatch z), fun _ _ h _ => h, fun _ o h => ⟨o, h⟩⟩
theorem Stp.trans (a : Stp F G H G1 H1) (b : Stp F G1 H1 G2 H2) : Stp F G H G2 H2 := by
  refine ⟨a.gg.trans b.gg, b.gh, fun c o h1 h2 => ?_, fun c o h hF => b.fr c o (a.fr c o h hF) hF, fun c o h => ?_⟩
  · cases e : G1 c with
    | some u => exact a.nw c u e h2
    | none =>
      have h3 := b.nw c o h1 e
      cases e2 : H c with
      | none => rfl
      | some u =>
        obtain ⟨u', e3⟩ := a.al c u e2
        rw [e3] at h3
        cases h3
  · obtain ⟨u, e⟩ := a.al c o h
    exact b.al c u e
theorem Stp.wide (a : Stp F G H G' H') (h : ∀ b, F b → F' b) : Stp F' G H G' H' := ⟨a.gg, a.gh, a.nw, fun b o e hF => a.fr b o e (fun z => hF (h b z)), a.al⟩
/-- what is new since the start does not count -/
theorem Stp.drop (a : Stp F G H G' H') (h : ∀ b, F b → F' b ∨ H b = none) : Stp F' G H G' H' := ⟨a.gg, a.gh, a.nw, fun b o e hF => a.fr b o e (fun z => by
  rcases h b z with h | h
  · exact hF h
  · rw [h] at e; cases e), a.al⟩
theorem Stp.cell (a : Stp F G H G' H') (c : Cell G H p o) (hF : ¬ F p) : Cell G' H' p o := by
  refine ⟨a.fr p o c.at_ hF, none_of fun u e => ?_⟩
  have := a.nw p u e c.no
  rw [c.at_] at this
  cases this
theorem Stp.new (a : Stp F G H G' H') (h : H' p = none) : H p = none := by
  cases e : H p with
  | none => rfl
  | some u =>
    obtain ⟨u', e'⟩ := a.al p u e
    rw [e'] at h
    cases h
/-- a new thing that stands still -/
theorem Stp.lay (h : Same G H) (hp : H p = none) (o : HO) : Stp F G H (upd G p o) (upd H p o) := by
  have gp : G p = none := h.free hp
  refine ⟨fun b u e => ?_, fun b u e => ?_, fun b u e h2 => ?_, fun b u e _ => ?_, fun b u e => ⟨u, ?_⟩⟩
  · rw [upd_ne (ne_of_none e gp)]; exact e
  · by_cases hb : b = p
    · subst hb; rw [upd_same] at e ⊢; exact e
    · rw [upd_ne hb] at e ⊢; exact h b u e
  · by_cases hb : b = p
    · subst hb; exact hp
    · rw [upd_ne hb, h2] at e; cases e
  · rw [upd_ne (ne_of_none e hp)]; exact e
  · rw [upd_ne (ne_of_none e hp)]; exact e
/-- a new thing that may change -/
theorem Stp.put (h : Same G H) (hp : H p = none) (o : HO) : Stp F G H G (upd H p o) := by
  refine ⟨Same.refl G, fun b u e => ?_, fun b u e h2 => ?_, fun b u e _ => ?_, fun b u e => ⟨u, ?_⟩⟩
  · rw [upd_ne (ne_of_none (h b u e) hp)]; exact h b u e
  · rw [e] at h2; cases h2
  · rw [upd_ne (ne_of_none e hp)]; exact e
  · rw [upd_ne (ne_of_none e hp)]; exact e
theorem Cell.new (h : Same G H) (hp : H p = none) (o : HO) : Cell G (upd H p o) p o := ⟨upd_same, h.free hp⟩
/-- a change -/
theorem Stp.write (h : Same G H) (c : Cell G H p o) (hF : F p) (u : HO) : Stp F G H G (upd H p u) := by
  refine ⟨Same.refl G, fun b v e => ?_, fun b v e h2 => ?_, fun b v e hn => ?_, fun b v e => ?_⟩
  · rw [upd_ne (ne_of_none e c.no)]; exact h b v e
  · rw [e] at h2; cases h2
  · rw [upd_ne (fun z => hn (by rw [z]; exact hF))]; exact e
  · by_cases hb : b = p
    · exact ⟨u, by rw [hb, upd_same]⟩
    · exact ⟨v, by rw [upd_ne hb]; exact e⟩
/-- a change of what is new since the start -/
theorem Stp.loc (s : Stp F G H G1 H1) (c : Cell G1 H1 p o) (hp : H p = none) (u : HO) : Stp F G H G1 (upd H1 p u) := by
  refine ⟨s.gg, fun b v e => ?_, s.nw, fun b v e hn => ?_, fun b v e => ?_⟩
  · rw [upd_ne (ne_of_none e c.no)]; exact s.gh b v e
  · rw [upd_ne (ne_of_none e hp)]; exact s.fr b v e hn
  · rw [upd_ne (ne_of_none e hp)]; exact s.al b v e
theorem Cell.set (c : Cell G H p o) (u : HO) : Cell G (upd H p u) p u := ⟨upd_same, c.no⟩
theorem Cell.off (c : Cell G H p o) (h : p ≠ q) (u : HO) : Cell G (upd H q u) p o := ⟨by rw [upd_ne h]; exact c.at_, c.no⟩
theorem same_loc (s : Same H H1) (hp : H p = none) (u : HO) : Same H (upd H1 p u) := fun b o e => by rw [upd_ne (ne_of_none e hp)]; exact s b o e
theorem Stp.same (h : Same G H) (s : Same H H') : Stp F G H G H' := ⟨Same.refl G, h.trans s, fun b o h1 h2 => absurd (h1.symm.trans h2) (fun z => nomatch z), fun b o e _ => s b o e, fun b o e => ⟨o, s b o e⟩⟩
/-- a thing that was new since the start stands still from now on -/
theorem Stp.freeze (a : Stp F G H G' H') (c : Cell G' H' p o) (hp : H p = none) : Stp F G H (upd G' p o) H' := by
  refine ⟨fun b u e => ?_, fun b u e => ?_, fun b u e h2 => ?_, a.fr, a.al⟩
  · rw [upd_ne (ne_of_none (a.gg b u e) c.no)]; exact a.gg b u e
  · by_cases hb : b = p
    · subst hb; rw [upd_same] at e; cases e; exact c.at_
    · rw [upd_ne hb] at e; exact a.gh b u e
  · by_cases hb : b = p
    · subst hb; exact hp
    · rw [upd_ne hb] at e; exact a.nw b u e h2
/-- all of L that was new since the start stands still from now on -/
def frzL (G H : Hp) (L : List Addr) : Hp := fun b => if b ∈ L then H b else G b
theorem frzL_in {L : List Addr} (h : p ∈ L) (e : H p = some o) : frzL G H L p = some o := by unfold frzL; rw [if_pos h]; exact e
theorem frzL_out {L : List Addr} (h : p ∉ L) : frzL G H L p = G p := by unfold frzL; rw [if_neg h]
theorem frzL_sub {L : List Addr} (s : Same G H) : Same G (frzL G H L) := fun b u e => by
  by_cases hb : b ∈ L
  · exact frzL_in hb (s b u e)
  · rw [frzL_out hb]; exact e
theorem Stp.freezeL (a : Stp F G H G' H') {L : List Addr} (hL : ∀ b ∈ L, H b = none) : Stp F G H (frzL G' H' L) H' := by
  refine ⟨a.gg.trans (frzL_sub a.gh), fun b u e => ?_, fun b u e h2 => ?_, a.fr, a.al⟩
  · by_cases hb : b ∈ L
    · unfold frzL at e; rw [if_pos hb] at e; exact e
    · rw [frzL_out hb] at e; exact a.gh b u e
  · by_cases hb : b ∈ L
    · exact hL b hb
    · rw [frzL_out hb] at e; exact a.nw b u e h2
theorem Cell.frzL {L : List Addr} (c : Cell G H p o) (h : p ∉ L) : Cell (OA.frzL G H L) H p o := ⟨c.at_, by rw [frzL_out h]; exact c.no⟩
theorem Same.lay (h : G p = none) (o : HO) : Same G (upd G p o) := fun b u e => by rw [upd_ne (ne_of_none e h)]; exact e
theorem Cell.lay (c : Cell G H p o) (h : p ≠ q) (u : HO) : Cell (upd G q u) H p o := ⟨c.at_, by rw [upd_ne h]; exact c.no⟩
theorem Cell.ne (c : Cell G H p o) (d : H q = none) : p ≠ q := ne_of_none c.at_ d
theorem Stp.fresh (a : Stp F G H G' H') (h : H p = none) (c : Cell G' H' q o) (hq : H q = some o') : q ≠ p := ne_of_none hq h
end
theorem Same.sqL {K : PySem.W.Frag} {H H' : Hp} {a : Addr} {xs : List V} (e : Same H H') (h : H a = some (.lst xs)) : SqL K H' a xs := SqL.of (e a _ h)

/-! ### data: lists of texts, lists of lists of texts, of ints -/
def Ss (G : Hp) (v : V) (xs : List Str) : Prop := ∃ a, v = .ref a ∧ G a = some (.lst (xs.map V.str))
def Si (G : Hp) (v : V) (xs : List Int) : Prop := ∃ a, v = .ref a ∧ G a = some (.lst (xs.map V.int))
def Sss (G : Hp) (v : V) (xss : List (List Str)) : Prop := ∃ a as, v = .ref a ∧ G a = some (.lst (as.map V.ref)) ∧ Paired (fun p xs => G p = some (.lst (xs.map V.str))) as xss
theorem Ss.mono {G G' : Hp} {v : V} {xs : List Str} (s : Same G G') (h : Ss G v xs) : Ss G' v xs := by
  obtain ⟨a, e, h⟩ := h
  exact ⟨a, e, s a _ h⟩
theorem Si.mono {G G' : Hp} {v : V} {xs : List Int} (s : Same G G') (h : Si G v xs) : Si G' v xs := by
  obtain ⟨a, e, h⟩ := h
  exact ⟨a, e, s a _ h⟩
theorem Sss.mono {G G' : Hp} {v : V} {xs : List (List Str)} (s : Same G G') (h : Sss G v xs) : Sss G' v xs := by
  obtain ⟨a, as, e, h, p⟩ := h
  exact ⟨a, as, e, s a _ h, Paired.mapP p fun p xs h => s p _ h⟩

/-! ### the drawing state of a law -/
def StAt (G H : Hp) (st inn : Addr) : Prop := ∃ (cs : List Int) (a b c : Int), Cell G H st (.lst [.ref inn, .int a, .int b, .int c]) ∧ Cell G H inn (.lst (cs.map V.int)) ∧ (∀ x ∈ cs, 0 ≤ x) ∧ 0 ≤ a ∧ 0 ≤ b ∧ 0 ≤ c
theorem StAt.off {G H : Hp} {st inn : Addr} (h : StAt G H st inn) {p : Addr} (hp : H p = none) : ¬ F2 st inn p := by
  obtain ⟨cs, a, b, c, h1, h2, _⟩ := h
  rintro (e | e)
  · subst e; rw [h1.at_] at hp; cases hp
  · subst e; rw [h2.at_] at hp; cases hp
theorem StAt.keep {G H G' H' : Hp} {st inn : Addr} {F : Addr → Prop} (h : StAt G H st inn) (s : Stp F G H G' H') (h1 : ¬ F st) (h2 : ¬ F inn) : StAt G' H' st inn := by
  obtain ⟨cs, a, b, c, x, y, z⟩ := h
  exact ⟨cs, a, b, c, s.cell x h1, s.cell y h2, z⟩
theorem StAt.keep0 {G H G' H' : Hp} {st inn : Addr} (h : StAt G H st inn) (s : Stp F0 G H G' H') : StAt G' H' st inn := h.keep s id id
theorem StAt.new {G H : Hp} {st inn : Addr} (h : StAt G H st inn) {p : Addr} (hp : H p = none) (hs : Same G H) (o : HO) : StAt G (upd H p o) st inn := h.keep0 (Stp.put hs hp o)
theorem StAt.write {G H : Hp} {st inn : Addr} (h : StAt G H st inn) {p : Addr} (hp : ¬ F2 st inn p) (o : HO) : StAt G (upd H p o) st inn := by
  obtain ⟨cs, a, b, c, x, y, z⟩ := h
  exact ⟨cs, a, b, c, x.off (fun e => hp (.inl e.symm)) o, y.off (fun e => hp (.inr e.symm)) o, z⟩
theorem StAt.frz {G H : Hp} {st inn : Addr} (h : StAt G H st inn) {p : Addr} (hp : ¬ F2 st inn p) (o : HO) : StAt (upd G p o) H st inn := by
  obtain ⟨cs, a, b, c, x, y, z⟩ := h
  exact ⟨cs, a, b, c, x.lay (fun e => hp (.inl e.symm)) o, y.lay (fun e => hp (.inr e.symm)) o, z⟩

theorem StAt.frzL {G H : Hp} {st inn : Addr} (h : StAt G H st inn) {L : List Addr} (hL : ∀ b ∈ L, ¬ F2 st inn b) : StAt (OA.frzL G H L) H st inn := by
  obtain ⟨cs, a, b, c, x, y, z⟩ := h
  exact ⟨cs, a, b, c, x.frzL (fun m => hL st m (.inl rfl)), y.frzL (fun m => hL inn m (.inr rfl)), z⟩
/-! ### a def of the top that is called by its name -/
structure Callee (P : Program) (w : World) (K : PySem.W.Frag) (mg : Str → Option Value) (base : Heap) (x : Str) (ps : List Str) (sp : Sp) (k : Nat) : Prop where
  ex : ∃ f fd, FnOk P w K mg base CX0 k f fd ps sp ∧ Binds K fd ps [] ∧ mg x = some (.ref f) ∧ PySem.W.keepIn K (.ref f) = true
theorem pe_co {X : Cx} {x : Str} {ps : List Str} {sp : Sp} {k j : Nat} {e : Expr} {es : List Expr} {t : TA} {p pos : Pos} (c : Callee X.prog X.w X.K X.mg X.base x ps sp k) (hr : Room j X.A) (hk : k ≤ j) (hg : Gl X x) (ha : PA X (e :: es) t)
    (hdb : (x == ("__debug__" : Str)) = false := by decide) (he : starEach (e :: es) X.env = (false, eval e X.env) :: starEach es X.env := by rfl) (hpl : (backTo pos (starEach es X.env)).any (·.1) = false := by rfl) :
    PE X (.Call (.Name x p) (e :: es) [] pos) (tCall sp [] E0 t) := by
  obtain ⟨f, fd, F, b, m, kp⟩ := c.ex
  exact pe_call F (hr.mono hk) hg m kp b .nil pass0 ha hdb he hpl
/-- a class of the top with its __init__ -/
structure Maker (P : Program) (w : World) (K : PySem.W.Frag) (mg : Str → Option Value) (base : Heap) (x : Str) (C : Addr) (ps : List Str) (sp : Sp) (k : Nat) : Prop where
  ex : ∃ f fd, FnOk P w K mg base CX0 k f fd ps sp ∧ Binds K fd ps [] ∧ mg x = some (.ref C) ∧ Mk K C f
theorem pe_mk {X : Cx} {x : Str} {C : Addr} {ps : List Str} {sp : Sp} {k j : Nat} {e : Expr} {es : List Expr} {t : TA} {p pos : Pos} (c : Maker X.prog X.w X.K X.mg X.base x C ps sp k) (hr : Room j X.A) (hk : k + 1 ≤ j) (hg : Gl X x) (ha : PA X (e :: es) t)
    (hdb : (x == ("__debug__" : Str)) = false := by decide) (he : starEach (e :: es) X.env = (false, eval e X.env) :: starEach es X.env := by rfl) (hpl : (backTo pos (starEach es X.env)).any (·.1) = false := by rfl) :
    PE X (.Call (.Name x p) (e :: es) [] pos) (tMake C sp [] E0 t) := by
  obtain ⟨f, fd, F, b, m, M⟩ := c.ex
  exact pe_make M F (hr.mono hk) hg m b .nil pass0 ha hdb he hpl
/-- a method of a class of the top -/
structure Method (P : Program) (w : World) (K : PySem.W.Frag) (mg : Str → Option Value) (base : Heap) (C : Addr) (m : Str) (ps : List Str) (sp : Sp) (k : Nat) : Prop where
  ex : ∃ f fd, FnOk P w K mg base CX0 k f fd ps sp ∧ Binds K fd ps [] ∧ Cls K C ∧ Meth K C m f
theorem pe_mo0 {X : Cx} {C : Addr} {m : Str} {ps : List Str} {sp : Sp} {k j : Nat} {o : Expr} {ta : TE} {apos pos : Pos} {pl : Sem Bool} (c : Method X.prog X.w X.K X.mg X.base C m ps sp k) (hr : Room j X.A) (hk : k ≤ j) (he : PE X o ta)
    (ht : eval (.Call (.Attribute o m apos) [] [] pos) X.env = (do
      let ov ← eval o X.env
      standAt apos.atName
      let (f, first) ← holding [ov] (getMethod ov m pl)
      callWith pos f first (backTo pos (starEach [] X.env)) (backToKw pos (keywordEach [] X.env))) := by rfl) :
    PE X (.Call (.Attribute o m apos) [] [] pos) (tMeth C m sp [] E0 ta tNil) := by
  obtain ⟨f, fd, F, b, cl, M⟩ := c.ex
  exact pe_meth0 he cl M F (hr.mono hk) b .nil pass0 ht
theorem Callee.mono {P : Program} {w : World} {K : PySem.W.Frag} {mg : Str → Option Value} {base : Heap} {x : Str} {ps : List Str} {sp : Sp} {j k : Nat} (c : Callee P w K mg base x ps sp j) (h : j ≤ k) : Callee P w K mg base x ps sp k := by
  obtain ⟨f, fd, F, r⟩ := c.ex
  exact ⟨f, fd, F.mono h, r⟩

/-! ### rules that lacked -/
section
variable {X : Cx}
theorem pe_gstr {x : Str} {z : Str} {pos : Pos} (h : ∃ t, X.mg x = some (.str z t)) (hg : Gl X x := by rfl) (hd : (x == ("__debug__" : Str)) = false := by decide) : PE X (.Name x pos) (tC (.str z)) := by
  obtain ⟨t, h⟩ := h
  exact pe_glob hg h ⟨t, rfl⟩ hd
theorem pe_gint {x : Str} {z : Int} {pos : Pos} (h : ∃ t, X.mg x = some (.int z t)) (hg : Gl X x := by rfl) (hd : (x == ("__debug__" : Str)) = false := by decide) : PE X (.Name x pos) (tC (.int z)) := by
  obtain ⟨t, h⟩ := h
  exact pe_glob hg h ⟨t, rfl⟩ hd
/-! operators with plain readings -/
def rAddI : R2 := fun x y H Q => ∃ i j, x = .int i ∧ y = .int j ∧ Q (.int (i + j)) H
def rSubI : R2 := fun x y H Q => ∃ i j, x = .int i ∧ y = .int j ∧ Q (.int (i - j)) H
def rMulI : R2 := fun x y H Q => ∃ i j, x = .int i ∧ y = .int j ∧ ((-(2 ^ 64) < i ∧ i < 2 ^ 64) ∨ (-(2 ^ 64) < j ∧ j < 2 ^ 64)) ∧ Q (.int (i * j)) H
def rModI : R2 := fun x y H Q => ∃ i j, x = .int i ∧ y = .int j ∧ 0 < j ∧ Q (.int (i % j)) H
def rDivI : R2 := fun x y H Q => ∃ i j, x = .int i ∧ y = .int j ∧ (0 < j ∧ j < 1073741824) ∧ Q (.int (i / j)) H
def rPowI : R2 := fun x y H Q => ∃ i j, x = .int i ∧ y = .int j ∧ (0 ≤ j ∧ j ≤ 1000000 ∧ i.natAbs < 2 ^ 64) ∧ Q (.int (i ^ j.toNat)) H
def rLtI : R2 := fun x y H Q => ∃ i j, x = .int i ∧ y = .int j ∧ Q (.bl (decide (i < j))) H
def rLeI : R2 := fun x y H Q => ∃ i j, x = .int i ∧ y = .int j ∧ Q (.bl (decide (i ≤ j))) H
def rGtI : R2 := fun x y H Q => ∃ i j, x = .int i ∧ y = .int j ∧ Q (.bl (decide (j < i))) H
def rGeI : R2 := fun x y H Q => ∃ i j, x = .int i ∧ y = .int j ∧ Q (.bl (decide (j ≤ i))) H
theorem o_add : OpR X (binaryOp .Add) rAddI := op_add
theorem o_sub : OpR X (binaryOp .Sub) rSubI := op_sub
theorem o_mul : OpR X (binaryOp .Mult) rMulI := op_mul
theorem o_mod : OpR X (binaryOp .Mod) rModI := op_mod
theorem o_fdiv : OpR X (binaryOp .FloorDiv) rDivI := op_fdiv
theorem o_pow : OpR X (binaryOp .Pow) rPowI := op_pow
theorem o_lt : OpR X (compareOp .Lt) rLtI := op_lt
theorem o_le : OpR X (compareOp .LtE) rLeI := op_le
theorem o_gt : OpR X (compareOp .Gt) rGtI := op_gt
theorem o_ge : OpR X (compareOp .GtE) rGeI := op_ge
def rAbsI : List V → Hp → VK → Prop := fun xs H Q => ∃ i, xs = [.int i] ∧ Q (.int (if i < 0 then -i else i)) H
theorem c_abs : CallR X (.builtin "abs") rAbsI := call_abs
def rIntI : List V → Hp → VK → Prop := fun xs H Q => (∃ i, xs = [.int i] ∧ Q (.int i) H) ∨ ∃ k, xs = [.bl k] ∧ Q (.int (if k then 1 else 0)) H
theorem c_int : CallR X (.type "int") rIntI := call_int1
def rLenL (K : PySem.W.Frag) : List V → Hp → VK → Prop := fun xs H Q => ∃ p ys, xs = [.ref p] ∧ (SqL K H p ys ∨ SqT K H p ys) ∧ Q (.int ys.length) H
theorem c_len (K : PySem.W.Frag) (h : X.K = K := by rfl) : CallR X (.builtin "len") (rLenL K) := by subst h; exact call_len_seq
def rLenT : List V → Hp → VK → Prop := fun xs H Q => ∃ z, xs = [.str z] ∧ z.length ≤ sizeLine ∧ Q (.int z.length) H
theorem c_lenS : CallR X (.builtin "len") rLenT := call_len_str
def rListO (K : PySem.W.Frag) : List V → Hp → VK → Prop := fun xs H Q => ∃ p ys, xs = [.ref p] ∧ (SqL K H p ys ∨ SqT K H p ys) ∧ ∀ l, H l = none → Q (.ref l) (upd H l (.lst ys))
theorem c_list (K : PySem.W.Frag) (h : X.K = K := by rfl) : CallR X (.type "list") (rListO K) := by subst h; exact call_list_of
def rTupO (K : PySem.W.Frag) : List V → Hp → VK → Prop := fun xs H Q => ∃ p ys, xs = [.ref p] ∧ ((SqL K H p ys ∧ ∀ l, H l = none → Q (.ref l) (upd H l (.tup ys))) ∨ (SqT K H p ys ∧ Q (.ref p) H))
theorem c_tuple (K : PySem.W.Frag) (h : X.K = K := by rfl) : CallR X (.type "tuple") (rTupO K) := by subst h; exact call_tuple_of
theorem c_isi (K : PySem.W.Frag) (h : X.K = K := by rfl) : CallR X (.builtin "isinstance") (rIsi K) := by subst h; exact call_isi
theorem c_any (K : PySem.W.Frag) (h : X.K = K := by rfl) (hc : X.calm = true := by rfl) : CallR X (.builtin "any") (rAny K) := by subst h; exact cr_any hc
theorem c_all (K : PySem.W.Frag) (h : X.K = K := by rfl) (hc : X.calm = true := by rfl) : CallR X (.builtin "all") (rAll K) := by subst h; exact cr_all hc
theorem c_sortedS (K : PySem.W.Frag) (h : X.K = K := by rfl) : CallR X (.builtin "sorted") (rSortedS K) := by subst h; exact cr_sortedS
theorem ix_lst (K : PySem.W.Frag) (h : X.K = K := by rfl) : IxR X (rIxL K) := by subst h; exact ix_list
theorem ix_tpl (K : PySem.W.Frag) (h : X.K = K := by rfl) : IxR X (rIxT K) := by subst h; exact ix_tup
theorem sl_lst (K : PySem.W.Frag) (h : X.K = K := by rfl) : SlR X (rSlL K) := by subst h; exact sl_list
theorem sl_tpl (K : PySem.W.Frag) (h : X.K = K := by rfl) : SlR X (rSlT K) := by subst h; exact sl_tup
theorem o_in (K : PySem.W.Frag) (h : X.K = K := by rfl) : OpR X (compareOp .In) (rIn K false) := by subst h; exact op_in_seq
theorem o_notin (K : PySem.W.Frag) (h : X.K = K := by rfl) : OpR X (compareOp .NotIn) (rIn K true) := by subst h; exact op_notIn_seq
theorem o_eqD (K : PySem.W.Frag) (hu : X.A.units + 64 < cLine) (h : X.K = K := by rfl) : OpR X (compareOp .Eq) (rEqD K) := by subst h; exact op_eqD hu
theorem o_neD (K : PySem.W.Frag) (hu : X.A.units + 64 < cLine) (h : X.K = K := by rfl) : OpR X (compareOp .NotEq) (rNeD K) := by subst h; exact op_neD hu
theorem m_index (K : PySem.W.Frag) (h : X.K = K := by rfl) : MtR X "list.index" (rIndex K) := by subst h; exact mt_index
theorem i_list (K : PySem.W.Frag) {tg l : Expr} {tl : TE} (hl : PE X l tl) (h : X.K = K := by rfl) : PI X tg l (iList K tl) := by subst h; exact pi_list hl
theorem i_tup (K : PySem.W.Frag) {tg l : Expr} {tl : TE} (hl : PE X l tl) (h : X.K = K := by rfl) : PI X tg l (iTup K tl) := by subst h; exact pi_tup hl
theorem e_fld (K : PySem.W.Frag) {e : Expr} {f : Str} {ta : TE} {pos : Pos} (he : PE X e ta) (hb : attributeBase e f X.env (eval e X.env) = eval e X.env) (h : X.K = K := by rfl) : PE X (.Attribute e f pos) (tFld K ta f) := by subst h; exact pe_fld he hb
theorem g_tup (K : PySem.W.Frag) {es : List Expr} {k : Nat} {t : TGs} {n : Nat} {pos : Pos} (hc : X.calm = true) (hg : PGs X es t) (hn : (assignEach es X.env).length = n := by rfl) (hst : (assignEach es X.env).findIdx? (·.1) = none := by rfl) (h : X.K = K := by rfl) : PG X (.Tuple es k pos) (gTup K n t) := by
  subst h
  exact pg_tup hc hg hn hst
def tTruth (K : PySem.W.Frag) (ta : TE) : TT := fun σ H Q => ta σ H fun x H' => ∃ k, TruV K x H' k ∧ Q k H'
theorem t_truth (K : PySem.W.Frag) {a : Expr} {ta : TE} (ha : PE X a ta) (he : ∀ whole, isTrue a X.env whole = (do let v ← whole; standAt a.pos; holding [v] (truthy v))) (h : X.K = K := by rfl) : PT X a (tTruth K ta) := by
  subst h
  exact pt_truth ha he
def rJoin (K : PySem.W.Frag) : V → List V → Hp → VK → Prop := fun x xs H Q => ∃ a p, ∃ ys : List Str, x = .str a ∧ xs = [.ref p] ∧ (SqL K H p (ys.map V.str) ∨ SqT K H p (ys.map V.str)) ∧ (ys.map (·.length)).sum + ys.length * a.length ≤ 16777216 ∧ Q (.str (Txt.join a ys)) H
theorem e_join (K : PySem.W.Frag) {o e : Expr} {to te : TE} {apos pos : Pos} (ho : PE X o to) (he : PE X e te) (hs : starEach [e] X.env = [(false, eval e X.env)] := by rfl) (hbase : attributeBase o "join" X.env (eval o X.env) = eval o X.env := by rfl) (hline : (apos.endLine == pos.line) = true := by rfl) (h : X.K = K := by rfl) :
    PE X (.Call (.Attribute o "join" apos) [e] [] pos) (tM1 (rJoin K) to te) := by
  subst h
  exact pe_join ho he hs hbase hline
theorem e_bm (K : PySem.W.Frag) {T : String} {name : Str} {id : String} {r : V → List V → Hp → VK → Prop} {o e : Expr} {es : List Expr} {to : TE} {t : TA} {apos cpos : Pos} (pa : PlainAttrs T) (slot : Slot T name id) (hty : typeOf (.builtin id) = pure (.type "method_descriptor")) (hm : MtR X id r) (ho : PE X o to) (ha : PA X (e :: es) t)
    (hbase : attributeBase o name X.env (eval o X.env) = eval o X.env := by rfl)
    (hfew : ((backTo cpos (starEach (e :: es) X.env)).all (fun x => !x.1) && (backToKw cpos (keywordEach [] X.env)).all (fun x => x.1.isSome) && decide ((e :: es).length + ([] : List Keyword).length + (if ([] : List Keyword).isEmpty then 0 else 1) < 30)) = true := by rfl)
    (hline : (apos.endLine == cpos.line) = true := by rfl) (hs : starEach (e :: es) X.env = (false, eval e X.env) :: starEach es X.env := by rfl) (hplain : (backTo cpos (starEach es X.env)).any (·.1) = false := by rfl) (h : X.K = K := by rfl) :
    PE X (.Call (.Attribute o name apos) (e :: es) [] cpos) (tBM K T r to t) := by
  subst h
  exact pe_bm pa slot hty hm ho ha hbase hfew hline hs hplain
theorem e_bm0 (K : PySem.W.Frag) {T : String} {name : Str} {id : String} {r : V → List V → Hp → VK → Prop} {o : Expr} {to : TE} {apos cpos : Pos} (pa : PlainAttrs T) (slot : Slot T name id) (hty : typeOf (.builtin id) = pure (.type "method_descriptor")) (hm : MtR X id r) (ho : PE X o to)
    (hbase : attributeBase o name X.env (eval o X.env) = eval o X.env := by rfl) (hline : (apos.endLine == cpos.line) = true := by rfl) (h : X.K = K := by rfl) : PE X (.Call (.Attribute o name apos) [] [] cpos) (tBM0 K T r to) := by
  subst h
  exact pe_bm0 pa slot hty hm ho hbase hline
def rAddT : R2 := fun x y H Q => ∃ i j, x = .str i ∧ y = .str j ∧ i.length + j.length ≤ sizeLine ∧ Q (.str (i ++ j)) H
theorem o_adds : OpR X (binaryOp .Add) rAddT := op_add_str
def rInG : R2 := fun x y H Q => ∃ (c : Nat) (z : Str), x = .str ⟨#[c]⟩ ∧ y = .str z ∧ Q (.bl (decide (c ∈ z.cps.toList))) H
theorem o_insign : OpR X (compareOp .In) rInG := op_in_sign
def rInT : R2 := fun x y H Q => ∃ i j, x = .str i ∧ y = .str j ∧ Q (.bl (!(Builtin.Str.occurrences j i 0 j.length 1).isEmpty)) H
theorem o_ins : OpR X (compareOp .In) rInT := op_in_str
def CPowW (i j : Int) : Prop := 0 < j ∧ 1 < i ∧ Builtin.Int.intTooBig (((Builtin.Int.intBits i : Nat) : Int) * j) = false
def rPowW : R2 := fun x y H Q => ∃ i j, x = .int i ∧ y = .int j ∧ CPowW i j ∧ Q (.int (i ^ j.toNat)) H
theorem op_powW : OpR X (binaryOp .Pow) rPowW := by
  intro pins s σ H x y v u Q I rx ry h
  obtain ⟨i, j, rfl, rfl, hc, q⟩ := h
  obtain ⟨t, rfl⟩ := rx
  obtain ⟨t', rfl⟩ := ry
  have h1 : ¬ (j == 0) = true := by have := hc.1; simp; omega
  have h2 : ¬ (i == 0 || i == 1) = true := by have := hc.2.1; simp; omega
  have h3 : ¬ (i == -1) = true := by have := hc.2.1; simp; omega
  refine AutoIntOps.pow_4 (by have := hc.1; omega) h1 h2 h3 (by rw [hc.2.2]; exact Bool.false_ne_true) ?_
  exact ⟨.int (i ^ j.toNat), H, I.tok _, ⟨_, rfl⟩, q⟩
/-- a text n times over -/
def repS (x : Str) (n : Nat) : Str := ⟨((List.replicate n x.cps.toList).flatten).toArray⟩
theorem repS_foldl (x : Str) : ∀ (n : Nat) (acc : Array Nat), (List.replicate n x.cps).foldl (· ++ ·) acc = acc ++ ((List.replicate n x.cps.toList).flatten).toArray
  | 0, acc => by simp
  | n + 1, acc => by
    rw [List.replicate_succ, List.foldl_cons, repS_foldl x n, List.replicate_succ, List.flatten_cons]
    apply Array.toList_inj.mp
    simp
def rRepS : R2 := fun x y H Q => ∃ z n, x = .str z ∧ y = .int n ∧ 0 ≤ n ∧ n ≤ 1000 ∧ z.length ≤ 1000 ∧ Q (.str (repS z n.toNat)) H
theorem op_rep_str : OpR X (binaryOp .Mult) rRepS := by
  intro pins s σ H x y v u Q I rx ry h
  obtain ⟨z, n, rfl, rfl, h0, h1, hz, q⟩ := h
  obtain ⟨t, rfl⟩ := rx
  obtain ⟨t', rfl⟩ := ry
  have hm : z.length * n.toNat ≤ 1000 * 1000 := Nat.mul_le_mul hz (by omega)
  refine PySem.P.mul_str ?_ (fun h2 h3 => ?_) (fun h2 h3 => ?_) ?_
  · have e1 : ¬ n < -(2 ^ 63 : Int) := by omega
    have e2 : ¬ n ≥ 2 ^ 63 := by omega
    rw [decide_eq_false e1, decide_eq_false e2]; rfl
  · have hle : (1000 : Int) ≤ (2 ^ 63 - 1) / n := by
      rw [Int.le_ediv_iff_mul_le (by omega)]
      omega
    omega
  · unfold Builtin.Str.tooLong
    rw [sizeLine_eq]
    simp; omega
  · split
    · rename_i hn
      have e : repS z n.toNat = Str.empty := by
        have : n.toNat = 0 := by omega
        rw [this]; rfl
      exact ⟨by decide, .str _, H, I.tok _, ⟨_, rfl⟩, by rw [← e]; exact q⟩
    · split
      · rename_i hn hc
        have e : repS z n.toNat = z := by
          rcases Bool.or_eq_true_iff.mp hc with h | h
          · have : n.toNat = 1 := by have := beq_iff_eq.mp h; omega
            rw [this]; unfold repS; simp
          · have hl : z.cps.toList = [] := by
              have := beq_iff_eq.mp h
              have : z.cps.size = 0 := this
              simpa using this
            have hz0 : z = ⟨#[]⟩ := by
              cases z with
              | mk c => congr; simpa using hl
            rw [hz0]
            unfold repS
            simp
        exact ⟨.str _, H, I, ⟨_, rfl⟩, by rw [← e]; exact q⟩
      · have e : (⟨(List.replicate n.toNat z.cps).foldl (· ++ ·) #[]⟩ : Str) = repS z n.toNat := by
          rw [repS_foldl]
          unfold repS
          simp
        rw [e]
        refine ⟨?_, .str _, H, I.tok _, ⟨_, rfl⟩, q⟩
        have : (repS z n.toNat).length = n.toNat * z.length := by
          show (((List.replicate n.toNat z.cps.toList).flatten).toArray).size = n.toNat * z.cps.size
          simp
        rw [this, sizeLine_eq, Nat.mul_comm]
        omega
/-- list(d.values()) -/
def tListVals (te : TE) : TE := fun σ H Q => te σ H fun x H1 => ∃ d kvs, x = .ref d ∧ H1 d = some (.dK kvs) ∧ ∀ q, H1 q = none → Q (.ref q) (upd H1 q (.lst (kvs.map (·.2))))
theorem pe_listValues {e : Expr} {te : TE} {p apos cpos pos : Pos} (hc : X.calm = true) (he : PE X e te) (hg : Gl X "list") (hm : X.mg "list" = none) (hv : bootBuiltins "list" = some (.type "list")) (hbase : attributeBase e "values" X.env (eval e X.env) = eval e X.env := by rfl) (hline : (apos.endLine == cpos.line) = true := by rfl)
    (hs : starEach [.Call (.Attribute e "values" apos) [] [] cpos] X.env = (false, eval (.Call (.Attribute e "values" apos) [] [] cpos) X.env) :: starEach [] X.env := by rfl) :
    PE X (.Call (.Name "list" p) [.Call (.Attribute e "values" apos) [] [] cpos] [] pos) (tListVals te) := by
  refine ⟨fun pins s σ H Q I hq => ?_⟩
  refine wpAny_Call_Name_kw (ld_blt I hg hm hv ?_)
  refine PyProof.Rows.callWith_type1 ?_ hs rfl
  rw [hs]
  show wpAny _ _ (spliced ((false, eval (.Call (.Attribute e "values" apos) [] [] cpos) X.env) :: backTo pos (starEach [] X.env))) _ _ s
  refine Calls.spliced_cons ?_
  refine wpAny_Call_method (T := "dict") (id := "dict.values") hbase rfl hline F.plainAttrs_dict F.slot_dict_values F.type_dict_values (thn (he.run pins s σ H _ I hq) fun u s1 ⟨x, H1, I1, rx, d, kvs, ex, hd, q⟩ => ?_)
  subst ex
  obtain rfl : u = Value.ref d := rx
  obtain ⟨hz, hs0, vs, kv, hdo⟩ := I1.hok d _ hd
  obtain ⟨ep, hat⟩ := hdo.dictAt
  have lk : kvs.length = vs.length := Paired.length kv
  have I2 : Inv X pins σ H1 { s1 with heap := s1.heap.push { cls := .type "dict_values", data := .fields #[.ref d] } } := I1.kept (t' := s1.toks) fun b ob q => Heap.get?_push_of_some _ q
  refine ⟨hdo.typeIs, hdo.mapOf.noDict, ?_⟩
  show wpAny _ _ (callWith cpos (.builtin "dict.values") [.ref d] [] []) _ X.xe s1
  refine method_meetsIn F.slot_dict_values F.entry_dict_values rfl (PySem.evalArgs_none ⟨rfl, hdo.typeIs, F.args_dict_values_1 _, _, meets_dict_values (mixKind X.prog X.w) d hs0, ⟨vs, hdo⟩, ?_⟩)
  refine Calls.spliced_nil ?_
  refine PySem.W.kdl_call (PySem.W.kdl_values (knd := mixKind X.prog X.w) (kvs := vs) (ep := ep) (r := s1.heap.objs.size) (d := d)) (I1.ok.hd hc) ⟨⟨_, Heap.get?_push_size _ rfl, rfl, rfl⟩, hat.push _⟩ (by rw [← lk]; exact hz) fun h' tk acc' c' hkeep hS hacc => ?_
  refine ⟨.ref _, upd H1 _ (.lst (kvs.map (·.2))), I2.laid hkeep (Nat.le_refl _) (show ObjOk X.prog X.w _ _ _ (.lst (kvs.map (·.2))) from ⟨?_, acc'.toList, c', ?_, ?_⟩), rfl, q _ (I2.hok.fresh (Nat.le_refl _))⟩
  · rw [List.length_map]; exact hz
  · have el : acc'.toList.length = acc'.size := by simp
    refine vals_of_at (by rw [List.length_map, el, hacc.1, lk]) fun j x w h1 h2 => ?_
    obtain ⟨k, hky⟩ := hacc.2 j w (by rw [← Array.getElem?_toList]; exact h2)
    rw [List.getElem?_map] at h1
    cases e1 : kvs[j]? with
    | none => rw [e1] at h1; cases h1
    | some kw =>
      rw [e1] at h1
      have e2 : kw.2 = x := Option.some.inj h1
      obtain ⟨y, hy, hr⟩ := LiI.paired_get kv e1
      rw [hky] at hy
      cases hy
      rw [← e2]
      exact hr.2
  · rw [Array.toArray_toList]; exact hS
end
end OA

namespace OA
open PySem PySem.Spec PyProof.Rows L2
/-! ### data for == -/
abbrev dS (xs : List Str) : PyData := .list (xs.map PyData.str)
abbrev dSS (xss : List (List Str)) : PyData := .list (xss.map dS)
abbrev dI (xs : List Int) : PyData := .list (xs.map PyData.int)
def Asc (x : Str) : Prop := ∀ c ∈ x.cps.toList, c < 1114112
theorem Asc.ok {x : Str} (h : Asc x) : PyData.strOk x = true := by
  unfold PyData.strOk
  rw [Array.all_eq_true']
  intro c hc
  have := h c (by simpa using hc)
  simpa using this
section
variable {K : PySem.W.Frag} {G H : Hp}
theorem dp_strs : ∀ xs : List Str, DpAll K H (xs.map V.str) (xs.map PyData.str)
  | [] => .nil
  | x :: xs => .cons (.str x) (dp_strs xs)
theorem dp_ints : ∀ xs : List Int, DpAll K H (xs.map V.int) (xs.map PyData.int)
  | [] => .nil
  | x :: xs => .cons (.int x) (dp_ints xs)
theorem dp_lists (s : Same G H) : ∀ {as : List Addr} {xss : List (List Str)}, Paired (fun p xs => G p = some (.lst (xs.map V.str))) as xss → DpAll K H (as.map V.ref) (xss.map dS)
  | _, _, .nil => .nil
  | _, _, .cons h t => .cons (.lst (SqL.of (s _ _ h)) (dp_strs _)) (dp_lists s t)
theorem Ss.dp {v : V} {xs : List Str} (s : Same G H) (h : Ss G v xs) : Dp K H v (dS xs) := by
  obtain ⟨a, rfl, h⟩ := h
  exact .lst (SqL.of (s _ _ h)) (dp_strs xs)
theorem Si.dp {v : V} {xs : List Int} (s : Same G H) (h : Si G v xs) : Dp K H v (dI xs) := by
  obtain ⟨a, rfl, h⟩ := h
  exact .lst (SqL.of (s _ _ h)) (dp_ints xs)
theorem Sss.dp {v : V} {xss : List (List Str)} (s : Same G H) (h : Sss G v xss) : Dp K H v (dSS xss) := by
  obtain ⟨a, as, rfl, h, p⟩ := h
  exact .lst (SqL.of (s _ _ h)) (dp_lists s p)
end
theorem lay_strs : ∀ {xs : List Str}, (∀ x ∈ xs, Asc x) → PyData.canLayAll0 (xs.map PyData.str) = true
  | [], _ => rfl
  | x :: xs, h => by
    show (PyData.strOk x && PyData.canLayAll0 (xs.map PyData.str)) = true
    rw [(h x List.mem_cons_self).ok, lay_strs fun y hy => h y (List.mem_cons_of_mem _ hy)]
    rfl
theorem lay_ints : ∀ {xs : List Int}, PyData.canLayAll0 (xs.map PyData.int) = true
  | [] => rfl
  | x :: xs => by
    show (true && PyData.canLayAll0 (xs.map PyData.int)) = true
    rw [lay_ints]
    rfl
theorem depth_strs : ∀ {xs : List Str}, PyData.depthAll (xs.map PyData.str) = 0
  | [] => rfl
  | x :: xs => by
    show max (PyData.depth (.str x)) (PyData.depthAll (xs.map PyData.str)) = 0
    rw [depth_strs]
    rfl
theorem depth_ints : ∀ {xs : List Int}, PyData.depthAll (xs.map PyData.int) = 0
  | [] => rfl
  | x :: xs => by
    show max (PyData.depth (.int x)) (PyData.depthAll (xs.map PyData.int)) = 0
    rw [depth_ints]
    rfl
theorem depth_lists : ∀ {xss : List (List Str)}, PyData.depthAll (xss.map dS) ≤ 1
  | [] => Nat.zero_le _
  | x :: xs => by
    show max (PyData.depthAll (x.map PyData.str) + 1) (PyData.depthAll (xs.map dS)) ≤ 1
    rw [depth_strs]
    have := depth_lists (xss := xs)
    omega
theorem lay_lists : ∀ {xss : List (List Str)}, (∀ xs ∈ xss, ∀ x ∈ xs, Asc x) → PyData.canLayAll0 (xss.map dS) = true
  | [], _ => rfl
  | x :: xs, h => by
    show (PyData.canLayAll0 (x.map PyData.str) && PyData.canLayAll0 (xs.map dS)) = true
    rw [lay_strs (h x List.mem_cons_self), lay_lists fun y hy => h y (List.mem_cons_of_mem _ hy)]
    rfl
theorem sh_strs {xs : List Str} (h : ∀ x ∈ xs, Asc x) : SeqAt.shaped (dS xs) = true := by
  unfold SeqAt.shaped
  have h1 : PyData.canLay0 (dS xs) = true := lay_strs h
  have h2 : PyData.depth (dS xs) = 1 := by show PyData.depthAll (xs.map PyData.str) + 1 = 1; rw [depth_strs]
  rw [h1, h2]; rfl
theorem sh_ints {xs : List Int} : SeqAt.shaped (dI xs) = true := by
  unfold SeqAt.shaped
  have h1 : PyData.canLay0 (dI xs) = true := lay_ints
  have h2 : PyData.depth (dI xs) = 1 := by show PyData.depthAll (xs.map PyData.int) + 1 = 1; rw [depth_ints]
  rw [h1, h2]; rfl
theorem sh_lists {xss : List (List Str)} (h : ∀ xs ∈ xss, ∀ x ∈ xs, Asc x) : SeqAt.shaped (dSS xss) = true := by
  unfold SeqAt.shaped
  have h1 : PyData.canLay0 (dSS xss) = true := lay_lists h
  have h2 : PyData.depth (dSS xss) ≤ 2 := by show PyData.depthAll (xss.map dS) + 1 ≤ 2; have := depth_lists (xss := xss); omega
  have h3 : decide (PyData.depth (dSS xss) ≤ 64) = true := decide_eq_true (by omega)
  rw [h1, h3]; rfl
theorem eqv_strs : ∀ (xs ys : List Str), PyData.eqvAll (xs.map PyData.str) (ys.map PyData.str) = decide (xs = ys)
  | [], [] => rfl
  | [], _ :: _ => rfl
  | _ :: _, [] => rfl
  | x :: xs, y :: ys => by
    show ((x == y) && PyData.eqvAll (xs.map PyData.str) (ys.map PyData.str)) = _
    rw [eqv_strs xs ys]
    by_cases h1 : x = y
    · subst h1
      by_cases h2 : xs = ys
      · subst h2; simp
      · simp [h2]
    · simp [h1]
theorem eqv_lists : ∀ (xs ys : List (List Str)), PyData.eqvAll (xs.map dS) (ys.map dS) = decide (xs = ys)
  | [], [] => rfl
  | [], _ :: _ => rfl
  | _ :: _, [] => rfl
  | x :: xs, y :: ys => by
    show (PyData.eqvAll (x.map PyData.str) (y.map PyData.str) && PyData.eqvAll (xs.map dS) (ys.map dS)) = _
    rw [eqv_lists xs ys, eqv_strs]
    by_cases h1 : x = y
    · subst h1
      by_cases h2 : xs = ys
      · subst h2; simp
      · simp [h2]
    · simp [h1]
theorem eqv_dS (xs ys : List Str) : PyData.eqv (dS xs) (dS ys) = decide (xs = ys) := eqv_strs xs ys
theorem eqv_dSS (xs ys : List (List Str)) : PyData.eqv (dSS xs) (dSS ys) = decide (xs = ys) := eqv_lists xs ys
theorem eqv_ints0 : ∀ (xs : List Int), PyData.eqv (dI xs) (.list []) = xs.isEmpty
  | [] => rfl
  | _ :: _ => rfl
/-! ### in, of lists of texts -/
theorem inV_str (x : Str) : ∀ xs : List Str, inV (.str x) (xs.map V.str) = decide (x ∈ xs)
  | [] => rfl
  | y :: ys => by
    show ((y == x) || inV (.str x) (ys.map V.str)) = _
    rw [inV_str x ys]
    by_cases h : y = x
    · subst h; simp
    · have h' : ¬ x = y := fun z => h z.symm
      simp [h, h']
theorem flat_strs : ∀ xs : List Str, (xs.map V.str).all flatV = true
  | [] => rfl
  | _ :: xs => by show (true && (xs.map V.str).all flatV) = true; rw [flat_strs xs]; rfl
theorem inV_int (x : Int) : ∀ xs : List Int, inV (.int x) (xs.map V.int) = decide (x ∈ xs)
  | [] => rfl
  | y :: ys => by
    show ((y == x) || inV (.int x) (ys.map V.int)) = _
    rw [inV_int x ys]
    by_cases h : y = x
    · subst h; simp
    · have h' : ¬ x = y := fun z => h z.symm
      simp [h, h']
theorem flat_ints : ∀ xs : List Int, (xs.map V.int).all flatV = true
  | [] => rfl
  | _ :: xs => by show (true && (xs.map V.int).all flatV) = true; rw [flat_ints xs]; rfl
theorem yes_of {σ : L2.St} {H : Hp} {A B : Hp → Prop} (h : A H) : tYes σ H (fun b H3 => if b = true then A H3 else B H3) := by
  show if true = true then A H else B H
  rw [if_pos rfl]
  exact h
/-! ### small lists -/
theorem take_more {α : Type} : ∀ {l : List α} {i : Nat} {x : α}, l[i]? = some x → l.take (i + 1) = l.take i ++ [x]
  | [], i, x, h => by simp at h
  | a :: l, 0, x, h => by
    have e : a = x := Option.some.inj h
    subst e
    rfl
  | a :: l, i + 1, x, h => by
    have ih := take_more (l := l) (i := i) (x := x) h
    show a :: l.take (i + 1) = a :: l.take i ++ [x]
    rw [ih]
    rfl
theorem map_get {α β : Type} {f : α → β} {l : List α} {i : Nat} {y : β} (h : (l.map f)[i]? = some y) : ∃ x, l[i]? = some x ∧ y = f x := by
  rw [List.getElem?_map] at h
  cases e : l[i]? with
  | none => rw [e] at h; cases h
  | some x => rw [e] at h; exact ⟨x, rfl, (Option.some.inj h).symm⟩
theorem get_lt {α : Type} {l : List α} {i : Nat} {x : α} (h : l[i]? = some x) : i < l.length := (List.getElem?_eq_some_iff.mp h).1
theorem sz_le {n : Nat} (h : n ≤ 1000000) : n ≤ sizeLine := by rw [sizeLine_eq]; omega
theorem sz_lt {n : Nat} (h : n ≤ 1000000) : n < sizeLine := by rw [sizeLine_eq]; omega
end OA

/-! ### words: the mathematics -/
namespace OA
open PySem L2
def sg (i : Nat) : Nat := if i < 26 then 97 + i else 22 + i
def wordL (f place size c : Nat) : List Nat := List.replicate place f ++ c :: List.replicate (size - place - 1) f
def mkS (l : List Nat) : Str := ⟨l.toArray⟩
def wordsOf (f place size some first n : Nat) : List Str := (List.range n).map fun k => mkS (wordL f place size (sg ((first + k) % some)))
def Low (c : Nat) : Prop := 97 ≤ c ∧ c ≤ 122
def Alnum (c : Nat) : Prop := Low c ∨ (48 ≤ c ∧ c ≤ 57)
/-- a name of at most m signs -/
structure Name (m : Nat) (w : Str) : Prop where
  first : ∃ c r, w.cps.toList = c :: r ∧ Low c
  all : ∀ c ∈ w.cps.toList, Alnum c
  len : w.length ≤ m
structure Words (m n : Nat) (ws : List Str) : Prop where
  len : ws.length = n
  nd : ws.Nodup
  all : ∀ w ∈ ws, Name m w
theorem sg_alnum {i : Nat} (h : i < 36) : Alnum (sg i) := by
  unfold sg Alnum Low
  split
  · left; omega
  · right; omega
theorem sg_low {i : Nat} (h : i < 26) : Low (sg i) := by
  unfold sg Low
  rw [if_pos h]; omega
theorem sg_inj {i j : Nat} (hi : i < 36) (hj : j < 36) (h : sg i = sg j) : i = j := by
  unfold sg at h
  split at h <;> split at h <;> omega
theorem mod_inj {a i j m : Nat} (hi : i < m) (hj : j < m) (h : (a + i) % m = (a + j) % m) : i = j := by
  have h1 := Nat.div_add_mod (a + i) m
  have h2 := Nat.div_add_mod (a + j) m
  rw [h] at h1
  have hm : (a + j) % m < m := Nat.mod_lt _ (by omega)
  have e1 : (a + i) / m = (a + j) / m ∨ (a + i) / m < (a + j) / m ∨ (a + j) / m < (a + i) / m := by omega
  rcases e1 with e | e | e
  · rw [e] at h1; omega
  · exfalso
    have : m * ((a + i) / m + 1) ≤ m * ((a + j) / m) := Nat.mul_le_mul_left _ e
    rw [Nat.mul_add] at this
    omega
  · exfalso
    have : m * ((a + j) / m + 1) ≤ m * ((a + i) / m) := Nat.mul_le_mul_left _ e
    rw [Nat.mul_add] at this
    omega
theorem wordL_inj {f p s c d : Nat} (h : wordL f p s c = wordL f p s d) : c = d := by
  unfold wordL at h
  have := List.append_cancel_left h
  injection this
theorem nodup_range_map {α : Type} {n : Nat} {f : Nat → α} (h : ∀ i j, i < n → j < n → f i = f j → i = j) : ((List.range n).map f).Nodup := by
  rw [List.nodup_iff_pairwise_ne, List.pairwise_map]
  refine List.Pairwise.imp_of_mem (fun {a b} ha hb hab => ?_) List.nodup_range
  intro e
  exact hab (h a b (List.mem_range.mp ha) (List.mem_range.mp hb) e)
theorem words_ok {f p s m first n sz : Nat} (hf : Low f) (hp : p < s) (hs : s ≤ sz) (hm : (p = 0 ∧ m = 26) ∨ (p ≠ 0 ∧ m = 36)) (hn : n ≤ 26) : Words sz n (wordsOf f p s m first n) := by
  have hm36 : m ≤ 36 ∧ 26 ≤ m := by omega
  refine ⟨by simp [wordsOf], nodup_range_map fun i j hi hj h => ?_, fun w hw => ?_⟩
  · have h1 : (wordL f p s (sg ((first + i) % m))) = (wordL f p s (sg ((first + j) % m))) := by
      have := congrArg (fun z : Str => z.cps.toList) h
      simpa [mkS] using this
    have h2 := wordL_inj h1
    have b1 : (first + i) % m < m := Nat.mod_lt _ (by omega)
    have b2 : (first + j) % m < m := Nat.mod_lt _ (by omega)
    have h3 := sg_inj (by omega) (by omega) h2
    exact mod_inj (by omega) (by omega) h3
  · obtain ⟨k, hk, rfl⟩ := List.mem_map.mp hw
    have b1 : (first + k) % m < m := Nat.mod_lt _ (by omega)
    refine ⟨?_, ?_, ?_⟩
    · show ∃ c r, (mkS (wordL f p s _)).cps.toList = c :: r ∧ Low c
      unfold mkS wordL
      rcases hm with ⟨h0, h1⟩ | ⟨h0, h1⟩
      · subst h0; subst h1
        exact ⟨_, _, rfl, sg_low b1⟩
      · cases p with
        | zero => exact absurd rfl h0
        | succ q => exact ⟨_, _, rfl, hf⟩
    · intro c hc
      have hc : c ∈ wordL f p s (sg ((first + k) % m)) := by simpa [mkS] using hc
      unfold wordL at hc
      rcases List.mem_append.mp hc with h | h
      · rw [(List.mem_replicate.mp h).2]; exact .inl hf
      · rcases List.mem_cons.mp h with h | h
        · rw [h]; exact sg_alnum (by omega)
        · rw [(List.mem_replicate.mp h).2]; exact .inl hf
    · show (wordL f p s _).toArray.size ≤ sz
      simp [wordL]
      omega
theorem Alnum.asc {c : Nat} (h : Alnum c) : c < 1114112 := by
  unfold Alnum Low at h
  omega
theorem Name.asc {m : Nat} {w : Str} (h : Name m w) : Asc w := fun c hc => (h.all c hc).asc
theorem str_ext {a b : Str} (h : a.cps.toList = b.cps.toList) : a = b := by
  cases a with
  | mk x =>
    cases b with
    | mk y =>
      have : x = y := Array.toList_inj.mp h
      rw [this]
theorem repS_one (f n : Nat) : (repS ⟨#[f]⟩ n).cps.toList = List.replicate n f := by
  unfold repS
  have : ∀ n : Nat, (List.replicate n [f]).flatten = List.replicate n f := fun n => by
    induction n with
    | zero => rfl
    | succ n ih => rw [List.replicate_succ, List.flatten_cons, ih, List.replicate_succ]; rfl
  simpa using this n
theorem app_list (a b : Str) : (a ++ b).cps.toList = a.cps.toList ++ b.cps.toList := by
  show (a.cps ++ b.cps).toList = _
  simp
theorem app_len (a b : Str) : (a ++ b).length = a.length + b.length := by
  show (a.cps ++ b.cps).size = _
  simp [Str.length]
theorem len_list (a : Str) : a.length = a.cps.toList.length := by simp [Str.length]
def SIGNS : Str := "abcdefghijklmnopqrstuvwxyz0123456789"
theorem signs_list : (Str.ofString "abcdefghijklmnopqrstuvwxyz0123456789").cps.toList = (List.range 36).map sg := by decide +kernel
theorem signs_len : (Str.ofString "abcdefghijklmnopqrstuvwxyz0123456789").length ≤ sizeLine := by decide +kernel
theorem sign_at {i : Int} (h0 : 0 ≤ i) (h1 : i < 36) : atI (Str.ofString "abcdefghijklmnopqrstuvwxyz0123456789").cps.toList i = some (sg i.toNat) := by
  rw [signs_list]
  obtain ⟨n, rfl⟩ : ∃ n : Nat, i = (n : Int) := ⟨i.toNat, by omega⟩
  refine atI_nat ?_
  rw [List.getElem?_map, List.getElem?_range (by omega)]
  rfl
end OA

/-! ### operators of an own class: len, str, <=, ==, in, &, | -/
namespace OA
open PySem PySem.Spec PyProof.Rows L2
section
variable {X : Cx} {C : Addr} {m : Str} {ps : List Str} {sp : Sp} {k j : Nat}
/-- a def runs, called from within a built-in -/
theorem run_at {A : Around} {pins : List (Addr × Obj)} {σ : L2.St} {H : Hp} {s : Shared} {Q : VK} {f : Addr} {fd : FuncData} {us : List Value} {vs : List V} (F : FnOk X.prog X.w X.K X.mg X.base CX0 k f fd ps sp) (hr : Room k A)
    (he : Env0 X.prog X.w X.K X.mg X.base A X.stack s H) (hb : Binds X.K fd ps []) (I : Inv X pins σ H s) (r : Vals vs us) (h : sp vs H Q E0) : wpAny (model X.prog X.w) A (call (.ref f) us) (EP X pins σ Q) X.xe s := by
  have hl : us.length = ps.length := by rw [← r.length]; exact F.len _ _ _ _ h
  have hbs := hb s us I.kIn (by rw [List.append_nil]; exact hl)
  rw [List.append_nil] at hbs
  refine wpAny_call (codeAny_mono (F.run A X.stack s H ⟨us, []⟩ us vs Q E0 hr he hbs r h) fun r s' hq => ?_)
  cases r with
  | error e => exact hq.elim
  | ok fl =>
    cases fl with
    | ret u => exact I.after hq
    | next => exact hq.elim
    | brk => exact hq.elim
    | cont => exact hq.elim
def rLenO (C : Addr) (sp : Sp) : List V → Hp → VK → Prop := fun xs H Q => ∃ a dx fs, xs = [.ref a] ∧ H a = some (.ins C dx fs) ∧ sp [.ref a] H (fun v H' => ∃ n : Int, v = .int n ∧ 0 ≤ n ∧ n < 2 ^ 63 ∧ Q (.int n) H') E0
theorem c_len_own (c : Method X.prog X.w X.K X.mg X.base C "__len__" ps sp k) (hr : Room j X.A) (hk : k + 1 ≤ j) : CallR X (.builtin "len") (rLenO C sp) := by
  intro pins s σ H xs us Q I r h
  obtain ⟨f, fd, F, b, cl, M⟩ := c.ex
  obtain ⟨a, dx, fs, rfl, ha, q⟩ := h
  obtain ⟨u, rfl, ru⟩ := vals1 r
  cases (show u = Value.ref a from ru)
  obtain ⟨mA, J, _⟩ := ins_get I.hok ha
  obtain ⟨od, J, _⟩ := J.look
  obtain ⟨m', hF⟩ := I.fr
  refine PySem.W.len_K hF I.ok.mod.kin J M.at_ M.fn ?_
  refine wpAny_mono (run_at F (Room.in1 (hr.mono hk)) I.env0.in1 b I (vs := [.ref a]) (.cons rfl .nil) q) (fun v s' hv => ?_) fun _ _ z => z
  obtain ⟨v0, H', I', rv, n, rfl, h0, h1, q'⟩ := hv
  obtain ⟨t, rfl⟩ := rv
  exact ⟨⟨h0, h1⟩, .int n, H', I'.tok _, ⟨_, rfl⟩, q'⟩
def rStrO (C : Addr) (sp : Sp) : List V → Hp → VK → Prop := fun xs H Q => ∃ a dx fs, xs = [.ref a] ∧ H a = some (.ins C dx fs) ∧ sp [.ref a] H (fun v H' => ∃ z : Str, v = .str z ∧ Q (.str z) H') E0
theorem c_str_own (c : Method X.prog X.w X.K X.mg X.base C "__str__" ps sp k) (hr : Room j X.A) (hk : k + 2 ≤ j) : CallR X (.type "str") (rStrO C sp) := by
  intro pins s σ H xs us Q I r h
  obtain ⟨f, fd, F, b, cl, M⟩ := c.ex
  obtain ⟨a, dx, fs, rfl, ha, q⟩ := h
  obtain ⟨u, rfl, ru⟩ := vals1 r
  cases (show u = Value.ref a from ru)
  obtain ⟨mA, J, _⟩ := ins_get I.hok ha
  obtain ⟨od, J, _⟩ := J.look
  have r2 : Room k X.A.in1.in1 := Room.in1 (Room.in1 (hr.mono hk))
  refine PySem.W.kso_call r2.units0 I.kIn J M.at_ M.fn ?_
  refine wpAny_mono (run_at F r2 I.env0.in1.in1 b I (vs := [.ref a]) (.cons rfl .nil) q) (fun v s' hv => ?_) fun _ _ z => z
  obtain ⟨v0, H', I', rv, z, rfl, q'⟩ := hv
  obtain ⟨t, rfl⟩ := rv
  exact ⟨.str z, H', I', ⟨_, rfl⟩, q'⟩
theorem back_of {pins : List (Addr × Obj)} {σ : L2.St} {Q : VK} {v : Value} {s' : Shared} (h : EP X pins σ Q v s') : PySem.W.CmpBack (EP X pins σ Q) v s' := by
  obtain ⟨v0, H', I', rv, q⟩ := id h
  cases v0 with
  | non => cases (show v = Value.none from rv); exact h
  | bl b => cases (show v = Value.bool b from rv); exact h
  | int i => obtain ⟨t, rfl⟩ := rv; exact h
  | str z => obtain ⟨t, rfl⟩ := rv; exact h
  | byt z => obtain ⟨t, rfl⟩ := rv; exact h
  | flt z => obtain ⟨t, rfl⟩ := rv; exact h
  | ref a => cases (show v = Value.ref a from rv); exact h
  | ty n => cases (show v = Value.type n from rv); exact h
/-- x op y of two instances -/
def rOwn2 (C : Addr) (sp : Sp) : R2 := fun x y H Q => ∃ a b dx fs dy gs, x = .ref a ∧ y = .ref b ∧ H a = some (.ins C dx fs) ∧ H b = some (.ins C dy gs) ∧ sp [.ref a, .ref b] H Q E0
theorem cmp_own {op : CmpOp} (hop : ∀ v u, compareOp op v u = richCompare op v u) (hm : (cmpInfo op).2.1 = m) (c : Method X.prog X.w X.K X.mg X.base C m ps sp k) (hr : Room j X.A) (hk : k ≤ j) : OpR X (compareOp op) (rOwn2 C sp) := by
  intro pins s σ H x y v u Q I rx ry h
  obtain ⟨f, fd, F, b, cl, M⟩ := c.ex
  obtain ⟨a, b', dx, fs, dy, gs, rfl, rfl, ha, hb, q⟩ := h
  cases (show v = Value.ref a from rx)
  cases (show u = Value.ref b' from ry)
  obtain ⟨mA, J, _⟩ := ins_get I.hok ha
  obtain ⟨mB, J', _⟩ := ins_get I.hok hb
  obtain ⟨od, J, _⟩ := J.look
  obtain ⟨od', J', _⟩ := J'.look
  obtain ⟨m', hF⟩ := I.fr
  rw [hop]
  refine PySem.W.cmp_K (op := op) (tb := .ref C) hr.units0 hF I.ok.mod.kin J J'.type (by simp [PySem.W.notFirst]) (by rw [hm]; exact M.at_) M.fn ?_
  exact wpAny_mono (run_at F (hr.mono hk) I.env0 b I (vs := [.ref a, .ref b']) (.cons rfl (.cons rfl .nil)) q) (fun v s' hv => back_of hv) fun _ _ z => z
theorem o_le_own (c : Method X.prog X.w X.K X.mg X.base C "__le__" ps sp k) (hr : Room j X.A) (hk : k ≤ j) : OpR X (compareOp .LtE) (rOwn2 C sp) := cmp_own (fun _ _ => rfl) rfl c hr hk
theorem o_eq_own (c : Method X.prog X.w X.K X.mg X.base C "__eq__" ps sp k) (hr : Room j X.A) (hk : k ≤ j) : OpR X (compareOp .Eq) (rOwn2 C sp) := cmp_own (fun _ _ => rfl) rfl c hr hk
theorem bin_own {op : Operator} (hm : PySem.dunder op.info.2 = m) (c : Method X.prog X.w X.K X.mg X.base C m ps sp k) (hs : PySem.W.selfFirst X.K C = true) (hr : Room j X.A) (hk : k ≤ j) : OpR X (binaryOp op) (rOwn2 C sp) := by
  intro pins s σ H x y v u Q I rx ry h
  obtain ⟨f, fd, F, b, cl, M⟩ := c.ex
  obtain ⟨a, b', dx, fs, dy, gs, rfl, rfl, ha, hb, q⟩ := h
  cases (show v = Value.ref a from rx)
  cases (show u = Value.ref b' from ry)
  obtain ⟨mA, J, _⟩ := ins_get I.hok ha
  obtain ⟨mB, J', _⟩ := ins_get I.hok hb
  obtain ⟨od, J, _⟩ := J.look
  obtain ⟨od', J', _⟩ := J'.look
  obtain ⟨m', hF⟩ := I.fr
  refine PySem.W.binop_K hF I.ok.mod.kin J J'.type hs (by rw [hm]; exact M.at_) M.fn ?_
  exact wpAny_mono (run_at F (hr.mono hk) I.env0 b I (vs := [.ref a, .ref b']) (.cons rfl (.cons rfl .nil)) q) (fun v s' hv => back_of hv) fun _ _ z => z
theorem o_and_own (c : Method X.prog X.w X.K X.mg X.base C "__and__" ps sp k) (hs : PySem.W.selfFirst X.K C = true) (hr : Room j X.A) (hk : k ≤ j) : OpR X (binaryOp .BitAnd) (rOwn2 C sp) := bin_own (by decide +kernel) c hs hr hk
theorem o_or_own (c : Method X.prog X.w X.K X.mg X.base C "__or__" ps sp k) (hs : PySem.W.selfFirst X.K C = true) (hr : Room j X.A) (hk : k ≤ j) : OpR X (binaryOp .BitOr) (rOwn2 C sp) := bin_own (by decide +kernel) c hs hr hk
/-- y in x, y not in x: the method answers a bool -/
def rInO (C : Addr) (sp : Sp) (neg : Bool) : R2 := fun y x H Q => ∃ a dx fs, x = .ref a ∧ H a = some (.ins C dx fs) ∧ sp [.ref a, y] H (fun v H' => ∃ b : Bool, v = .bl b ∧ Q (.bl (if neg then !b else b)) H') E0
theorem o_in_own (c : Method X.prog X.w X.K X.mg X.base C "__contains__" ps sp k) (hr : Room j X.A) (hk : k ≤ j) : OpR X (compareOp .In) (rInO C sp false) := by
  intro pins s σ H x y v u Q I rx ry h
  obtain ⟨f, fd, F, b, cl, M⟩ := c.ex
  obtain ⟨a, dx, fs, rfl, ha, q⟩ := h
  cases (show u = Value.ref a from ry)
  obtain ⟨mA, J, _⟩ := ins_get I.hok ha
  obtain ⟨od, J, _⟩ := J.look
  obtain ⟨m', hF⟩ := I.fr
  refine PySem.W.in_K hF I.ok.mod.kin J M.at_ M.fn ?_
  refine wpAny_mono (run_at F (hr.mono hk) I.env0 b I (vs := [.ref a, x]) (.cons rfl (.cons rx .nil)) q) (fun v' s' hv => ?_) fun _ _ z => z
  obtain ⟨v0, H', I', rv, bb, rfl, q'⟩ := hv
  cases (show v' = Value.bool bb from rv)
  exact wpAny_truthy_bool ⟨.bl bb, H', I', rfl, q'⟩
theorem o_notin_own (c : Method X.prog X.w X.K X.mg X.base C "__contains__" ps sp k) (hr : Room j X.A) (hk : k ≤ j) : OpR X (compareOp .NotIn) (rInO C sp true) := by
  intro pins s σ H x y v u Q I rx ry h
  obtain ⟨f, fd, F, b, cl, M⟩ := c.ex
  obtain ⟨a, dx, fs, rfl, ha, q⟩ := h
  cases (show u = Value.ref a from ry)
  obtain ⟨mA, J, _⟩ := ins_get I.hok ha
  obtain ⟨od, J, _⟩ := J.look
  obtain ⟨m', hF⟩ := I.fr
  refine PySem.W.notIn_K hF I.ok.mod.kin J M.at_ M.fn ?_
  refine wpAny_mono (run_at F (hr.mono hk) I.env0 b I (vs := [.ref a, x]) (.cons rfl (.cons rx .nil)) q) (fun v' s' hv => ?_) fun _ _ z => z
  obtain ⟨v0, H', I', rv, bb, rfl, q'⟩ := hv
  cases (show v' = Value.bool bb from rv)
  exact wpAny_truthy_bool ⟨.bl (!bb), H', I', rfl, q'⟩
end
end OA

/-! ### own errors: making, raising, catching; defs and methods that may raise -/
namespace OA
open PySem PySem.Spec PyProof.Rows L2
structure CalleeX (P : Program) (w : World) (K : PySem.W.Frag) (mg : Str → Option Value) (base : Heap) (x : Str) (ps : List Str) (sp : Sp) (k : Nat) : Prop where
  ex : ∃ f fd, FnOk P w K mg base (L2.CX P w) k f fd ps sp ∧ Binds K fd ps [] ∧ mg x = some (.ref f) ∧ PySem.W.keepIn K (.ref f) = true
structure MethodX (P : Program) (w : World) (K : PySem.W.Frag) (mg : Str → Option Value) (base : Heap) (C : Addr) (m : Str) (ps : List Str) (sp : Sp) (k : Nat) : Prop where
  ex : ∃ f fd, FnOk P w K mg base (L2.CX P w) k f fd ps sp ∧ Binds K fd ps [] ∧ Cls K C ∧ Meth K C m f
/-- an own error's class with its __init__ -/
structure ErrMk (P : Program) (w : World) (K : PySem.W.Frag) (mg : Str → Option Value) (base : Heap) (x : Str) (C : Addr) (ps : List Str) (sp : Sp) (k : Nat) : Prop where
  ex : ∃ f fd, FnOk P w K mg base CX0 k f fd ps sp ∧ Binds K fd ps [] ∧ mg x = some (.ref C) ∧ OexC K C ∧ PySem.W.findIn K (.ref C) "__init__" = some (some (.ref f)) ∧ PySem.W.typeIn K (.ref f) = some (.type "function")
section
variable {X : Cx} {C : Addr} {m x : Str} {ps : List Str} {sp : Sp} {k j : Nat} {W : WX} {e : Expr} {es : List Expr} {t : TA} {p pos pos' : Pos}
theorem pe_coX (c : CalleeX X.prog X.w X.K X.mg X.base x ps sp k) (hr : Room j X.A) (hk : k ≤ j) (tk : Takes X W) (hg : Gl X x) (ha : PA X (e :: es) t)
    (hdb : (x == ("__debug__" : Str)) = false := by decide) (he : starEach (e :: es) X.env = (false, eval e X.env) :: starEach es X.env := by rfl) (hpl : (backTo pos (starEach es X.env)).any (·.1) = false := by rfl) :
    PE X (.Call (.Name x p) (e :: es) [] pos) (tCallS sp (WE W) t) := by
  obtain ⟨f, fd, F, b, mm, kp⟩ := c.ex
  exact pe_callS F (hr.mono hk) hg mm kp b (fun σ => passAt tk σ) ha hdb he hpl
/-- an operation whose reading knows the slots -/
def OpRS (X : Cx) (f : Value → Value → Sem Value) (r : L2.St → R2) : Prop :=
  ∀ (pins : List (Addr × Obj)) (s : Shared) (σ : L2.St) (H : Hp) (x y : V) (v u : Value) (Q : VK), Inv X pins σ H s → RelV x v → RelV y u → r σ x y H Q → wpAny (model X.prog X.w) X.A (f v u) (EP X pins σ Q) X.xe s
def tOpS (r : L2.St → R2) (ta tb : TE) : TE := fun σ H Q => ta σ H fun x H1 => tb σ H1 fun y H2 => r σ x y H2 Q
theorem pe_cmpS {a b : Expr} {ta tb : TE} {op : CmpOp} {r : L2.St → R2} (ho : OpRS X (compareOp op) r) (ha : PE X a ta) (hb : PE X b tb) (hm : behindInMarks op b = false) : PE X (.Compare a [op] [b] pos) (tOpS r ta tb) := by
  refine ⟨fun pins s σ H Q I h => ?_⟩
  exact wpAny_Compare1 (binT ha hb I h fun v u s2 x y H2 I2 rx ry q => ho pins s2 σ H2 x y v u Q I2 rx ry q) hm
/-- y in x, where the method may raise -/
def rInX (C : Addr) (sp : Sp) (W : WX) (neg : Bool) : L2.St → R2 := fun σ y x H Q => ∃ a dx fs, x = .ref a ∧ H a = some (.ins C dx fs) ∧ sp [.ref a, y] H (fun v H' => ∃ b : Bool, v = .bl b ∧ Q (.bl (if neg then !b else b)) H') (WE W σ)
theorem o_in_ownX (c : MethodX X.prog X.w X.K X.mg X.base C "__contains__" ps sp k) (hr : Room j X.A) (hk : k ≤ j) (tk : Takes X W) : OpRS X (compareOp .In) (rInX C sp W false) := by
  intro pins s σ H x y v u Q I rx ry h
  obtain ⟨f, fd, F, b, cl, M⟩ := c.ex
  obtain ⟨a, dx, fs, rfl, ha, q⟩ := h
  cases (show u = Value.ref a from ry)
  obtain ⟨mA, J, _⟩ := ins_get I.hok ha
  obtain ⟨od, J, _⟩ := J.look
  obtain ⟨m', hF⟩ := I.fr
  refine PySem.W.in_K hF I.ok.mod.kin J M.at_ M.fn ?_
  refine wpAny_mono (run_fnS (E := WE W) F (hr.mono hk) b (passAt tk σ) I (vs := [.ref a, x]) (.cons rfl (.cons rx .nil)) q) (fun v' s' hv => ?_) fun _ _ z => z
  obtain ⟨v0, H', I', rv, bb, rfl, q'⟩ := hv
  cases (show v' = Value.bool bb from rv)
  exact wpAny_truthy_bool ⟨.bl bb, H', I', rfl, q'⟩
/-- raise C(..) -/
def tRaise (C : Addr) (sp : Sp) (W : WX) (ta : TA) : TS := fun _ σ H => tMkO C sp [] ta σ H fun cls d H' => W cls d σ H'
theorem ps_raiseE (c : ErrMk X.prog X.w X.K X.mg X.base x C ps sp k) (hr : Room j X.A) (hk : k + 1 ≤ j) (tk : Takes X W) (hg : Gl X x) (ha : PA X (e :: es) t) (hc : X.calm = true := by rfl)
    (hdb : (x == ("__debug__" : Str)) = false := by decide) (he : starEach (e :: es) X.env = (false, eval e X.env) :: starEach es X.env := by rfl) (hpl : (backTo pos (starEach es X.env)).any (·.1) = false := by rfl) :
    PS X (.Raise (some (.Call (.Name x p) (e :: es) [] pos)) none pos') (tRaise C sp W t) := by
  obtain ⟨f, fd, F, b, mm, T, iC, tI⟩ := c.ex
  exact L2.ps_raise hc tk (pmk_oex T iC tI F (hr.mono hk) b .nil pass0 hg mm ha hdb he hpl)
/-- isinstance(e, c), e the error that the suite holds, with its own dict -/
def rIsED (K : PySem.W.Frag) (a : Addr) (cls : Value) (d : Option Addr) : List V → Hp → VK → Prop := fun xs H Q => ∃ (D dd : Addr) (fs : List (Str × V)) (c : V) (cv : Value) (b : Bool), xs = [.ref a, c] ∧ cls = .ref D ∧ d = some dd ∧ H dd = some (.xd fs) ∧ ExcC K D ∧ ClsV c cv ∧ PySem.W.kitOne K (.ref D) cv = some b ∧ Q (.bl b) H
theorem call_isED {a : Addr} {oe : Obj} {cls : Value} {d : Option Addr} {pn : List (Addr × Obj)} (K : PySem.W.Frag) (hz : Zc cls d oe) (hf : ∃ vs, oe.data = .fields vs) (hK : X.K = K := by rfl) : CallR (X.suite a ((a, oe) :: pn)) (.builtin "isinstance") (rIsED K a cls d) := by
  subst hK
  intro pins s σ H xs us Q I r h
  obtain ⟨D, dd, fs, c, cv, b, rfl, rfl, rfl, hx, T, hc, ke, q⟩ := h
  obtain ⟨u1, u2, rfl, r1, r2⟩ := vals2 r
  cases (show u1 = Value.ref a from r1)
  have e2 := hc.eq r2
  subst e2
  obtain ⟨hg, _⟩ := I.pin (a, oe) (List.mem_append.mpr (.inl List.mem_cons_self))
  obtain ⟨vs, hv⟩ := hf
  obtain ⟨mA, hns, _⟩ := (show ObjOk X.prog X.w H s.heap dd (.xd fs) from I.hok dd _ hx)
  obtain ⟨od, ho, _⟩ := lookIn_ns hns
  have J : PySem.W.InstAt s.heap a oe D (some od) := ⟨hg, hz.1, by unfold PySem.W.notCls; rw [hv] <;> rfl, by rw [hz.2]; exact ho⟩
  have hcl : (PySem.W.clsIn X.K D).isSome = true := by obtain ⟨cd, h, _⟩ := PySem.W.any_some T.hd; rw [h]; rfl
  exact PySem.W.kia_one (PySem.W.kitx_exc hcl T.hg T.hk T.hs T.ha T.hn T.ht T.hm) I.kIn J ke (fun z => nomatch z) fun tk => ⟨.bl b, H, I.tok tk, rfl, q⟩
end
/-- what __init__ of an error with two fields promises -/
def spErr2 (C : Addr) (f1 f2 : Str) : Sp := fun vs H Q _ => ∃ (a : Addr) (x1 x2 : V), vs = [.ref a, x1, x2] ∧ H a = some (exo a C none) ∧ ∀ dx, H dx = none → dx ≠ a → Q .non (upd (upd (upd H dx (exd dx [(f1, x1)])) a (exo a C (some dx))) dx (exd dx [(f2, x2), (f1, x1)]))
def spErr1 (C : Addr) (f1 : Str) : Sp := fun vs H Q _ => ∃ (a : Addr) (x1 : V), vs = [.ref a, x1] ∧ H a = some (exo a C none) ∧ ∀ dx, H dx = none → dx ≠ a → Q .non (upd (upd H dx (exd dx [(f1, x1)])) a (exo a C (some dx)))
theorem mk_err2 {C : Addr} {f1 f2 : Str} {ta : TA} {σ : L2.St} {H : Hp} {Q : XK} (h : ta σ H fun vs H1 => ∃ x1 x2, vs = [x1, x2] ∧ ∀ d, H1 d = none → Q (.ref C) (some d) (upd H1 d (.xd [(f2, x2), (f1, x1)])))
    (hm : ∀ (Q Q' : List V → Hp → Prop), (∀ vs H, Q vs H → Q' vs H) → ta σ H Q → ta σ H Q') : tMkO C (spErr2 C f1 f2) [] ta σ H Q := by
  refine hm _ _ (fun vs H1 hh => ?_) h
  obtain ⟨x1, x2, rfl, q⟩ := hh
  refine ⟨(by show 2 ≤ 1000; decide), fun a ha => ⟨a, x1, x2, rfl, upd_same, fun dx hdx hne => ?_⟩⟩
  have hd1 : H1 dx = none := by rw [upd_ne hne] at hdx; exact hdx
  refine ⟨rfl, dx, _, ?_, upd_same, hd1, ?_⟩
  · rw [upd_ne hne.symm, upd_same]
  · have e : upd (del (upd (upd (upd (upd H1 a (exo a C none)) dx (exd dx [(f1, x1)])) a (exo a C (some dx))) dx (exd dx [(f2, x2), (f1, x1)])) a) dx (.xd [(f2, x2), (f1, x1)]) = upd H1 dx (.xd [(f2, x2), (f1, x1)]) := by
      funext b
      by_cases hb : b = dx
      · rw [hb, upd_same, upd_same]
      · rw [upd_ne hb, upd_ne hb]
        by_cases hb2 : b = a
        · rw [hb2, del_same, ha]
        · rw [del_ne hb2, upd_ne hb, upd_ne hb2, upd_ne hb, upd_ne hb2]
    rw [e]
    exact q dx hd1
theorem raise_err2 {C : Addr} {f1 f2 : Str} {ta : TA} {W : WX} {D : Ends} {σ : L2.St} {H : Hp} (h : ta σ H fun vs H1 => ∃ x1 x2, vs = [x1, x2] ∧ ∀ d, H1 d = none → W (.ref C) (some d) σ (upd H1 d (.xd [(f2, x2), (f1, x1)])))
    (hm : ∀ (Q Q' : List V → Hp → Prop), (∀ vs H, Q vs H → Q' vs H) → ta σ H Q → ta σ H Q') : tRaise C (spErr2 C f1 f2) W ta D σ H := mk_err2 h hm
end OA

/-! ### operators, makers and errors without own __init__, where something may be raised -/
namespace OA
open PySem PySem.Spec PyProof.Rows L2
/-- an own error's class without own __init__ -/
structure Err0 (K : PySem.W.Frag) (mg : Str → Option Value) (x : Str) (C : Addr) : Prop where
  g : mg x = some (.ref C)
  ex : PySem.W.excIn K C [.type "ValueError", .type "Exception", .type "BaseException", .type "object"] "ValueError.__new__" = true
  k : PySem.W.keepIn K (.ref C) = true
  b : PySem.W.subIn K (.ref C) (.type "BaseException") = some true
  t : PySem.W.typeIn K (.ref C) = some (.type "type")
/-- a class of the top with its __init__, which may raise -/
structure MakerX (P : Program) (w : World) (K : PySem.W.Frag) (mg : Str → Option Value) (base : Heap) (x : Str) (C : Addr) (ps : List Str) (sp : Sp) (k : Nat) : Prop where
  ex : ∃ f fd, FnOk P w K mg base (L2.CX P w) k f fd ps sp ∧ Binds K fd ps [] ∧ mg x = some (.ref C) ∧ Mk K C f
section
variable {X : Cx} {C : Addr} {m x : Str} {ps : List Str} {sp : Sp} {k j : Nat} {W : WX} {e : Expr} {es : List Expr} {t : TA} {p pos pos' : Pos}
def tRaise0 (C : Addr) (W : WX) : TS := fun _ σ H => W (.ref C) none σ H
theorem ps_raise0 (T : Err0 X.K X.mg x C) (tk : Takes X W) (hg : Gl X x) (hc : X.calm = true := by rfl) (hdb : (x == ("__debug__" : Str)) = false := by decide) :
    PS X (.Raise (some (.Call (.Name x p) [] [] pos)) none pos') (tRaise0 C W) := by
  refine L2.ps_raise (t := fun _ H Q => Q (.ref C) none H) hc tk ?_
  intro pins s σ H Q I h
  refine wpAny_Call_Name_kw (ld_glob I hg T.g ?_ hdb)
  refine PySem.W.callWith_K0 I.kIn T.k ?_
  obtain ⟨bm, N, nm, qn, bs, hdct, sn, sub, ab, col, dd, k0, k1, k2, k3, k5, mN, hC, hN, hni, T'⟩ := exc_obj I.kIn T.ex
  refine wpAny_call_exc_subT PySem.F.excBase_ValueError T' hC hN hni (fun h' e hm => ?_) (Nat.zero_le _)
  exact mk_of I hm (raises_own T.b T.t) h (I.hok.gone hm.new)
/-- isinstance(e, c), e the error that the suite holds, without a dict of its own -/
def rIsEN (K : PySem.W.Frag) (a : Addr) (cls : Value) (d : Option Addr) : List V → Hp → VK → Prop := fun xs H Q => ∃ (D : Addr) (c : V) (cv : Value) (b : Bool), xs = [.ref a, c] ∧ cls = .ref D ∧ d = none ∧ ExcC K D ∧ ClsV c cv ∧ PySem.W.kitOne K (.ref D) cv = some b ∧ Q (.bl b) H
theorem call_isEN {a : Addr} {oe : Obj} {cls : Value} {d : Option Addr} {pn : List (Addr × Obj)} (K : PySem.W.Frag) (hz : Zc cls d oe) (hf : ∃ vs, oe.data = .fields vs) (hK : X.K = K := by rfl) : CallR (X.suite a ((a, oe) :: pn)) (.builtin "isinstance") (rIsEN K a cls d) := by
  subst hK
  intro pins s σ H xs us Q I r h
  obtain ⟨D, c, cv, b, rfl, rfl, rfl, T, hc, ke, q⟩ := h
  exact call_isE T hz hf pins s σ H _ us Q I r ⟨c, cv, b, rfl, fun u hu => hc.eq hu, ke, q⟩
theorem pe_opS {a b : Expr} {ta tb : TE} {op : Operator} {r : L2.St → R2} (ho : OpRS X (binaryOp op) r) (ha : PE X a ta) (hb : PE X b tb) : PE X (.BinOp a op b pos) (tOpS r ta tb) := by
  refine ⟨fun pins s σ H Q I h => ?_⟩
  exact wpAny_BinOp (binT ha hb I h fun v u s2 x y H2 I2 rx ry q => ho pins s2 σ H2 x y v u Q I2 rx ry q)
theorem pt_cmpS {a b : Expr} {ta tb : TE} {op : CmpOp} {r : L2.St → R2} (ho : OpRS X (compareOp op) r) (ha : PE X a ta) (hb : PE X b tb) (hm : behindInMarks op b = false) : PT X (.Compare a [op] [b] pos) (tTest (tOpS r ta tb)) := by
  refine ⟨fun pins s σ H Q I h => ?_⟩
  refine wpAny_isTrue_Compare1 (thn (ha.run pins s σ H _ I h) fun v s1 ⟨x, H1, I1, r1, q1⟩ => thn (hb.run pins s1 σ H1 _ I1 q1) fun u s2 ⟨y, H2, I2, r2, q2⟩ =>
    thn (ho pins s2 σ H2 x y v u _ I2 r1 r2 q2) fun c s3 ⟨z, H3, I3, r3, k, e, q3⟩ => ?_) hm
  subst e
  cases r3
  exact wpAny_truthy_bool ⟨H3, I3, q3⟩
/-- x op y of two instances, where the method may raise -/
def rOwn2X (C : Addr) (sp : Sp) (W : WX) : L2.St → R2 := fun σ x y H Q => ∃ a b dx fs dy gs, x = .ref a ∧ y = .ref b ∧ H a = some (.ins C dx fs) ∧ H b = some (.ins C dy gs) ∧ sp [.ref a, .ref b] H Q (WE W σ)
theorem cmp_ownX {op : CmpOp} (hop : ∀ v u, compareOp op v u = richCompare op v u) (hm : (cmpInfo op).2.1 = m) (c : MethodX X.prog X.w X.K X.mg X.base C m ps sp k) (hr : Room j X.A) (hk : k ≤ j) (tk : Takes X W) : OpRS X (compareOp op) (rOwn2X C sp W) := by
  intro pins s σ H x y v u Q I rx ry h
  obtain ⟨f, fd, F, b, cl, M⟩ := c.ex
  obtain ⟨a, b', dx, fs, dy, gs, rfl, rfl, ha, hb, q⟩ := h
  cases (show v = Value.ref a from rx)
  cases (show u = Value.ref b' from ry)
  obtain ⟨mA, J, _⟩ := ins_get I.hok ha
  obtain ⟨mB, J', _⟩ := ins_get I.hok hb
  obtain ⟨od, J, _⟩ := J.look
  obtain ⟨od', J', _⟩ := J'.look
  obtain ⟨m', hF⟩ := I.fr
  rw [hop]
  refine PySem.W.cmp_K (op := op) (tb := .ref C) hr.units0 hF I.ok.mod.kin J J'.type (by simp [PySem.W.notFirst]) (by rw [hm]; exact M.at_) M.fn ?_
  exact wpAny_mono (run_fnS (E := WE W) F (hr.mono hk) b (passAt tk σ) I (vs := [.ref a, .ref b']) (.cons rfl (.cons rfl .nil)) q) (fun v s' hv => back_of hv) fun _ _ z => z
theorem o_le_ownX (c : MethodX X.prog X.w X.K X.mg X.base C "__le__" ps sp k) (hr : Room j X.A) (hk : k ≤ j) (tk : Takes X W) : OpRS X (compareOp .LtE) (rOwn2X C sp W) := cmp_ownX (fun _ _ => rfl) rfl c hr hk tk
theorem bin_ownX {op : Operator} (hm : PySem.dunder op.info.2 = m) (c : MethodX X.prog X.w X.K X.mg X.base C m ps sp k) (hs : PySem.W.selfFirst X.K C = true) (hr : Room j X.A) (hk : k ≤ j) (tk : Takes X W) : OpRS X (binaryOp op) (rOwn2X C sp W) := by
  intro pins s σ H x y v u Q I rx ry h
  obtain ⟨f, fd, F, b, cl, M⟩ := c.ex
  obtain ⟨a, b', dx, fs, dy, gs, rfl, rfl, ha, hb, q⟩ := h
  cases (show v = Value.ref a from rx)
  cases (show u = Value.ref b' from ry)
  obtain ⟨mA, J, _⟩ := ins_get I.hok ha
  obtain ⟨mB, J', _⟩ := ins_get I.hok hb
  obtain ⟨od, J, _⟩ := J.look
  obtain ⟨od', J', _⟩ := J'.look
  obtain ⟨m', hF⟩ := I.fr
  refine PySem.W.binop_K hF I.ok.mod.kin J J'.type hs (by rw [hm]; exact M.at_) M.fn ?_
  exact wpAny_mono (run_fnS (E := WE W) F (hr.mono hk) b (passAt tk σ) I (vs := [.ref a, .ref b']) (.cons rfl (.cons rfl .nil)) q) (fun v s' hv => back_of hv) fun _ _ z => z
theorem o_and_ownX (c : MethodX X.prog X.w X.K X.mg X.base C "__and__" ps sp k) (hs : PySem.W.selfFirst X.K C = true) (hr : Room j X.A) (hk : k ≤ j) (tk : Takes X W) : OpRS X (binaryOp .BitAnd) (rOwn2X C sp W) := bin_ownX (by decide +kernel) c hs hr hk tk
theorem o_or_ownX (c : MethodX X.prog X.w X.K X.mg X.base C "__or__" ps sp k) (hs : PySem.W.selfFirst X.K C = true) (hr : Room j X.A) (hk : k ≤ j) (tk : Takes X W) : OpRS X (binaryOp .BitOr) (rOwn2X C sp W) := bin_ownX (by decide +kernel) c hs hr hk tk
/-- C(e, ..), where __init__ may raise -/
def tMakeS (C : Addr) (sp : Sp) (E : L2.St → XK) (t : TA) : TE := fun σ H Q => t σ H fun vs H1 => ∀ x dx, H1 x = none → H1 dx = none → dx ≠ x → sp (V.ref x :: vs) (upd (upd H1 dx (.own x)) x (.ins C dx [])) (fun v H2 => v = .non ∧ Q (.ref x) H2) (E σ)
theorem run_makeS {f : Addr} {fd : FuncData} {E : L2.St → XK} {pins : List (Addr × Obj)} {σ : L2.St} {H : Hp} {s : Shared} {Q : VK} {us : List Value} {vs : List V} (M : Mk X.K C f) (F : FnOk X.prog X.w X.K X.mg X.base (L2.CX X.prog X.w) k f fd ps sp) (hr : Room (k + 1) X.A) (hb : Binds X.K fd ps [])
    (tk : Takes X W) (I : Inv X pins σ H s) (r : Vals vs us)
    (h : ∀ x dx, H x = none → H dx = none → dx ≠ x → sp (.ref x :: vs) (upd (upd H dx (.own x)) x (.ins C dx [])) (fun v H2 => v = .non ∧ Q (.ref x) H2) (WE W σ)) :
    wpAny (model X.prog X.w) X.A (call (.ref C) us) (EP X pins σ Q) X.xe s := by
  have hq := h (s.heap.objs.size + 1) s.heap.objs.size (I.hok.fresh (Nat.le_succ _)) (I.hok.fresh (Nat.le_refl _)) (Nat.ne_of_lt (Nat.lt_succ_self _))
  have I2 := Inv.made (C := C) I
  have r2 : Vals (V.ref (s.heap.objs.size + 1) :: vs) (Value.ref (s.heap.objs.size + 1) :: us) := .cons rfl r
  have hl : (Value.ref (s.heap.objs.size + 1) :: us ++ []).length = ps.length := by
    have e := r2.length
    rw [F.len _ _ _ _ hq] at e
    rw [List.append_nil]
    exact e.symm
  have hbb := hb _ (Value.ref (s.heap.objs.size + 1) :: us) I2.kIn hl
  rw [List.append_nil] at hbb
  refine wpAny_call (make_map (f := f) I.kIn M.makes M.init (beq_iff_eq.mp M.fn) (codeAny_mono (F.run _ X.stack _ _ ⟨Value.ref (s.heap.objs.size + 1) :: us, []⟩ (Value.ref (s.heap.objs.size + 1) :: us) _ _ (WE W σ) (hr.make C us [])
    (I2.env0.make C us []) hbb r2 hq) fun r s' hq' => ?_))
  cases r with
  | error e => exact passAt tk σ pins _ _ e s' I2 hq'
  | ok fl =>
    cases fl with
    | ret u =>
      obtain ⟨v, H', I3, rv, ev, q3⟩ := I2.after hq'
      subst ev
      exact ⟨rv, ⟨V.ref (s.heap.objs.size + 1), H', I3, rfl, q3⟩⟩
    | next => exact False.elim hq'
    | brk => exact False.elim hq'
    | cont => exact False.elim hq'
theorem pe_mkX (c : MakerX X.prog X.w X.K X.mg X.base x C ps sp k) (hr : Room j X.A) (hk : k + 1 ≤ j) (tk : Takes X W) (hg : Gl X x) (ha : PA X (e :: es) t)
    (hdb : (x == ("__debug__" : Str)) = false := by decide) (he : starEach (e :: es) X.env = (false, eval e X.env) :: starEach es X.env := by rfl) (hpl : (backTo pos (starEach es X.env)).any (·.1) = false := by rfl) :
    PE X (.Call (.Name x p) (e :: es) [] pos) (tMakeS C sp (WE W) t) := by
  obtain ⟨f, fd, F, b, mm, M⟩ := c.ex
  refine ⟨fun pins s σ H Q I h => ?_⟩
  refine wpAny_Call_Name_kw (ld_glob I hg mm ?_ hdb)
  refine PySem.W.callWith_K (h₀ := X.base) I.ok.mod.kin M.kp (thn (ha.run pos pins s σ H _ I h) fun us s1 ⟨vs, H1, I1, r, q⟩ => ⟨I1.kIn, ?_⟩) he hpl
  exact run_makeS (E := WE W) M F (hr.mono hk) b tk I1 r q
end
section
variable {X : Cx} {k : Nat}
theorem o_inD (K : PySem.W.Frag) (hr : Room k X.A) (h : X.K = K := by rfl) : OpR X (compareOp .In) (rInD K) := by subst h; exact op_inD (by have := hr.un; omega)
theorem o_notinD (K : PySem.W.Frag) (hr : Room k X.A) (h : X.K = K := by rfl) : OpR X (compareOp .NotIn) (rNotInD K) := by subst h; exact op_notInD (by have := hr.un; omega)
end
theorem mk_err1 {C : Addr} {f1 : Str} {ta : TA} {σ : L2.St} {H : Hp} {Q : XK} (h : ta σ H fun vs H1 => ∃ x1, vs = [x1] ∧ ∀ d, H1 d = none → Q (.ref C) (some d) (upd H1 d (.xd [(f1, x1)])))
    (hm : ∀ (Q Q' : List V → Hp → Prop), (∀ vs H, Q vs H → Q' vs H) → ta σ H Q → ta σ H Q') : tMkO C (spErr1 C f1) [] ta σ H Q := by
  refine hm _ _ (fun vs H1 hh => ?_) h
  obtain ⟨x1, rfl, q⟩ := hh
  refine ⟨(by show 1 ≤ 1000; decide), fun a ha => ⟨a, x1, rfl, upd_same, fun dx hdx hne => ?_⟩⟩
  have hd1 : H1 dx = none := by rw [upd_ne hne] at hdx; exact hdx
  refine ⟨rfl, dx, [(f1, x1)], upd_same, ?_, hd1, ?_⟩
  · rw [upd_ne hne, upd_same]
  · have e : upd (del (upd (upd (upd H1 a (exo a C none)) dx (exd dx [(f1, x1)])) a (exo a C (some dx))) a) dx (.xd [(f1, x1)]) = upd H1 dx (.xd [(f1, x1)]) := by
      funext b
      by_cases hb : b = dx
      · rw [hb, upd_same, upd_same]
      · rw [upd_ne hb, upd_ne hb]
        by_cases hb2 : b = a
        · rw [hb2, del_same, ha]
        · rw [del_ne hb2, upd_ne hb2, upd_ne hb, upd_ne hb2]
    rw [e]
    exact q dx hd1
theorem raise_err1 {C : Addr} {f1 : Str} {ta : TA} {W : WX} {D : Ends} {σ : L2.St} {H : Hp} (h : ta σ H fun vs H1 => ∃ x1, vs = [x1] ∧ ∀ d, H1 d = none → W (.ref C) (some d) σ (upd H1 d (.xd [(f1, x1)])))
    (hm : ∀ (Q Q' : List V → Hp → Prop), (∀ vs H, Q vs H → Q' vs H) → ta σ H Q → ta σ H Q') : tRaise C (spErr1 C f1) W ta D σ H := mk_err1 h hm
end OA

/-! ### own errors as values -/
namespace OA
open PySem PySem.Spec PyProof.Rows L2
/-- an own error's class with its __init__, the values of its defaults behind the arguments -/
structure ErrMkD (P : Program) (w : World) (K : PySem.W.Frag) (mg : Str → Option Value) (base : Heap) (x : Str) (C : Addr) (ps : List Str) (sp : Sp) (k : Nat) (dvs : List V) : Prop where
  ex : ∃ f fd, FnOk P w K mg base CX0 k f fd ps sp ∧ (∃ ds, Vals dvs ds ∧ Binds K fd ps ds) ∧ mg x = some (.ref C) ∧ OexC K C ∧ PySem.W.findIn K (.ref C) "__init__" = some (some (.ref f)) ∧ PySem.W.typeIn K (.ref f) = some (.type "function")
theorem ErrMkD.mk0 {P : Program} {w : World} {K : PySem.W.Frag} {mg : Str → Option Value} {base : Heap} {x : Str} {C : Addr} {ps : List Str} {sp : Sp} {k : Nat} (c : ErrMkD P w K mg base x C ps sp k []) : ErrMk P w K mg base x C ps sp k := by
  obtain ⟨f, fd, F, ⟨ds, hd, hb⟩, r⟩ := c.ex
  cases hd
  exact ⟨f, fd, F, hb, r⟩
def tMkV (C : Addr) (sp : Sp) (dvs : List V) (ta : TA) : TE := fun σ H Q => ta σ H fun vs H1 => vs.length ≤ 1000 ∧ ∀ a, H1 a = none → sp (.ref a :: (vs ++ dvs)) (upd H1 a (exo a C none)) (fun v H2 => v = .non ∧ Q (.ref a) H2) E0
section
variable {X : Cx} {C : Addr} {m x : Str} {ps : List Str} {sp : Sp} {k j : Nat} {e : Expr} {es : List Expr} {ta : TA} {p pos : Pos} {dvs : List V}
theorem pe_errV (c : ErrMkD X.prog X.w X.K X.mg X.base x C ps sp k dvs) (hr : Room j X.A) (hk : k + 1 ≤ j) (hg : Gl X x) (ha : PA X (e :: es) ta)
    (hdb : (x == ("__debug__" : Str)) = false := by decide) (he : starEach (e :: es) X.env = (false, eval e X.env) :: starEach es X.env := by rfl) (hpl : (backTo pos (starEach es X.env)).any (·.1) = false := by rfl) :
    PE X (.Call (.Name x p) (e :: es) [] pos) (tMkV C sp dvs ta) := by
  obtain ⟨fI, fd, F1, ⟨ds, hd, hb⟩, hm, T, iC, tI⟩ := c.ex
  refine ⟨fun pins s σ H Q I h => ?_⟩
  obtain ⟨nm, q, N, bs, bm, sn, sub, ab, col, dd, k0, k1, k2, k3, k5, hC, hbm⟩ := T.cls
  refine wpAny_Call_Name_kw (ld_glob I hg hm ?_ hdb)
  refine PySem.W.callWith_K (h₀ := X.base) I.ok.mod.kin T.kC (thn (ha.run pos pins s σ H _ I h) fun us s1 ⟨vs, H1, I1, r1, hz, q1⟩ => ⟨I1.kIn, ?_⟩) he hpl
  show wpAny _ _ (call (.ref C) us) _ _ _
  obtain ⟨hp, g, dr, tk, os⟩ := s1
  have hsz : hp.objs.size ≤ hp.objs.size + 1 := Nat.le_succ _
  have hn : H1 (hp.objs.size + 1) = none := I1.hok.fresh hsz
  have hq := q1 (hp.objs.size + 1) hn
  have kk : ∀ b o, hp.get? b = some o → ((hp.push (PySem.W.kdv_tup us)).push (PySem.HandSPX.excO C hp.objs.size)).get? b = some o := fun b o e => Heap.get?_push_of_some _ (Heap.get?_push_of_some _ e)
  have hget : ((hp.push (PySem.W.kdv_tup us)).push (PySem.HandSPX.excO C hp.objs.size)).get? (hp.objs.size + 1) = some (PySem.HandSPX.excO C hp.objs.size) := by heap_get
  have I2 : Inv X pins σ (upd H1 (hp.objs.size + 1) (exo (hp.objs.size + 1) C none)) ⟨(hp.push (PySem.W.kdv_tup us)).push (PySem.HandSPX.excO C hp.objs.size), g, dr, tk, os⟩ :=
    I1.laid (t' := tk) (a := hp.objs.size + 1) (o := exo (hp.objs.size + 1) C none) (h' := (hp.push (PySem.W.kdv_tup us)).push (PySem.HandSPX.excO C hp.objs.size)) kk hsz (exo_ok hget)
  have r2 : Vals (V.ref (hp.objs.size + 1) :: (vs ++ dvs)) (Value.ref (hp.objs.size + 1) :: (us ++ ds)) := .cons rfl (r1.append hd)
  have hl : (Value.ref (hp.objs.size + 1) :: us ++ ds).length = ps.length := by
    have e := r2.length
    rw [F1.len _ _ _ _ hq] at e
    exact e.symm
  have hus : us.length ≤ sizeLine := by
    rw [← Paired.length r1, sizeLine_eq]
    omega
  refine wpAny_call (PySem.HandSPX.call_own F.excBase_ValueError (fun Y => PySem.HandSPX.refsVE_contains Y bm hbm) (I1.kIn _ _ hC) (PySem.W.looks_findIn I1.kIn iC) (fun self => PySem.W.bind_fn I1.kIn self tI) hus
    (codeAny_mono (F1.run _ X.stack _ _ ⟨Value.ref (hp.objs.size + 1) :: us, []⟩ (Value.ref (hp.objs.size + 1) :: (us ++ ds)) _ _ E0 ((hr.mono hk).make C us []) (I2.env0.make C us []) (hb _ (Value.ref (hp.objs.size + 1) :: us) I2.kIn hl) r2 hq) fun r s' hq' => ?_))
  cases r with
  | error er => exact False.elim hq'
  | ok fl =>
    cases fl with
    | ret u =>
      obtain ⟨v, H', I3, rv, ev, q3⟩ := I2.after hq'
      subst ev
      exact ⟨rv, ⟨V.ref (hp.objs.size + 1), H', I3, rfl, q3⟩⟩
    | next => exact False.elim hq'
    | brk => exact False.elim hq'
    | cont => exact False.elim hq'
def tMk0 (C : Addr) : TE := fun _ H Q => ∀ a, H a = none → Q (.ref a) (upd H a (ExO (.ref C) a))
theorem pe_err0V (T : Err0 X.K X.mg x C) (hg : Gl X x) (hdb : (x == ("__debug__" : Str)) = false := by decide) : PE X (.Call (.Name x p) [] [] pos) (tMk0 C) := by
  refine ⟨fun pins s σ H Q I h => ?_⟩
  refine wpAny_Call_Name_kw (ld_glob I hg T.g ?_ hdb)
  refine PySem.W.callWith_K0 I.kIn T.k ?_
  obtain ⟨bm, N, nm, qn, bs, hdct, sn, sub, ab, col, dd, k0, k1, k2, k3, k5, mN, hC, hN, hni, T'⟩ := exc_obj I.kIn T.ex
  refine wpAny_call_exc_subT PySem.F.excBase_ValueError T' hC hN hni (fun h' a hm => ?_) (Nat.zero_le _)
  have hn : H a = none := I.hok.gone hm.new
  obtain ⟨t, ht, _, _⟩ := hm.there
  exact ⟨.ref a, upd H a (ExO (.ref C) a), I.laidN hm.keeps hm.new hn (exO_ok ht ⟨rfl, rfl⟩ rfl rfl rfl (show 4 < 6 by decide)), rfl, h a hn⟩
/-- an error of the class at D stands at a -/
def ErrAt (H : Hp) (a D : Addr) : Prop := (∃ d fs, H a = some (exo a D (some d)) ∧ H d = some (exd d fs)) ∨ H a = some (ExO (.ref D) a)
theorem ErrAt.mono {H H' : Hp} {a D : Addr} (s : Same H H') (h : ErrAt H a D) : ErrAt H' a D := by
  rcases h with ⟨d, fs, h1, h2⟩ | h
  · exact .inl ⟨d, fs, s _ _ h1, s _ _ h2⟩
  · exact .inr (s _ _ h)
def rIsV (K : PySem.W.Frag) : List V → Hp → VK → Prop := fun xs H Q => ∃ (a D : Addr) (c : V) (cv : Value) (b : Bool), xs = [.ref a, c] ∧ ErrAt H a D ∧ ExcC K D ∧ ClsV c cv ∧ PySem.W.kitOne K (.ref D) cv = some b ∧ Q (.bl b) H
theorem call_isV (K : PySem.W.Frag) (hK : X.K = K := by rfl) : CallR X (.builtin "isinstance") (rIsV K) := by
  subst hK
  intro pins s σ H xs us Q I r h
  obtain ⟨a, D, c, cv, b, rfl, hE, T, hc, ke, q⟩ := h
  obtain ⟨u1, u2, rfl, r1, r2⟩ := vals2 r
  cases (show u1 = Value.ref a from r1)
  have e2 := hc.eq r2
  subst e2
  rcases hE with ⟨d, fs, ha, hd⟩ | ha
  · obtain ⟨t1, hg⟩ := exo_at I.hok ha
    obtain ⟨mA, hns, _⟩ := exd_at I.hok hd
    obtain ⟨od, ho, _⟩ := lookIn_ns hns
    have J : PySem.W.InstAt s.heap a _ D (some od) := ⟨hg, rfl, rfl, ho⟩
    have hcl : (PySem.W.clsIn X.K D).isSome = true := by obtain ⟨cd, h, _⟩ := PySem.W.any_some T.hd; rw [h]; rfl
    exact PySem.W.kia_one (PySem.W.kitx_exc hcl T.hg T.hk T.hs T.ha T.hn T.ht T.hm) I.kIn J ke (fun z => nomatch z) fun tk => ⟨.bl b, H, I.tok tk, rfl, q⟩
  · have x : ObjOk X.prog X.w H s.heap a (.ext fun h => ∃ (oe : Obj) (vs : Array Value), h.get? a = some oe ∧ Zc (.ref D) none oe ∧ oe.data = .fields vs ∧ vs[1]? = some .none ∧ vs[2]? = some .none ∧ 4 < vs.size) := I.hok a _ ha
    obtain ⟨oe, vs, hget, hz, hv, _⟩ := x.1
    have J : PySem.W.InstAt s.heap a oe D none := by
      obtain ⟨oc, od, oda, osl⟩ := oe
      obtain ⟨h1, h2⟩ := hz
      dsimp only at h1 h2 hv
      subst h1 h2 hv
      exact ⟨hget, rfl, rfl, trivial⟩
    exact PySem.W.kia_one (PySem.W.handS_kitx_exc T.hg T.hk T.hs T.hd T.ha T.hn T.ht T.hm) I.kIn J ke (fun z => nomatch z) fun tk => ⟨.bl b, H, I.kept (t' := tk) fun _ _ z => z, rfl, q⟩
/-- e.f of such an error -/
def tXfV (C : Addr) (n : Str) (te : TE) : TE := fun σ H Q => te σ H fun x H1 => ∃ (a d : Addr) (fs : List (Str × V)) (v : V), x = .ref a ∧ H1 a = some (exo a C (some d)) ∧ H1 d = some (exd d fs) ∧ fs.lookup n = some v ∧ Q v H1
theorem pe_xfV {e : Expr} {te : TE} {n : Str} (T : XfC X.K C) (hno : PySem.W.findIn X.K (.ref C) n = some none) (he : PE X e te) (hb : attributeBase e n X.env (eval e X.env) = eval e X.env := by rfl) : PE X (.Attribute e n pos) (tXfV C n te) := by
  refine ⟨fun pins s σ H Q I h => ?_⟩
  refine attr_of hb (thn (he.run pins s σ H _ I h) fun u s1 hh => ?_)
  obtain ⟨x, H1, I1, rx, a, d, fs, v, ex, ha, hd, l, q⟩ := hh
  subst ex
  obtain rfl : u = Value.ref a := rx
  obtain ⟨t1, hg⟩ := exo_at I1.hok ha
  obtain ⟨mA, hns, hr⟩ := exd_at I1.hok hd
  obtain ⟨od, ho, hl⟩ := lookIn_ns hns
  obtain ⟨u, hu, ru⟩ := RelO.some_of (v := v) (o := mA n) (by rw [← l]; exact hr n)
  have J : PySem.W.InstAt s1.heap a _ C (some od) := ⟨hg, rfl, rfl, ho⟩
  exact HandSPX.exc_get I1.kIn J T.ga T.gg T.exC (PySem.W.findObj_own T.hdC hno rfl (by rw [hl, hu])) (handed_of ru) ⟨v, H1, I1.tok _, ru, q⟩
end
/-- what __init__ of an error promises: the fields L, the last one first -/
def SpE (C : Addr) (a : Addr) (L : List (Str × V)) (H : Hp) (Q : VK) : Prop := H a = some (exo a C none) ∧ ∀ dx H', H dx = none → dx ≠ a → (∀ b, b ≠ a → b ≠ dx → H' b = H b) → H' a = some (exo a C (some dx)) → H' dx = some (exd dx L) → Q .non H'
def spE1 (C : Addr) (f1 : Str) : Sp := fun vs H Q _ => ∃ (a : Addr) (x1 : V), vs = [.ref a, x1] ∧ SpE C a [(f1, x1)] H Q
def spE2 (C : Addr) (f1 f2 : Str) : Sp := fun vs H Q _ => ∃ (a : Addr) (x1 x2 : V), vs = [.ref a, x1, x2] ∧ SpE C a [(f2, x2), (f1, x1)] H Q
def spE4 (C : Addr) (f1 f2 f3 f4 : Str) : Sp := fun vs H Q _ => ∃ (a : Addr) (x1 x2 x3 x4 : V), vs = [.ref a, x1, x2, x3, x4] ∧ SpE C a [(f4, x4), (f3, x3), (f2, x2), (f1, x1)] H Q
/-- an error with the fields L stands at a -/
def ErrF (H : Hp) (a C : Addr) (L : List (Str × V)) : Prop := ∃ d, H a = some (exo a C (some d)) ∧ H d = some (exd d L)
theorem ErrF.mono {H H' : Hp} {a C : Addr} {L : List (Str × V)} (s : Same H H') (h : ErrF H a C L) : ErrF H' a C L := by
  obtain ⟨d, h1, h2⟩ := h
  exact ⟨d, s _ _ h1, s _ _ h2⟩
theorem ErrF.at {H : Hp} {a C : Addr} {L : List (Str × V)} (h : ErrF H a C L) : ErrAt H a C := by
  obtain ⟨d, h1, h2⟩ := h
  exact .inl ⟨d, L, h1, h2⟩
theorem spE_make {C a : Addr} {L : List (Str × V)} {H1 : Hp} {R : Hp → Prop} (na : H1 a = none) (k : ∀ H2, Same H1 H2 → ErrF H2 a C L → R H2) : SpE C a L (upd H1 a (exo a C none)) (fun v H2 => v = .non ∧ R H2) := by
  refine ⟨upd_same, fun dx H' hd hne ho ha hdx => ⟨rfl, k H' (fun b o e => ?_) ⟨dx, ha, hdx⟩⟩⟩
  have hba := ne_of_none e na
  have hd1 : H1 dx = none := by rw [upd_ne hne] at hd; exact hd
  rw [ho b hba (ne_of_none e hd1), upd_ne hba]
  exact e
/-- raise C(..) of such an error -/
theorem spE_raise {C a : Addr} {L : List (Str × V)} {H1 : Hp} {Q : XK} (na : H1 a = none) (k : ∀ d, H1 d = none → Q (.ref C) (some d) (upd H1 d (.xd L))) :
    SpE C a L (upd H1 a (exo a C none)) (fun v H2 => v = .non ∧ ∃ (d : Addr) (fs : List (Str × V)), H2 a = some (exo a C (some d)) ∧ H2 d = some (exd d fs) ∧ H1 d = none ∧ Q (.ref C) (some d) (upd (del H2 a) d (.xd fs))) := by
  refine ⟨upd_same, fun dx H' hd hne ho ha hdx => ?_⟩
  have hd1 : H1 dx = none := by rw [upd_ne hne] at hd; exact hd
  refine ⟨rfl, dx, L, ha, hdx, hd1, ?_⟩
  have e : upd (del H' a) dx (.xd L) = upd H1 dx (.xd L) := by
    funext b
    by_cases hb : b = dx
    · rw [hb, upd_same, upd_same]
    · rw [upd_ne hb, upd_ne hb]
      by_cases hb2 : b = a
      · rw [hb2, del_same, na]
      · rw [del_ne hb2, ho b hb2 hb, upd_ne hb2]
  rw [e]
  exact k dx hd1
theorem raise_errE1 {C : Addr} {f1 : Str} {ta : TA} {W : WX} {D : Ends} {σ : L2.St} {H : Hp} (h : ta σ H fun vs H1 => ∃ x1, vs = [x1] ∧ ∀ d, H1 d = none → W (.ref C) (some d) σ (upd H1 d (.xd [(f1, x1)])))
    (hm : ∀ (Q Q' : List V → Hp → Prop), (∀ vs H, Q vs H → Q' vs H) → ta σ H Q → ta σ H Q') : tRaise C (spE1 C f1) W ta D σ H := by
  refine hm _ _ (fun vs H1 hh => ?_) h
  obtain ⟨x1, rfl, k⟩ := hh
  exact ⟨(by show 1 ≤ 1000; decide), fun a na => ⟨a, x1, rfl, spE_raise (Q := fun cls d H' => W cls d σ H') na k⟩⟩
theorem paired_cons {α β : Type} {F : α → β → Prop} {c : α} {cs : List α} {bs : List β} (h : Paired F (c :: cs) bs) : ∃ b bs', bs = b :: bs' ∧ F c b ∧ Paired F cs bs' := by
  cases h with
  | cons h t => exact ⟨_, _, rfl, h, t⟩
theorem paired_nil {α β : Type} {F : α → β → Prop} {bs : List β} (h : Paired F [] bs) : bs = [] := by
  cases h
  rfl
end OA

namespace OA
open PySem L2
def topS (i : Nat) : Stmt := PySem.Challenge.pw_ownersagree_k01_errors_made.main.body.getD i (.Pass ⟨0, 0, 0, 0⟩)
/-- what the top has left of the built-in names and the constants -/
structure Txt (K : PySem.W.Frag) (mg : Str → Option Value) : Prop where
  n_len : mg "len" = none
  n_abs : mg "abs" = none
  n_int : mg "int" = none
  n_str : mg "str" = none
  n_list : mg "list" = none
  n_tuple : mg "tuple" = none
  n_range : mg "range" = none
  n_isinstance : mg "isinstance" = none
  n_any : mg "any" = none
  n_all : mg "all" = none
  n_sorted : mg "sorted" = none
  n_bool : mg "bool" = none
  n_ValueError : mg "ValueError" = none
end OA

/-! ### the drawing of a law: get_state, draw -/
namespace OA
open PySem PySem.Spec PyProof.Rows L2
/-- draw(st, limit): some number below the limit; only the state changes -/
def spDraw : Sp := fun vs H Q _ => ∃ (G : Hp) (st inn : Addr) (n : Int), vs = [.ref st, .int n] ∧ Same G H ∧ StAt G H st inn ∧ 0 < n ∧ n < 1073741824 ∧
  ∀ (r : Int) (H' : Hp), Stp (F2 st inn) G H G H' → StAt G H' st inn → 0 ≤ r → r < n → Q (.int r) H'
/-- get_state(script) -/
def spState (K : PySem.W.Frag) : Sp := fun vs H Q _ => ∃ (a : Addr) (ns : List Int), vs = [.ref a] ∧ SqL K H a (ns.map V.int) ∧ ns.length ≤ 1000 ∧
  ∀ (st inn : Addr) (H' : Hp), Same H H' → StAt H H' st inn → Q (.ref st) H'
theorem St4.ne {G H : Hp} {st inn : Addr} {cs : List Int} {a b c : Int} (h1 : Cell G H st (.lst [.ref inn, .int a, .int b, .int c])) (h2 : Cell G H inn (.lst (cs.map V.int))) : st ≠ inn := by
  refine ne_of h1.at_ h2.at_ fun z => ?_
  cases cs with
  | nil => cases z
  | cons x xs => cases z
theorem seq0 {α : Type} {x : α} (xs : List α) : seqIndex? 0 (x :: xs).length = some 0 := by
  unfold seqIndex?
  simp
section
variable {P : Program} {w : World} {K : PySem.W.Frag} {mg : Str → Option Value} {base : Heap}
theorem sc_draw : FnScope ["_law_st", "_law_limit", "_law_cell", "_law_digit"] ["_law_st", "_law_limit"] (defScope (topS 25)) := ⟨rfl, rfl, rfl, by decide +kernel, rfl, by decide +kernel, by decide +kernel⟩
set_option maxHeartbeats 8000000 in
theorem ok_draw {f : Addr} {fd : FuncData} (F : Fun K "_law_draw" "_law_draw" (topS 25) f fd) (T : Txt K mg) : FnOk P w K mg base CX0 1 f fd ["_law_st", "_law_limit"] spDraw := by
  refine F.ok sc_draw (fun vs H Q E h => ?_) (fun cdv A outer s H vs Q E hr h => ?_)
  · obtain ⟨G, st, inn, n, rfl, _⟩ := h
    rfl
  · obtain ⟨G, st, inn, n, rfl, gh, S, n0, n1, k⟩ := h
    refine ⟨_, (C8.pss_cut (ps_if (PW.pt (pw_and (pt_cmpR op_eq (pe_ix (ix_lst K) (pv 0) pe_int (fun _ _ => rfl)) pe_int (nomark _)) (pw_and1 (pt_cmpR (o_neD K hr.units) (pe_ix (ix_lst K) (pv 0) pe_int (fun _ _ => rfl)) (pe_lst pa_nil) (nomark _))))) (pss_cons (ps_set (i := 2) sc_draw.nd rfl (Or.inl rfl) (pe_op o_mod (pe_callTy c_int (by rfl) T.n_int (by decide +kernel) (pa_cons (e_bm K PySem.F.plainAttrs_list PySem.F.slot_list_pop PySem.F.type_list_pop mt_popAt (pe_ix (ix_lst K) (pv 0) pe_int (fun _ _ => rfl)) (pa_cons pe_int pa_nil)) pa_nil)) (pe_op op_powW (pe_op o_pow pe_int pe_int) pe_int)))
      (pss_one (ps_if (pt_cmpR o_ge (pv 2) (pe_op o_pow pe_int pe_int) (nomark _)) (pss_one (ps_asg (pv 2) (pg_sub (pv 0) pe_int set_list))) (pss_one (ps_asg (pe_op o_mod (pe_callTy c_int (by rfl) T.n_int (by decide +kernel) (pa_cons (pe_op o_add (pe_op o_add (pe_op o_mul (pe_ix (ix_lst K) (pv 0) pe_int (fun _ _ => rfl)) pe_int) (pe_op o_mul (pv 2) pe_int)) pe_int) pa_nil)) pe_int) (pg_sub (pv 0) pe_int set_list)))))) pss_nil)
      (pss_cons (ps_if (pt_cmpR o_gt (pe_ix (ix_lst K) (pv 0) pe_int (fun _ _ => rfl)) pe_int (nomark _)) (pss_cons (ps_set (i := 3) sc_draw.nd rfl (Or.inl rfl) (pe_op o_mod (pe_callTy c_int (by rfl) T.n_int (by decide +kernel) (pa_cons (pe_ix (ix_lst K) (pv 0) pe_int (fun _ _ => rfl)) pa_nil)) (pv 1)))
      (pss_cons (ps_asg (pe_op o_fdiv (pe_ix (ix_lst K) (pv 0) pe_int (fun _ _ => rfl)) (pv 1)) (pg_sub (pv 0) pe_int set_list))
      (pss_one (ps_ret (pv 3))))) pss_nil)
      (pss_cons (ps_asg (pe_op o_add (pe_ix (ix_lst K) (pv 0) pe_int (fun _ _ => rfl)) pe_int) (pg_sub (pv 0) pe_int set_list))
      (pss_cons (ps_asg (pe_op o_mod (pe_callTy c_int (by rfl) T.n_int (by decide +kernel) (pa_cons (pe_op o_add (pe_op o_mul (pe_ix (ix_lst K) (pv 0) pe_int (fun _ _ => rfl)) pe_int) (pe_op o_mul (pe_ix (ix_lst K) (pv 0) pe_int (fun _ _ => rfl)) pe_int)) pa_nil)) pe_int) (pg_sub (pv 0) pe_int set_list))
      (pss_one (ps_ret (pe_op o_mod (pe_op o_mod (pe_callTy c_int (by rfl) T.n_int (by decide +kernel) (pa_cons (pe_op o_add (pe_op o_mul (pe_ix (ix_lst K) (pv 0) pe_int (fun _ _ => rfl)) pe_int) (pe_ix (ix_lst K) (pv 0) pe_int (fun _ _ => rfl))) pa_nil)) pe_int) (pv 1)))))))), ?_⟩
    refine ⟨fun σ H1 => ∃ x, σ = [some (.ref st), some (.int n), x, none] ∧ Stp (F2 st inn) G H G H1 ∧ StAt G H1 st inn, ?_, ?_⟩
    · obtain ⟨cs, a, b, c, h1, h2, hc, ha, hb, hd⟩ := S
      have ne := St4.ne h1 h2
      refine ⟨_, rfl, _, _, _, _, rfl, rfl, SqL.of h1.at_, rfl, rfl, _, rfl, ?_⟩
      refine ite2 (fun _ => ?_) (fun _ => ⟨none, rfl, Stp.refl gh, ⟨cs, a, b, c, h1, h2, hc, ha, hb, hd⟩⟩)
      refine ⟨_, rfl, _, _, _, _, rfl, rfl, SqL.of h1.at_, rfl, (by decide), fun p hp => ?_⟩
      have sp : Stp (F2 st inn) G H G (upd H p (.lst [])) := Stp.put gh hp _
      have off := StAt.off ⟨cs, a, b, c, h1, h2, hc, ha, hb, hd⟩ hp
      have k1 := h1.off (q := p) (fun e => off (.inl e.symm)) (.lst [])
      have k2 := h2.off (q := p) (fun e => off (.inr e.symm)) (.lst [])
      refine ⟨dI cs, .list [], .lst (SqL.of k2.at_) (dp_ints cs), .lst (SqL.of upd_same) .nil, sh_ints, rfl, _, rfl, ?_⟩
      rw [eqv_ints0]
      cases cs with
      | nil => exact iteF ⟨none, rfl, sp, ⟨[], a, b, c, k1, k2, hc, ha, hb, hd⟩⟩
      | cons x cs =>
        refine iteT ?_
        have hx : 0 ≤ x := hc x List.mem_cons_self
        have hc' : ∀ y ∈ cs, 0 ≤ y := fun y hy => hc y (List.mem_cons_of_mem _ hy)
        refine ⟨_, rfl, _, _, _, _, rfl, rfl, SqL.of k1.at_, rfl, Or.inl ⟨rfl, _, SqL.of k2.at_⟩, inn, _, 0, 0, .int x, rfl, rfl, k2.at_, (by decide), (by decide), seq0 _, rfl, .inl ⟨_, rfl, _, _, rfl, rfl, ⟨by decide, by decide, by decide⟩, _, _, rfl, rfl, ⟨by decide, by decide +kernel, by decide +kernel⟩, _, _, rfl, rfl, (by show (0 : Int) < ((10 : Int) ^ (50 : Int).toNat) ^ (8 : Int).toNat; decide +kernel), ?_⟩⟩
        have hm : 0 ≤ x % ((10 : Int) ^ (50 : Int).toNat) ^ (8 : Int).toNat := Int.emod_nonneg _ (by decide +kernel)
        generalize x % ((10 : Int) ^ (50 : Int).toNat) ^ (8 : Int).toNat = y at hm
        generalize eH2 : upd (upd H p (.lst [])) inn (.lst (((x :: cs).map V.int).eraseIdx 0)) = H2
        have s2 : Stp (F2 st inn) G H G H2 := by rw [← eH2]; exact sp.trans (Stp.write sp.gh k2 (.inr rfl) _)
        have j1 : Cell G H2 st (.lst [.ref inn, .int a, .int b, .int c]) := by rw [← eH2]; exact k1.off ne _
        have j2 : Cell G H2 inn (.lst (cs.map V.int)) := by rw [← eH2]; exact k2.set _
        refine ⟨_, rfl, _, _, rfl, rfl, ⟨by decide, by decide, by decide⟩, _, _, rfl, rfl, _, rfl, ?_⟩
        refine ite2 (fun _ => ?_) (fun _ => ?_)
        · refine ⟨_, rfl, _, rfl, st, _, 1, 1, rfl, rfl, j1.at_, rfl, ?_⟩
          exact ⟨_, rfl, s2.trans (Stp.write s2.gh j1 (.inl rfl) _), ⟨cs, y, b, c, j1.set _, j2.off ne.symm _, hc', hm, hb, hd⟩⟩
        · refine ⟨_, rfl, _, _, _, _, rfl, rfl, SqL.of j1.at_, rfl, _, _, rfl, rfl, .inr ⟨by decide, by decide⟩, _, rfl, _, _, rfl, rfl, .inr ⟨by decide, by decide⟩, _, _, rfl, rfl, _, _, rfl, rfl, .inl ⟨_, rfl, _, _, rfl, rfl, (by show (0 : Int) < 2147483647; decide), ?_⟩⟩
          refine ⟨_, rfl, st, _, 2, 2, rfl, rfl, j1.at_, rfl, ?_⟩
          exact ⟨_, rfl, s2.trans (Stp.write s2.gh j1 (.inl rfl) _), ⟨cs, a, _, c, j1.set _, j2.off ne.symm _, hc', ha, Int.emod_nonneg _ (by decide), hd⟩⟩
    · rintro σ H1 ⟨x, rfl, s1, cs, a, b, c, h1, h2, hc, ha, hb, hd⟩
      have ne := St4.ne h1 h2
      refine ⟨_, rfl, _, _, _, _, rfl, rfl, SqL.of h1.at_, rfl, _, _, rfl, rfl, _, rfl, ?_⟩
      refine ite2 (fun _ => ?_) (fun _ => ?_)
      · refine ⟨_, rfl, _, _, _, _, rfl, rfl, SqL.of h1.at_, rfl, .inl ⟨_, rfl, _, rfl, _, _, rfl, rfl, n0, ?_⟩⟩
        refine ⟨_, rfl, _, _, _, _, rfl, rfl, SqL.of h1.at_, rfl, _, rfl, _, _, rfl, rfl, ⟨n0, n1⟩, _, rfl, st, _, 1, 1, rfl, rfl, h1.at_, rfl, ?_⟩
        refine ⟨_, rfl, ?_⟩
        exact k _ _ (s1.trans (Stp.write s1.gh h1 (.inl rfl) _)) ⟨cs, _, b, c, h1.set _, h2.off ne.symm _, hc, Int.ediv_nonneg ha (Int.le_of_lt n0), hb, hd⟩ (Int.emod_nonneg _ (by omega)) (Int.emod_lt_of_pos _ n0)
      · refine ⟨_, rfl, _, _, _, _, rfl, rfl, SqL.of h1.at_, rfl, _, _, rfl, rfl, _, rfl, st, _, 3, 3, rfl, rfl, h1.at_, rfl, ?_⟩
        generalize eH2 : upd H1 st (.lst (([.ref inn, .int a, .int b, .int c] : List V).set 3 (.int (c + 1)))) = H2
        have s2 : Stp (F2 st inn) G H G H2 := by rw [← eH2]; exact s1.trans (Stp.write s1.gh h1 (.inl rfl) _)
        have j1 : Cell G H2 st (.lst [.ref inn, .int a, .int b, .int (c + 1)]) := by rw [← eH2]; exact h1.set _
        have j2 : Cell G H2 inn (.lst (cs.map V.int)) := by rw [← eH2]; exact h2.off ne.symm _
        refine ⟨_, rfl, _, _, _, _, rfl, rfl, SqL.of j1.at_, rfl, _, _, rfl, rfl, .inr ⟨by decide, by decide⟩, _, rfl, _, _, _, _, rfl, rfl, SqL.of j1.at_, rfl, _, _, rfl, rfl, .inr ⟨by decide, by decide⟩, _, _, rfl, rfl, .inl ⟨_, rfl, _, _, rfl, rfl, (by show (0 : Int) < 2147483647; decide), ?_⟩⟩
        refine ⟨_, rfl, st, _, 2, 2, rfl, rfl, j1.at_, rfl, ?_⟩
        generalize hz : (b * 48271 + (c + 1) * 69621) % 2147483647 = z
        have z0 : 0 ≤ z := by rw [← hz]; exact Int.emod_nonneg _ (by decide)
        generalize eH3 : upd H2 st (.lst (([.ref inn, .int a, .int b, .int (c + 1)] : List V).set 2 (.int z))) = H3
        have s3 : Stp (F2 st inn) G H G H3 := by rw [← eH3]; exact s2.trans (Stp.write s2.gh j1 (.inl rfl) _)
        have l1 : Cell G H3 st (.lst [.ref inn, .int a, .int z, .int (c + 1)]) := by rw [← eH3]; exact j1.set _
        have l2 : Cell G H3 inn (.lst (cs.map V.int)) := by rw [← eH3]; exact j2.off ne.symm _
        refine ⟨_, rfl, _, _, _, _, rfl, rfl, SqL.of l1.at_, rfl, _, _, rfl, rfl, .inr ⟨by decide, by decide⟩, _, rfl, _, _, _, _, rfl, rfl, SqL.of l1.at_, rfl, _, _, rfl, rfl, .inl ⟨_, rfl, _, _, rfl, rfl, (by show (0 : Int) < 2147483629; decide), _, rfl, _, _, rfl, rfl, n0, ?_⟩⟩
        exact k _ _ s3 ⟨cs, a, z, c + 1, l1, l2, hc, ha, z0, by omega⟩ (Int.emod_nonneg _ (by omega)) (Int.emod_lt_of_pos _ n0)
end
end OA

namespace OA
open PySem PySem.Spec PyProof.Rows L2
section
variable {P : Program} {w : World} {K : PySem.W.Frag} {mg : Str → Option Value} {base : Heap}
theorem sc_get_state : FnScope ["_law_script", "_law_cell"] ["_law_script"] (defScope (topS 24)) := ⟨rfl, rfl, rfl, by decide +kernel, rfl, by decide +kernel, by decide +kernel⟩
theorem cutV_mem {xs : List V} {lo hi : Option Int} {x : V} (h : x ∈ cutV xs lo hi) : x ∈ xs := List.mem_of_mem_drop (List.mem_of_mem_take h)
theorem cutV_len {xs : List V} {lo hi : Option Int} : (cutV xs lo hi).length ≤ xs.length := by
  unfold cutV
  rw [List.length_take, List.length_drop]
  omega
set_option maxHeartbeats 8000000 in
theorem ok_get_state {f : Addr} {fd : FuncData} (F : Fun K "_law_get_state" "_law_get_state" (topS 24) f fd) (T : Txt K mg) : FnOk P w K mg base CX0 1 f fd ["_law_script"] (spState K) := by
  refine F.ok sc_get_state (fun vs H Q E h => ?_) (fun cdv A outer s H vs Q E hr h => ?_)
  · obtain ⟨a, ns, rfl, _⟩ := h
    rfl
  · obtain ⟨a, ns, rfl, hS, hlen, k⟩ := h
    refine ⟨_, (pss_one (ps_ret (pe_lst (pa_cons (pe_lc (own := [("_law_cell", 1)]) (by rfl) sc_get_state.nd (i_list K (pe_slice (sl_lst K) (pv 0) po_none (po_some pe_int))) (blkOk_by (own := [("_law_cell", 1)]) (N := ["_law_script", "_law_cell"]) (sc := defScope (topS 24)) (by decide +kernel)) (fun _ _ _ _ _ => (pg_name (i := 1) sc_get_state.nd rfl (Or.inl rfl))) (fun _ _ _ _ _ => pts_nil) (fun _ _ _ _ _ => (pe_op o_add (pe_op o_mul pe_int (pe_callB c_abs (by rfl) T.n_abs (by decide +kernel) (pa_cons (pv 1) pa_nil))) (pe_callTy c_int (by rfl) T.n_int (by decide +kernel) (pa_cons (pe_cmpR o_lt (pv 1) pe_int (nomark _)) pa_nil))))) (pa_cons pe_int (pa_cons pe_int (pa_cons pe_int pa_nil))))))), ?_⟩
    refine ⟨_, rfl, _, rfl, a, _, rfl, hS, fun p hp => ⟨p, rfl, ⟨_, SqL.of upd_same⟩, fun D hD => ?_⟩⟩
    generalize exs : cutV (ns.map V.int) none (some 63) = xs at hD
    have hl : xs.length ≤ 1000 := by
      rw [← exs]
      have := cutV_len (xs := ns.map V.int) (lo := none) (hi := some 63)
      rw [List.length_map] at this
      omega
    have hpD : p ≠ D := ne_of_none upd_same hD
    have nD : H D = none := by rw [upd_ne hpD.symm] at hD; exact hD
    refine lc_list (K := K) (a := p) (xs := xs) (fun i H' => ∃ cs : List Int, Same H H' ∧ H' p = some (.lst xs) ∧ H' D = some (.lst (cs.map V.int)) ∧ (∀ c ∈ cs, 0 ≤ c) ∧ cs.length = i) ?_ ?_ ?_ ?_
    · refine ⟨[], fun b o e => ?_, ?_, upd_same, fun c hc => (by cases hc), rfl⟩
      · rw [upd_ne (ne_of_none e nD), upd_ne (ne_of_none e hp)]; exact e
      · rw [upd_ne hpD]; exact upd_same
    · rintro i H' _ ⟨cs, _, h, _⟩
      exact SqL.of h
    · rintro i x H' hx ⟨cs, s1, h1, h2, h3, h4⟩
      obtain ⟨z, rfl⟩ : ∃ z, x = V.int z := by
        have hm := cutV_mem (xs := ns.map V.int) (lo := none) (hi := some 63) (x := x) (by rw [exs]; exact List.mem_of_getElem? hx)
        obtain ⟨z, _, e⟩ := List.mem_map.mp hm
        exact ⟨z, e.symm⟩
      refine ⟨rfl, yes_of ?_⟩
      refine ⟨_, rfl, _, rfl, _, _, rfl, rfl, .inl ⟨by decide, by decide⟩, _, rfl, _, _, rfl, rfl, .inr ⟨_, rfl, _, _, rfl, rfl, _, h2, ?_, ?_⟩⟩
      · rw [List.length_map]; exact sz_lt (by have := get_lt hx; omega)
      · have hv : 0 ≤ 2 * (if z < 0 then -z else z) + (if decide (z < 0) = true then 1 else 0) := by
          split <;> split <;> omega
        refine ⟨cs ++ [2 * (if z < 0 then -z else z) + (if decide (z < 0) = true then 1 else 0)], fun b o e => ?_, ?_, ?_, ?_, ?_⟩
        · rw [upd_ne (ne_of_none e nD)]; exact s1 b o e
        · rw [upd_ne hpD]; exact h1
        · rw [upd_same, List.map_append]; rfl
        · intro c hc
          rcases List.mem_append.mp hc with h | h
          · exact h3 c h
          · rw [List.mem_singleton.mp h]; exact hv
        · rw [List.length_append, h4]; rfl
    · rintro H' ⟨cs, s1, h1, h2, h3, h4⟩
      refine ⟨by show 4 ≤ sizeLine; decide, fun st hst => ?_⟩
      have n1 : H st = none := s1.free hst
      refine k st D _ (fun b o e => ?_) ⟨cs, 0, 1, 0, ⟨upd_same, n1⟩, ⟨?_, nD⟩, h3, by decide, by decide, by decide⟩
      · rw [upd_ne (ne_of_none e n1)]; exact s1 b o e
      · rw [upd_ne (ne_of_none h2 hst)]; exact h2
end
end OA

/-! ### words that a law draws -/
namespace OA
open PySem PySem.Spec PyProof.Rows L2
def spWords : Sp := fun vs H Q _ => ∃ (G : Hp) (st inn : Addr) (m n : Nat), vs = [.ref st, .int m, .int n] ∧ Same G H ∧ StAt G H st inn ∧ 1 ≤ m ∧ m ≤ 1000 ∧ n ≤ 26 ∧
  ∀ (v : V) (ws : List Str) (G' H' : Hp), Stp (F2 st inn) G H G' H' → StAt G' H' st inn → Ss G' v ws → Words m n ws → Q v H'
section
variable {P : Program} {w : World} {K : PySem.W.Frag} {mg : Str → Option Value} {base : Heap}
theorem sc_get_words : FnScope ["_law_st", "_law_most", "_law_count", "_law_signs", "_law_size", "_law_place", "_law_fill", "_law_some", "_law_first", "_law_tail", "_law_k"] ["_law_st", "_law_most", "_law_count"] (defScope (topS 26)) := ⟨rfl, rfl, rfl, by decide +kernel, rfl, by decide +kernel, by decide +kernel⟩
set_option maxHeartbeats 8000000 in
theorem ok_get_words {f : Addr} {fd : FuncData} (F : Fun K "_law_get_words" "_law_get_words" (topS 26) f fd) (T : Txt K mg) (c_draw : Callee P w K mg base "_law_draw" ["_law_st", "_law_limit"] spDraw 1) : FnOk P w K mg base CX0 2 f fd ["_law_st", "_law_most", "_law_count"] spWords := by
  refine F.ok sc_get_words (fun vs H Q E h => ?_) (fun cdv A outer s H vs Q E hr h => ?_)
  · obtain ⟨G, st, inn, m, n, rfl, _⟩ := h
    rfl
  · obtain ⟨G, st, inn, m, n, rfl, gh, S, m0, m1, hn, k⟩ := h
    refine ⟨_, (pss_cons (ps_set (i := 3) sc_get_words.nd rfl (Or.inr rfl) pe_str)
      (pss_cons (ps_set (i := 4) sc_get_words.nd rfl (Or.inl rfl) (pe_op o_add pe_int (pe_co c_draw hr (by decide) (by rfl) (pa_cons (pv 0) (pa_cons (pv 1) pa_nil)))))
      (pss_cons (ps_set (i := 5) sc_get_words.nd rfl (Or.inr rfl) (pe_co c_draw hr (by decide) (by rfl) (pa_cons (pv 0) (pa_cons (pv 4) pa_nil))))
      (pss_cons (ps_set (i := 6) sc_get_words.nd rfl (Or.inr rfl) (pe_ix ix_str (pv 3) (pe_co c_draw hr (by decide) (by rfl) (pa_cons (pv 0) (pa_cons pe_int pa_nil))) (fun _ _ => rfl)))
      (C8.pss_cut (ps_if (PW.pt (pw_and (pt_cmpR op_eq (pv 4) pe_int (nomark _)) (pw_and1 (pt_cmpR o_ins (pv 6) pe_str (by rfl))))) (pss_one (ps_set (i := 6) sc_get_words.nd rfl (Or.inr rfl) pe_str)) pss_nil)
      (C8.pss_cut (ps_set (i := 7) sc_get_words.nd rfl (Or.inr rfl) (pe_ifExp (pt_cmpR op_eq (pv 5) pe_int (nomark _)) pe_int pe_int))
      (pss_cons (ps_set (i := 8) sc_get_words.nd rfl (Or.inr rfl) (pe_co c_draw hr (by decide) (by rfl) (pa_cons (pv 0) (pa_cons (pv 7) pa_nil))))
      (pss_cons (ps_set (i := 9) sc_get_words.nd rfl (Or.inr rfl) (pe_op op_rep_str (pv 6) (pe_op o_sub (pe_op o_sub (pv 4) (pv 5)) pe_int)))
      (pss_one (ps_ret (pe_lc (own := [("_law_k", 10)]) (by rfl) sc_get_words.nd (pi_range1 (by rfl) T.n_range (pa_cons (pv 2) pa_nil)) (blkOk_by (own := [("_law_k", 10)]) (N := ["_law_st", "_law_most", "_law_count", "_law_signs", "_law_size", "_law_place", "_law_fill", "_law_some", "_law_first", "_law_tail", "_law_k"]) (sc := defScope (topS 26)) (by decide +kernel)) (fun _ _ _ _ _ => (pg_name (i := 10) sc_get_words.nd rfl (Or.inl rfl))) (fun _ _ _ _ _ => pts_nil) (fun _ _ _ _ _ => (pe_op o_adds (pe_op o_adds (pe_op op_rep_str (pv 6) (pv 5)) (pe_ix ix_str (pv 3) (pe_op o_mod (pe_callTy c_int (by rfl) T.n_int (by decide +kernel) (pa_cons (pe_op o_add (pv 8) (pv 10)) pa_nil)) (pv 7)) (fun _ _ => rfl))) (pv 9)))))))))))))), ?_⟩
    -- size, place, fill
    refine ⟨_, rfl, _, rfl, G, st, inn, _, rfl, gh, S, by omega, by omega, fun r1 H1 s1 S1 a0 a1 => ⟨_, _, rfl, rfl, ?_⟩⟩
    obtain ⟨z, rfl⟩ := Int.eq_ofNat_of_zero_le a0
    refine ⟨_, rfl, _, rfl, G, st, inn, _, rfl, s1.gh, S1, by omega, by omega, fun r2 H2 s2 S2 b0 b1 => ?_⟩
    obtain ⟨p, rfl⟩ := Int.eq_ofNat_of_zero_le b0
    refine ⟨_, rfl, _, rfl, G, st, inn, _, rfl, s2.gh, S2, by decide, by decide, fun r3 H3 s3 S3 c0 c1 => ⟨_, _, _, rfl, rfl, signs_len, sign_at c0 (by omega), ?_⟩⟩
    have s3' := (s1.trans s2).trans s3
    have hf0 : Low (sg r3.toNat) := sg_low (by omega)
    generalize sg r3.toNat = f0 at hf0
    -- if size == 2 and fill in 'me': fill = 'z'
    refine ⟨fun σ Hx => ∃ f : Nat, Low f ∧ Hx = H3 ∧ σ = [some (.ref st), some (.int m), some (.int n), some (.str (Str.ofString "abcdefghijklmnopqrstuvwxyz0123456789")), some (.int (1 + z)), some (.int p), some (.str ⟨#[f]⟩), none, none, none, none], ?_, ?_⟩
    · refine ⟨_, rfl, rfl, _, rfl, ?_⟩
      refine ite2 (fun _ => ?_) (fun _ => ⟨f0, hf0, rfl, rfl⟩)
      refine ⟨_, rfl, _, _, rfl, rfl, _, rfl, ?_⟩
      refine ite2 (fun _ => ?_) (fun _ => ⟨f0, hf0, rfl, rfl⟩)
      exact ⟨122, ⟨by decide, by decide⟩, rfl, rfl⟩
    rintro σ Hx ⟨f, hf, rfl, rfl⟩
    -- some = 26 if place == 0 else 36
    refine ⟨fun σ Hy => ∃ m' : Nat, ((p = 0 ∧ m' = 26) ∨ (p ≠ 0 ∧ m' = 36)) ∧ Hy = Hx ∧ σ = [some (.ref st), some (.int m), some (.int n), some (.str (Str.ofString "abcdefghijklmnopqrstuvwxyz0123456789")), some (.int (1 + z)), some (.int p), some (.str ⟨#[f]⟩), some (.int m'), none, none, none], ?_, ?_⟩
    · refine ⟨_, rfl, rfl, _, rfl, ?_⟩
      refine ite2 (fun e => ⟨26, .inl ⟨?_, rfl⟩, rfl, rfl⟩) (fun e => ⟨36, .inr ⟨?_, rfl⟩, rfl, rfl⟩)
      · have := of_decide_eq_true e
        injection this with this
        omega
      · intro h
        subst h
        exact e (decide_eq_true rfl)
    rintro σ Hy ⟨m', hm', rfl, rfl⟩
    -- first, tail
    refine ⟨_, rfl, _, rfl, G, st, inn, _, rfl, s3.gh, S3, by omega, by omega, fun r4 H4 s4 S4 d0 d1 => ?_⟩
    obtain ⟨q, rfl⟩ := Int.eq_ofNat_of_zero_le d0
    have s4' := s3'.trans s4
    refine ⟨_, rfl, _, rfl, _, rfl, _, _, rfl, rfl, _, _, rfl, rfl, _, _, rfl, rfl, by omega, by omega, by show 1 ≤ 1000; decide, ?_⟩
    -- the words
    refine ⟨_, rfl, _, rfl, by omega, by omega, fun D hD => ?_⟩
    have hD0 : H D = none := s4'.new hD
    have off : ¬ F2 st inn D := S.off hD0
    refine lc_range (lo := 0) (n := n) (fun i H' => Stp (F2 st inn) G H G H' ∧ StAt G H' st inn ∧ Cell G H' D (.lst ((wordsOf f p (1 + z) m' q i).map V.str))) ?_ ?_ ?_
    · exact ⟨s4'.trans (Stp.put s4.gh hD _), S4.new hD s4.gh _, Cell.new s4.gh hD _⟩
    · rintro i H' hi ⟨s5, S5, c5⟩
      refine ⟨rfl, yes_of ?_⟩
      have hmod : (↑q + (0 + (i : Int))) % (m' : Int) = (((q + i) % m' : Nat) : Int) := by
        rw [Int.zero_add]
        exact (Int.natCast_emod (q + i) m').symm
      have hlt : (q + i) % m' < 36 := Nat.lt_of_lt_of_le (Nat.mod_lt _ (by omega)) (by omega)
      refine ⟨_, rfl, _, rfl, _, _, rfl, rfl, by omega, by omega, (by show 1 ≤ 1000; decide), _, rfl, _, rfl, _, rfl, _, _, rfl, rfl, .inl ⟨_, rfl, _, rfl, _, _, rfl, rfl, by omega, _, _, sg ((q + i) % m'), rfl, rfl, signs_len, ?_, _, _, rfl, rfl, ?_, _, rfl, _, _, rfl, rfl, ?_, _, c5.at_, ?_, ?_⟩⟩
      · rw [hmod]
        exact sign_at (by omega) (by omega)
      · refine sz_le ?_
        rw [len_list, repS_one, List.length_replicate]
        show _ + 1 ≤ _
        omega
      · refine sz_le ?_
        rw [app_len, len_list, len_list (repS _ _), repS_one, repS_one, List.length_replicate, List.length_replicate]
        show _ + 1 + _ ≤ _
        omega
      · rw [List.length_map]
        refine sz_lt ?_
        simp [wordsOf]
        omega
      · refine ⟨s5.loc c5 hD0 _, S5.write off _, ?_⟩
        have e : ((wordsOf f p (1 + z) m' q i).map V.str) ++ [V.str (repS ⟨#[f]⟩ (p : Int).toNat ++ (⟨#[sg ((q + i) % m')]⟩ : Str) ++ repS ⟨#[f]⟩ (1 + (z : Int) - p - 1).toNat)] = ((wordsOf f p (1 + z) m' q (i + 1)).map V.str) := by
          unfold wordsOf
          rw [List.range_succ, List.map_append, List.map_append]
          congr 2
          simp only [List.map_cons, List.map_nil]
          congr 2
          refine str_ext ?_
          rw [app_list, app_list, repS_one, repS_one]
          show _ = wordL f p (1 + z) (sg ((q + i) % m'))
          unfold wordL
          have e1 : (1 + (z : Int) - p - 1).toNat = 1 + z - p - 1 := by omega
          rw [e1, List.append_assoc]
          rfl
        rw [e]
        exact c5.set _
    · rintro H' ⟨s5, S5, c5⟩
      exact k (.ref D) _ (upd G D (.lst ((wordsOf f p (1 + z) m' q n).map V.str))) H' (s5.freeze c5 hD0) (S5.frz off _) ⟨D, rfl, upd_same⟩ (words_ok hf (by omega) (by omega) hm' hn)
end
end OA

/-! ### the errors: __init__ -/
namespace OA
open PySem PySem.Spec PyProof.Rows L2
section
variable {P : Program} {w : World} {K : PySem.W.Frag} {mg : Str → Option Value} {base : Heap}
theorem sc_BadLine___init__ : FnScope ["self", "line"] ["self", "line"] (defScope (inClass (topS 2) 0)) := ⟨rfl, rfl, rfl, by decide +kernel, rfl, by decide +kernel, by decide +kernel⟩
theorem ok_BadLine {f U : Addr} {fd : FuncData} (F : Fun K "__init__" "BadLine.__init__" (inClass (topS 2) 0) f fd) (TX : OexC K U) (n1 : PySem.W.findIn K (.ref U) "line" = some none) : FnOk P w K mg base CX0 1 f fd ["self", "line"] (spE1 U "line") := by
  refine F.ok sc_BadLine___init__ (fun vs H Q E h => ?_) (fun cdv A outer s H vs Q E hr h => ?_)
  · obtain ⟨a, x1, rfl, _⟩ := h
    rfl
  · obtain ⟨a, x1, rfl, ha, k⟩ := h
    refine ⟨_, (pss_one (ps_ost (pv 0) (pv 1))), ?_⟩
    refine ⟨_, rfl, _, rfl, a, U, rfl, TX, n1, .inl ⟨ha, fun dx hd hne => ?_⟩⟩
    refine k dx _ hd hne (fun b h1 h2 => ?_) ?_ ?_
    · rw [upd_ne h1, upd_ne h2]
    · exact upd_same
    · rw [upd_ne hne]; exact upd_same
theorem sc_DuplicateName___init__ : FnScope ["self", "line", "name"] ["self", "line", "name"] (defScope (inClass (topS 3) 0)) := ⟨rfl, rfl, rfl, by decide +kernel, rfl, by decide +kernel, by decide +kernel⟩
theorem ok_DuplicateName {f U : Addr} {fd : FuncData} (F : Fun K "__init__" "DuplicateName.__init__" (inClass (topS 3) 0) f fd) (TX : OexC K U) (n1 : PySem.W.findIn K (.ref U) "line" = some none) (n2 : PySem.W.findIn K (.ref U) "name" = some none) : FnOk P w K mg base CX0 1 f fd ["self", "line", "name"] (spE2 U "line" "name") := by
  refine F.ok sc_DuplicateName___init__ (fun vs H Q E h => ?_) (fun cdv A outer s H vs Q E hr h => ?_)
  · obtain ⟨a, x1, x2, rfl, _⟩ := h
    rfl
  · obtain ⟨a, x1, x2, rfl, ha, k⟩ := h
    refine ⟨_, (pss_cons (ps_ost (pv 0) (pv 1))
      (pss_one (ps_ost (pv 0) (pv 2)))), ?_⟩
    refine ⟨_, rfl, _, rfl, a, U, rfl, TX, n1, .inl ⟨ha, fun dx hd hne => ?_⟩⟩
    refine ⟨_, rfl, _, rfl, a, U, rfl, TX, n2, .inr ⟨dx, _, upd_same, by rw [upd_ne hne]; exact upd_same, (by show 1 ≤ 900; decide), ?_⟩⟩
    refine k dx _ hd hne (fun b h1 h2 => ?_) ?_ ?_
    · rw [upd_ne h2, upd_ne h1, upd_ne h2]
    · rw [upd_ne hne.symm]; exact upd_same
    · exact upd_same
theorem sc_UnknownName___init__ : FnScope ["self", "line", "name"] ["self", "line", "name"] (defScope (inClass (topS 4) 0)) := ⟨rfl, rfl, rfl, by decide +kernel, rfl, by decide +kernel, by decide +kernel⟩
theorem ok_UnknownName {f U : Addr} {fd : FuncData} (F : Fun K "__init__" "UnknownName.__init__" (inClass (topS 4) 0) f fd) (TX : OexC K U) (n1 : PySem.W.findIn K (.ref U) "line" = some none) (n2 : PySem.W.findIn K (.ref U) "name" = some none) : FnOk P w K mg base CX0 1 f fd ["self", "line", "name"] (spE2 U "line" "name") := by
  refine F.ok sc_UnknownName___init__ (fun vs H Q E h => ?_) (fun cdv A outer s H vs Q E hr h => ?_)
  · obtain ⟨a, x1, x2, rfl, _⟩ := h
    rfl
  · obtain ⟨a, x1, x2, rfl, ha, k⟩ := h
    refine ⟨_, (pss_cons (ps_ost (pv 0) (pv 1))
      (pss_one (ps_ost (pv 0) (pv 2)))), ?_⟩
    refine ⟨_, rfl, _, rfl, a, U, rfl, TX, n1, .inl ⟨ha, fun dx hd hne => ?_⟩⟩
    refine ⟨_, rfl, _, rfl, a, U, rfl, TX, n2, .inr ⟨dx, _, upd_same, by rw [upd_ne hne]; exact upd_same, (by show 1 ≤ 900; decide), ?_⟩⟩
    refine k dx _ hd hne (fun b h1 h2 => ?_) ?_ ?_
    · rw [upd_ne h2, upd_ne h1, upd_ne h2]
    · rw [upd_ne hne.symm]; exact upd_same
    · exact upd_same
theorem sc_WrongTable___init__ : FnScope ["self", "line", "name"] ["self", "line", "name"] (defScope (inClass (topS 5) 0)) := ⟨rfl, rfl, rfl, by decide +kernel, rfl, by decide +kernel, by decide +kernel⟩
theorem ok_WrongTable {f U : Addr} {fd : FuncData} (F : Fun K "__init__" "WrongTable.__init__" (inClass (topS 5) 0) f fd) (TX : OexC K U) (n1 : PySem.W.findIn K (.ref U) "line" = some none) (n2 : PySem.W.findIn K (.ref U) "name" = some none) : FnOk P w K mg base CX0 1 f fd ["self", "line", "name"] (spE2 U "line" "name") := by
  refine F.ok sc_WrongTable___init__ (fun vs H Q E h => ?_) (fun cdv A outer s H vs Q E hr h => ?_)
  · obtain ⟨a, x1, x2, rfl, _⟩ := h
    rfl
  · obtain ⟨a, x1, x2, rfl, ha, k⟩ := h
    refine ⟨_, (pss_cons (ps_ost (pv 0) (pv 1))
      (pss_one (ps_ost (pv 0) (pv 2)))), ?_⟩
    refine ⟨_, rfl, _, rfl, a, U, rfl, TX, n1, .inl ⟨ha, fun dx hd hne => ?_⟩⟩
    refine ⟨_, rfl, _, rfl, a, U, rfl, TX, n2, .inr ⟨dx, _, upd_same, by rw [upd_ne hne]; exact upd_same, (by show 1 ≤ 900; decide), ?_⟩⟩
    refine k dx _ hd hne (fun b h1 h2 => ?_) ?_ ?_
    · rw [upd_ne h2, upd_ne h1, upd_ne h2]
    · rw [upd_ne hne.symm]; exact upd_same
    · exact upd_same
theorem sc_WrongCount___init__ : FnScope ["self", "line"] ["self", "line"] (defScope (inClass (topS 6) 0)) := ⟨rfl, rfl, rfl, by decide +kernel, rfl, by decide +kernel, by decide +kernel⟩
theorem ok_WrongCount {f U : Addr} {fd : FuncData} (F : Fun K "__init__" "WrongCount.__init__" (inClass (topS 6) 0) f fd) (TX : OexC K U) (n1 : PySem.W.findIn K (.ref U) "line" = some none) : FnOk P w K mg base CX0 1 f fd ["self", "line"] (spE1 U "line") := by
  refine F.ok sc_WrongCount___init__ (fun vs H Q E h => ?_) (fun cdv A outer s H vs Q E hr h => ?_)
  · obtain ⟨a, x1, rfl, _⟩ := h
    rfl
  · obtain ⟨a, x1, rfl, ha, k⟩ := h
    refine ⟨_, (pss_one (ps_ost (pv 0) (pv 1))), ?_⟩
    refine ⟨_, rfl, _, rfl, a, U, rfl, TX, n1, .inl ⟨ha, fun dx hd hne => ?_⟩⟩
    refine k dx _ hd hne (fun b h1 h2 => ?_) ?_ ?_
    · rw [upd_ne h1, upd_ne h2]
    · exact upd_same
    · rw [upd_ne hne]; exact upd_same
theorem sc_TooMany___init__ : FnScope ["self", "line"] ["self", "line"] (defScope (inClass (topS 7) 0)) := ⟨rfl, rfl, rfl, by decide +kernel, rfl, by decide +kernel, by decide +kernel⟩
theorem ok_TooMany {f U : Addr} {fd : FuncData} (F : Fun K "__init__" "TooMany.__init__" (inClass (topS 7) 0) f fd) (TX : OexC K U) (n1 : PySem.W.findIn K (.ref U) "line" = some none) : FnOk P w K mg base CX0 1 f fd ["self", "line"] (spE1 U "line") := by
  refine F.ok sc_TooMany___init__ (fun vs H Q E h => ?_) (fun cdv A outer s H vs Q E hr h => ?_)
  · obtain ⟨a, x1, rfl, _⟩ := h
    rfl
  · obtain ⟨a, x1, rfl, ha, k⟩ := h
    refine ⟨_, (pss_one (ps_ost (pv 0) (pv 1))), ?_⟩
    refine ⟨_, rfl, _, rfl, a, U, rfl, TX, n1, .inl ⟨ha, fun dx hd hne => ?_⟩⟩
    refine k dx _ hd hne (fun b h1 h2 => ?_) ?_ ?_
    · rw [upd_ne h1, upd_ne h2]
    · exact upd_same
    · rw [upd_ne hne]; exact upd_same
theorem sc_BadPattern___init__ : FnScope ["self", "place"] ["self", "place"] (defScope (inClass (topS 8) 0)) := ⟨rfl, rfl, rfl, by decide +kernel, rfl, by decide +kernel, by decide +kernel⟩
theorem ok_BadPattern {f U : Addr} {fd : FuncData} (F : Fun K "__init__" "BadPattern.__init__" (inClass (topS 8) 0) f fd) (TX : OexC K U) (n1 : PySem.W.findIn K (.ref U) "place" = some none) : FnOk P w K mg base CX0 1 f fd ["self", "place"] (spE1 U "place") := by
  refine F.ok sc_BadPattern___init__ (fun vs H Q E h => ?_) (fun cdv A outer s H vs Q E hr h => ?_)
  · obtain ⟨a, x1, rfl, _⟩ := h
    rfl
  · obtain ⟨a, x1, rfl, ha, k⟩ := h
    refine ⟨_, (pss_one (ps_ost (pv 0) (pv 1))), ?_⟩
    refine ⟨_, rfl, _, rfl, a, U, rfl, TX, n1, .inl ⟨ha, fun dx hd hne => ?_⟩⟩
    refine k dx _ hd hne (fun b h1 h2 => ?_) ?_ ?_
    · rw [upd_ne h1, upd_ne h2]
    · exact upd_same
    · rw [upd_ne hne]; exact upd_same
theorem sc_ConstantsMeet___init__ : FnScope ["self", "first", "second"] ["self", "first", "second"] (defScope (inClass (topS 9) 0)) := ⟨rfl, rfl, rfl, by decide +kernel, rfl, by decide +kernel, by decide +kernel⟩
theorem ok_ConstantsMeet {f U : Addr} {fd : FuncData} (F : Fun K "__init__" "ConstantsMeet.__init__" (inClass (topS 9) 0) f fd) (TX : OexC K U) (n1 : PySem.W.findIn K (.ref U) "first" = some none) (n2 : PySem.W.findIn K (.ref U) "second" = some none) : FnOk P w K mg base CX0 1 f fd ["self", "first", "second"] (spE2 U "first" "second") := by
  refine F.ok sc_ConstantsMeet___init__ (fun vs H Q E h => ?_) (fun cdv A outer s H vs Q E hr h => ?_)
  · obtain ⟨a, x1, x2, rfl, _⟩ := h
    rfl
  · obtain ⟨a, x1, x2, rfl, ha, k⟩ := h
    refine ⟨_, (pss_cons (ps_ost (pv 0) (pv 1))
      (pss_one (ps_ost (pv 0) (pv 2)))), ?_⟩
    refine ⟨_, rfl, _, rfl, a, U, rfl, TX, n1, .inl ⟨ha, fun dx hd hne => ?_⟩⟩
    refine ⟨_, rfl, _, rfl, a, U, rfl, TX, n2, .inr ⟨dx, _, upd_same, by rw [upd_ne hne]; exact upd_same, (by show 1 ≤ 900; decide), ?_⟩⟩
    refine k dx _ hd hne (fun b h1 h2 => ?_) ?_ ?_
    · rw [upd_ne h2, upd_ne h1, upd_ne h2]
    · rw [upd_ne hne.symm]; exact upd_same
    · exact upd_same
theorem sc_BadValue___init__ : FnScope ["self", "value"] ["self", "value"] (defScope (inClass (topS 12) 0)) := ⟨rfl, rfl, rfl, by decide +kernel, rfl, by decide +kernel, by decide +kernel⟩
theorem ok_BadValue {f U : Addr} {fd : FuncData} (F : Fun K "__init__" "BadValue.__init__" (inClass (topS 12) 0) f fd) (TX : OexC K U) (n1 : PySem.W.findIn K (.ref U) "value" = some none) : FnOk P w K mg base CX0 1 f fd ["self", "value"] (spE1 U "value") := by
  refine F.ok sc_BadValue___init__ (fun vs H Q E h => ?_) (fun cdv A outer s H vs Q E hr h => ?_)
  · obtain ⟨a, x1, rfl, _⟩ := h
    rfl
  · obtain ⟨a, x1, rfl, ha, k⟩ := h
    refine ⟨_, (pss_one (ps_ost (pv 0) (pv 1))), ?_⟩
    refine ⟨_, rfl, _, rfl, a, U, rfl, TX, n1, .inl ⟨ha, fun dx hd hne => ?_⟩⟩
    refine k dx _ hd hne (fun b h1 h2 => ?_) ?_ ?_
    · rw [upd_ne h1, upd_ne h2]
    · exact upd_same
    · rw [upd_ne hne]; exact upd_same
theorem sc_NoRow___init__ : FnScope ["self", "table", "number"] ["self", "table", "number"] (defScope (inClass (topS 13) 0)) := ⟨rfl, rfl, rfl, by decide +kernel, rfl, by decide +kernel, by decide +kernel⟩
theorem ok_NoRow {f U : Addr} {fd : FuncData} (F : Fun K "__init__" "NoRow.__init__" (inClass (topS 13) 0) f fd) (TX : OexC K U) (n1 : PySem.W.findIn K (.ref U) "table" = some none) (n2 : PySem.W.findIn K (.ref U) "number" = some none) : FnOk P w K mg base CX0 1 f fd ["self", "table", "number"] (spE2 U "table" "number") := by
  refine F.ok sc_NoRow___init__ (fun vs H Q E h => ?_) (fun cdv A outer s H vs Q E hr h => ?_)
  · obtain ⟨a, x1, x2, rfl, _⟩ := h
    rfl
  · obtain ⟨a, x1, x2, rfl, ha, k⟩ := h
    refine ⟨_, (pss_cons (ps_ost (pv 0) (pv 1))
      (pss_one (ps_ost (pv 0) (pv 2)))), ?_⟩
    refine ⟨_, rfl, _, rfl, a, U, rfl, TX, n1, .inl ⟨ha, fun dx hd hne => ?_⟩⟩
    refine ⟨_, rfl, _, rfl, a, U, rfl, TX, n2, .inr ⟨dx, _, upd_same, by rw [upd_ne hne]; exact upd_same, (by show 1 ≤ 900; decide), ?_⟩⟩
    refine k dx _ hd hne (fun b h1 h2 => ?_) ?_ ?_
    · rw [upd_ne h2, upd_ne h1, upd_ne h2]
    · rw [upd_ne hne.symm]; exact upd_same
    · exact upd_same
theorem sc_Refused___init__ : FnScope ["self", "handler", "guard", "agreement", "number"] ["self", "handler", "guard", "agreement", "number"] (defScope (inClass (topS 14) 0)) := ⟨rfl, rfl, rfl, by decide +kernel, rfl, by decide +kernel, by decide +kernel⟩
theorem ok_Refused {f U : Addr} {fd : FuncData} (F : FunD K "__init__" "Refused.__init__" (defArgs (inClass (topS 14) 0)) (defBody (inClass (topS 14) 0)) (defScope (inClass (topS 14) 0)) [.non, .non] [] f fd) (TX : OexC K U) (n1 : PySem.W.findIn K (.ref U) "handler" = some none) (n2 : PySem.W.findIn K (.ref U) "guard" = some none) (n3 : PySem.W.findIn K (.ref U) "agreement" = some none) (n4 : PySem.W.findIn K (.ref U) "number" = some none) : FnOk P w K mg base CX0 1 f fd ["self", "handler", "guard", "agreement", "number"] (spE4 U "handler" "guard" "agreement" "number") := by
  refine F.ok sc_Refused___init__ (fun vs H Q E h => ?_) (fun cdv A outer s H vs Q E hr h => ?_)
  · obtain ⟨a, x1, x2, x3, x4, rfl, _⟩ := h
    rfl
  · obtain ⟨a, x1, x2, x3, x4, rfl, ha, k⟩ := h
    refine ⟨_, (pss_cons (ps_ost (pv 0) (pv 1))
      (pss_cons (ps_ost (pv 0) (pv 2))
      (pss_cons (ps_ost (pv 0) (pv 3))
      (pss_one (ps_ost (pv 0) (pv 4)))))), ?_⟩
    refine ⟨_, rfl, _, rfl, a, U, rfl, TX, n1, .inl ⟨ha, fun dx hd hne => ?_⟩⟩
    refine ⟨_, rfl, _, rfl, a, U, rfl, TX, n2, .inr ⟨dx, _, upd_same, by rw [upd_ne hne]; exact upd_same, (by show 1 ≤ 900; decide), ?_⟩⟩
    refine ⟨_, rfl, _, rfl, a, U, rfl, TX, n3, .inr ⟨dx, _, by rw [upd_ne hne.symm]; exact upd_same, upd_same, (by show 2 ≤ 900; decide), ?_⟩⟩
    refine ⟨_, rfl, _, rfl, a, U, rfl, TX, n4, .inr ⟨dx, _, by rw [upd_ne hne.symm]; rw [upd_ne hne.symm]; exact upd_same, upd_same, (by show 3 ≤ 900; decide), ?_⟩⟩
    refine k dx _ hd hne (fun b h1 h2 => ?_) ?_ ?_
    · rw [upd_ne h2, upd_ne h2, upd_ne h2, upd_ne h1, upd_ne h2]
    · rw [upd_ne hne.symm, upd_ne hne.symm, upd_ne hne.symm]; exact upd_same
    · exact upd_same
theorem sc_Broken___init__ : FnScope ["self", "agreement", "number"] ["self", "agreement", "number"] (defScope (inClass (topS 15) 0)) := ⟨rfl, rfl, rfl, by decide +kernel, rfl, by decide +kernel, by decide +kernel⟩
theorem ok_Broken {f U : Addr} {fd : FuncData} (F : Fun K "__init__" "Broken.__init__" (inClass (topS 15) 0) f fd) (TX : OexC K U) (n1 : PySem.W.findIn K (.ref U) "agreement" = some none) (n2 : PySem.W.findIn K (.ref U) "number" = some none) : FnOk P w K mg base CX0 1 f fd ["self", "agreement", "number"] (spE2 U "agreement" "number") := by
  refine F.ok sc_Broken___init__ (fun vs H Q E h => ?_) (fun cdv A outer s H vs Q E hr h => ?_)
  · obtain ⟨a, x1, x2, rfl, _⟩ := h
    rfl
  · obtain ⟨a, x1, x2, rfl, ha, k⟩ := h
    refine ⟨_, (pss_cons (ps_ost (pv 0) (pv 1))
      (pss_one (ps_ost (pv 0) (pv 2)))), ?_⟩
    refine ⟨_, rfl, _, rfl, a, U, rfl, TX, n1, .inl ⟨ha, fun dx hd hne => ?_⟩⟩
    refine ⟨_, rfl, _, rfl, a, U, rfl, TX, n2, .inr ⟨dx, _, upd_same, by rw [upd_ne hne]; exact upd_same, (by show 1 ≤ 900; decide), ?_⟩⟩
    refine k dx _ hd hne (fun b h1 h2 => ?_) ?_ ?_
    · rw [upd_ne h2, upd_ne h1, upd_ne h2]
    · rw [upd_ne hne.symm]; exact upd_same
    · exact upd_same
theorem sc_TooManyPatterns___init__ : FnScope ["self", "table"] ["self", "table"] (defScope (inClass (topS 17) 0)) := ⟨rfl, rfl, rfl, by decide +kernel, rfl, by decide +kernel, by decide +kernel⟩
theorem ok_TooManyPatterns {f U : Addr} {fd : FuncData} (F : Fun K "__init__" "TooManyPatterns.__init__" (inClass (topS 17) 0) f fd) (TX : OexC K U) (n1 : PySem.W.findIn K (.ref U) "table" = some none) : FnOk P w K mg base CX0 1 f fd ["self", "table"] (spE1 U "table") := by
  refine F.ok sc_TooManyPatterns___init__ (fun vs H Q E h => ?_) (fun cdv A outer s H vs Q E hr h => ?_)
  · obtain ⟨a, x1, rfl, _⟩ := h
    rfl
  · obtain ⟨a, x1, rfl, ha, k⟩ := h
    refine ⟨_, (pss_one (ps_ost (pv 0) (pv 1))), ?_⟩
    refine ⟨_, rfl, _, rfl, a, U, rfl, TX, n1, .inl ⟨ha, fun dx hd hne => ?_⟩⟩
    refine k dx _ hd hne (fun b h1 h2 => ?_) ?_ ?_
    · rw [upd_ne h1, upd_ne h2]
    · exact upd_same
    · rw [upd_ne hne]; exact upd_same
theorem sc_BadDerivation___init__ : FnScope ["self", "line"] ["self", "line"] (defScope (inClass (topS 18) 0)) := ⟨rfl, rfl, rfl, by decide +kernel, rfl, by decide +kernel, by decide +kernel⟩
theorem ok_BadDerivation {f U : Addr} {fd : FuncData} (F : Fun K "__init__" "BadDerivation.__init__" (inClass (topS 18) 0) f fd) (TX : OexC K U) (n1 : PySem.W.findIn K (.ref U) "line" = some none) : FnOk P w K mg base CX0 1 f fd ["self", "line"] (spE1 U "line") := by
  refine F.ok sc_BadDerivation___init__ (fun vs H Q E h => ?_) (fun cdv A outer s H vs Q E hr h => ?_)
  · obtain ⟨a, x1, rfl, _⟩ := h
    rfl
  · obtain ⟨a, x1, rfl, ha, k⟩ := h
    refine ⟨_, (pss_one (ps_ost (pv 0) (pv 1))), ?_⟩
    refine ⟨_, rfl, _, rfl, a, U, rfl, TX, n1, .inl ⟨ha, fun dx hd hne => ?_⟩⟩
    refine k dx _ hd hne (fun b h1 h2 => ?_) ?_ ?_
    · rw [upd_ne h1, upd_ne h2]
    · exact upd_same
    · rw [upd_ne hne]; exact upd_same
theorem sc_TooLong___init__ : FnScope ["self", "size"] ["self", "size"] (defScope (inClass (topS 20) 0)) := ⟨rfl, rfl, rfl, by decide +kernel, rfl, by decide +kernel, by decide +kernel⟩
theorem ok_TooLong {f U : Addr} {fd : FuncData} (F : Fun K "__init__" "TooLong.__init__" (inClass (topS 20) 0) f fd) (TX : OexC K U) (n1 : PySem.W.findIn K (.ref U) "size" = some none) : FnOk P w K mg base CX0 1 f fd ["self", "size"] (spE1 U "size") := by
  refine F.ok sc_TooLong___init__ (fun vs H Q E h => ?_) (fun cdv A outer s H vs Q E hr h => ?_)
  · obtain ⟨a, x1, rfl, _⟩ := h
    rfl
  · obtain ⟨a, x1, rfl, ha, k⟩ := h
    refine ⟨_, (pss_one (ps_ost (pv 0) (pv 1))), ?_⟩
    refine ⟨_, rfl, _, rfl, a, U, rfl, TX, n1, .inl ⟨ha, fun dx hd hne => ?_⟩⟩
    refine k dx _ hd hne (fun b h1 h2 => ?_) ?_ ?_
    · rw [upd_ne h1, upd_ne h2]
    · exact upd_same
    · rw [upd_ne hne]; exact upd_same
theorem sc_BadOffer___init__ : FnScope ["self", "number"] ["self", "number"] (defScope (inClass (topS 22) 0)) := ⟨rfl, rfl, rfl, by decide +kernel, rfl, by decide +kernel, by decide +kernel⟩
theorem ok_BadOffer {f U : Addr} {fd : FuncData} (F : Fun K "__init__" "BadOffer.__init__" (inClass (topS 22) 0) f fd) (TX : OexC K U) (n1 : PySem.W.findIn K (.ref U) "number" = some none) : FnOk P w K mg base CX0 1 f fd ["self", "number"] (spE1 U "number") := by
  refine F.ok sc_BadOffer___init__ (fun vs H Q E h => ?_) (fun cdv A outer s H vs Q E hr h => ?_)
  · obtain ⟨a, x1, rfl, _⟩ := h
    rfl
  · obtain ⟨a, x1, rfl, ha, k⟩ := h
    refine ⟨_, (pss_one (ps_ost (pv 0) (pv 1))), ?_⟩
    refine ⟨_, rfl, _, rfl, a, U, rfl, TX, n1, .inl ⟨ha, fun dx hd hne => ?_⟩⟩
    refine k dx _ hd hne (fun b h1 h2 => ?_) ?_ ?_
    · rw [upd_ne h1, upd_ne h2]
    · exact upd_same
    · rw [upd_ne hne]; exact upd_same
end
end OA

/-! ### [x for x in xs if test]: a filter; [e for x in xs]: a map -/
namespace OA
open PySem PySem.Spec PyProof.Rows L2
theorem at_seq {t u : TS} {D : Ends} {σ : L2.St} {H : Hp} (h : t { D with nx := u D } σ H) : tSeq t u D σ H := h
theorem at_asg {te : TE} {g : TG} {D : Ends} {σ : L2.St} {H : Hp} (h : te σ H fun x H1 => g x σ H1 D.nx) : tAsg te g D σ H := h
theorem at_op {r : R2} {ta tb : TE} {σ : L2.St} {H : Hp} {Q : VK} (h : ta σ H fun x H1 => tb σ H1 fun y H2 => r x y H2 Q) : tOp r ta tb σ H Q := h
theorem at_cut {t u : TS} {D : Ends} {σ : L2.St} {H : Hp} (Mid : L2.St → Hp → Prop) (h1 : t { D with nx := Mid } σ H) (h2 : ∀ σ' H', Mid σ' H' → u D σ' H') : C8.tCut t u D σ H := ⟨Mid, h1, h2⟩
theorem at_ret {te : TE} {D : Ends} {σ : L2.St} {H : Hp} (h : te σ H D.rt) : tRet te D σ H := h
theorem at_test {t : TE} {σ : L2.St} {H : Hp} {Q : Bool → Hp → Prop} (h : t σ H fun x H' => ∃ k, x = .bl k ∧ Q k H') : tTest t σ H Q := h
theorem at_if {c : TT} {t u : TS} {D : Ends} {σ : L2.St} {H : Hp} (h : c σ H fun b H1 => if b = true then t D σ H1 else u D σ H1) : tIfS c t u D σ H := h
theorem at_B {t : TE} {σ : L2.St} {H : Hp} {Q : Bool → Hp → Prop} (h : t σ H fun x H1 => ∃ c, x = .bl c ∧ Q c H1) : tB t σ H Q := h
theorem at_cb {r : List V → Hp → VK → Prop} {t : TA} {σ : L2.St} {H : Hp} {Q : VK} (h : t σ H fun vs H1 => r vs H1 Q) : tCB r t σ H Q := h
theorem at_cons {ta : TE} {tr : TA} {σ : L2.St} {H : Hp} {Q : List V → Hp → Prop} (h : ta σ H fun x H1 => tr σ H1 fun xs H2 => Q (x :: xs) H2) : tCons ta tr σ H Q := h
theorem set_wipe {σ : L2.St} {i : Nat} {v : Option V} : wipe ((wipe σ [i]).set i v) [i] = wipe σ [i] := by
  show ((σ.set i none).set i v).set i none = σ.set i none
  rw [List.set_set, List.set_set]
theorem lc_flt {K : PySem.W.Frag} {tl : TE} {tt : TT} {i : Nat} {σ : L2.St} {H : Hp} {Q : VK} {a : Addr} {xs : List V} (f : V → Bool) (hi : i < σ.length) (hl : ∀ R : VK, R (.ref a) H → tl σ H R) (ha : H a = some (.lst xs)) (hn : xs.length ≤ 1000000)
    (ht : ∀ x ∈ xs, ∀ H1, Same H H1 → ∀ R : Bool → Hp → Prop, (∀ H2, Same H1 H2 → R (f x) H2) → tt ((wipe σ [i]).set i (some x)) H1 R)
    (k : ∀ D H', Same H H' → H D = none → H' D = some (.lst (xs.filter f)) → Q (.ref D) H') : tLc (iList K tl) (gName i) tt (tVar i) [i] σ H Q := by
  refine hl _ ⟨a, rfl, ⟨_, SqL.of ha⟩, fun D hD => ?_⟩
  refine lc_list (K := K) (a := a) (xs := xs) (fun j H' => Same H H' ∧ H' D = some (.lst ((xs.take j).filter f))) ?_ ?_ ?_ ?_
  · exact ⟨same_loc (Same.refl H) hD _, upd_same⟩
  · rintro j H' _ ⟨s, _⟩
    exact SqL.of (s _ _ ha)
  · rintro j x H' hx ⟨s, h⟩
    have hxm := List.mem_of_getElem? hx
    have hjl := get_lt hx
    refine ⟨set_wipe, ht x hxm H' s _ fun H2 s2 => ?_⟩
    have h2 := s2 _ _ h
    by_cases hf : f x = true
    · rw [hf, if_pos rfl]
      refine ⟨x, ?_, _, h2, ?_, same_loc (s.trans s2) hD _, ?_⟩
      · rw [List.getElem?_set_self (by rw [wipe_length]; exact hi)]
      · have := List.length_filter_le f (xs.take j)
        rw [List.length_take] at this
        exact sz_lt (by omega)
      · rw [take_more hx, List.filter_append]
        have e : [x].filter f = [x] := by rw [List.filter_cons, if_pos hf]; rfl
        rw [e]
        exact upd_same
    · have hf' : f x = false := by simpa using hf
      rw [hf', if_neg Bool.false_ne_true]
      refine ⟨s.trans s2, ?_⟩
      rw [take_more hx, List.filter_append]
      have e : [x].filter f = [] := by rw [List.filter_cons, if_neg hf]; rfl
      rw [e, List.append_nil]
      exact h2
  · rintro H' ⟨s, h⟩
    rw [List.take_length] at h
    exact k D H' s hD h
/-- [e for x in xs]: a map -/
theorem lc_mp {K : PySem.W.Frag} {tl te : TE} {i : Nat} {σ : L2.St} {H : Hp} {Q : VK} {a : Addr} {xs : List V} (f : V → V) (hl : ∀ R : VK, R (.ref a) H → tl σ H R) (ha : H a = some (.lst xs)) (hn : xs.length ≤ 1000000)
    (he : ∀ x ∈ xs, ∀ H1, Same H H1 → ∀ R : VK, (∀ H2, Same H1 H2 → R (f x) H2) → te ((wipe σ [i]).set i (some x)) H1 R)
    (k : ∀ D H', Same H H' → H D = none → H' D = some (.lst (xs.map f)) → Q (.ref D) H') : tLc (iList K tl) (gName i) tYes te [i] σ H Q := by
  refine hl _ ⟨a, rfl, ⟨_, SqL.of ha⟩, fun D hD => ?_⟩
  refine lc_list (K := K) (a := a) (xs := xs) (fun j H' => Same H H' ∧ H' D = some (.lst ((xs.take j).map f))) ?_ ?_ ?_ ?_
  · exact ⟨same_loc (Same.refl H) hD _, upd_same⟩
  · rintro j H' _ ⟨s, _⟩
    exact SqL.of (s _ _ ha)
  · rintro j x H' hx ⟨s, h⟩
    have hxm := List.mem_of_getElem? hx
    have hjl := get_lt hx
    refine ⟨set_wipe, yes_of (he x hxm H' s _ fun H2 s2 => ⟨_, s2 _ _ h, ?_, same_loc (s.trans s2) hD _, ?_⟩)⟩
    · rw [List.length_map, List.length_take]
      exact sz_lt (by omega)
    · rw [take_more hx, List.map_append]
      exact upd_same
  · rintro H' ⟨s, h⟩
    rw [List.take_length] at h
    exact k D H' s hD h
/-- texts -/
theorem flt_str (f : Str → Bool) (g : V → Bool) (h : ∀ x, g (.str x) = f x) : ∀ xs : List Str, (xs.map V.str).filter g = (xs.filter f).map V.str
  | [] => rfl
  | x :: xs => by
    rw [List.map_cons, List.filter_cons, List.filter_cons, h x, flt_str f g h xs]
    split <;> rfl
def sB (f : Str → Bool) : V → Bool
  | .str x => f x
  | _ => false
end OA

/-! ### family, get_kin, caught: the code -/
namespace OA
open PySem PySem.Spec PyProof.Rows L2
def Fam (K : PySem.W.Frag) (A : Addr) (cl : List Addr) (D : Addr) (bs : List Bool) : Prop := PySem.W.kitOne K (.ref D) (.ref A) = some true ∧ PySem.W.kitOne K (.ref D) (.type "ValueError") = some true ∧ Paired (fun c b => PySem.W.kitOne K (.ref D) (.ref c) = some b) cl bs
def famB (i : Nat) : List Bool := (List.range 21).map fun j => decide (j = i)
structure ET (K : PySem.W.Frag) (mg : Str → Option Value) (C_AgreeError C_BadLine C_DuplicateName C_UnknownName C_WrongTable C_WrongCount C_TooMany C_BadPattern C_ConstantsMeet C_OtherPlaces C_OtherSchema C_BadValue C_NoRow C_Refused C_Broken C_BadCase C_TooManyPatterns C_BadDerivation C_NotReachable C_TooLong C_NotComparable C_BadOffer : Addr) : Prop where
  g_AgreeError : mg "AgreeError" = some (.ref C_AgreeError)
  exm : PySem.W.exmOne K (.ref C_BadLine) (.ref C_AgreeError) = some true
  g_BadLine : mg "BadLine" = some (.ref C_BadLine)
  exc_BadLine : ExcC K C_BadLine
  fam_BadLine : Fam K C_AgreeError [C_BadLine, C_DuplicateName, C_UnknownName, C_WrongTable, C_WrongCount, C_TooMany, C_BadPattern, C_ConstantsMeet, C_OtherPlaces, C_OtherSchema, C_BadValue, C_NoRow, C_Refused, C_Broken, C_BadCase, C_TooManyPatterns, C_BadDerivation, C_NotReachable, C_TooLong, C_NotComparable, C_BadOffer] C_BadLine (famB 0)
  xf_BadLine : XfC K C_BadLine
  no_BadLine_line : PySem.W.findIn K (.ref C_BadLine) "line" = some none
  g_DuplicateName : mg "DuplicateName" = some (.ref C_DuplicateName)
  exc_DuplicateName : ExcC K C_DuplicateName
  fam_DuplicateName : Fam K C_AgreeError [C_BadLine, C_DuplicateName, C_UnknownName, C_WrongTable, C_WrongCount, C_TooMany, C_BadPattern, C_ConstantsMeet, C_OtherPlaces, C_OtherSchema, C_BadValue, C_NoRow, C_Refused, C_Broken, C_BadCase, C_TooManyPatterns, C_BadDerivation, C_NotReachable, C_TooLong, C_NotComparable, C_BadOffer] C_DuplicateName (famB 1)
  xf_DuplicateName : XfC K C_DuplicateName
  no_DuplicateName_line : PySem.W.findIn K (.ref C_DuplicateName) "line" = some none
  no_DuplicateName_name : PySem.W.findIn K (.ref C_DuplicateName) "name" = some none
  g_UnknownName : mg "UnknownName" = some (.ref C_UnknownName)
  exc_UnknownName : ExcC K C_UnknownName
  fam_UnknownName : Fam K C_AgreeError [C_BadLine, C_DuplicateName, C_UnknownName, C_WrongTable, C_WrongCount, C_TooMany, C_BadPattern, C_ConstantsMeet, C_OtherPlaces, C_OtherSchema, C_BadValue, C_NoRow, C_Refused, C_Broken, C_BadCase, C_TooManyPatterns, C_BadDerivation, C_NotReachable, C_TooLong, C_NotComparable, C_BadOffer] C_UnknownName (famB 2)
  xf_UnknownName : XfC K C_UnknownName
  no_UnknownName_line : PySem.W.findIn K (.ref C_UnknownName) "line" = some none
  no_UnknownName_name : PySem.W.findIn K (.ref C_UnknownName) "name" = some none
  g_WrongTable : mg "WrongTable" = some (.ref C_WrongTable)
  exc_WrongTable : ExcC K C_WrongTable
  fam_WrongTable : Fam K C_AgreeError [C_BadLine, C_DuplicateName, C_UnknownName, C_WrongTable, C_WrongCount, C_TooMany, C_BadPattern, C_ConstantsMeet, C_OtherPlaces, C_OtherSchema, C_BadValue, C_NoRow, C_Refused, C_Broken, C_BadCase, C_TooManyPatterns, C_BadDerivation, C_NotReachable, C_TooLong, C_NotComparable, C_BadOffer] C_WrongTable (famB 3)
  xf_WrongTable : XfC K C_WrongTable
  no_WrongTable_line : PySem.W.findIn K (.ref C_WrongTable) "line" = some none
  no_WrongTable_name : PySem.W.findIn K (.ref C_WrongTable) "name" = some none
  g_WrongCount : mg "WrongCount" = some (.ref C_WrongCount)
  exc_WrongCount : ExcC K C_WrongCount
  fam_WrongCount : Fam K C_AgreeError [C_BadLine, C_DuplicateName, C_UnknownName, C_WrongTable, C_WrongCount, C_TooMany, C_BadPattern, C_ConstantsMeet, C_OtherPlaces, C_OtherSchema, C_BadValue, C_NoRow, C_Refused, C_Broken, C_BadCase, C_TooManyPatterns, C_BadDerivation, C_NotReachable, C_TooLong, C_NotComparable, C_BadOffer] C_WrongCount (famB 4)
  xf_WrongCount : XfC K C_WrongCount
  no_WrongCount_line : PySem.W.findIn K (.ref C_WrongCount) "line" = some none
  g_TooMany : mg "TooMany" = some (.ref C_TooMany)
  exc_TooMany : ExcC K C_TooMany
  fam_TooMany : Fam K C_AgreeError [C_BadLine, C_DuplicateName, C_UnknownName, C_WrongTable, C_WrongCount, C_TooMany, C_BadPattern, C_ConstantsMeet, C_OtherPlaces, C_OtherSchema, C_BadValue, C_NoRow, C_Refused, C_Broken, C_BadCase, C_TooManyPatterns, C_BadDerivation, C_NotReachable, C_TooLong, C_NotComparable, C_BadOffer] C_TooMany (famB 5)
  xf_TooMany : XfC K C_TooMany
  no_TooMany_line : PySem.W.findIn K (.ref C_TooMany) "line" = some none
  g_BadPattern : mg "BadPattern" = some (.ref C_BadPattern)
  exc_BadPattern : ExcC K C_BadPattern
  fam_BadPattern : Fam K C_AgreeError [C_BadLine, C_DuplicateName, C_UnknownName, C_WrongTable, C_WrongCount, C_TooMany, C_BadPattern, C_ConstantsMeet, C_OtherPlaces, C_OtherSchema, C_BadValue, C_NoRow, C_Refused, C_Broken, C_BadCase, C_TooManyPatterns, C_BadDerivation, C_NotReachable, C_TooLong, C_NotComparable, C_BadOffer] C_BadPattern (famB 6)
  xf_BadPattern : XfC K C_BadPattern
  no_BadPattern_place : PySem.W.findIn K (.ref C_BadPattern) "place" = some none
  g_ConstantsMeet : mg "ConstantsMeet" = some (.ref C_ConstantsMeet)
  exc_ConstantsMeet : ExcC K C_ConstantsMeet
  fam_ConstantsMeet : Fam K C_AgreeError [C_BadLine, C_DuplicateName, C_UnknownName, C_WrongTable, C_WrongCount, C_TooMany, C_BadPattern, C_ConstantsMeet, C_OtherPlaces, C_OtherSchema, C_BadValue, C_NoRow, C_Refused, C_Broken, C_BadCase, C_TooManyPatterns, C_BadDerivation, C_NotReachable, C_TooLong, C_NotComparable, C_BadOffer] C_ConstantsMeet (famB 7)
  xf_ConstantsMeet : XfC K C_ConstantsMeet
  no_ConstantsMeet_first : PySem.W.findIn K (.ref C_ConstantsMeet) "first" = some none
  no_ConstantsMeet_second : PySem.W.findIn K (.ref C_ConstantsMeet) "second" = some none
  g_OtherPlaces : mg "OtherPlaces" = some (.ref C_OtherPlaces)
  exc_OtherPlaces : ExcC K C_OtherPlaces
  fam_OtherPlaces : Fam K C_AgreeError [C_BadLine, C_DuplicateName, C_UnknownName, C_WrongTable, C_WrongCount, C_TooMany, C_BadPattern, C_ConstantsMeet, C_OtherPlaces, C_OtherSchema, C_BadValue, C_NoRow, C_Refused, C_Broken, C_BadCase, C_TooManyPatterns, C_BadDerivation, C_NotReachable, C_TooLong, C_NotComparable, C_BadOffer] C_OtherPlaces (famB 8)
  g_OtherSchema : mg "OtherSchema" = some (.ref C_OtherSchema)
  exc_OtherSchema : ExcC K C_OtherSchema
  fam_OtherSchema : Fam K C_AgreeError [C_BadLine, C_DuplicateName, C_UnknownName, C_WrongTable, C_WrongCount, C_TooMany, C_BadPattern, C_ConstantsMeet, C_OtherPlaces, C_OtherSchema, C_BadValue, C_NoRow, C_Refused, C_Broken, C_BadCase, C_TooManyPatterns, C_BadDerivation, C_NotReachable, C_TooLong, C_NotComparable, C_BadOffer] C_OtherSchema (famB 9)
  g_BadValue : mg "BadValue" = some (.ref C_BadValue)
  exc_BadValue : ExcC K C_BadValue
  fam_BadValue : Fam K C_AgreeError [C_BadLine, C_DuplicateName, C_UnknownName, C_WrongTable, C_WrongCount, C_TooMany, C_BadPattern, C_ConstantsMeet, C_OtherPlaces, C_OtherSchema, C_BadValue, C_NoRow, C_Refused, C_Broken, C_BadCase, C_TooManyPatterns, C_BadDerivation, C_NotReachable, C_TooLong, C_NotComparable, C_BadOffer] C_BadValue (famB 10)
  xf_BadValue : XfC K C_BadValue
  no_BadValue_value : PySem.W.findIn K (.ref C_BadValue) "value" = some none
  g_NoRow : mg "NoRow" = some (.ref C_NoRow)
  exc_NoRow : ExcC K C_NoRow
  fam_NoRow : Fam K C_AgreeError [C_BadLine, C_DuplicateName, C_UnknownName, C_WrongTable, C_WrongCount, C_TooMany, C_BadPattern, C_ConstantsMeet, C_OtherPlaces, C_OtherSchema, C_BadValue, C_NoRow, C_Refused, C_Broken, C_BadCase, C_TooManyPatterns, C_BadDerivation, C_NotReachable, C_TooLong, C_NotComparable, C_BadOffer] C_NoRow (famB 11)
  xf_NoRow : XfC K C_NoRow
  no_NoRow_table : PySem.W.findIn K (.ref C_NoRow) "table" = some none
  no_NoRow_number : PySem.W.findIn K (.ref C_NoRow) "number" = some none
  g_Refused : mg "Refused" = some (.ref C_Refused)
  exc_Refused : ExcC K C_Refused
  fam_Refused : Fam K C_AgreeError [C_BadLine, C_DuplicateName, C_UnknownName, C_WrongTable, C_WrongCount, C_TooMany, C_BadPattern, C_ConstantsMeet, C_OtherPlaces, C_OtherSchema, C_BadValue, C_NoRow, C_Refused, C_Broken, C_BadCase, C_TooManyPatterns, C_BadDerivation, C_NotReachable, C_TooLong, C_NotComparable, C_BadOffer] C_Refused (famB 12)
  xf_Refused : XfC K C_Refused
  no_Refused_handler : PySem.W.findIn K (.ref C_Refused) "handler" = some none
  no_Refused_guard : PySem.W.findIn K (.ref C_Refused) "guard" = some none
  no_Refused_agreement : PySem.W.findIn K (.ref C_Refused) "agreement" = some none
  no_Refused_number : PySem.W.findIn K (.ref C_Refused) "number" = some none
  g_Broken : mg "Broken" = some (.ref C_Broken)
  exc_Broken : ExcC K C_Broken
  fam_Broken : Fam K C_AgreeError [C_BadLine, C_DuplicateName, C_UnknownName, C_WrongTable, C_WrongCount, C_TooMany, C_BadPattern, C_ConstantsMeet, C_OtherPlaces, C_OtherSchema, C_BadValue, C_NoRow, C_Refused, C_Broken, C_BadCase, C_TooManyPatterns, C_BadDerivation, C_NotReachable, C_TooLong, C_NotComparable, C_BadOffer] C_Broken (famB 13)
  xf_Broken : XfC K C_Broken
  no_Broken_agreement : PySem.W.findIn K (.ref C_Broken) "agreement" = some none
  no_Broken_number : PySem.W.findIn K (.ref C_Broken) "number" = some none
  g_BadCase : mg "BadCase" = some (.ref C_BadCase)
  exc_BadCase : ExcC K C_BadCase
  fam_BadCase : Fam K C_AgreeError [C_BadLine, C_DuplicateName, C_UnknownName, C_WrongTable, C_WrongCount, C_TooMany, C_BadPattern, C_ConstantsMeet, C_OtherPlaces, C_OtherSchema, C_BadValue, C_NoRow, C_Refused, C_Broken, C_BadCase, C_TooManyPatterns, C_BadDerivation, C_NotReachable, C_TooLong, C_NotComparable, C_BadOffer] C_BadCase (famB 14)
  g_TooManyPatterns : mg "TooManyPatterns" = some (.ref C_TooManyPatterns)
  exc_TooManyPatterns : ExcC K C_TooManyPatterns
  fam_TooManyPatterns : Fam K C_AgreeError [C_BadLine, C_DuplicateName, C_UnknownName, C_WrongTable, C_WrongCount, C_TooMany, C_BadPattern, C_ConstantsMeet, C_OtherPlaces, C_OtherSchema, C_BadValue, C_NoRow, C_Refused, C_Broken, C_BadCase, C_TooManyPatterns, C_BadDerivation, C_NotReachable, C_TooLong, C_NotComparable, C_BadOffer] C_TooManyPatterns (famB 15)
  xf_TooManyPatterns : XfC K C_TooManyPatterns
  no_TooManyPatterns_table : PySem.W.findIn K (.ref C_TooManyPatterns) "table" = some none
  g_BadDerivation : mg "BadDerivation" = some (.ref C_BadDerivation)
  exc_BadDerivation : ExcC K C_BadDerivation
  fam_BadDerivation : Fam K C_AgreeError [C_BadLine, C_DuplicateName, C_UnknownName, C_WrongTable, C_WrongCount, C_TooMany, C_BadPattern, C_ConstantsMeet, C_OtherPlaces, C_OtherSchema, C_BadValue, C_NoRow, C_Refused, C_Broken, C_BadCase, C_TooManyPatterns, C_BadDerivation, C_NotReachable, C_TooLong, C_NotComparable, C_BadOffer] C_BadDerivation (famB 16)
  xf_BadDerivation : XfC K C_BadDerivation
  no_BadDerivation_line : PySem.W.findIn K (.ref C_BadDerivation) "line" = some none
  g_NotReachable : mg "NotReachable" = some (.ref C_NotReachable)
  exc_NotReachable : ExcC K C_NotReachable
  fam_NotReachable : Fam K C_AgreeError [C_BadLine, C_DuplicateName, C_UnknownName, C_WrongTable, C_WrongCount, C_TooMany, C_BadPattern, C_ConstantsMeet, C_OtherPlaces, C_OtherSchema, C_BadValue, C_NoRow, C_Refused, C_Broken, C_BadCase, C_TooManyPatterns, C_BadDerivation, C_NotReachable, C_TooLong, C_NotComparable, C_BadOffer] C_NotReachable (famB 17)
  g_TooLong : mg "TooLong" = some (.ref C_TooLong)
  exc_TooLong : ExcC K C_TooLong
  fam_TooLong : Fam K C_AgreeError [C_BadLine, C_DuplicateName, C_UnknownName, C_WrongTable, C_WrongCount, C_TooMany, C_BadPattern, C_ConstantsMeet, C_OtherPlaces, C_OtherSchema, C_BadValue, C_NoRow, C_Refused, C_Broken, C_BadCase, C_TooManyPatterns, C_BadDerivation, C_NotReachable, C_TooLong, C_NotComparable, C_BadOffer] C_TooLong (famB 18)
  xf_TooLong : XfC K C_TooLong
  no_TooLong_size : PySem.W.findIn K (.ref C_TooLong) "size" = some none
  g_NotComparable : mg "NotComparable" = some (.ref C_NotComparable)
  exc_NotComparable : ExcC K C_NotComparable
  fam_NotComparable : Fam K C_AgreeError [C_BadLine, C_DuplicateName, C_UnknownName, C_WrongTable, C_WrongCount, C_TooMany, C_BadPattern, C_ConstantsMeet, C_OtherPlaces, C_OtherSchema, C_BadValue, C_NoRow, C_Refused, C_Broken, C_BadCase, C_TooManyPatterns, C_BadDerivation, C_NotReachable, C_TooLong, C_NotComparable, C_BadOffer] C_NotComparable (famB 19)
  g_BadOffer : mg "BadOffer" = some (.ref C_BadOffer)
  exc_BadOffer : ExcC K C_BadOffer
  fam_BadOffer : Fam K C_AgreeError [C_BadLine, C_DuplicateName, C_UnknownName, C_WrongTable, C_WrongCount, C_TooMany, C_BadPattern, C_ConstantsMeet, C_OtherPlaces, C_OtherSchema, C_BadValue, C_NoRow, C_Refused, C_Broken, C_BadCase, C_TooManyPatterns, C_BadDerivation, C_NotReachable, C_TooLong, C_NotComparable, C_BadOffer] C_BadOffer (famB 20)
  xf_BadOffer : XfC K C_BadOffer
  no_BadOffer_number : PySem.W.findIn K (.ref C_BadOffer) "number" = some none
def spFam (K : PySem.W.Frag) (A : Addr) (cl : List Addr) : Sp := fun vs H Q _ => ∃ (a D : Addr) (bs : List Bool), vs = [.ref a] ∧ ErrAt H a D ∧ ExcC K D ∧ Fam K A cl D bs ∧ ∀ (p : Addr) (H' : Hp), Same H H' → H' p = some (.lst (bs.map V.bl)) → Q (.ref p) H'
def spKin (K : PySem.W.Frag) (A : Addr) (cl : List Addr) : Sp := fun vs H Q _ => ∃ (a D : Addr) (i : Nat), vs = [.ref a, .int i] ∧ ErrAt H a D ∧ ExcC K D ∧ Fam K A cl D (famB i) ∧ i < 21 ∧ ∀ H', Same H H' → Q (.bl true) H'
def spCaught : Sp := fun vs H Q _ => ∃ n : Int, vs = [.int n] ∧ ∀ H', Same H H' → Q (.bl true) H'
theorem famB_get {i k : Nat} (hk : k < 21) : (famB i)[k]? = some (decide (k = i)) := by
  unfold famB
  rw [List.getElem?_map, List.getElem?_range hk]
  rfl
theorem fam_pick {i : Nat} : ∀ n, (((List.range n).filter fun k => decide (k = i)).map fun k : Nat => (k : Int)) = if i < n then [(i : Int)] else []
  | 0 => by simp
  | n + 1 => by
    rw [List.range_succ, List.filter_append, List.map_append, fam_pick n]
    by_cases h : n = i
    · subst h
      simp
    · have h1 : [n].filter (fun k => decide (k = i)) = [] := by simp [h]
      rw [h1]
      by_cases h2 : i < n
      · rw [if_pos h2, if_pos (by omega)]; rfl
      · rw [if_neg h2, if_neg (by omega)]; rfl
section
variable {P : Program} {w : World} {K : PySem.W.Frag} {mg : Str → Option Value} {base : Heap}
theorem sc_family : FnScope ["_law_error", "_law_found"] ["_law_error"] (defScope (topS 27)) := ⟨rfl, rfl, rfl, by decide +kernel, rfl, by decide +kernel, by decide +kernel⟩
set_option maxHeartbeats 8000000 in
theorem ok_family {f : Addr} {C_AgreeError C_BadLine C_DuplicateName C_UnknownName C_WrongTable C_WrongCount C_TooMany C_BadPattern C_ConstantsMeet C_OtherPlaces C_OtherSchema C_BadValue C_NoRow C_Refused C_Broken C_BadCase C_TooManyPatterns C_BadDerivation C_NotReachable C_TooLong C_NotComparable C_BadOffer : Addr} {fd : FuncData} (F : Fun K "_law_family" "_law_family" (topS 27) f fd) (TE : ET K mg C_AgreeError C_BadLine C_DuplicateName C_UnknownName C_WrongTable C_WrongCount C_TooMany C_BadPattern C_ConstantsMeet C_OtherPlaces C_OtherSchema C_BadValue C_NoRow C_Refused C_Broken C_BadCase C_TooManyPatterns C_BadDerivation C_NotReachable C_TooLong C_NotComparable C_BadOffer) (T : Txt K mg) : FnOk P w K mg base CX0 1 f fd ["_law_error"] (spFam K C_AgreeError [C_BadLine, C_DuplicateName, C_UnknownName, C_WrongTable, C_WrongCount, C_TooMany, C_BadPattern, C_ConstantsMeet, C_OtherPlaces, C_OtherSchema, C_BadValue, C_NoRow, C_Refused, C_Broken, C_BadCase, C_TooManyPatterns, C_BadDerivation, C_NotReachable, C_TooLong, C_NotComparable, C_BadOffer]) := by
  refine F.ok sc_family (fun vs H Q E h => ?_) (fun cdv A outer s H vs Q E hr h => ?_)
  · obtain ⟨a, D, bs, rfl, _⟩ := h
    rfl
  · obtain ⟨a, D, bs, rfl, hE, xc, ⟨_, _, fm⟩, k⟩ := h
    refine ⟨_, (pss_cons (ps_set (i := 1) sc_family.nd rfl (Or.inl rfl) (pe_lst (pa_cons (pe_callB (call_isV K) (by rfl) T.n_isinstance (by decide +kernel) (pa_cons (pv 0) (pa_cons (pe_glob (v := .ref C_BadLine) rfl TE.g_BadLine rfl) pa_nil))) (pa_cons (pe_callB (call_isV K) (by rfl) T.n_isinstance (by decide +kernel) (pa_cons (pv 0) (pa_cons (pe_glob (v := .ref C_DuplicateName) rfl TE.g_DuplicateName rfl) pa_nil))) (pa_cons (pe_callB (call_isV K) (by rfl) T.n_isinstance (by decide +kernel) (pa_cons (pv 0) (pa_cons (pe_glob (v := .ref C_UnknownName) rfl TE.g_UnknownName rfl) pa_nil))) pa_nil)))))
      (pss_cons (ps_set (i := 1) sc_family.nd rfl (Or.inl rfl) (pe_op op_cat (pv 1) (pe_lst (pa_cons (pe_callB (call_isV K) (by rfl) T.n_isinstance (by decide +kernel) (pa_cons (pv 0) (pa_cons (pe_glob (v := .ref C_WrongTable) rfl TE.g_WrongTable rfl) pa_nil))) (pa_cons (pe_callB (call_isV K) (by rfl) T.n_isinstance (by decide +kernel) (pa_cons (pv 0) (pa_cons (pe_glob (v := .ref C_WrongCount) rfl TE.g_WrongCount rfl) pa_nil))) (pa_cons (pe_callB (call_isV K) (by rfl) T.n_isinstance (by decide +kernel) (pa_cons (pv 0) (pa_cons (pe_glob (v := .ref C_TooMany) rfl TE.g_TooMany rfl) pa_nil))) pa_nil))))))
      (pss_cons (ps_set (i := 1) sc_family.nd rfl (Or.inl rfl) (pe_op op_cat (pv 1) (pe_lst (pa_cons (pe_callB (call_isV K) (by rfl) T.n_isinstance (by decide +kernel) (pa_cons (pv 0) (pa_cons (pe_glob (v := .ref C_BadPattern) rfl TE.g_BadPattern rfl) pa_nil))) (pa_cons (pe_callB (call_isV K) (by rfl) T.n_isinstance (by decide +kernel) (pa_cons (pv 0) (pa_cons (pe_glob (v := .ref C_ConstantsMeet) rfl TE.g_ConstantsMeet rfl) pa_nil))) (pa_cons (pe_callB (call_isV K) (by rfl) T.n_isinstance (by decide +kernel) (pa_cons (pv 0) (pa_cons (pe_glob (v := .ref C_OtherPlaces) rfl TE.g_OtherPlaces rfl) pa_nil))) pa_nil))))))
      (pss_cons (ps_set (i := 1) sc_family.nd rfl (Or.inl rfl) (pe_op op_cat (pv 1) (pe_lst (pa_cons (pe_callB (call_isV K) (by rfl) T.n_isinstance (by decide +kernel) (pa_cons (pv 0) (pa_cons (pe_glob (v := .ref C_OtherSchema) rfl TE.g_OtherSchema rfl) pa_nil))) (pa_cons (pe_callB (call_isV K) (by rfl) T.n_isinstance (by decide +kernel) (pa_cons (pv 0) (pa_cons (pe_glob (v := .ref C_BadValue) rfl TE.g_BadValue rfl) pa_nil))) (pa_cons (pe_callB (call_isV K) (by rfl) T.n_isinstance (by decide +kernel) (pa_cons (pv 0) (pa_cons (pe_glob (v := .ref C_NoRow) rfl TE.g_NoRow rfl) pa_nil))) pa_nil))))))
      (pss_cons (ps_set (i := 1) sc_family.nd rfl (Or.inl rfl) (pe_op op_cat (pv 1) (pe_lst (pa_cons (pe_callB (call_isV K) (by rfl) T.n_isinstance (by decide +kernel) (pa_cons (pv 0) (pa_cons (pe_glob (v := .ref C_Refused) rfl TE.g_Refused rfl) pa_nil))) (pa_cons (pe_callB (call_isV K) (by rfl) T.n_isinstance (by decide +kernel) (pa_cons (pv 0) (pa_cons (pe_glob (v := .ref C_Broken) rfl TE.g_Broken rfl) pa_nil))) (pa_cons (pe_callB (call_isV K) (by rfl) T.n_isinstance (by decide +kernel) (pa_cons (pv 0) (pa_cons (pe_glob (v := .ref C_BadCase) rfl TE.g_BadCase rfl) pa_nil))) pa_nil))))))
      (pss_cons (ps_set (i := 1) sc_family.nd rfl (Or.inl rfl) (pe_op op_cat (pv 1) (pe_lst (pa_cons (pe_callB (call_isV K) (by rfl) T.n_isinstance (by decide +kernel) (pa_cons (pv 0) (pa_cons (pe_glob (v := .ref C_TooManyPatterns) rfl TE.g_TooManyPatterns rfl) pa_nil))) (pa_cons (pe_callB (call_isV K) (by rfl) T.n_isinstance (by decide +kernel) (pa_cons (pv 0) (pa_cons (pe_glob (v := .ref C_BadDerivation) rfl TE.g_BadDerivation rfl) pa_nil))) pa_nil)))))
      (pss_cons (ps_set (i := 1) sc_family.nd rfl (Or.inl rfl) (pe_op op_cat (pv 1) (pe_lst (pa_cons (pe_callB (call_isV K) (by rfl) T.n_isinstance (by decide +kernel) (pa_cons (pv 0) (pa_cons (pe_glob (v := .ref C_NotReachable) rfl TE.g_NotReachable rfl) pa_nil))) (pa_cons (pe_callB (call_isV K) (by rfl) T.n_isinstance (by decide +kernel) (pa_cons (pv 0) (pa_cons (pe_glob (v := .ref C_TooLong) rfl TE.g_TooLong rfl) pa_nil))) (pa_cons (pe_callB (call_isV K) (by rfl) T.n_isinstance (by decide +kernel) (pa_cons (pv 0) (pa_cons (pe_glob (v := .ref C_NotComparable) rfl TE.g_NotComparable rfl) pa_nil))) pa_nil))))))
      (pss_one (ps_ret (pe_op op_cat (pv 1) (pe_lst (pa_cons (pe_callB (call_isV K) (by rfl) T.n_isinstance (by decide +kernel) (pa_cons (pv 0) (pa_cons (pe_glob (v := .ref C_BadOffer) rfl TE.g_BadOffer rfl) pa_nil))) pa_nil)))))))))))), ?_⟩
    obtain ⟨b0, bs, rfl, f0, fm⟩ := paired_cons fm
    obtain ⟨b1, bs, rfl, f1, fm⟩ := paired_cons fm
    obtain ⟨b2, bs, rfl, f2, fm⟩ := paired_cons fm
    obtain ⟨b3, bs, rfl, f3, fm⟩ := paired_cons fm
    obtain ⟨b4, bs, rfl, f4, fm⟩ := paired_cons fm
    obtain ⟨b5, bs, rfl, f5, fm⟩ := paired_cons fm
    obtain ⟨b6, bs, rfl, f6, fm⟩ := paired_cons fm
    obtain ⟨b7, bs, rfl, f7, fm⟩ := paired_cons fm
    obtain ⟨b8, bs, rfl, f8, fm⟩ := paired_cons fm
    obtain ⟨b9, bs, rfl, f9, fm⟩ := paired_cons fm
    obtain ⟨b10, bs, rfl, f10, fm⟩ := paired_cons fm
    obtain ⟨b11, bs, rfl, f11, fm⟩ := paired_cons fm
    obtain ⟨b12, bs, rfl, f12, fm⟩ := paired_cons fm
    obtain ⟨b13, bs, rfl, f13, fm⟩ := paired_cons fm
    obtain ⟨b14, bs, rfl, f14, fm⟩ := paired_cons fm
    obtain ⟨b15, bs, rfl, f15, fm⟩ := paired_cons fm
    obtain ⟨b16, bs, rfl, f16, fm⟩ := paired_cons fm
    obtain ⟨b17, bs, rfl, f17, fm⟩ := paired_cons fm
    obtain ⟨b18, bs, rfl, f18, fm⟩ := paired_cons fm
    obtain ⟨b19, bs, rfl, f19, fm⟩ := paired_cons fm
    obtain ⟨b20, bs, rfl, f20, fm⟩ := paired_cons fm
    cases paired_nil fm
    clear fm
    refine ⟨_, rfl, a, D, _, _, b0, rfl, hE, xc, .own C_BadLine, f0, _, rfl, a, D, _, _, b1, rfl, hE, xc, .own C_DuplicateName, f1, _, rfl, a, D, _, _, b2, rfl, hE, xc, .own C_UnknownName, f2, (by show 3 ≤ sizeLine; decide), fun L0 nL0 => ?_⟩
    have t0 : Same H (upd H L0 (.lst [.bl b0, .bl b1, .bl b2])) := same_loc (Same.refl H) nL0 _
    have c : (upd H L0 (.lst [.bl b0, .bl b1, .bl b2])) L0 = some (.lst [.bl b0, .bl b1, .bl b2]) := upd_same
    generalize upd H L0 (.lst [.bl b0, .bl b1, .bl b2]) = H0 at t0 c
    have u := t0
    replace hE := hE.mono t0
    refine ⟨_, rfl, _, rfl, a, D, _, _, b3, rfl, hE, xc, .own C_WrongTable, f3, _, rfl, a, D, _, _, b4, rfl, hE, xc, .own C_WrongCount, f4, _, rfl, a, D, _, _, b5, rfl, hE, xc, .own C_TooMany, f5, (by show 3 ≤ sizeLine; decide), fun L1 nL1 => ?_⟩
    have t1 : Same H0 (upd H0 L1 (.lst [.bl b3, .bl b4, .bl b5])) := same_loc (Same.refl H0) nL1 _
    have c2 : (upd H0 L1 (.lst [.bl b3, .bl b4, .bl b5])) L1 = some (.lst [.bl b3, .bl b4, .bl b5]) := upd_same
    replace c := t1 _ _ c
    generalize upd H0 L1 (.lst [.bl b3, .bl b4, .bl b5]) = K1 at t1 c c2
    replace u := u.trans t1
    replace hE := hE.mono t1
    refine ⟨_, _, _, _, rfl, rfl, c, c2, sz_le (by show 3 + 3 ≤ 1000000; decide), fun M1 nM1 => ?_⟩
    have v1 : Same K1 (upd K1 M1 (.lst [.bl b0, .bl b1, .bl b2, .bl b3, .bl b4, .bl b5])) := same_loc (Same.refl K1) nM1 _
    replace c : (upd K1 M1 (.lst [.bl b0, .bl b1, .bl b2, .bl b3, .bl b4, .bl b5])) M1 = some (.lst [.bl b0, .bl b1, .bl b2, .bl b3, .bl b4, .bl b5]) := upd_same
    have e1 : upd K1 M1 (.lst ([V.bl b0, V.bl b1, V.bl b2] ++ [V.bl b3, V.bl b4, V.bl b5])) = upd K1 M1 (.lst [.bl b0, .bl b1, .bl b2, .bl b3, .bl b4, .bl b5]) := rfl
    rw [e1]
    generalize upd K1 M1 (.lst [.bl b0, .bl b1, .bl b2, .bl b3, .bl b4, .bl b5]) = N1 at v1 c
    replace u := u.trans v1
    replace hE := hE.mono v1
    clear t1 c2 v1 e1
    refine ⟨_, rfl, _, rfl, a, D, _, _, b6, rfl, hE, xc, .own C_BadPattern, f6, _, rfl, a, D, _, _, b7, rfl, hE, xc, .own C_ConstantsMeet, f7, _, rfl, a, D, _, _, b8, rfl, hE, xc, .own C_OtherPlaces, f8, (by show 3 ≤ sizeLine; decide), fun L2 nL2 => ?_⟩
    have t2 : Same N1 (upd N1 L2 (.lst [.bl b6, .bl b7, .bl b8])) := same_loc (Same.refl N1) nL2 _
    have c2 : (upd N1 L2 (.lst [.bl b6, .bl b7, .bl b8])) L2 = some (.lst [.bl b6, .bl b7, .bl b8]) := upd_same
    replace c := t2 _ _ c
    generalize upd N1 L2 (.lst [.bl b6, .bl b7, .bl b8]) = K2 at t2 c c2
    replace u := u.trans t2
    replace hE := hE.mono t2
    refine ⟨_, _, _, _, rfl, rfl, c, c2, sz_le (by show 6 + 3 ≤ 1000000; decide), fun M2 nM2 => ?_⟩
    have v2 : Same K2 (upd K2 M2 (.lst [.bl b0, .bl b1, .bl b2, .bl b3, .bl b4, .bl b5, .bl b6, .bl b7, .bl b8])) := same_loc (Same.refl K2) nM2 _
    replace c : (upd K2 M2 (.lst [.bl b0, .bl b1, .bl b2, .bl b3, .bl b4, .bl b5, .bl b6, .bl b7, .bl b8])) M2 = some (.lst [.bl b0, .bl b1, .bl b2, .bl b3, .bl b4, .bl b5, .bl b6, .bl b7, .bl b8]) := upd_same
    have e2 : upd K2 M2 (.lst ([V.bl b0, V.bl b1, V.bl b2, V.bl b3, V.bl b4, V.bl b5] ++ [V.bl b6, V.bl b7, V.bl b8])) = upd K2 M2 (.lst [.bl b0, .bl b1, .bl b2, .bl b3, .bl b4, .bl b5, .bl b6, .bl b7, .bl b8]) := rfl
    rw [e2]
    generalize upd K2 M2 (.lst [.bl b0, .bl b1, .bl b2, .bl b3, .bl b4, .bl b5, .bl b6, .bl b7, .bl b8]) = N2 at v2 c
    replace u := u.trans v2
    replace hE := hE.mono v2
    clear t2 c2 v2 e2
    refine ⟨_, rfl, _, rfl, a, D, _, _, b9, rfl, hE, xc, .own C_OtherSchema, f9, _, rfl, a, D, _, _, b10, rfl, hE, xc, .own C_BadValue, f10, _, rfl, a, D, _, _, b11, rfl, hE, xc, .own C_NoRow, f11, (by show 3 ≤ sizeLine; decide), fun L3 nL3 => ?_⟩
    have t3 : Same N2 (upd N2 L3 (.lst [.bl b9, .bl b10, .bl b11])) := same_loc (Same.refl N2) nL3 _
    have c2 : (upd N2 L3 (.lst [.bl b9, .bl b10, .bl b11])) L3 = some (.lst [.bl b9, .bl b10, .bl b11]) := upd_same
    replace c := t3 _ _ c
    generalize upd N2 L3 (.lst [.bl b9, .bl b10, .bl b11]) = K3 at t3 c c2
    replace u := u.trans t3
    replace hE := hE.mono t3
    refine ⟨_, _, _, _, rfl, rfl, c, c2, sz_le (by show 9 + 3 ≤ 1000000; decide), fun M3 nM3 => ?_⟩
    have v3 : Same K3 (upd K3 M3 (.lst [.bl b0, .bl b1, .bl b2, .bl b3, .bl b4, .bl b5, .bl b6, .bl b7, .bl b8, .bl b9, .bl b10, .bl b11])) := same_loc (Same.refl K3) nM3 _
    replace c : (upd K3 M3 (.lst [.bl b0, .bl b1, .bl b2, .bl b3, .bl b4, .bl b5, .bl b6, .bl b7, .bl b8, .bl b9, .bl b10, .bl b11])) M3 = some (.lst [.bl b0, .bl b1, .bl b2, .bl b3, .bl b4, .bl b5, .bl b6, .bl b7, .bl b8, .bl b9, .bl b10, .bl b11]) := upd_same
    have e3 : upd K3 M3 (.lst ([V.bl b0, V.bl b1, V.bl b2, V.bl b3, V.bl b4, V.bl b5, V.bl b6, V.bl b7, V.bl b8] ++ [V.bl b9, V.bl b10, V.bl b11])) = upd K3 M3 (.lst [.bl b0, .bl b1, .bl b2, .bl b3, .bl b4, .bl b5, .bl b6, .bl b7, .bl b8, .bl b9, .bl b10, .bl b11]) := rfl
    rw [e3]
    generalize upd K3 M3 (.lst [.bl b0, .bl b1, .bl b2, .bl b3, .bl b4, .bl b5, .bl b6, .bl b7, .bl b8, .bl b9, .bl b10, .bl b11]) = N3 at v3 c
    replace u := u.trans v3
    replace hE := hE.mono v3
    clear t3 c2 v3 e3
    refine ⟨_, rfl, _, rfl, a, D, _, _, b12, rfl, hE, xc, .own C_Refused, f12, _, rfl, a, D, _, _, b13, rfl, hE, xc, .own C_Broken, f13, _, rfl, a, D, _, _, b14, rfl, hE, xc, .own C_BadCase, f14, (by show 3 ≤ sizeLine; decide), fun L4 nL4 => ?_⟩
    have t4 : Same N3 (upd N3 L4 (.lst [.bl b12, .bl b13, .bl b14])) := same_loc (Same.refl N3) nL4 _
    have c2 : (upd N3 L4 (.lst [.bl b12, .bl b13, .bl b14])) L4 = some (.lst [.bl b12, .bl b13, .bl b14]) := upd_same
    replace c := t4 _ _ c
    generalize upd N3 L4 (.lst [.bl b12, .bl b13, .bl b14]) = K4 at t4 c c2
    replace u := u.trans t4
    replace hE := hE.mono t4
    refine ⟨_, _, _, _, rfl, rfl, c, c2, sz_le (by show 12 + 3 ≤ 1000000; decide), fun M4 nM4 => ?_⟩
    have v4 : Same K4 (upd K4 M4 (.lst [.bl b0, .bl b1, .bl b2, .bl b3, .bl b4, .bl b5, .bl b6, .bl b7, .bl b8, .bl b9, .bl b10, .bl b11, .bl b12, .bl b13, .bl b14])) := same_loc (Same.refl K4) nM4 _
    replace c : (upd K4 M4 (.lst [.bl b0, .bl b1, .bl b2, .bl b3, .bl b4, .bl b5, .bl b6, .bl b7, .bl b8, .bl b9, .bl b10, .bl b11, .bl b12, .bl b13, .bl b14])) M4 = some (.lst [.bl b0, .bl b1, .bl b2, .bl b3, .bl b4, .bl b5, .bl b6, .bl b7, .bl b8, .bl b9, .bl b10, .bl b11, .bl b12, .bl b13, .bl b14]) := upd_same
    have e4 : upd K4 M4 (.lst ([V.bl b0, V.bl b1, V.bl b2, V.bl b3, V.bl b4, V.bl b5, V.bl b6, V.bl b7, V.bl b8, V.bl b9, V.bl b10, V.bl b11] ++ [V.bl b12, V.bl b13, V.bl b14])) = upd K4 M4 (.lst [.bl b0, .bl b1, .bl b2, .bl b3, .bl b4, .bl b5, .bl b6, .bl b7, .bl b8, .bl b9, .bl b10, .bl b11, .bl b12, .bl b13, .bl b14]) := rfl
    rw [e4]
    generalize upd K4 M4 (.lst [.bl b0, .bl b1, .bl b2, .bl b3, .bl b4, .bl b5, .bl b6, .bl b7, .bl b8, .bl b9, .bl b10, .bl b11, .bl b12, .bl b13, .bl b14]) = N4 at v4 c
    replace u := u.trans v4
    replace hE := hE.mono v4
    clear t4 c2 v4 e4
    refine ⟨_, rfl, _, rfl, a, D, _, _, b15, rfl, hE, xc, .own C_TooManyPatterns, f15, _, rfl, a, D, _, _, b16, rfl, hE, xc, .own C_BadDerivation, f16, (by show 2 ≤ sizeLine; decide), fun L5 nL5 => ?_⟩
    have t5 : Same N4 (upd N4 L5 (.lst [.bl b15, .bl b16])) := same_loc (Same.refl N4) nL5 _
    have c2 : (upd N4 L5 (.lst [.bl b15, .bl b16])) L5 = some (.lst [.bl b15, .bl b16]) := upd_same
    replace c := t5 _ _ c
    generalize upd N4 L5 (.lst [.bl b15, .bl b16]) = K5 at t5 c c2
    replace u := u.trans t5
    replace hE := hE.mono t5
    refine ⟨_, _, _, _, rfl, rfl, c, c2, sz_le (by show 15 + 2 ≤ 1000000; decide), fun M5 nM5 => ?_⟩
    have v5 : Same K5 (upd K5 M5 (.lst [.bl b0, .bl b1, .bl b2, .bl b3, .bl b4, .bl b5, .bl b6, .bl b7, .bl b8, .bl b9, .bl b10, .bl b11, .bl b12, .bl b13, .bl b14, .bl b15, .bl b16])) := same_loc (Same.refl K5) nM5 _
    replace c : (upd K5 M5 (.lst [.bl b0, .bl b1, .bl b2, .bl b3, .bl b4, .bl b5, .bl b6, .bl b7, .bl b8, .bl b9, .bl b10, .bl b11, .bl b12, .bl b13, .bl b14, .bl b15, .bl b16])) M5 = some (.lst [.bl b0, .bl b1, .bl b2, .bl b3, .bl b4, .bl b5, .bl b6, .bl b7, .bl b8, .bl b9, .bl b10, .bl b11, .bl b12, .bl b13, .bl b14, .bl b15, .bl b16]) := upd_same
    have e5 : upd K5 M5 (.lst ([V.bl b0, V.bl b1, V.bl b2, V.bl b3, V.bl b4, V.bl b5, V.bl b6, V.bl b7, V.bl b8, V.bl b9, V.bl b10, V.bl b11, V.bl b12, V.bl b13, V.bl b14] ++ [V.bl b15, V.bl b16])) = upd K5 M5 (.lst [.bl b0, .bl b1, .bl b2, .bl b3, .bl b4, .bl b5, .bl b6, .bl b7, .bl b8, .bl b9, .bl b10, .bl b11, .bl b12, .bl b13, .bl b14, .bl b15, .bl b16]) := rfl
    rw [e5]
    generalize upd K5 M5 (.lst [.bl b0, .bl b1, .bl b2, .bl b3, .bl b4, .bl b5, .bl b6, .bl b7, .bl b8, .bl b9, .bl b10, .bl b11, .bl b12, .bl b13, .bl b14, .bl b15, .bl b16]) = N5 at v5 c
    replace u := u.trans v5
    replace hE := hE.mono v5
    clear t5 c2 v5 e5
    refine ⟨_, rfl, _, rfl, a, D, _, _, b17, rfl, hE, xc, .own C_NotReachable, f17, _, rfl, a, D, _, _, b18, rfl, hE, xc, .own C_TooLong, f18, _, rfl, a, D, _, _, b19, rfl, hE, xc, .own C_NotComparable, f19, (by show 3 ≤ sizeLine; decide), fun L6 nL6 => ?_⟩
    have t6 : Same N5 (upd N5 L6 (.lst [.bl b17, .bl b18, .bl b19])) := same_loc (Same.refl N5) nL6 _
    have c2 : (upd N5 L6 (.lst [.bl b17, .bl b18, .bl b19])) L6 = some (.lst [.bl b17, .bl b18, .bl b19]) := upd_same
    replace c := t6 _ _ c
    generalize upd N5 L6 (.lst [.bl b17, .bl b18, .bl b19]) = K6 at t6 c c2
    replace u := u.trans t6
    replace hE := hE.mono t6
    refine ⟨_, _, _, _, rfl, rfl, c, c2, sz_le (by show 17 + 3 ≤ 1000000; decide), fun M6 nM6 => ?_⟩
    have v6 : Same K6 (upd K6 M6 (.lst [.bl b0, .bl b1, .bl b2, .bl b3, .bl b4, .bl b5, .bl b6, .bl b7, .bl b8, .bl b9, .bl b10, .bl b11, .bl b12, .bl b13, .bl b14, .bl b15, .bl b16, .bl b17, .bl b18, .bl b19])) := same_loc (Same.refl K6) nM6 _
    replace c : (upd K6 M6 (.lst [.bl b0, .bl b1, .bl b2, .bl b3, .bl b4, .bl b5, .bl b6, .bl b7, .bl b8, .bl b9, .bl b10, .bl b11, .bl b12, .bl b13, .bl b14, .bl b15, .bl b16, .bl b17, .bl b18, .bl b19])) M6 = some (.lst [.bl b0, .bl b1, .bl b2, .bl b3, .bl b4, .bl b5, .bl b6, .bl b7, .bl b8, .bl b9, .bl b10, .bl b11, .bl b12, .bl b13, .bl b14, .bl b15, .bl b16, .bl b17, .bl b18, .bl b19]) := upd_same
    have e6 : upd K6 M6 (.lst ([V.bl b0, V.bl b1, V.bl b2, V.bl b3, V.bl b4, V.bl b5, V.bl b6, V.bl b7, V.bl b8, V.bl b9, V.bl b10, V.bl b11, V.bl b12, V.bl b13, V.bl b14, V.bl b15, V.bl b16] ++ [V.bl b17, V.bl b18, V.bl b19])) = upd K6 M6 (.lst [.bl b0, .bl b1, .bl b2, .bl b3, .bl b4, .bl b5, .bl b6, .bl b7, .bl b8, .bl b9, .bl b10, .bl b11, .bl b12, .bl b13, .bl b14, .bl b15, .bl b16, .bl b17, .bl b18, .bl b19]) := rfl
    rw [e6]
    generalize upd K6 M6 (.lst [.bl b0, .bl b1, .bl b2, .bl b3, .bl b4, .bl b5, .bl b6, .bl b7, .bl b8, .bl b9, .bl b10, .bl b11, .bl b12, .bl b13, .bl b14, .bl b15, .bl b16, .bl b17, .bl b18, .bl b19]) = N6 at v6 c
    replace u := u.trans v6
    replace hE := hE.mono v6
    clear t6 c2 v6 e6
    refine ⟨_, rfl, _, rfl, a, D, _, _, b20, rfl, hE, xc, .own C_BadOffer, f20, (by show 1 ≤ sizeLine; decide), fun L7 nL7 => ?_⟩
    have t7 : Same N6 (upd N6 L7 (.lst [.bl b20])) := same_loc (Same.refl N6) nL7 _
    have c2 : (upd N6 L7 (.lst [.bl b20])) L7 = some (.lst [.bl b20]) := upd_same
    replace c := t7 _ _ c
    generalize upd N6 L7 (.lst [.bl b20]) = K7 at t7 c c2
    replace u := u.trans t7
    replace hE := hE.mono t7
    refine ⟨_, _, _, _, rfl, rfl, c, c2, sz_le (by show 20 + 1 ≤ 1000000; decide), fun M7 nM7 => ?_⟩
    have v7 : Same K7 (upd K7 M7 (.lst [.bl b0, .bl b1, .bl b2, .bl b3, .bl b4, .bl b5, .bl b6, .bl b7, .bl b8, .bl b9, .bl b10, .bl b11, .bl b12, .bl b13, .bl b14, .bl b15, .bl b16, .bl b17, .bl b18, .bl b19, .bl b20])) := same_loc (Same.refl K7) nM7 _
    exact k M7 _ (u.trans v7) upd_same
theorem sc_get_kin : FnScope ["_law_error", "_law_place", "_law_found", "_law_k"] ["_law_error", "_law_place"] (defScope (topS 28)) := ⟨rfl, rfl, rfl, by decide +kernel, rfl, by decide +kernel, by decide +kernel⟩
set_option maxHeartbeats 8000000 in
theorem ok_get_kin {f : Addr} {C_AgreeError C_BadLine C_DuplicateName C_UnknownName C_WrongTable C_WrongCount C_TooMany C_BadPattern C_ConstantsMeet C_OtherPlaces C_OtherSchema C_BadValue C_NoRow C_Refused C_Broken C_BadCase C_TooManyPatterns C_BadDerivation C_NotReachable C_TooLong C_NotComparable C_BadOffer : Addr} {fd : FuncData} (F : Fun K "_law_get_kin" "_law_get_kin" (topS 28) f fd) (TE : ET K mg C_AgreeError C_BadLine C_DuplicateName C_UnknownName C_WrongTable C_WrongCount C_TooMany C_BadPattern C_ConstantsMeet C_OtherPlaces C_OtherSchema C_BadValue C_NoRow C_Refused C_Broken C_BadCase C_TooManyPatterns C_BadDerivation C_NotReachable C_TooLong C_NotComparable C_BadOffer) (T : Txt K mg) (c_family : Callee P w K mg base "_law_family" ["_law_error"] (spFam K C_AgreeError [C_BadLine, C_DuplicateName, C_UnknownName, C_WrongTable, C_WrongCount, C_TooMany, C_BadPattern, C_ConstantsMeet, C_OtherPlaces, C_OtherSchema, C_BadValue, C_NoRow, C_Refused, C_Broken, C_BadCase, C_TooManyPatterns, C_BadDerivation, C_NotReachable, C_TooLong, C_NotComparable, C_BadOffer]) 1) : FnOk P w K mg base CX0 2 f fd ["_law_error", "_law_place"] (spKin K C_AgreeError [C_BadLine, C_DuplicateName, C_UnknownName, C_WrongTable, C_WrongCount, C_TooMany, C_BadPattern, C_ConstantsMeet, C_OtherPlaces, C_OtherSchema, C_BadValue, C_NoRow, C_Refused, C_Broken, C_BadCase, C_TooManyPatterns, C_BadDerivation, C_NotReachable, C_TooLong, C_NotComparable, C_BadOffer]) := by
  refine F.ok sc_get_kin (fun vs H Q E h => ?_) (fun cdv A outer s H vs Q E hr h => ?_)
  · obtain ⟨a, D, i, rfl, _⟩ := h
    rfl
  · obtain ⟨a, D, i, rfl, hE, xc, fm, hi, k⟩ := h
    refine ⟨_, (pss_cons (ps_if (PW.pt (pw_or (pt_not (pt_val (pe_callB (call_isV K) (by rfl) T.n_isinstance (by decide +kernel) (pa_cons (pv 0) (pa_cons (pe_glob (v := .ref C_AgreeError) rfl TE.g_AgreeError rfl) pa_nil))))) (pw_or1 (pt_not (pt_val (pe_callB (call_isV K) (by rfl) T.n_isinstance (by decide +kernel) (pa_cons (pv 0) (pa_cons (pe_bltn (v := .ty "ValueError") rfl T.n_ValueError (by decide +kernel) rfl) pa_nil)))))))) (pss_one (ps_ret pe_bl)) pss_nil)
      (pss_cons (ps_set (i := 2) sc_get_kin.nd rfl (Or.inr rfl) (pe_co c_family hr (by decide) (by rfl) (pa_cons (pv 0) pa_nil)))
      (pss_one (ps_ret (pe_cmpR (o_eqD K hr.units) (pe_lc (own := [("_law_k", 3)]) (by rfl) sc_get_kin.nd (pi_range1 (by rfl) T.n_range (pa_cons pe_int pa_nil)) (blkOk_by (own := [("_law_k", 3)]) (N := ["_law_error", "_law_place", "_law_found", "_law_k"]) (sc := defScope (topS 28)) (by decide +kernel)) (fun _ _ _ _ _ => (pg_name (i := 3) sc_get_kin.nd rfl (Or.inl rfl))) (fun _ _ _ _ _ => (pts_one (pt_val (pe_ix (ix_lst K) (pv 2) (pv 3) (fun _ _ => rfl))))) (fun _ _ _ _ _ => (pv 3))) (pe_lst (pa_cons (pv 1) pa_nil)) (nomark _)))))), ?_⟩
    refine ⟨_, rfl, a, D, _, _, true, rfl, hE, xc, .own C_AgreeError, fm.1, _, rfl, ?_⟩
    refine iteF ?_
    refine ⟨_, rfl, a, D, _, _, true, rfl, hE, xc, .ty "ValueError", fm.2.1, _, rfl, ?_⟩
    refine iteF ?_
    refine ⟨_, rfl, a, D, famB i, rfl, hE, xc, fm, fun p H1 t1 hp => ?_⟩
    dsimp only [gName]
    refine at_ret (at_op ⟨_, rfl, by decide, by decide, fun Dd hD => ?_⟩)
    refine lc_range (lo := 0) (n := 21) (fun j H' => Same H1 H' ∧ H' Dd = some (.lst ((((List.range j).filter fun k => decide (k = i)).map fun k : Nat => (k : Int)).map V.int))) ?_ ?_ ?_
    · exact ⟨same_loc (Same.refl H1) hD _, upd_same⟩
    · rintro j H' hj ⟨t2, h2⟩
      have hl : ((List.range j).filter fun k => decide (k = i)).length ≤ j := by
        have := List.length_filter_le (fun k => decide (k = i)) (List.range j)
        rw [List.length_range] at this
        exact this
      refine ⟨rfl, ⟨_, rfl, _, rfl, p, _, _, .bl (decide (j = i)), rfl, rfl, SqL.of (t2 _ _ hp), ?_, _, rfl, ?_⟩⟩
      · refine at_of (j := j) (by omega) ?_
        rw [List.getElem?_map, famB_get hj]
        rfl
      · refine ite2 (fun e => ?_) (fun e => ?_)
        · have e' := of_decide_eq_true e
          refine ⟨_, rfl, _, h2, sz_lt (by rw [List.length_map, List.length_map]; omega), same_loc t2 hD _, ?_⟩
          rw [List.range_succ, List.filter_append, List.map_append, List.map_append]
          have e1 : [j].filter (fun k => decide (k = i)) = [j] := by rw [List.filter_cons, if_pos e]; rfl
          rw [e1, upd_same]
          have e2 : (V.int (0 + (j : Int))) = V.int (j : Int) := by rw [Int.zero_add]
          rw [e2]
          rfl
        · refine ⟨t2, ?_⟩
          rw [List.range_succ, List.filter_append, List.map_append, List.map_append]
          have e1 : [j].filter (fun k => decide (k = i)) = [] := by rw [List.filter_cons, if_neg e]; rfl
          rw [e1]
          simpa using h2
    · rintro H2 ⟨t2, h2⟩
      rw [fam_pick, if_pos hi] at h2
      refine ⟨_, rfl, (by show 1 ≤ sizeLine; decide), fun L nL => ?_⟩
      have t3 : Same H2 (upd H2 L (.lst [.int i])) := same_loc (Same.refl H2) nL _
      refine ⟨dI [(i : Int)], dI [(i : Int)], .lst (SqL.of (t3 _ _ h2)) (dp_ints [(i : Int)]), .lst (SqL.of upd_same) (dp_ints [(i : Int)]), sh_ints, sh_ints, ?_⟩
      rw [PySem.SeqAt.eqv_refl _ (PySem.SeqAt.canLay_of_shaped (sh_ints (xs := [(i : Int)])))]
      exact k _ ((t1.trans t2).trans t3)
theorem sc_caught : FnScope ["_law_number", "e"] ["_law_number"] (defScope (topS 31)) := ⟨rfl, rfl, rfl, by decide +kernel, rfl, by decide +kernel, by decide +kernel⟩
theorem ok_caught {f : Addr} {C_AgreeError C_BadLine C_DuplicateName C_UnknownName C_WrongTable C_WrongCount C_TooMany C_BadPattern C_ConstantsMeet C_OtherPlaces C_OtherSchema C_BadValue C_NoRow C_Refused C_Broken C_BadCase C_TooManyPatterns C_BadDerivation C_NotReachable C_TooLong C_NotComparable C_BadOffer : Addr} {fd : FuncData} (F : Fun K "_law_caught" "_law_caught" (topS 31) f fd) (TE : ET K mg C_AgreeError C_BadLine C_DuplicateName C_UnknownName C_WrongTable C_WrongCount C_TooMany C_BadPattern C_ConstantsMeet C_OtherPlaces C_OtherSchema C_BadValue C_NoRow C_Refused C_Broken C_BadCase C_TooManyPatterns C_BadDerivation C_NotReachable C_TooLong C_NotComparable C_BadOffer) (T : Txt K mg) (c_BadLine : ErrMkD P w K mg base "BadLine" C_BadLine ["self", "line"] (spE1 C_BadLine "line") 1 []) : FnOk P w K mg base CX0 4 f fd ["_law_number"] spCaught := by
  refine F.ok sc_caught (fun vs H Q E h => ?_) (fun cdv A outer s H vs Q E hr h => ?_)
  · obtain ⟨n, rfl, _⟩ := h
    rfl
  · obtain ⟨n, rfl, k⟩ := h
    refine ⟨_, (pss_cons (ps_try_as (i := 1) (c := .ref C_AgreeError) (Wout := fun _ _ _ _ => False) rfl rfl sc_caught.nd rfl rfl ⟨rfl, by decide, Or.inl TE.g_AgreeError⟩ takes0
      (fun W pn xe tk po => (pss_one (ps_raiseE c_BadLine.mk0 hr (by decide) tk (by rfl) (pa_cons (pv 0) pa_nil))))
      (fun a oe cls d pn hz hf => (pss_one (ps_ret (pe_callB (call_isED K hz hf) (by rfl) T.n_isinstance (by decide +kernel) (pa_cons (pv 1) (pa_cons (pe_glob (v := .ref C_BadLine) rfl TE.g_BadLine rfl) pa_nil)))))))
      (pss_one (ps_ret pe_bl))), ?_⟩
    refine raise_errE1 (D := { nx := fun _ _ => True, rt := fun _ _ => True, bk := fun _ _ => True, ct := fun _ _ => True }) ⟨_, rfl, _, rfl, fun d nd => ?_⟩ (fun Q Q' hq ⟨x1, e1, hh⟩ => ⟨x1, e1, hq _ _ hh⟩)
    refine ⟨true, TE.exm, fun _ a0 na0 => ?_, fun q => Bool.noConfusion q⟩
    refine ⟨_, rfl, C_BadLine, d, _, _, _, true, rfl, rfl, rfl, upd_same, TE.exc_BadLine, .own C_BadLine, ?_, ?_⟩
    · have := TE.fam_BadLine.2.2
      cases this with
      | cons h _ => exact h
    · exact k _ (same_loc (Same.refl H) nd _)
end
end OA

/-! ### get_numbers, get_others: the code -/
namespace OA
open PySem PySem.Spec PyProof.Rows L2
def spNums : Sp := fun vs H Q _ => ∃ (n : Int) (x : Str), vs = [.int n, .str x] ∧ Asc x ∧ ∀ H', Same H H' → Q (.bl true) H'
def spOthers : Sp := fun vs H Q _ => ∃ (n : Int) (x y : Str) (g : Addr) (z1 z2 z3 : Str), vs = [.int n, .str x, .str y, .ref g] ∧ H g = some (.tup [.str z1, .str z2, .str z3]) ∧ Asc x ∧ Asc y ∧ Asc z1 ∧ Asc z2 ∧ Asc z3 ∧ ∀ H', Same H H' → Q (.bl true) H'
section
variable {P : Program} {w : World} {K : PySem.W.Frag} {mg : Str → Option Value} {base : Heap}
theorem sc_get_numbers : FnScope ["_law_number", "_law_word", "_law_line", "_law_count", "_law_many", "_law_derived", "_law_size", "_law_offer", "_law_kin", "_law_double", "_law_unknown", "_law_table", "_law_row"] ["_law_number", "_law_word"] (defScope (topS 29)) := ⟨rfl, rfl, rfl, by decide +kernel, rfl, by decide +kernel, by decide +kernel⟩
set_option maxHeartbeats 16000000 in
theorem ok_get_numbers {f : Addr} {C_AgreeError C_BadLine C_DuplicateName C_UnknownName C_WrongTable C_WrongCount C_TooMany C_BadPattern C_ConstantsMeet C_OtherPlaces C_OtherSchema C_BadValue C_NoRow C_Refused C_Broken C_BadCase C_TooManyPatterns C_BadDerivation C_NotReachable C_TooLong C_NotComparable C_BadOffer : Addr} {fd : FuncData} (F : Fun K "_law_get_numbers" "_law_get_numbers" (topS 29) f fd) (TE : ET K mg C_AgreeError C_BadLine C_DuplicateName C_UnknownName C_WrongTable C_WrongCount C_TooMany C_BadPattern C_ConstantsMeet C_OtherPlaces C_OtherSchema C_BadValue C_NoRow C_Refused C_Broken C_BadCase C_TooManyPatterns C_BadDerivation C_NotReachable C_TooLong C_NotComparable C_BadOffer) (T : Txt K mg) (c_get_kin : Callee P w K mg base "_law_get_kin" ["_law_error", "_law_place"] (spKin K C_AgreeError [C_BadLine, C_DuplicateName, C_UnknownName, C_WrongTable, C_WrongCount, C_TooMany, C_BadPattern, C_ConstantsMeet, C_OtherPlaces, C_OtherSchema, C_BadValue, C_NoRow, C_Refused, C_Broken, C_BadCase, C_TooManyPatterns, C_BadDerivation, C_NotReachable, C_TooLong, C_NotComparable, C_BadOffer]) 2) (c_BadLine : ErrMkD P w K mg base "BadLine" C_BadLine ["self", "line"] (spE1 C_BadLine "line") 1 []) (c_WrongCount : ErrMkD P w K mg base "WrongCount" C_WrongCount ["self", "line"] (spE1 C_WrongCount "line") 1 []) (c_TooMany : ErrMkD P w K mg base "TooMany" C_TooMany ["self", "line"] (spE1 C_TooMany "line") 1 []) (c_BadDerivation : ErrMkD P w K mg base "BadDerivation" C_BadDerivation ["self", "line"] (spE1 C_BadDerivation "line") 1 []) (c_TooLong : ErrMkD P w K mg base "TooLong" C_TooLong ["self", "size"] (spE1 C_TooLong "size") 1 []) (c_BadOffer : ErrMkD P w K mg base "BadOffer" C_BadOffer ["self", "number"] (spE1 C_BadOffer "number") 1 []) (c_DuplicateName : ErrMkD P w K mg base "DuplicateName" C_DuplicateName ["self", "line", "name"] (spE2 C_DuplicateName "line" "name") 1 []) (c_UnknownName : ErrMkD P w K mg base "UnknownName" C_UnknownName ["self", "line", "name"] (spE2 C_UnknownName "line" "name") 1 []) (c_WrongTable : ErrMkD P w K mg base "WrongTable" C_WrongTable ["self", "line", "name"] (spE2 C_WrongTable "line" "name") 1 []) (c_NoRow : ErrMkD P w K mg base "NoRow" C_NoRow ["self", "table", "number"] (spE2 C_NoRow "table" "number") 1 []) : FnOk P w K mg base CX0 4 f fd ["_law_number", "_law_word"] spNums := by
  refine F.ok sc_get_numbers (fun vs H Q E h => ?_) (fun cdv A outer s H vs Q E hr h => ?_)
  · obtain ⟨n, x, rfl, _⟩ := h
    rfl
  · obtain ⟨n, x, rfl, hx, k⟩ := h
    refine ⟨_, (pss_cons (ps_set (i := 2) sc_get_numbers.nd rfl (Or.inl rfl) (pe_errV c_BadLine hr (by decide) (by rfl) (pa_cons (pv 0) pa_nil)))
      (pss_cons (ps_set (i := 3) sc_get_numbers.nd rfl (Or.inl rfl) (pe_errV c_WrongCount hr (by decide) (by rfl) (pa_cons (pv 0) pa_nil)))
      (pss_cons (ps_set (i := 4) sc_get_numbers.nd rfl (Or.inl rfl) (pe_errV c_TooMany hr (by decide) (by rfl) (pa_cons (pv 0) pa_nil)))
      (pss_cons (ps_set (i := 5) sc_get_numbers.nd rfl (Or.inl rfl) (pe_errV c_BadDerivation hr (by decide) (by rfl) (pa_cons (pv 0) pa_nil)))
      (pss_cons (ps_set (i := 6) sc_get_numbers.nd rfl (Or.inl rfl) (pe_errV c_TooLong hr (by decide) (by rfl) (pa_cons (pv 0) pa_nil)))
      (pss_cons (ps_set (i := 7) sc_get_numbers.nd rfl (Or.inl rfl) (pe_errV c_BadOffer hr (by decide) (by rfl) (pa_cons (pv 0) pa_nil)))
      (pss_cons (ps_if (pt_cmpR (o_neD K hr.units) (pe_lst (pa_cons (pe_xfV (C := C_BadLine) TE.xf_BadLine TE.no_BadLine_line (pv 2)) (pa_cons (pe_xfV (C := C_WrongCount) TE.xf_WrongCount TE.no_WrongCount_line (pv 3)) (pa_cons (pe_xfV (C := C_TooMany) TE.xf_TooMany TE.no_TooMany_line (pv 4)) (pa_cons (pe_xfV (C := C_BadDerivation) TE.xf_BadDerivation TE.no_BadDerivation_line (pv 5)) (pa_cons (pe_xfV (C := C_TooLong) TE.xf_TooLong TE.no_TooLong_size (pv 6)) (pa_cons (pe_xfV (C := C_BadOffer) TE.xf_BadOffer TE.no_BadOffer_number (pv 7)) pa_nil))))))) (pe_op op_rep (pe_lst (pa_cons (pv 0) pa_nil)) pe_int) (nomark _)) (pss_one (ps_ret pe_bl)) pss_nil)
      (pss_cons (ps_set (i := 8) sc_get_numbers.nd rfl (Or.inl rfl) (pe_lst (pa_cons (pe_co c_get_kin hr (by decide) (by rfl) (pa_cons (pv 2) (pa_cons pe_int pa_nil))) (pa_cons (pe_co c_get_kin hr (by decide) (by rfl) (pa_cons (pv 3) (pa_cons pe_int pa_nil))) (pa_cons (pe_co c_get_kin hr (by decide) (by rfl) (pa_cons (pv 4) (pa_cons pe_int pa_nil))) (pa_cons (pe_co c_get_kin hr (by decide) (by rfl) (pa_cons (pv 5) (pa_cons pe_int pa_nil))) pa_nil))))))
      (pss_cons (ps_if (pt_cmpR (o_neD K hr.units) (pe_op op_cat (pv 8) (pe_lst (pa_cons (pe_co c_get_kin hr (by decide) (by rfl) (pa_cons (pv 6) (pa_cons pe_int pa_nil))) (pa_cons (pe_co c_get_kin hr (by decide) (by rfl) (pa_cons (pv 7) (pa_cons pe_int pa_nil))) pa_nil)))) (pe_op op_rep (pe_lst (pa_cons pe_bl pa_nil)) pe_int) (nomark _)) (pss_one (ps_ret pe_bl)) pss_nil)
      (pss_cons (ps_set (i := 9) sc_get_numbers.nd rfl (Or.inl rfl) (pe_errV c_DuplicateName hr (by decide) (by rfl) (pa_cons (pv 0) (pa_cons (pv 1) pa_nil))))
      (pss_cons (ps_set (i := 10) sc_get_numbers.nd rfl (Or.inl rfl) (pe_errV c_UnknownName hr (by decide) (by rfl) (pa_cons (pv 0) (pa_cons (pv 1) pa_nil))))
      (pss_cons (ps_set (i := 11) sc_get_numbers.nd rfl (Or.inl rfl) (pe_errV c_WrongTable hr (by decide) (by rfl) (pa_cons (pv 0) (pa_cons (pv 1) pa_nil))))
      (pss_cons (ps_set (i := 12) sc_get_numbers.nd rfl (Or.inl rfl) (pe_errV c_NoRow hr (by decide) (by rfl) (pa_cons (pv 1) (pa_cons (pv 0) pa_nil))))
      (pss_cons (ps_if (pt_cmpR (o_neD K hr.units) (pe_lst (pa_cons (pe_xfV (C := C_DuplicateName) TE.xf_DuplicateName TE.no_DuplicateName_line (pv 9)) (pa_cons (pe_xfV (C := C_UnknownName) TE.xf_UnknownName TE.no_UnknownName_line (pv 10)) (pa_cons (pe_xfV (C := C_WrongTable) TE.xf_WrongTable TE.no_WrongTable_line (pv 11)) (pa_cons (pe_xfV (C := C_NoRow) TE.xf_NoRow TE.no_NoRow_number (pv 12)) pa_nil))))) (pe_op op_rep (pe_lst (pa_cons (pv 0) pa_nil)) pe_int) (nomark _)) (pss_one (ps_ret pe_bl)) pss_nil)
      (pss_cons (ps_if (pt_cmpR (o_neD K hr.units) (pe_lst (pa_cons (pe_xfV (C := C_DuplicateName) TE.xf_DuplicateName TE.no_DuplicateName_name (pv 9)) (pa_cons (pe_xfV (C := C_UnknownName) TE.xf_UnknownName TE.no_UnknownName_name (pv 10)) (pa_cons (pe_xfV (C := C_WrongTable) TE.xf_WrongTable TE.no_WrongTable_name (pv 11)) (pa_cons (pe_xfV (C := C_NoRow) TE.xf_NoRow TE.no_NoRow_table (pv 12)) pa_nil))))) (pe_op op_rep (pe_lst (pa_cons (pv 1) pa_nil)) pe_int) (nomark _)) (pss_one (ps_ret pe_bl)) pss_nil)
      (pss_one (ps_ret (pe_cmpR (o_eqD K hr.units) (pe_lst (pa_cons (pe_co c_get_kin hr (by decide) (by rfl) (pa_cons (pv 9) (pa_cons pe_int pa_nil))) (pa_cons (pe_co c_get_kin hr (by decide) (by rfl) (pa_cons (pv 10) (pa_cons pe_int pa_nil))) (pa_cons (pe_co c_get_kin hr (by decide) (by rfl) (pa_cons (pv 11) (pa_cons pe_int pa_nil))) (pa_cons (pe_co c_get_kin hr (by decide) (by rfl) (pa_cons (pv 12) (pa_cons pe_int pa_nil))) pa_nil))))) (pe_op op_rep (pe_lst (pa_cons pe_bl pa_nil)) pe_int) (nomark _))))))))))))))))))), ?_⟩
    have u : Same H H := Same.refl H
    refine ⟨_, rfl, (by show 1 ≤ 1000; decide), fun a1 n1 => ⟨a1, _, rfl, spE_make n1 fun H1 t1 e_line => ?_⟩⟩
    replace u := u.trans t1
    refine ⟨_, rfl, (by show 1 ≤ 1000; decide), fun a2 n2 => ⟨a2, _, rfl, spE_make n2 fun H2 t2 e_count => ?_⟩⟩
    replace e_line := e_line.mono t2
    replace u := u.trans t2
    refine ⟨_, rfl, (by show 1 ≤ 1000; decide), fun a3 n3 => ⟨a3, _, rfl, spE_make n3 fun H3 t3 e_many => ?_⟩⟩
    replace e_line := e_line.mono t3
    replace e_count := e_count.mono t3
    replace u := u.trans t3
    refine ⟨_, rfl, (by show 1 ≤ 1000; decide), fun a4 n4 => ⟨a4, _, rfl, spE_make n4 fun H4 t4 e_der => ?_⟩⟩
    replace e_line := e_line.mono t4
    replace e_count := e_count.mono t4
    replace e_many := e_many.mono t4
    replace u := u.trans t4
    refine ⟨_, rfl, (by show 1 ≤ 1000; decide), fun a5 n5 => ⟨a5, _, rfl, spE_make n5 fun H5 t5 e_size => ?_⟩⟩
    replace e_line := e_line.mono t5
    replace e_count := e_count.mono t5
    replace e_many := e_many.mono t5
    replace e_der := e_der.mono t5
    replace u := u.trans t5
    refine ⟨_, rfl, (by show 1 ≤ 1000; decide), fun a6 n6 => ⟨a6, _, rfl, spE_make n6 fun H6 t6 e_offer => ?_⟩⟩
    replace e_line := e_line.mono t6
    replace e_count := e_count.mono t6
    replace e_many := e_many.mono t6
    replace e_der := e_der.mono t6
    replace e_size := e_size.mono t6
    replace u := u.trans t6
    have l7 : ([(("line" : Str), V.int n)] : List (Str × V)).lookup ("line" : Str) = some (V.int n) := by rw [lookup_put, if_pos rfl]
    have l8 : ([(("line" : Str), V.int n)] : List (Str × V)).lookup ("line" : Str) = some (V.int n) := by rw [lookup_put, if_pos rfl]
    have l9 : ([(("line" : Str), V.int n)] : List (Str × V)).lookup ("line" : Str) = some (V.int n) := by rw [lookup_put, if_pos rfl]
    have l10 : ([(("line" : Str), V.int n)] : List (Str × V)).lookup ("line" : Str) = some (V.int n) := by rw [lookup_put, if_pos rfl]
    have l11 : ([(("size" : Str), V.int n)] : List (Str × V)).lookup ("size" : Str) = some (V.int n) := by rw [lookup_put, if_pos rfl]
    have l12 : ([(("number" : Str), V.int n)] : List (Str × V)).lookup ("number" : Str) = some (V.int n) := by rw [lookup_put, if_pos rfl]
    obtain ⟨d_line, x_line, y_line⟩ := id e_line
    obtain ⟨d_count, x_count, y_count⟩ := id e_count
    obtain ⟨d_many, x_many, y_many⟩ := id e_many
    obtain ⟨d_der, x_der, y_der⟩ := id e_der
    obtain ⟨d_size, x_size, y_size⟩ := id e_size
    obtain ⟨d_offer, x_offer, y_offer⟩ := id e_offer
    refine ⟨_, rfl, a1, d_line, _, _, rfl, x_line, y_line, l7, _, rfl, a2, d_count, _, _, rfl, x_count, y_count, l8, _, rfl, a3, d_many, _, _, rfl, x_many, y_many, l9, _, rfl, a4, d_der, _, _, rfl, x_der, y_der, l10, _, rfl, a5, d_size, _, _, rfl, x_size, y_size, l11, _, rfl, a6, d_offer, _, _, rfl, x_offer, y_offer, l12, (by show 6 ≤ sizeLine; decide), fun p19 n19 => ?_⟩
    have t20 : Same H6 (upd H6 p19 (.lst [.int n, .int n, .int n, .int n, .int n, .int n])) := same_loc (Same.refl _) n19 _
    have c20 : (upd H6 p19 (.lst [.int n, .int n, .int n, .int n, .int n, .int n])) p19 = some (.lst [.int n, .int n, .int n, .int n, .int n, .int n]) := upd_same
    generalize upd H6 p19 (.lst [.int n, .int n, .int n, .int n, .int n, .int n]) = H20 at t20 c20
    replace e_line := e_line.mono t20
    replace e_count := e_count.mono t20
    replace e_many := e_many.mono t20
    replace e_der := e_der.mono t20
    replace e_size := e_size.mono t20
    replace e_offer := e_offer.mono t20
    replace u := u.trans t20
    refine ⟨_, rfl, (by show 1 ≤ sizeLine; decide), fun p21 n21 => ?_⟩
    have t22 : Same H20 (upd H20 p21 (.lst [V.int n])) := same_loc (Same.refl _) n21 _
    have c22 : (upd H20 p21 (.lst [V.int n])) p21 = some (.lst [V.int n]) := upd_same
    generalize upd H20 p21 (.lst [V.int n]) = H22 at t22 c22
    replace e_line := e_line.mono t22
    replace e_count := e_count.mono t22
    replace e_many := e_many.mono t22
    replace e_der := e_der.mono t22
    replace e_size := e_size.mono t22
    replace e_offer := e_offer.mono t22
    replace c20 := t22 _ _ c20
    replace u := u.trans t22
    refine ⟨_, _, _, rfl, rfl, c22, by decide, by decide, (by show 1 * 6 ≤ sizeLine; decide), fun p23 n23 => ?_⟩
    have q23 : (List.replicate (6 : Int).toNat [V.int n]).flatten = [V.int n, V.int n, V.int n, V.int n, V.int n, V.int n] := rfl
    rw [q23]
    have t24 : Same H22 (upd H22 p23 (.lst [V.int n, V.int n, V.int n, V.int n, V.int n, V.int n])) := same_loc (Same.refl _) n23 _
    have c24 : (upd H22 p23 (.lst [V.int n, V.int n, V.int n, V.int n, V.int n, V.int n])) p23 = some (.lst [V.int n, V.int n, V.int n, V.int n, V.int n, V.int n]) := upd_same
    generalize upd H22 p23 (.lst [V.int n, V.int n, V.int n, V.int n, V.int n, V.int n]) = H24 at t24 c24
    replace e_line := e_line.mono t24
    replace e_count := e_count.mono t24
    replace e_many := e_many.mono t24
    replace e_der := e_der.mono t24
    replace e_size := e_size.mono t24
    replace e_offer := e_offer.mono t24
    replace c20 := t24 _ _ c20
    replace c22 := t24 _ _ c22
    replace u := u.trans t24
    have s25 : SeqAt.shaped (.list [.int n, .int n, .int n, .int n, .int n, .int n]) = true := by
      unfold SeqAt.shaped
      have g1 : PyData.canLay0 (.list [.int n, .int n, .int n, .int n, .int n, .int n]) = true := by simp [PyData.canLay0, PyData.canLayAll0, hx.ok]
      have g2 : decide (PyData.depth (.list [.int n, .int n, .int n, .int n, .int n, .int n]) ≤ 64) = true := rfl
      rw [g1, g2]
      rfl
    refine ⟨.list [.int n, .int n, .int n, .int n, .int n, .int n], .list [.int n, .int n, .int n, .int n, .int n, .int n], .lst (SqL.of c20) (.cons (.int n) (.cons (.int n) (.cons (.int n) (.cons (.int n) (.cons (.int n) (.cons (.int n) (.nil))))))), .lst (SqL.of c24) (.cons (.int n) (.cons (.int n) (.cons (.int n) (.cons (.int n) (.cons (.int n) (.cons (.int n) (.nil))))))), s25, s25, _, rfl, ?_⟩
    rw [PySem.SeqAt.eqv_refl _ (PySem.SeqAt.canLay_of_shaped s25)]
    refine iteF ?_
    clear c20
    clear c22
    clear c24
    refine ⟨_, rfl, a1, C_BadLine, 0, rfl, e_line.at, TE.exc_BadLine, TE.fam_BadLine, by decide, fun H26 t26 => ?_⟩
    replace e_line := e_line.mono t26
    replace e_count := e_count.mono t26
    replace e_many := e_many.mono t26
    replace e_der := e_der.mono t26
    replace e_size := e_size.mono t26
    replace e_offer := e_offer.mono t26
    replace u := u.trans t26
    refine ⟨_, rfl, a2, C_WrongCount, 4, rfl, e_count.at, TE.exc_WrongCount, TE.fam_WrongCount, by decide, fun H27 t27 => ?_⟩
    replace e_line := e_line.mono t27
    replace e_count := e_count.mono t27
    replace e_many := e_many.mono t27
    replace e_der := e_der.mono t27
    replace e_size := e_size.mono t27
    replace e_offer := e_offer.mono t27
    replace u := u.trans t27
    refine ⟨_, rfl, a3, C_TooMany, 5, rfl, e_many.at, TE.exc_TooMany, TE.fam_TooMany, by decide, fun H28 t28 => ?_⟩
    replace e_line := e_line.mono t28
    replace e_count := e_count.mono t28
    replace e_many := e_many.mono t28
    replace e_der := e_der.mono t28
    replace e_size := e_size.mono t28
    replace e_offer := e_offer.mono t28
    replace u := u.trans t28
    refine ⟨_, rfl, a4, C_BadDerivation, 16, rfl, e_der.at, TE.exc_BadDerivation, TE.fam_BadDerivation, by decide, fun H29 t29 => ?_⟩
    replace e_line := e_line.mono t29
    replace e_count := e_count.mono t29
    replace e_many := e_many.mono t29
    replace e_der := e_der.mono t29
    replace e_size := e_size.mono t29
    replace e_offer := e_offer.mono t29
    replace u := u.trans t29
    refine ⟨(by show 4 ≤ sizeLine; decide), fun p30 n30 => ?_⟩
    have t31 : Same H29 (upd H29 p30 (.lst [.bl true, .bl true, .bl true, .bl true])) := same_loc (Same.refl _) n30 _
    have c31 : (upd H29 p30 (.lst [.bl true, .bl true, .bl true, .bl true])) p30 = some (.lst [.bl true, .bl true, .bl true, .bl true]) := upd_same
    generalize upd H29 p30 (.lst [.bl true, .bl true, .bl true, .bl true]) = H31 at t31 c31
    replace e_line := e_line.mono t31
    replace e_count := e_count.mono t31
    replace e_many := e_many.mono t31
    replace e_der := e_der.mono t31
    replace e_size := e_size.mono t31
    replace e_offer := e_offer.mono t31
    replace u := u.trans t31
    refine ⟨_, rfl, ?_⟩
    refine ⟨_, rfl, a5, C_TooLong, 18, rfl, e_size.at, TE.exc_TooLong, TE.fam_TooLong, by decide, fun H32 t32 => ?_⟩
    replace e_line := e_line.mono t32
    replace e_count := e_count.mono t32
    replace e_many := e_many.mono t32
    replace e_der := e_der.mono t32
    replace e_size := e_size.mono t32
    replace e_offer := e_offer.mono t32
    replace c31 := t32 _ _ c31
    replace u := u.trans t32
    refine ⟨_, rfl, a6, C_BadOffer, 20, rfl, e_offer.at, TE.exc_BadOffer, TE.fam_BadOffer, by decide, fun H33 t33 => ?_⟩
    replace e_line := e_line.mono t33
    replace e_count := e_count.mono t33
    replace e_many := e_many.mono t33
    replace e_der := e_der.mono t33
    replace e_size := e_size.mono t33
    replace e_offer := e_offer.mono t33
    replace c31 := t33 _ _ c31
    replace u := u.trans t33
    refine ⟨(by show 2 ≤ sizeLine; decide), fun p34 n34 => ?_⟩
    have t35 : Same H33 (upd H33 p34 (.lst [.bl true, .bl true])) := same_loc (Same.refl _) n34 _
    have c35 : (upd H33 p34 (.lst [.bl true, .bl true])) p34 = some (.lst [.bl true, .bl true]) := upd_same
    generalize upd H33 p34 (.lst [.bl true, .bl true]) = H35 at t35 c35
    replace e_line := e_line.mono t35
    replace e_count := e_count.mono t35
    replace e_many := e_many.mono t35
    replace e_der := e_der.mono t35
    replace e_size := e_size.mono t35
    replace e_offer := e_offer.mono t35
    replace c31 := t35 _ _ c31
    replace u := u.trans t35
    refine ⟨_, _, _, _, rfl, rfl, c31, c35, sz_le (by show 4 + 2 ≤ 1000000; decide), fun p36 n36 => ?_⟩
    have q36 : [V.bl true, V.bl true, V.bl true, V.bl true] ++ [V.bl true, V.bl true] = [V.bl true, V.bl true, V.bl true, V.bl true, V.bl true, V.bl true] := rfl
    rw [q36]
    have t37 : Same H35 (upd H35 p36 (.lst [V.bl true, V.bl true, V.bl true, V.bl true, V.bl true, V.bl true])) := same_loc (Same.refl _) n36 _
    have c37 : (upd H35 p36 (.lst [V.bl true, V.bl true, V.bl true, V.bl true, V.bl true, V.bl true])) p36 = some (.lst [V.bl true, V.bl true, V.bl true, V.bl true, V.bl true, V.bl true]) := upd_same
    generalize upd H35 p36 (.lst [V.bl true, V.bl true, V.bl true, V.bl true, V.bl true, V.bl true]) = H37 at t37 c37
    replace e_line := e_line.mono t37
    replace e_count := e_count.mono t37
    replace e_many := e_many.mono t37
    replace e_der := e_der.mono t37
    replace e_size := e_size.mono t37
    replace e_offer := e_offer.mono t37
    replace c31 := t37 _ _ c31
    replace c35 := t37 _ _ c35
    replace u := u.trans t37
    refine ⟨(by show 1 ≤ sizeLine; decide), fun p38 n38 => ?_⟩
    have t39 : Same H37 (upd H37 p38 (.lst [V.bl true])) := same_loc (Same.refl _) n38 _
    have c39 : (upd H37 p38 (.lst [V.bl true])) p38 = some (.lst [V.bl true]) := upd_same
    generalize upd H37 p38 (.lst [V.bl true]) = H39 at t39 c39
    replace e_line := e_line.mono t39
    replace e_count := e_count.mono t39
    replace e_many := e_many.mono t39
    replace e_der := e_der.mono t39
    replace e_size := e_size.mono t39
    replace e_offer := e_offer.mono t39
    replace c31 := t39 _ _ c31
    replace c35 := t39 _ _ c35
    replace c37 := t39 _ _ c37
    replace u := u.trans t39
    refine ⟨_, _, _, rfl, rfl, c39, by decide, by decide, (by show 1 * 6 ≤ sizeLine; decide), fun p40 n40 => ?_⟩
    have q40 : (List.replicate (6 : Int).toNat [V.bl true]).flatten = [V.bl true, V.bl true, V.bl true, V.bl true, V.bl true, V.bl true] := rfl
    rw [q40]
    have t41 : Same H39 (upd H39 p40 (.lst [V.bl true, V.bl true, V.bl true, V.bl true, V.bl true, V.bl true])) := same_loc (Same.refl _) n40 _
    have c41 : (upd H39 p40 (.lst [V.bl true, V.bl true, V.bl true, V.bl true, V.bl true, V.bl true])) p40 = some (.lst [V.bl true, V.bl true, V.bl true, V.bl true, V.bl true, V.bl true]) := upd_same
    generalize upd H39 p40 (.lst [V.bl true, V.bl true, V.bl true, V.bl true, V.bl true, V.bl true]) = H41 at t41 c41
    replace e_line := e_line.mono t41
    replace e_count := e_count.mono t41
    replace e_many := e_many.mono t41
    replace e_der := e_der.mono t41
    replace e_size := e_size.mono t41
    replace e_offer := e_offer.mono t41
    replace c31 := t41 _ _ c31
    replace c35 := t41 _ _ c35
    replace c37 := t41 _ _ c37
    replace c39 := t41 _ _ c39
    replace u := u.trans t41
    have s42 : SeqAt.shaped (.list [.bool true, .bool true, .bool true, .bool true, .bool true, .bool true]) = true := by
      unfold SeqAt.shaped
      have g1 : PyData.canLay0 (.list [.bool true, .bool true, .bool true, .bool true, .bool true, .bool true]) = true := by simp [PyData.canLay0, PyData.canLayAll0, hx.ok]
      have g2 : decide (PyData.depth (.list [.bool true, .bool true, .bool true, .bool true, .bool true, .bool true]) ≤ 64) = true := rfl
      rw [g1, g2]
      rfl
    refine ⟨.list [.bool true, .bool true, .bool true, .bool true, .bool true, .bool true], .list [.bool true, .bool true, .bool true, .bool true, .bool true, .bool true], .lst (SqL.of c37) (.cons (.bl true) (.cons (.bl true) (.cons (.bl true) (.cons (.bl true) (.cons (.bl true) (.cons (.bl true) (.nil))))))), .lst (SqL.of c41) (.cons (.bl true) (.cons (.bl true) (.cons (.bl true) (.cons (.bl true) (.cons (.bl true) (.cons (.bl true) (.nil))))))), s42, s42, _, rfl, ?_⟩
    rw [PySem.SeqAt.eqv_refl _ (PySem.SeqAt.canLay_of_shaped s42)]
    refine iteF ?_
    clear c31
    clear c35
    clear c37
    clear c39
    clear c41
    refine ⟨_, rfl, _, rfl, (by show 2 ≤ 1000; decide), fun a43 n43 => ⟨a43, _, _, rfl, spE_make n43 fun H43 t43 e_double => ?_⟩⟩
    replace e_line := e_line.mono t43
    replace e_count := e_count.mono t43
    replace e_many := e_many.mono t43
    replace e_der := e_der.mono t43
    replace e_size := e_size.mono t43
    replace e_offer := e_offer.mono t43
    replace u := u.trans t43
    refine ⟨_, rfl, _, rfl, (by show 2 ≤ 1000; decide), fun a44 n44 => ⟨a44, _, _, rfl, spE_make n44 fun H44 t44 e_unknown => ?_⟩⟩
    replace e_line := e_line.mono t44
    replace e_count := e_count.mono t44
    replace e_many := e_many.mono t44
    replace e_der := e_der.mono t44
    replace e_size := e_size.mono t44
    replace e_offer := e_offer.mono t44
    replace e_double := e_double.mono t44
    replace u := u.trans t44
    refine ⟨_, rfl, _, rfl, (by show 2 ≤ 1000; decide), fun a45 n45 => ⟨a45, _, _, rfl, spE_make n45 fun H45 t45 e_table => ?_⟩⟩
    replace e_line := e_line.mono t45
    replace e_count := e_count.mono t45
    replace e_many := e_many.mono t45
    replace e_der := e_der.mono t45
    replace e_size := e_size.mono t45
    replace e_offer := e_offer.mono t45
    replace e_double := e_double.mono t45
    replace e_unknown := e_unknown.mono t45
    replace u := u.trans t45
    refine ⟨_, rfl, _, rfl, (by show 2 ≤ 1000; decide), fun a46 n46 => ⟨a46, _, _, rfl, spE_make n46 fun H46 t46 e_row => ?_⟩⟩
    replace e_line := e_line.mono t46
    replace e_count := e_count.mono t46
    replace e_many := e_many.mono t46
    replace e_der := e_der.mono t46
    replace e_size := e_size.mono t46
    replace e_offer := e_offer.mono t46
    replace e_double := e_double.mono t46
    replace e_unknown := e_unknown.mono t46
    replace e_table := e_table.mono t46
    replace u := u.trans t46
    have l47 : ([(("name" : Str), V.str x), (("line" : Str), V.int n)] : List (Str × V)).lookup ("line" : Str) = some (V.int n) := by rw [lookup_put, if_neg (by decide +kernel), lookup_put, if_pos rfl]
    have l48 : ([(("name" : Str), V.str x), (("line" : Str), V.int n)] : List (Str × V)).lookup ("line" : Str) = some (V.int n) := by rw [lookup_put, if_neg (by decide +kernel), lookup_put, if_pos rfl]
    have l49 : ([(("name" : Str), V.str x), (("line" : Str), V.int n)] : List (Str × V)).lookup ("line" : Str) = some (V.int n) := by rw [lookup_put, if_neg (by decide +kernel), lookup_put, if_pos rfl]
    have l50 : ([(("number" : Str), V.int n), (("table" : Str), V.str x)] : List (Str × V)).lookup ("number" : Str) = some (V.int n) := by rw [lookup_put, if_pos rfl]
    obtain ⟨d_double, x_double, y_double⟩ := id e_double
    obtain ⟨d_unknown, x_unknown, y_unknown⟩ := id e_unknown
    obtain ⟨d_table, x_table, y_table⟩ := id e_table
    obtain ⟨d_row, x_row, y_row⟩ := id e_row
    refine ⟨_, rfl, a43, d_double, _, _, rfl, x_double, y_double, l47, _, rfl, a44, d_unknown, _, _, rfl, x_unknown, y_unknown, l48, _, rfl, a45, d_table, _, _, rfl, x_table, y_table, l49, _, rfl, a46, d_row, _, _, rfl, x_row, y_row, l50, (by show 4 ≤ sizeLine; decide), fun p55 n55 => ?_⟩
    have t56 : Same H46 (upd H46 p55 (.lst [.int n, .int n, .int n, .int n])) := same_loc (Same.refl _) n55 _
    have c56 : (upd H46 p55 (.lst [.int n, .int n, .int n, .int n])) p55 = some (.lst [.int n, .int n, .int n, .int n]) := upd_same
    generalize upd H46 p55 (.lst [.int n, .int n, .int n, .int n]) = H56 at t56 c56
    replace e_line := e_line.mono t56
    replace e_count := e_count.mono t56
    replace e_many := e_many.mono t56
    replace e_der := e_der.mono t56
    replace e_size := e_size.mono t56
    replace e_offer := e_offer.mono t56
    replace e_double := e_double.mono t56
    replace e_unknown := e_unknown.mono t56
    replace e_table := e_table.mono t56
    replace e_row := e_row.mono t56
    replace u := u.trans t56
    refine ⟨_, rfl, (by show 1 ≤ sizeLine; decide), fun p57 n57 => ?_⟩
    have t58 : Same H56 (upd H56 p57 (.lst [V.int n])) := same_loc (Same.refl _) n57 _
    have c58 : (upd H56 p57 (.lst [V.int n])) p57 = some (.lst [V.int n]) := upd_same
    generalize upd H56 p57 (.lst [V.int n]) = H58 at t58 c58
    replace e_line := e_line.mono t58
    replace e_count := e_count.mono t58
    replace e_many := e_many.mono t58
    replace e_der := e_der.mono t58
    replace e_size := e_size.mono t58
    replace e_offer := e_offer.mono t58
    replace e_double := e_double.mono t58
    replace e_unknown := e_unknown.mono t58
    replace e_table := e_table.mono t58
    replace e_row := e_row.mono t58
    replace c56 := t58 _ _ c56
    replace u := u.trans t58
    refine ⟨_, _, _, rfl, rfl, c58, by decide, by decide, (by show 1 * 4 ≤ sizeLine; decide), fun p59 n59 => ?_⟩
    have q59 : (List.replicate (4 : Int).toNat [V.int n]).flatten = [V.int n, V.int n, V.int n, V.int n] := rfl
    rw [q59]
    have t60 : Same H58 (upd H58 p59 (.lst [V.int n, V.int n, V.int n, V.int n])) := same_loc (Same.refl _) n59 _
    have c60 : (upd H58 p59 (.lst [V.int n, V.int n, V.int n, V.int n])) p59 = some (.lst [V.int n, V.int n, V.int n, V.int n]) := upd_same
    generalize upd H58 p59 (.lst [V.int n, V.int n, V.int n, V.int n]) = H60 at t60 c60
    replace e_line := e_line.mono t60
    replace e_count := e_count.mono t60
    replace e_many := e_many.mono t60
    replace e_der := e_der.mono t60
    replace e_size := e_size.mono t60
    replace e_offer := e_offer.mono t60
    replace e_double := e_double.mono t60
    replace e_unknown := e_unknown.mono t60
    replace e_table := e_table.mono t60
    replace e_row := e_row.mono t60
    replace c56 := t60 _ _ c56
    replace c58 := t60 _ _ c58
    replace u := u.trans t60
    have s61 : SeqAt.shaped (.list [.int n, .int n, .int n, .int n]) = true := by
      unfold SeqAt.shaped
      have g1 : PyData.canLay0 (.list [.int n, .int n, .int n, .int n]) = true := by simp [PyData.canLay0, PyData.canLayAll0, hx.ok]
      have g2 : decide (PyData.depth (.list [.int n, .int n, .int n, .int n]) ≤ 64) = true := rfl
      rw [g1, g2]
      rfl
    refine ⟨.list [.int n, .int n, .int n, .int n], .list [.int n, .int n, .int n, .int n], .lst (SqL.of c56) (.cons (.int n) (.cons (.int n) (.cons (.int n) (.cons (.int n) (.nil))))), .lst (SqL.of c60) (.cons (.int n) (.cons (.int n) (.cons (.int n) (.cons (.int n) (.nil))))), s61, s61, _, rfl, ?_⟩
    rw [PySem.SeqAt.eqv_refl _ (PySem.SeqAt.canLay_of_shaped s61)]
    refine iteF ?_
    clear c56
    clear c58
    clear c60
    have l62 : ([(("name" : Str), V.str x), (("line" : Str), V.int n)] : List (Str × V)).lookup ("name" : Str) = some (V.str x) := by rw [lookup_put, if_pos rfl]
    have l63 : ([(("name" : Str), V.str x), (("line" : Str), V.int n)] : List (Str × V)).lookup ("name" : Str) = some (V.str x) := by rw [lookup_put, if_pos rfl]
    have l64 : ([(("name" : Str), V.str x), (("line" : Str), V.int n)] : List (Str × V)).lookup ("name" : Str) = some (V.str x) := by rw [lookup_put, if_pos rfl]
    have l65 : ([(("number" : Str), V.int n), (("table" : Str), V.str x)] : List (Str × V)).lookup ("table" : Str) = some (V.str x) := by rw [lookup_put, if_neg (by decide +kernel), lookup_put, if_pos rfl]
    obtain ⟨d_double, x_double, y_double⟩ := id e_double
    obtain ⟨d_unknown, x_unknown, y_unknown⟩ := id e_unknown
    obtain ⟨d_table, x_table, y_table⟩ := id e_table
    obtain ⟨d_row, x_row, y_row⟩ := id e_row
    refine ⟨_, rfl, a43, d_double, _, _, rfl, x_double, y_double, l62, _, rfl, a44, d_unknown, _, _, rfl, x_unknown, y_unknown, l63, _, rfl, a45, d_table, _, _, rfl, x_table, y_table, l64, _, rfl, a46, d_row, _, _, rfl, x_row, y_row, l65, (by show 4 ≤ sizeLine; decide), fun p70 n70 => ?_⟩
    have t71 : Same H60 (upd H60 p70 (.lst [.str x, .str x, .str x, .str x])) := same_loc (Same.refl _) n70 _
    have c71 : (upd H60 p70 (.lst [.str x, .str x, .str x, .str x])) p70 = some (.lst [.str x, .str x, .str x, .str x]) := upd_same
    generalize upd H60 p70 (.lst [.str x, .str x, .str x, .str x]) = H71 at t71 c71
    replace e_line := e_line.mono t71
    replace e_count := e_count.mono t71
    replace e_many := e_many.mono t71
    replace e_der := e_der.mono t71
    replace e_size := e_size.mono t71
    replace e_offer := e_offer.mono t71
    replace e_double := e_double.mono t71
    replace e_unknown := e_unknown.mono t71
    replace e_table := e_table.mono t71
    replace e_row := e_row.mono t71
    replace u := u.trans t71
    refine ⟨_, rfl, (by show 1 ≤ sizeLine; decide), fun p72 n72 => ?_⟩
    have t73 : Same H71 (upd H71 p72 (.lst [V.str x])) := same_loc (Same.refl _) n72 _
    have c73 : (upd H71 p72 (.lst [V.str x])) p72 = some (.lst [V.str x]) := upd_same
    generalize upd H71 p72 (.lst [V.str x]) = H73 at t73 c73
    replace e_line := e_line.mono t73
    replace e_count := e_count.mono t73
    replace e_many := e_many.mono t73
    replace e_der := e_der.mono t73
    replace e_size := e_size.mono t73
    replace e_offer := e_offer.mono t73
    replace e_double := e_double.mono t73
    replace e_unknown := e_unknown.mono t73
    replace e_table := e_table.mono t73
    replace e_row := e_row.mono t73
    replace c71 := t73 _ _ c71
    replace u := u.trans t73
    refine ⟨_, _, _, rfl, rfl, c73, by decide, by decide, (by show 1 * 4 ≤ sizeLine; decide), fun p74 n74 => ?_⟩
    have q74 : (List.replicate (4 : Int).toNat [V.str x]).flatten = [V.str x, V.str x, V.str x, V.str x] := rfl
    rw [q74]
    have t75 : Same H73 (upd H73 p74 (.lst [V.str x, V.str x, V.str x, V.str x])) := same_loc (Same.refl _) n74 _
    have c75 : (upd H73 p74 (.lst [V.str x, V.str x, V.str x, V.str x])) p74 = some (.lst [V.str x, V.str x, V.str x, V.str x]) := upd_same
    generalize upd H73 p74 (.lst [V.str x, V.str x, V.str x, V.str x]) = H75 at t75 c75
    replace e_line := e_line.mono t75
    replace e_count := e_count.mono t75
    replace e_many := e_many.mono t75
    replace e_der := e_der.mono t75
    replace e_size := e_size.mono t75
    replace e_offer := e_offer.mono t75
    replace e_double := e_double.mono t75
    replace e_unknown := e_unknown.mono t75
    replace e_table := e_table.mono t75
    replace e_row := e_row.mono t75
    replace c71 := t75 _ _ c71
    replace c73 := t75 _ _ c73
    replace u := u.trans t75
    have s76 : SeqAt.shaped (.list [.str x, .str x, .str x, .str x]) = true := by
      unfold SeqAt.shaped
      have g1 : PyData.canLay0 (.list [.str x, .str x, .str x, .str x]) = true := by simp [PyData.canLay0, PyData.canLayAll0, hx.ok]
      have g2 : decide (PyData.depth (.list [.str x, .str x, .str x, .str x]) ≤ 64) = true := rfl
      rw [g1, g2]
      rfl
    refine ⟨.list [.str x, .str x, .str x, .str x], .list [.str x, .str x, .str x, .str x], .lst (SqL.of c71) (.cons (.str x) (.cons (.str x) (.cons (.str x) (.cons (.str x) (.nil))))), .lst (SqL.of c75) (.cons (.str x) (.cons (.str x) (.cons (.str x) (.cons (.str x) (.nil))))), s76, s76, _, rfl, ?_⟩
    rw [PySem.SeqAt.eqv_refl _ (PySem.SeqAt.canLay_of_shaped s76)]
    refine iteF ?_
    clear c71
    clear c73
    clear c75
    refine ⟨_, rfl, a43, C_DuplicateName, 1, rfl, e_double.at, TE.exc_DuplicateName, TE.fam_DuplicateName, by decide, fun H77 t77 => ?_⟩
    replace e_line := e_line.mono t77
    replace e_count := e_count.mono t77
    replace e_many := e_many.mono t77
    replace e_der := e_der.mono t77
    replace e_size := e_size.mono t77
    replace e_offer := e_offer.mono t77
    replace e_double := e_double.mono t77
    replace e_unknown := e_unknown.mono t77
    replace e_table := e_table.mono t77
    replace e_row := e_row.mono t77
    replace u := u.trans t77
    refine ⟨_, rfl, a44, C_UnknownName, 2, rfl, e_unknown.at, TE.exc_UnknownName, TE.fam_UnknownName, by decide, fun H78 t78 => ?_⟩
    replace e_line := e_line.mono t78
    replace e_count := e_count.mono t78
    replace e_many := e_many.mono t78
    replace e_der := e_der.mono t78
    replace e_size := e_size.mono t78
    replace e_offer := e_offer.mono t78
    replace e_double := e_double.mono t78
    replace e_unknown := e_unknown.mono t78
    replace e_table := e_table.mono t78
    replace e_row := e_row.mono t78
    replace u := u.trans t78
    refine ⟨_, rfl, a45, C_WrongTable, 3, rfl, e_table.at, TE.exc_WrongTable, TE.fam_WrongTable, by decide, fun H79 t79 => ?_⟩
    replace e_line := e_line.mono t79
    replace e_count := e_count.mono t79
    replace e_many := e_many.mono t79
    replace e_der := e_der.mono t79
    replace e_size := e_size.mono t79
    replace e_offer := e_offer.mono t79
    replace e_double := e_double.mono t79
    replace e_unknown := e_unknown.mono t79
    replace e_table := e_table.mono t79
    replace e_row := e_row.mono t79
    replace u := u.trans t79
    refine ⟨_, rfl, a46, C_NoRow, 11, rfl, e_row.at, TE.exc_NoRow, TE.fam_NoRow, by decide, fun H80 t80 => ?_⟩
    replace e_line := e_line.mono t80
    replace e_count := e_count.mono t80
    replace e_many := e_many.mono t80
    replace e_der := e_der.mono t80
    replace e_size := e_size.mono t80
    replace e_offer := e_offer.mono t80
    replace e_double := e_double.mono t80
    replace e_unknown := e_unknown.mono t80
    replace e_table := e_table.mono t80
    replace e_row := e_row.mono t80
    replace u := u.trans t80
    refine ⟨(by show 4 ≤ sizeLine; decide), fun p81 n81 => ?_⟩
    have t82 : Same H80 (upd H80 p81 (.lst [.bl true, .bl true, .bl true, .bl true])) := same_loc (Same.refl _) n81 _
    have c82 : (upd H80 p81 (.lst [.bl true, .bl true, .bl true, .bl true])) p81 = some (.lst [.bl true, .bl true, .bl true, .bl true]) := upd_same
    generalize upd H80 p81 (.lst [.bl true, .bl true, .bl true, .bl true]) = H82 at t82 c82
    replace e_line := e_line.mono t82
    replace e_count := e_count.mono t82
    replace e_many := e_many.mono t82
    replace e_der := e_der.mono t82
    replace e_size := e_size.mono t82
    replace e_offer := e_offer.mono t82
    replace e_double := e_double.mono t82
    replace e_unknown := e_unknown.mono t82
    replace e_table := e_table.mono t82
    replace e_row := e_row.mono t82
    replace u := u.trans t82
    refine ⟨(by show 1 ≤ sizeLine; decide), fun p83 n83 => ?_⟩
    have t84 : Same H82 (upd H82 p83 (.lst [V.bl true])) := same_loc (Same.refl _) n83 _
    have c84 : (upd H82 p83 (.lst [V.bl true])) p83 = some (.lst [V.bl true]) := upd_same
    generalize upd H82 p83 (.lst [V.bl true]) = H84 at t84 c84
    replace e_line := e_line.mono t84
    replace e_count := e_count.mono t84
    replace e_many := e_many.mono t84
    replace e_der := e_der.mono t84
    replace e_size := e_size.mono t84
    replace e_offer := e_offer.mono t84
    replace e_double := e_double.mono t84
    replace e_unknown := e_unknown.mono t84
    replace e_table := e_table.mono t84
    replace e_row := e_row.mono t84
    replace c82 := t84 _ _ c82
    replace u := u.trans t84
    refine ⟨_, _, _, rfl, rfl, c84, by decide, by decide, (by show 1 * 4 ≤ sizeLine; decide), fun p85 n85 => ?_⟩
    have q85 : (List.replicate (4 : Int).toNat [V.bl true]).flatten = [V.bl true, V.bl true, V.bl true, V.bl true] := rfl
    rw [q85]
    have t86 : Same H84 (upd H84 p85 (.lst [V.bl true, V.bl true, V.bl true, V.bl true])) := same_loc (Same.refl _) n85 _
    have c86 : (upd H84 p85 (.lst [V.bl true, V.bl true, V.bl true, V.bl true])) p85 = some (.lst [V.bl true, V.bl true, V.bl true, V.bl true]) := upd_same
    generalize upd H84 p85 (.lst [V.bl true, V.bl true, V.bl true, V.bl true]) = H86 at t86 c86
    replace e_line := e_line.mono t86
    replace e_count := e_count.mono t86
    replace e_many := e_many.mono t86
    replace e_der := e_der.mono t86
    replace e_size := e_size.mono t86
    replace e_offer := e_offer.mono t86
    replace e_double := e_double.mono t86
    replace e_unknown := e_unknown.mono t86
    replace e_table := e_table.mono t86
    replace e_row := e_row.mono t86
    replace c82 := t86 _ _ c82
    replace c84 := t86 _ _ c84
    replace u := u.trans t86
    have s87 : SeqAt.shaped (.list [.bool true, .bool true, .bool true, .bool true]) = true := by
      unfold SeqAt.shaped
      have g1 : PyData.canLay0 (.list [.bool true, .bool true, .bool true, .bool true]) = true := by simp [PyData.canLay0, PyData.canLayAll0, hx.ok]
      have g2 : decide (PyData.depth (.list [.bool true, .bool true, .bool true, .bool true]) ≤ 64) = true := rfl
      rw [g1, g2]
      rfl
    refine ⟨.list [.bool true, .bool true, .bool true, .bool true], .list [.bool true, .bool true, .bool true, .bool true], .lst (SqL.of c82) (.cons (.bl true) (.cons (.bl true) (.cons (.bl true) (.cons (.bl true) (.nil))))), .lst (SqL.of c86) (.cons (.bl true) (.cons (.bl true) (.cons (.bl true) (.cons (.bl true) (.nil))))), s87, s87, ?_⟩
    rw [PySem.SeqAt.eqv_refl _ (PySem.SeqAt.canLay_of_shaped s87)]
    clear c82
    clear c84
    clear c86
    exact k _ u
theorem sc_get_others : FnScope ["_law_number", "_law_word", "_law_other", "_law_agreement", "_law_pattern", "_law_meet", "_law_value", "_law_plain", "_law_full", "_law_broken", "_law_many", "_law_kin"] ["_law_number", "_law_word", "_law_other", "_law_agreement"] (defScope (topS 30)) := ⟨rfl, rfl, rfl, by decide +kernel, rfl, by decide +kernel, by decide +kernel⟩
set_option maxHeartbeats 16000000 in
theorem ok_get_others {f : Addr} {C_AgreeError C_BadLine C_DuplicateName C_UnknownName C_WrongTable C_WrongCount C_TooMany C_BadPattern C_ConstantsMeet C_OtherPlaces C_OtherSchema C_BadValue C_NoRow C_Refused C_Broken C_BadCase C_TooManyPatterns C_BadDerivation C_NotReachable C_TooLong C_NotComparable C_BadOffer : Addr} {fd : FuncData} (F : Fun K "_law_get_others" "_law_get_others" (topS 30) f fd) (TE : ET K mg C_AgreeError C_BadLine C_DuplicateName C_UnknownName C_WrongTable C_WrongCount C_TooMany C_BadPattern C_ConstantsMeet C_OtherPlaces C_OtherSchema C_BadValue C_NoRow C_Refused C_Broken C_BadCase C_TooManyPatterns C_BadDerivation C_NotReachable C_TooLong C_NotComparable C_BadOffer) (T : Txt K mg) (c_get_kin : Callee P w K mg base "_law_get_kin" ["_law_error", "_law_place"] (spKin K C_AgreeError [C_BadLine, C_DuplicateName, C_UnknownName, C_WrongTable, C_WrongCount, C_TooMany, C_BadPattern, C_ConstantsMeet, C_OtherPlaces, C_OtherSchema, C_BadValue, C_NoRow, C_Refused, C_Broken, C_BadCase, C_TooManyPatterns, C_BadDerivation, C_NotReachable, C_TooLong, C_NotComparable, C_BadOffer]) 2) (c_BadPattern : ErrMkD P w K mg base "BadPattern" C_BadPattern ["self", "place"] (spE1 C_BadPattern "place") 1 []) (c_ConstantsMeet : ErrMkD P w K mg base "ConstantsMeet" C_ConstantsMeet ["self", "first", "second"] (spE2 C_ConstantsMeet "first" "second") 1 []) (c_BadValue : ErrMkD P w K mg base "BadValue" C_BadValue ["self", "value"] (spE1 C_BadValue "value") 1 []) (c_Refused : ErrMkD P w K mg base "Refused" C_Refused ["self", "handler", "guard", "agreement", "number"] (spE4 C_Refused "handler" "guard" "agreement" "number") 1 []) (c_Broken : ErrMkD P w K mg base "Broken" C_Broken ["self", "agreement", "number"] (spE2 C_Broken "agreement" "number") 1 []) (c_TooManyPatterns : ErrMkD P w K mg base "TooManyPatterns" C_TooManyPatterns ["self", "table"] (spE1 C_TooManyPatterns "table") 1 []) (c_Refused_2 : ErrMkD P w K mg base "Refused" C_Refused ["self", "handler", "guard", "agreement", "number"] (spE4 C_Refused "handler" "guard" "agreement" "number") 1 [.non, .non]) (e_OtherPlaces : Err0 K mg "OtherPlaces" C_OtherPlaces) (e_OtherSchema : Err0 K mg "OtherSchema" C_OtherSchema) (e_BadCase : Err0 K mg "BadCase" C_BadCase) (e_NotReachable : Err0 K mg "NotReachable" C_NotReachable) (e_NotComparable : Err0 K mg "NotComparable" C_NotComparable) : FnOk P w K mg base CX0 4 f fd ["_law_number", "_law_word", "_law_other", "_law_agreement"] spOthers := by
  refine F.ok sc_get_others (fun vs H Q E h => ?_) (fun cdv A outer s H vs Q E hr h => ?_)
  · obtain ⟨n, x, y, g, z1, z2, z3, rfl, _⟩ := h
    rfl
  · obtain ⟨n, x, y, g, z1, z2, z3, rfl, hk, hx, hy, h1, h2, h3, k⟩ := h
    refine ⟨_, (pss_cons (ps_set (i := 4) sc_get_others.nd rfl (Or.inl rfl) (pe_errV c_BadPattern hr (by decide) (by rfl) (pa_cons (pv 1) pa_nil)))
      (pss_cons (ps_set (i := 5) sc_get_others.nd rfl (Or.inl rfl) (pe_errV c_ConstantsMeet hr (by decide) (by rfl) (pa_cons (pv 1) (pa_cons (pv 2) pa_nil))))
      (pss_cons (ps_set (i := 6) sc_get_others.nd rfl (Or.inl rfl) (pe_errV c_BadValue hr (by decide) (by rfl) (pa_cons (pv 3) pa_nil)))
      (pss_cons (ps_set (i := 7) sc_get_others.nd rfl (Or.inl rfl) (pe_errV c_Refused_2 hr (by decide) (by rfl) (pa_cons (pv 1) (pa_cons (pv 0) pa_nil))))
      (pss_cons (ps_set (i := 8) sc_get_others.nd rfl (Or.inl rfl) (pe_errV c_Refused hr (by decide) (by rfl) (pa_cons (pv 1) (pa_cons pe_non (pa_cons (pv 3) (pa_cons (pv 0) pa_nil))))))
      (pss_cons (ps_set (i := 9) sc_get_others.nd rfl (Or.inl rfl) (pe_errV c_Broken hr (by decide) (by rfl) (pa_cons (pv 3) (pa_cons (pv 0) pa_nil))))
      (pss_cons (ps_set (i := 10) sc_get_others.nd rfl (Or.inl rfl) (pe_errV c_TooManyPatterns hr (by decide) (by rfl) (pa_cons (pv 1) pa_nil)))
      (pss_cons (ps_if (pt_cmpR (o_neD K hr.units) (pe_tup (pa_cons (pe_xfV (C := C_BadPattern) TE.xf_BadPattern TE.no_BadPattern_place (pv 4)) (pa_cons (pe_xfV (C := C_ConstantsMeet) TE.xf_ConstantsMeet TE.no_ConstantsMeet_first (pv 5)) (pa_cons (pe_xfV (C := C_ConstantsMeet) TE.xf_ConstantsMeet TE.no_ConstantsMeet_second (pv 5)) (pa_cons (pe_xfV (C := C_BadValue) TE.xf_BadValue TE.no_BadValue_value (pv 6)) pa_nil))))) (pe_tup (pa_cons (pv 1) (pa_cons (pv 1) (pa_cons (pv 2) (pa_cons (pv 3) pa_nil))))) (nomark _)) (pss_one (ps_ret pe_bl)) pss_nil)
      (pss_cons (ps_if (pt_cmpR (o_neD K hr.units) (pe_tup (pa_cons (pe_xfV (C := C_Refused) TE.xf_Refused TE.no_Refused_handler (pv 7)) (pa_cons (pe_xfV (C := C_Refused) TE.xf_Refused TE.no_Refused_guard (pv 7)) (pa_cons (pe_xfV (C := C_Refused) TE.xf_Refused TE.no_Refused_agreement (pv 7)) (pa_cons (pe_xfV (C := C_Refused) TE.xf_Refused TE.no_Refused_number (pv 7)) pa_nil))))) (pe_tup (pa_cons (pv 1) (pa_cons (pv 0) (pa_cons pe_non (pa_cons pe_non pa_nil))))) (nomark _)) (pss_one (ps_ret pe_bl)) pss_nil)
      (pss_cons (ps_if (pt_cmpR (o_neD K hr.units) (pe_tup (pa_cons (pe_xfV (C := C_Refused) TE.xf_Refused TE.no_Refused_handler (pv 8)) (pa_cons (pe_xfV (C := C_Refused) TE.xf_Refused TE.no_Refused_guard (pv 8)) (pa_cons (pe_xfV (C := C_Refused) TE.xf_Refused TE.no_Refused_agreement (pv 8)) (pa_cons (pe_xfV (C := C_Refused) TE.xf_Refused TE.no_Refused_number (pv 8)) pa_nil))))) (pe_tup (pa_cons (pv 1) (pa_cons pe_non (pa_cons (pv 3) (pa_cons (pv 0) pa_nil))))) (nomark _)) (pss_one (ps_ret pe_bl)) pss_nil)
      (pss_cons (ps_if (pt_cmpR (o_neD K hr.units) (pe_tup (pa_cons (pe_xfV (C := C_Broken) TE.xf_Broken TE.no_Broken_agreement (pv 9)) (pa_cons (pe_xfV (C := C_Broken) TE.xf_Broken TE.no_Broken_number (pv 9)) (pa_cons (pe_xfV (C := C_TooManyPatterns) TE.xf_TooManyPatterns TE.no_TooManyPatterns_table (pv 10)) pa_nil)))) (pe_tup (pa_cons (pv 3) (pa_cons (pv 0) (pa_cons (pv 1) pa_nil)))) (nomark _)) (pss_one (ps_ret pe_bl)) pss_nil)
      (pss_cons (ps_set (i := 11) sc_get_others.nd rfl (Or.inl rfl) (pe_lst (pa_cons (pe_co c_get_kin hr (by decide) (by rfl) (pa_cons (pv 4) (pa_cons pe_int pa_nil))) (pa_cons (pe_co c_get_kin hr (by decide) (by rfl) (pa_cons (pv 5) (pa_cons pe_int pa_nil))) (pa_cons (pe_co c_get_kin hr (by decide) (by rfl) (pa_cons (pe_err0V e_OtherPlaces (by rfl)) (pa_cons pe_int pa_nil))) (pa_cons (pe_co c_get_kin hr (by decide) (by rfl) (pa_cons (pe_err0V e_OtherSchema (by rfl)) (pa_cons pe_int pa_nil))) pa_nil))))))
      (pss_cons (ps_set (i := 11) sc_get_others.nd rfl (Or.inl rfl) (pe_op op_cat (pv 11) (pe_lst (pa_cons (pe_co c_get_kin hr (by decide) (by rfl) (pa_cons (pv 6) (pa_cons pe_int pa_nil))) (pa_cons (pe_co c_get_kin hr (by decide) (by rfl) (pa_cons (pv 7) (pa_cons pe_int pa_nil))) (pa_cons (pe_co c_get_kin hr (by decide) (by rfl) (pa_cons (pv 8) (pa_cons pe_int pa_nil))) (pa_cons (pe_co c_get_kin hr (by decide) (by rfl) (pa_cons (pv 9) (pa_cons pe_int pa_nil))) pa_nil)))))))
      (pss_cons (ps_set (i := 11) sc_get_others.nd rfl (Or.inl rfl) (pe_op op_cat (pv 11) (pe_lst (pa_cons (pe_co c_get_kin hr (by decide) (by rfl) (pa_cons (pe_err0V e_BadCase (by rfl)) (pa_cons pe_int pa_nil))) (pa_cons (pe_co c_get_kin hr (by decide) (by rfl) (pa_cons (pv 10) (pa_cons pe_int pa_nil))) (pa_cons (pe_co c_get_kin hr (by decide) (by rfl) (pa_cons (pe_err0V e_NotReachable (by rfl)) (pa_cons pe_int pa_nil))) pa_nil))))))
      (pss_one (ps_ret (pe_cmpR (o_eqD K hr.units) (pe_op op_cat (pv 11) (pe_lst (pa_cons (pe_co c_get_kin hr (by decide) (by rfl) (pa_cons (pe_err0V e_NotComparable (by rfl)) (pa_cons pe_int pa_nil))) pa_nil))) (pe_op op_rep (pe_lst (pa_cons pe_bl pa_nil)) pe_int) (nomark _)))))))))))))))))), ?_⟩
    have u : Same H H := Same.refl H
    refine ⟨_, rfl, (by show 1 ≤ 1000; decide), fun a1 n1 => ⟨a1, _, rfl, spE_make n1 fun H1 t1 e_pattern => ?_⟩⟩
    replace hk := t1 _ _ hk
    replace u := u.trans t1
    refine ⟨_, rfl, _, rfl, (by show 2 ≤ 1000; decide), fun a2 n2 => ⟨a2, _, _, rfl, spE_make n2 fun H2 t2 e_meet => ?_⟩⟩
    replace e_pattern := e_pattern.mono t2
    replace hk := t2 _ _ hk
    replace u := u.trans t2
    refine ⟨_, rfl, (by show 1 ≤ 1000; decide), fun a3 n3 => ⟨a3, _, rfl, spE_make n3 fun H3 t3 e_value => ?_⟩⟩
    replace e_pattern := e_pattern.mono t3
    replace e_meet := e_meet.mono t3
    replace hk := t3 _ _ hk
    replace u := u.trans t3
    refine ⟨_, rfl, _, rfl, (by show 2 ≤ 1000; decide), fun a4 n4 => ⟨a4, _, _, _, _, rfl, spE_make n4 fun H4 t4 e_plain => ?_⟩⟩
    replace e_pattern := e_pattern.mono t4
    replace e_meet := e_meet.mono t4
    replace e_value := e_value.mono t4
    replace hk := t4 _ _ hk
    replace u := u.trans t4
    refine ⟨_, rfl, _, rfl, _, rfl, (by show 4 ≤ 1000; decide), fun a5 n5 => ⟨a5, _, _, _, _, rfl, spE_make n5 fun H5 t5 e_full => ?_⟩⟩
    replace e_pattern := e_pattern.mono t5
    replace e_meet := e_meet.mono t5
    replace e_value := e_value.mono t5
    replace e_plain := e_plain.mono t5
    replace hk := t5 _ _ hk
    replace u := u.trans t5
    refine ⟨_, rfl, _, rfl, (by show 2 ≤ 1000; decide), fun a6 n6 => ⟨a6, _, _, rfl, spE_make n6 fun H6 t6 e_broken => ?_⟩⟩
    replace e_pattern := e_pattern.mono t6
    replace e_meet := e_meet.mono t6
    replace e_value := e_value.mono t6
    replace e_plain := e_plain.mono t6
    replace e_full := e_full.mono t6
    replace hk := t6 _ _ hk
    replace u := u.trans t6
    refine ⟨_, rfl, (by show 1 ≤ 1000; decide), fun a7 n7 => ⟨a7, _, rfl, spE_make n7 fun H7 t7 e_many => ?_⟩⟩
    replace e_pattern := e_pattern.mono t7
    replace e_meet := e_meet.mono t7
    replace e_value := e_value.mono t7
    replace e_plain := e_plain.mono t7
    replace e_full := e_full.mono t7
    replace e_broken := e_broken.mono t7
    replace hk := t7 _ _ hk
    replace u := u.trans t7
    have l8 : ([(("place" : Str), V.str x)] : List (Str × V)).lookup ("place" : Str) = some (V.str x) := by rw [lookup_put, if_pos rfl]
    have l9 : ([(("second" : Str), V.str y), (("first" : Str), V.str x)] : List (Str × V)).lookup ("first" : Str) = some (V.str x) := by rw [lookup_put, if_neg (by decide +kernel), lookup_put, if_pos rfl]
    have l10 : ([(("second" : Str), V.str y), (("first" : Str), V.str x)] : List (Str × V)).lookup ("second" : Str) = some (V.str y) := by rw [lookup_put, if_pos rfl]
    have l11 : ([(("value" : Str), V.ref g)] : List (Str × V)).lookup ("value" : Str) = some (V.ref g) := by rw [lookup_put, if_pos rfl]
    obtain ⟨d_pattern, x_pattern, y_pattern⟩ := id e_pattern
    obtain ⟨d_meet, x_meet, y_meet⟩ := id e_meet
    obtain ⟨d_value, x_value, y_value⟩ := id e_value
    refine ⟨_, rfl, a1, d_pattern, _, _, rfl, x_pattern, y_pattern, l8, _, rfl, a2, d_meet, _, _, rfl, x_meet, y_meet, l9, _, rfl, a2, d_meet, _, _, rfl, x_meet, y_meet, l10, _, rfl, a3, d_value, _, _, rfl, x_value, y_value, l11, (by show 4 ≤ sizeLine; decide), fun p15 n15 => ?_⟩
    have t16 : Same H7 (upd H7 p15 (.tup [.str x, .str x, .str y, .ref g])) := same_loc (Same.refl _) n15 _
    have c16 : (upd H7 p15 (.tup [.str x, .str x, .str y, .ref g])) p15 = some (.tup [.str x, .str x, .str y, .ref g]) := upd_same
    generalize upd H7 p15 (.tup [.str x, .str x, .str y, .ref g]) = H16 at t16 c16
    replace e_pattern := e_pattern.mono t16
    replace e_meet := e_meet.mono t16
    replace e_value := e_value.mono t16
    replace e_plain := e_plain.mono t16
    replace e_full := e_full.mono t16
    replace e_broken := e_broken.mono t16
    replace e_many := e_many.mono t16
    replace hk := t16 _ _ hk
    replace u := u.trans t16
    refine ⟨_, rfl, _, rfl, _, rfl, _, rfl, (by show 4 ≤ sizeLine; decide), fun p17 n17 => ?_⟩
    have t18 : Same H16 (upd H16 p17 (.tup [.str x, .str x, .str y, .ref g])) := same_loc (Same.refl _) n17 _
    have c18 : (upd H16 p17 (.tup [.str x, .str x, .str y, .ref g])) p17 = some (.tup [.str x, .str x, .str y, .ref g]) := upd_same
    generalize upd H16 p17 (.tup [.str x, .str x, .str y, .ref g]) = H18 at t18 c18
    replace e_pattern := e_pattern.mono t18
    replace e_meet := e_meet.mono t18
    replace e_value := e_value.mono t18
    replace e_plain := e_plain.mono t18
    replace e_full := e_full.mono t18
    replace e_broken := e_broken.mono t18
    replace e_many := e_many.mono t18
    replace hk := t18 _ _ hk
    replace c16 := t18 _ _ c16
    replace u := u.trans t18
    have s19 : SeqAt.shaped (.tuple [.str x, .str x, .str y, .tuple [.str z1, .str z2, .str z3]]) = true := by
      unfold SeqAt.shaped
      have g1 : PyData.canLay0 (.tuple [.str x, .str x, .str y, .tuple [.str z1, .str z2, .str z3]]) = true := by simp [PyData.canLay0, PyData.canLayAll0, hx.ok, hy.ok, h1.ok, h2.ok, h3.ok]
      have g2 : decide (PyData.depth (.tuple [.str x, .str x, .str y, .tuple [.str z1, .str z2, .str z3]]) ≤ 64) = true := rfl
      rw [g1, g2]
      rfl
    refine ⟨.tuple [.str x, .str x, .str y, .tuple [.str z1, .str z2, .str z3]], .tuple [.str x, .str x, .str y, .tuple [.str z1, .str z2, .str z3]], .tup (SqT.of c16) (.cons (.str x) (.cons (.str x) (.cons (.str y) (.cons (.tup (SqT.of hk) (.cons (.str z1) (.cons (.str z2) (.cons (.str z3) .nil)))) (.nil))))), .tup (SqT.of c18) (.cons (.str x) (.cons (.str x) (.cons (.str y) (.cons (.tup (SqT.of hk) (.cons (.str z1) (.cons (.str z2) (.cons (.str z3) .nil)))) (.nil))))), s19, s19, _, rfl, ?_⟩
    rw [PySem.SeqAt.eqv_refl _ (PySem.SeqAt.canLay_of_shaped s19)]
    refine iteF ?_
    clear c16
    clear c18
    have l20 : ([(("number" : Str), V.non), (("agreement" : Str), V.non), (("guard" : Str), V.int n), (("handler" : Str), V.str x)] : List (Str × V)).lookup ("handler" : Str) = some (V.str x) := by rw [lookup_put, if_neg (by decide +kernel), lookup_put, if_neg (by decide +kernel), lookup_put, if_neg (by decide +kernel), lookup_put, if_pos rfl]
    have l21 : ([(("number" : Str), V.non), (("agreement" : Str), V.non), (("guard" : Str), V.int n), (("handler" : Str), V.str x)] : List (Str × V)).lookup ("guard" : Str) = some (V.int n) := by rw [lookup_put, if_neg (by decide +kernel), lookup_put, if_neg (by decide +kernel), lookup_put, if_pos rfl]
    have l22 : ([(("number" : Str), V.non), (("agreement" : Str), V.non), (("guard" : Str), V.int n), (("handler" : Str), V.str x)] : List (Str × V)).lookup ("agreement" : Str) = some (V.non) := by rw [lookup_put, if_neg (by decide +kernel), lookup_put, if_pos rfl]
    have l23 : ([(("number" : Str), V.non), (("agreement" : Str), V.non), (("guard" : Str), V.int n), (("handler" : Str), V.str x)] : List (Str × V)).lookup ("number" : Str) = some (V.non) := by rw [lookup_put, if_pos rfl]
    obtain ⟨d_plain, x_plain, y_plain⟩ := id e_plain
    refine ⟨_, rfl, a4, d_plain, _, _, rfl, x_plain, y_plain, l20, _, rfl, a4, d_plain, _, _, rfl, x_plain, y_plain, l21, _, rfl, a4, d_plain, _, _, rfl, x_plain, y_plain, l22, _, rfl, a4, d_plain, _, _, rfl, x_plain, y_plain, l23, (by show 4 ≤ sizeLine; decide), fun p25 n25 => ?_⟩
    have t26 : Same H18 (upd H18 p25 (.tup [.str x, .int n, .non, .non])) := same_loc (Same.refl _) n25 _
    have c26 : (upd H18 p25 (.tup [.str x, .int n, .non, .non])) p25 = some (.tup [.str x, .int n, .non, .non]) := upd_same
    generalize upd H18 p25 (.tup [.str x, .int n, .non, .non]) = H26 at t26 c26
    replace e_pattern := e_pattern.mono t26
    replace e_meet := e_meet.mono t26
    replace e_value := e_value.mono t26
    replace e_plain := e_plain.mono t26
    replace e_full := e_full.mono t26
    replace e_broken := e_broken.mono t26
    replace e_many := e_many.mono t26
    replace hk := t26 _ _ hk
    replace u := u.trans t26
    refine ⟨_, rfl, _, rfl, (by show 4 ≤ sizeLine; decide), fun p27 n27 => ?_⟩
    have t28 : Same H26 (upd H26 p27 (.tup [.str x, .int n, .non, .non])) := same_loc (Same.refl _) n27 _
    have c28 : (upd H26 p27 (.tup [.str x, .int n, .non, .non])) p27 = some (.tup [.str x, .int n, .non, .non]) := upd_same
    generalize upd H26 p27 (.tup [.str x, .int n, .non, .non]) = H28 at t28 c28
    replace e_pattern := e_pattern.mono t28
    replace e_meet := e_meet.mono t28
    replace e_value := e_value.mono t28
    replace e_plain := e_plain.mono t28
    replace e_full := e_full.mono t28
    replace e_broken := e_broken.mono t28
    replace e_many := e_many.mono t28
    replace hk := t28 _ _ hk
    replace c26 := t28 _ _ c26
    replace u := u.trans t28
    have s29 : SeqAt.shaped (.tuple [.str x, .int n, .none, .none]) = true := by
      unfold SeqAt.shaped
      have g1 : PyData.canLay0 (.tuple [.str x, .int n, .none, .none]) = true := by simp [PyData.canLay0, PyData.canLayAll0, hx.ok, hy.ok, h1.ok, h2.ok, h3.ok]
      have g2 : decide (PyData.depth (.tuple [.str x, .int n, .none, .none]) ≤ 64) = true := rfl
      rw [g1, g2]
      rfl
    refine ⟨.tuple [.str x, .int n, .none, .none], .tuple [.str x, .int n, .none, .none], .tup (SqT.of c26) (.cons (.str x) (.cons (.int n) (.cons (.non) (.cons (.non) (.nil))))), .tup (SqT.of c28) (.cons (.str x) (.cons (.int n) (.cons (.non) (.cons (.non) (.nil))))), s29, s29, _, rfl, ?_⟩
    rw [PySem.SeqAt.eqv_refl _ (PySem.SeqAt.canLay_of_shaped s29)]
    refine iteF ?_
    clear c26
    clear c28
    have l30 : ([(("number" : Str), V.int n), (("agreement" : Str), V.ref g), (("guard" : Str), V.non), (("handler" : Str), V.str x)] : List (Str × V)).lookup ("handler" : Str) = some (V.str x) := by rw [lookup_put, if_neg (by decide +kernel), lookup_put, if_neg (by decide +kernel), lookup_put, if_neg (by decide +kernel), lookup_put, if_pos rfl]
    have l31 : ([(("number" : Str), V.int n), (("agreement" : Str), V.ref g), (("guard" : Str), V.non), (("handler" : Str), V.str x)] : List (Str × V)).lookup ("guard" : Str) = some (V.non) := by rw [lookup_put, if_neg (by decide +kernel), lookup_put, if_neg (by decide +kernel), lookup_put, if_pos rfl]
    have l32 : ([(("number" : Str), V.int n), (("agreement" : Str), V.ref g), (("guard" : Str), V.non), (("handler" : Str), V.str x)] : List (Str × V)).lookup ("agreement" : Str) = some (V.ref g) := by rw [lookup_put, if_neg (by decide +kernel), lookup_put, if_pos rfl]
    have l33 : ([(("number" : Str), V.int n), (("agreement" : Str), V.ref g), (("guard" : Str), V.non), (("handler" : Str), V.str x)] : List (Str × V)).lookup ("number" : Str) = some (V.int n) := by rw [lookup_put, if_pos rfl]
    obtain ⟨d_full, x_full, y_full⟩ := id e_full
    refine ⟨_, rfl, a5, d_full, _, _, rfl, x_full, y_full, l30, _, rfl, a5, d_full, _, _, rfl, x_full, y_full, l31, _, rfl, a5, d_full, _, _, rfl, x_full, y_full, l32, _, rfl, a5, d_full, _, _, rfl, x_full, y_full, l33, (by show 4 ≤ sizeLine; decide), fun p35 n35 => ?_⟩
    have t36 : Same H28 (upd H28 p35 (.tup [.str x, .non, .ref g, .int n])) := same_loc (Same.refl _) n35 _
    have c36 : (upd H28 p35 (.tup [.str x, .non, .ref g, .int n])) p35 = some (.tup [.str x, .non, .ref g, .int n]) := upd_same
    generalize upd H28 p35 (.tup [.str x, .non, .ref g, .int n]) = H36 at t36 c36
    replace e_pattern := e_pattern.mono t36
    replace e_meet := e_meet.mono t36
    replace e_value := e_value.mono t36
    replace e_plain := e_plain.mono t36
    replace e_full := e_full.mono t36
    replace e_broken := e_broken.mono t36
    replace e_many := e_many.mono t36
    replace hk := t36 _ _ hk
    replace u := u.trans t36
    refine ⟨_, rfl, _, rfl, _, rfl, (by show 4 ≤ sizeLine; decide), fun p37 n37 => ?_⟩
    have t38 : Same H36 (upd H36 p37 (.tup [.str x, .non, .ref g, .int n])) := same_loc (Same.refl _) n37 _
    have c38 : (upd H36 p37 (.tup [.str x, .non, .ref g, .int n])) p37 = some (.tup [.str x, .non, .ref g, .int n]) := upd_same
    generalize upd H36 p37 (.tup [.str x, .non, .ref g, .int n]) = H38 at t38 c38
    replace e_pattern := e_pattern.mono t38
    replace e_meet := e_meet.mono t38
    replace e_value := e_value.mono t38
    replace e_plain := e_plain.mono t38
    replace e_full := e_full.mono t38
    replace e_broken := e_broken.mono t38
    replace e_many := e_many.mono t38
    replace hk := t38 _ _ hk
    replace c36 := t38 _ _ c36
    replace u := u.trans t38
    have s39 : SeqAt.shaped (.tuple [.str x, .none, .tuple [.str z1, .str z2, .str z3], .int n]) = true := by
      unfold SeqAt.shaped
      have g1 : PyData.canLay0 (.tuple [.str x, .none, .tuple [.str z1, .str z2, .str z3], .int n]) = true := by simp [PyData.canLay0, PyData.canLayAll0, hx.ok, hy.ok, h1.ok, h2.ok, h3.ok]
      have g2 : decide (PyData.depth (.tuple [.str x, .none, .tuple [.str z1, .str z2, .str z3], .int n]) ≤ 64) = true := rfl
      rw [g1, g2]
      rfl
    refine ⟨.tuple [.str x, .none, .tuple [.str z1, .str z2, .str z3], .int n], .tuple [.str x, .none, .tuple [.str z1, .str z2, .str z3], .int n], .tup (SqT.of c36) (.cons (.str x) (.cons (.non) (.cons (.tup (SqT.of hk) (.cons (.str z1) (.cons (.str z2) (.cons (.str z3) .nil)))) (.cons (.int n) (.nil))))), .tup (SqT.of c38) (.cons (.str x) (.cons (.non) (.cons (.tup (SqT.of hk) (.cons (.str z1) (.cons (.str z2) (.cons (.str z3) .nil)))) (.cons (.int n) (.nil))))), s39, s39, _, rfl, ?_⟩
    rw [PySem.SeqAt.eqv_refl _ (PySem.SeqAt.canLay_of_shaped s39)]
    refine iteF ?_
    clear c36
    clear c38
    have l40 : ([(("number" : Str), V.int n), (("agreement" : Str), V.ref g)] : List (Str × V)).lookup ("agreement" : Str) = some (V.ref g) := by rw [lookup_put, if_neg (by decide +kernel), lookup_put, if_pos rfl]
    have l41 : ([(("number" : Str), V.int n), (("agreement" : Str), V.ref g)] : List (Str × V)).lookup ("number" : Str) = some (V.int n) := by rw [lookup_put, if_pos rfl]
    have l42 : ([(("table" : Str), V.str x)] : List (Str × V)).lookup ("table" : Str) = some (V.str x) := by rw [lookup_put, if_pos rfl]
    obtain ⟨d_broken, x_broken, y_broken⟩ := id e_broken
    obtain ⟨d_many, x_many, y_many⟩ := id e_many
    refine ⟨_, rfl, a6, d_broken, _, _, rfl, x_broken, y_broken, l40, _, rfl, a6, d_broken, _, _, rfl, x_broken, y_broken, l41, _, rfl, a7, d_many, _, _, rfl, x_many, y_many, l42, (by show 3 ≤ sizeLine; decide), fun p45 n45 => ?_⟩
    have t46 : Same H38 (upd H38 p45 (.tup [.ref g, .int n, .str x])) := same_loc (Same.refl _) n45 _
    have c46 : (upd H38 p45 (.tup [.ref g, .int n, .str x])) p45 = some (.tup [.ref g, .int n, .str x]) := upd_same
    generalize upd H38 p45 (.tup [.ref g, .int n, .str x]) = H46 at t46 c46
    replace e_pattern := e_pattern.mono t46
    replace e_meet := e_meet.mono t46
    replace e_value := e_value.mono t46
    replace e_plain := e_plain.mono t46
    replace e_full := e_full.mono t46
    replace e_broken := e_broken.mono t46
    replace e_many := e_many.mono t46
    replace hk := t46 _ _ hk
    replace u := u.trans t46
    refine ⟨_, rfl, _, rfl, _, rfl, (by show 3 ≤ sizeLine; decide), fun p47 n47 => ?_⟩
    have t48 : Same H46 (upd H46 p47 (.tup [.ref g, .int n, .str x])) := same_loc (Same.refl _) n47 _
    have c48 : (upd H46 p47 (.tup [.ref g, .int n, .str x])) p47 = some (.tup [.ref g, .int n, .str x]) := upd_same
    generalize upd H46 p47 (.tup [.ref g, .int n, .str x]) = H48 at t48 c48
    replace e_pattern := e_pattern.mono t48
    replace e_meet := e_meet.mono t48
    replace e_value := e_value.mono t48
    replace e_plain := e_plain.mono t48
    replace e_full := e_full.mono t48
    replace e_broken := e_broken.mono t48
    replace e_many := e_many.mono t48
    replace hk := t48 _ _ hk
    replace c46 := t48 _ _ c46
    replace u := u.trans t48
    have s49 : SeqAt.shaped (.tuple [.tuple [.str z1, .str z2, .str z3], .int n, .str x]) = true := by
      unfold SeqAt.shaped
      have g1 : PyData.canLay0 (.tuple [.tuple [.str z1, .str z2, .str z3], .int n, .str x]) = true := by simp [PyData.canLay0, PyData.canLayAll0, hx.ok, hy.ok, h1.ok, h2.ok, h3.ok]
      have g2 : decide (PyData.depth (.tuple [.tuple [.str z1, .str z2, .str z3], .int n, .str x]) ≤ 64) = true := rfl
      rw [g1, g2]
      rfl
    refine ⟨.tuple [.tuple [.str z1, .str z2, .str z3], .int n, .str x], .tuple [.tuple [.str z1, .str z2, .str z3], .int n, .str x], .tup (SqT.of c46) (.cons (.tup (SqT.of hk) (.cons (.str z1) (.cons (.str z2) (.cons (.str z3) .nil)))) (.cons (.int n) (.cons (.str x) (.nil)))), .tup (SqT.of c48) (.cons (.tup (SqT.of hk) (.cons (.str z1) (.cons (.str z2) (.cons (.str z3) .nil)))) (.cons (.int n) (.cons (.str x) (.nil)))), s49, s49, _, rfl, ?_⟩
    rw [PySem.SeqAt.eqv_refl _ (PySem.SeqAt.canLay_of_shaped s49)]
    refine iteF ?_
    clear c46
    clear c48
    refine ⟨_, rfl, a1, C_BadPattern, 6, rfl, e_pattern.at, TE.exc_BadPattern, TE.fam_BadPattern, by decide, fun H50 t50 => ?_⟩
    replace e_pattern := e_pattern.mono t50
    replace e_meet := e_meet.mono t50
    replace e_value := e_value.mono t50
    replace e_plain := e_plain.mono t50
    replace e_full := e_full.mono t50
    replace e_broken := e_broken.mono t50
    replace e_many := e_many.mono t50
    replace hk := t50 _ _ hk
    replace u := u.trans t50
    refine ⟨_, rfl, a2, C_ConstantsMeet, 7, rfl, e_meet.at, TE.exc_ConstantsMeet, TE.fam_ConstantsMeet, by decide, fun H51 t51 => ?_⟩
    replace e_pattern := e_pattern.mono t51
    replace e_meet := e_meet.mono t51
    replace e_value := e_value.mono t51
    replace e_plain := e_plain.mono t51
    replace e_full := e_full.mono t51
    replace e_broken := e_broken.mono t51
    replace e_many := e_many.mono t51
    replace hk := t51 _ _ hk
    replace u := u.trans t51
    refine fun a52 n52 => ?_
    have t53 : Same H51 (upd H51 a52 (ExO (.ref C_OtherPlaces) a52)) := same_loc (Same.refl _) n52 _
    have c53 : (upd H51 a52 (ExO (.ref C_OtherPlaces) a52)) a52 = some (ExO (.ref C_OtherPlaces) a52) := upd_same
    generalize upd H51 a52 (ExO (.ref C_OtherPlaces) a52) = H53 at t53 c53
    replace e_pattern := e_pattern.mono t53
    replace e_meet := e_meet.mono t53
    replace e_value := e_value.mono t53
    replace e_plain := e_plain.mono t53
    replace e_full := e_full.mono t53
    replace e_broken := e_broken.mono t53
    replace e_many := e_many.mono t53
    replace hk := t53 _ _ hk
    replace u := u.trans t53
    refine ⟨a52, C_OtherPlaces, 8, rfl, .inr c53, TE.exc_OtherPlaces, TE.fam_OtherPlaces, by decide, fun H1052 t1052 => ?_⟩
    replace e_pattern := e_pattern.mono t1052
    replace e_meet := e_meet.mono t1052
    replace e_value := e_value.mono t1052
    replace e_plain := e_plain.mono t1052
    replace e_full := e_full.mono t1052
    replace e_broken := e_broken.mono t1052
    replace e_many := e_many.mono t1052
    replace hk := t1052 _ _ hk
    replace u := u.trans t1052
    refine fun a54 n54 => ?_
    have t55 : Same H1052 (upd H1052 a54 (ExO (.ref C_OtherSchema) a54)) := same_loc (Same.refl _) n54 _
    have c55 : (upd H1052 a54 (ExO (.ref C_OtherSchema) a54)) a54 = some (ExO (.ref C_OtherSchema) a54) := upd_same
    generalize upd H1052 a54 (ExO (.ref C_OtherSchema) a54) = H55 at t55 c55
    replace e_pattern := e_pattern.mono t55
    replace e_meet := e_meet.mono t55
    replace e_value := e_value.mono t55
    replace e_plain := e_plain.mono t55
    replace e_full := e_full.mono t55
    replace e_broken := e_broken.mono t55
    replace e_many := e_many.mono t55
    replace hk := t55 _ _ hk
    replace u := u.trans t55
    refine ⟨a54, C_OtherSchema, 9, rfl, .inr c55, TE.exc_OtherSchema, TE.fam_OtherSchema, by decide, fun H1054 t1054 => ?_⟩
    replace e_pattern := e_pattern.mono t1054
    replace e_meet := e_meet.mono t1054
    replace e_value := e_value.mono t1054
    replace e_plain := e_plain.mono t1054
    replace e_full := e_full.mono t1054
    replace e_broken := e_broken.mono t1054
    replace e_many := e_many.mono t1054
    replace hk := t1054 _ _ hk
    replace u := u.trans t1054
    refine ⟨(by show 4 ≤ sizeLine; decide), fun p56 n56 => ?_⟩
    have t57 : Same H1054 (upd H1054 p56 (.lst [.bl true, .bl true, .bl true, .bl true])) := same_loc (Same.refl _) n56 _
    have c57 : (upd H1054 p56 (.lst [.bl true, .bl true, .bl true, .bl true])) p56 = some (.lst [.bl true, .bl true, .bl true, .bl true]) := upd_same
    generalize upd H1054 p56 (.lst [.bl true, .bl true, .bl true, .bl true]) = H57 at t57 c57
    replace e_pattern := e_pattern.mono t57
    replace e_meet := e_meet.mono t57
    replace e_value := e_value.mono t57
    replace e_plain := e_plain.mono t57
    replace e_full := e_full.mono t57
    replace e_broken := e_broken.mono t57
    replace e_many := e_many.mono t57
    replace hk := t57 _ _ hk
    replace u := u.trans t57
    refine ⟨_, rfl, ?_⟩
    refine ⟨_, rfl, a3, C_BadValue, 10, rfl, e_value.at, TE.exc_BadValue, TE.fam_BadValue, by decide, fun H58 t58 => ?_⟩
    replace e_pattern := e_pattern.mono t58
    replace e_meet := e_meet.mono t58
    replace e_value := e_value.mono t58
    replace e_plain := e_plain.mono t58
    replace e_full := e_full.mono t58
    replace e_broken := e_broken.mono t58
    replace e_many := e_many.mono t58
    replace hk := t58 _ _ hk
    replace c57 := t58 _ _ c57
    replace u := u.trans t58
    refine ⟨_, rfl, a4, C_Refused, 12, rfl, e_plain.at, TE.exc_Refused, TE.fam_Refused, by decide, fun H59 t59 => ?_⟩
    replace e_pattern := e_pattern.mono t59
    replace e_meet := e_meet.mono t59
    replace e_value := e_value.mono t59
    replace e_plain := e_plain.mono t59
    replace e_full := e_full.mono t59
    replace e_broken := e_broken.mono t59
    replace e_many := e_many.mono t59
    replace hk := t59 _ _ hk
    replace c57 := t59 _ _ c57
    replace u := u.trans t59
    refine ⟨_, rfl, a5, C_Refused, 12, rfl, e_full.at, TE.exc_Refused, TE.fam_Refused, by decide, fun H60 t60 => ?_⟩
    replace e_pattern := e_pattern.mono t60
    replace e_meet := e_meet.mono t60
    replace e_value := e_value.mono t60
    replace e_plain := e_plain.mono t60
    replace e_full := e_full.mono t60
    replace e_broken := e_broken.mono t60
    replace e_many := e_many.mono t60
    replace hk := t60 _ _ hk
    replace c57 := t60 _ _ c57
    replace u := u.trans t60
    refine ⟨_, rfl, a6, C_Broken, 13, rfl, e_broken.at, TE.exc_Broken, TE.fam_Broken, by decide, fun H61 t61 => ?_⟩
    replace e_pattern := e_pattern.mono t61
    replace e_meet := e_meet.mono t61
    replace e_value := e_value.mono t61
    replace e_plain := e_plain.mono t61
    replace e_full := e_full.mono t61
    replace e_broken := e_broken.mono t61
    replace e_many := e_many.mono t61
    replace hk := t61 _ _ hk
    replace c57 := t61 _ _ c57
    replace u := u.trans t61
    refine ⟨(by show 4 ≤ sizeLine; decide), fun p62 n62 => ?_⟩
    have t63 : Same H61 (upd H61 p62 (.lst [.bl true, .bl true, .bl true, .bl true])) := same_loc (Same.refl _) n62 _
    have c63 : (upd H61 p62 (.lst [.bl true, .bl true, .bl true, .bl true])) p62 = some (.lst [.bl true, .bl true, .bl true, .bl true]) := upd_same
    generalize upd H61 p62 (.lst [.bl true, .bl true, .bl true, .bl true]) = H63 at t63 c63
    replace e_pattern := e_pattern.mono t63
    replace e_meet := e_meet.mono t63
    replace e_value := e_value.mono t63
    replace e_plain := e_plain.mono t63
    replace e_full := e_full.mono t63
    replace e_broken := e_broken.mono t63
    replace e_many := e_many.mono t63
    replace hk := t63 _ _ hk
    replace c57 := t63 _ _ c57
    replace u := u.trans t63
    refine ⟨_, _, _, _, rfl, rfl, c57, c63, sz_le (by show 4 + 4 ≤ 1000000; decide), fun p64 n64 => ?_⟩
    have q64 : [V.bl true, V.bl true, V.bl true, V.bl true] ++ [V.bl true, V.bl true, V.bl true, V.bl true] = [V.bl true, V.bl true, V.bl true, V.bl true, V.bl true, V.bl true, V.bl true, V.bl true] := rfl
    rw [q64]
    have t65 : Same H63 (upd H63 p64 (.lst [V.bl true, V.bl true, V.bl true, V.bl true, V.bl true, V.bl true, V.bl true, V.bl true])) := same_loc (Same.refl _) n64 _
    have c65 : (upd H63 p64 (.lst [V.bl true, V.bl true, V.bl true, V.bl true, V.bl true, V.bl true, V.bl true, V.bl true])) p64 = some (.lst [V.bl true, V.bl true, V.bl true, V.bl true, V.bl true, V.bl true, V.bl true, V.bl true]) := upd_same
    generalize upd H63 p64 (.lst [V.bl true, V.bl true, V.bl true, V.bl true, V.bl true, V.bl true, V.bl true, V.bl true]) = H65 at t65 c65
    replace e_pattern := e_pattern.mono t65
    replace e_meet := e_meet.mono t65
    replace e_value := e_value.mono t65
    replace e_plain := e_plain.mono t65
    replace e_full := e_full.mono t65
    replace e_broken := e_broken.mono t65
    replace e_many := e_many.mono t65
    replace hk := t65 _ _ hk
    replace c57 := t65 _ _ c57
    replace c63 := t65 _ _ c63
    replace u := u.trans t65
    refine ⟨_, rfl, ?_⟩
    refine fun a66 n66 => ?_
    have t67 : Same H65 (upd H65 a66 (ExO (.ref C_BadCase) a66)) := same_loc (Same.refl _) n66 _
    have c67 : (upd H65 a66 (ExO (.ref C_BadCase) a66)) a66 = some (ExO (.ref C_BadCase) a66) := upd_same
    generalize upd H65 a66 (ExO (.ref C_BadCase) a66) = H67 at t67 c67
    replace e_pattern := e_pattern.mono t67
    replace e_meet := e_meet.mono t67
    replace e_value := e_value.mono t67
    replace e_plain := e_plain.mono t67
    replace e_full := e_full.mono t67
    replace e_broken := e_broken.mono t67
    replace e_many := e_many.mono t67
    replace hk := t67 _ _ hk
    replace c57 := t67 _ _ c57
    replace c63 := t67 _ _ c63
    replace c65 := t67 _ _ c65
    replace u := u.trans t67
    refine ⟨a66, C_BadCase, 14, rfl, .inr c67, TE.exc_BadCase, TE.fam_BadCase, by decide, fun H1066 t1066 => ?_⟩
    replace e_pattern := e_pattern.mono t1066
    replace e_meet := e_meet.mono t1066
    replace e_value := e_value.mono t1066
    replace e_plain := e_plain.mono t1066
    replace e_full := e_full.mono t1066
    replace e_broken := e_broken.mono t1066
    replace e_many := e_many.mono t1066
    replace hk := t1066 _ _ hk
    replace c57 := t1066 _ _ c57
    replace c63 := t1066 _ _ c63
    replace c65 := t1066 _ _ c65
    replace u := u.trans t1066
    refine ⟨_, rfl, a7, C_TooManyPatterns, 15, rfl, e_many.at, TE.exc_TooManyPatterns, TE.fam_TooManyPatterns, by decide, fun H68 t68 => ?_⟩
    replace e_pattern := e_pattern.mono t68
    replace e_meet := e_meet.mono t68
    replace e_value := e_value.mono t68
    replace e_plain := e_plain.mono t68
    replace e_full := e_full.mono t68
    replace e_broken := e_broken.mono t68
    replace e_many := e_many.mono t68
    replace hk := t68 _ _ hk
    replace c57 := t68 _ _ c57
    replace c63 := t68 _ _ c63
    replace c65 := t68 _ _ c65
    replace u := u.trans t68
    refine fun a69 n69 => ?_
    have t70 : Same H68 (upd H68 a69 (ExO (.ref C_NotReachable) a69)) := same_loc (Same.refl _) n69 _
    have c70 : (upd H68 a69 (ExO (.ref C_NotReachable) a69)) a69 = some (ExO (.ref C_NotReachable) a69) := upd_same
    generalize upd H68 a69 (ExO (.ref C_NotReachable) a69) = H70 at t70 c70
    replace e_pattern := e_pattern.mono t70
    replace e_meet := e_meet.mono t70
    replace e_value := e_value.mono t70
    replace e_plain := e_plain.mono t70
    replace e_full := e_full.mono t70
    replace e_broken := e_broken.mono t70
    replace e_many := e_many.mono t70
    replace hk := t70 _ _ hk
    replace c57 := t70 _ _ c57
    replace c63 := t70 _ _ c63
    replace c65 := t70 _ _ c65
    replace u := u.trans t70
    refine ⟨a69, C_NotReachable, 17, rfl, .inr c70, TE.exc_NotReachable, TE.fam_NotReachable, by decide, fun H1069 t1069 => ?_⟩
    replace e_pattern := e_pattern.mono t1069
    replace e_meet := e_meet.mono t1069
    replace e_value := e_value.mono t1069
    replace e_plain := e_plain.mono t1069
    replace e_full := e_full.mono t1069
    replace e_broken := e_broken.mono t1069
    replace e_many := e_many.mono t1069
    replace hk := t1069 _ _ hk
    replace c57 := t1069 _ _ c57
    replace c63 := t1069 _ _ c63
    replace c65 := t1069 _ _ c65
    replace u := u.trans t1069
    refine ⟨(by show 3 ≤ sizeLine; decide), fun p71 n71 => ?_⟩
    have t72 : Same H1069 (upd H1069 p71 (.lst [.bl true, .bl true, .bl true])) := same_loc (Same.refl _) n71 _
    have c72 : (upd H1069 p71 (.lst [.bl true, .bl true, .bl true])) p71 = some (.lst [.bl true, .bl true, .bl true]) := upd_same
    generalize upd H1069 p71 (.lst [.bl true, .bl true, .bl true]) = H72 at t72 c72
    replace e_pattern := e_pattern.mono t72
    replace e_meet := e_meet.mono t72
    replace e_value := e_value.mono t72
    replace e_plain := e_plain.mono t72
    replace e_full := e_full.mono t72
    replace e_broken := e_broken.mono t72
    replace e_many := e_many.mono t72
    replace hk := t72 _ _ hk
    replace c57 := t72 _ _ c57
    replace c63 := t72 _ _ c63
    replace c65 := t72 _ _ c65
    replace u := u.trans t72
    refine ⟨_, _, _, _, rfl, rfl, c65, c72, sz_le (by show 8 + 3 ≤ 1000000; decide), fun p73 n73 => ?_⟩
    have q73 : [V.bl true, V.bl true, V.bl true, V.bl true, V.bl true, V.bl true, V.bl true, V.bl true] ++ [V.bl true, V.bl true, V.bl true] = [V.bl true, V.bl true, V.bl true, V.bl true, V.bl true, V.bl true, V.bl true, V.bl true, V.bl true, V.bl true, V.bl true] := rfl
    rw [q73]
    have t74 : Same H72 (upd H72 p73 (.lst [V.bl true, V.bl true, V.bl true, V.bl true, V.bl true, V.bl true, V.bl true, V.bl true, V.bl true, V.bl true, V.bl true])) := same_loc (Same.refl _) n73 _
    have c74 : (upd H72 p73 (.lst [V.bl true, V.bl true, V.bl true, V.bl true, V.bl true, V.bl true, V.bl true, V.bl true, V.bl true, V.bl true, V.bl true])) p73 = some (.lst [V.bl true, V.bl true, V.bl true, V.bl true, V.bl true, V.bl true, V.bl true, V.bl true, V.bl true, V.bl true, V.bl true]) := upd_same
    generalize upd H72 p73 (.lst [V.bl true, V.bl true, V.bl true, V.bl true, V.bl true, V.bl true, V.bl true, V.bl true, V.bl true, V.bl true, V.bl true]) = H74 at t74 c74
    replace e_pattern := e_pattern.mono t74
    replace e_meet := e_meet.mono t74
    replace e_value := e_value.mono t74
    replace e_plain := e_plain.mono t74
    replace e_full := e_full.mono t74
    replace e_broken := e_broken.mono t74
    replace e_many := e_many.mono t74
    replace hk := t74 _ _ hk
    replace c57 := t74 _ _ c57
    replace c63 := t74 _ _ c63
    replace c65 := t74 _ _ c65
    replace c72 := t74 _ _ c72
    replace u := u.trans t74
    refine ⟨_, rfl, ?_⟩
    refine fun a75 n75 => ?_
    have t76 : Same H74 (upd H74 a75 (ExO (.ref C_NotComparable) a75)) := same_loc (Same.refl _) n75 _
    have c76 : (upd H74 a75 (ExO (.ref C_NotComparable) a75)) a75 = some (ExO (.ref C_NotComparable) a75) := upd_same
    generalize upd H74 a75 (ExO (.ref C_NotComparable) a75) = H76 at t76 c76
    replace e_pattern := e_pattern.mono t76
    replace e_meet := e_meet.mono t76
    replace e_value := e_value.mono t76
    replace e_plain := e_plain.mono t76
    replace e_full := e_full.mono t76
    replace e_broken := e_broken.mono t76
    replace e_many := e_many.mono t76
    replace hk := t76 _ _ hk
    replace c57 := t76 _ _ c57
    replace c63 := t76 _ _ c63
    replace c65 := t76 _ _ c65
    replace c72 := t76 _ _ c72
    replace c74 := t76 _ _ c74
    replace u := u.trans t76
    refine ⟨a75, C_NotComparable, 19, rfl, .inr c76, TE.exc_NotComparable, TE.fam_NotComparable, by decide, fun H1075 t1075 => ?_⟩
    replace e_pattern := e_pattern.mono t1075
    replace e_meet := e_meet.mono t1075
    replace e_value := e_value.mono t1075
    replace e_plain := e_plain.mono t1075
    replace e_full := e_full.mono t1075
    replace e_broken := e_broken.mono t1075
    replace e_many := e_many.mono t1075
    replace hk := t1075 _ _ hk
    replace c57 := t1075 _ _ c57
    replace c63 := t1075 _ _ c63
    replace c65 := t1075 _ _ c65
    replace c72 := t1075 _ _ c72
    replace c74 := t1075 _ _ c74
    replace u := u.trans t1075
    refine ⟨(by show 1 ≤ sizeLine; decide), fun p77 n77 => ?_⟩
    have t78 : Same H1075 (upd H1075 p77 (.lst [.bl true])) := same_loc (Same.refl _) n77 _
    have c78 : (upd H1075 p77 (.lst [.bl true])) p77 = some (.lst [.bl true]) := upd_same
    generalize upd H1075 p77 (.lst [.bl true]) = H78 at t78 c78
    replace e_pattern := e_pattern.mono t78
    replace e_meet := e_meet.mono t78
    replace e_value := e_value.mono t78
    replace e_plain := e_plain.mono t78
    replace e_full := e_full.mono t78
    replace e_broken := e_broken.mono t78
    replace e_many := e_many.mono t78
    replace hk := t78 _ _ hk
    replace c57 := t78 _ _ c57
    replace c63 := t78 _ _ c63
    replace c65 := t78 _ _ c65
    replace c72 := t78 _ _ c72
    replace c74 := t78 _ _ c74
    replace u := u.trans t78
    refine ⟨_, _, _, _, rfl, rfl, c74, c78, sz_le (by show 11 + 1 ≤ 1000000; decide), fun p79 n79 => ?_⟩
    have q79 : [V.bl true, V.bl true, V.bl true, V.bl true, V.bl true, V.bl true, V.bl true, V.bl true, V.bl true, V.bl true, V.bl true] ++ [V.bl true] = [V.bl true, V.bl true, V.bl true, V.bl true, V.bl true, V.bl true, V.bl true, V.bl true, V.bl true, V.bl true, V.bl true, V.bl true] := rfl
    rw [q79]
    have t80 : Same H78 (upd H78 p79 (.lst [V.bl true, V.bl true, V.bl true, V.bl true, V.bl true, V.bl true, V.bl true, V.bl true, V.bl true, V.bl true, V.bl true, V.bl true])) := same_loc (Same.refl _) n79 _
    have c80 : (upd H78 p79 (.lst [V.bl true, V.bl true, V.bl true, V.bl true, V.bl true, V.bl true, V.bl true, V.bl true, V.bl true, V.bl true, V.bl true, V.bl true])) p79 = some (.lst [V.bl true, V.bl true, V.bl true, V.bl true, V.bl true, V.bl true, V.bl true, V.bl true, V.bl true, V.bl true, V.bl true, V.bl true]) := upd_same
    generalize upd H78 p79 (.lst [V.bl true, V.bl true, V.bl true, V.bl true, V.bl true, V.bl true, V.bl true, V.bl true, V.bl true, V.bl true, V.bl true, V.bl true]) = H80 at t80 c80
    replace e_pattern := e_pattern.mono t80
    replace e_meet := e_meet.mono t80
    replace e_value := e_value.mono t80
    replace e_plain := e_plain.mono t80
    replace e_full := e_full.mono t80
    replace e_broken := e_broken.mono t80
    replace e_many := e_many.mono t80
    replace hk := t80 _ _ hk
    replace c57 := t80 _ _ c57
    replace c63 := t80 _ _ c63
    replace c65 := t80 _ _ c65
    replace c72 := t80 _ _ c72
    replace c74 := t80 _ _ c74
    replace c78 := t80 _ _ c78
    replace u := u.trans t80
    refine ⟨(by show 1 ≤ sizeLine; decide), fun p81 n81 => ?_⟩
    have t82 : Same H80 (upd H80 p81 (.lst [V.bl true])) := same_loc (Same.refl _) n81 _
    have c82 : (upd H80 p81 (.lst [V.bl true])) p81 = some (.lst [V.bl true]) := upd_same
    generalize upd H80 p81 (.lst [V.bl true]) = H82 at t82 c82
    replace e_pattern := e_pattern.mono t82
    replace e_meet := e_meet.mono t82
    replace e_value := e_value.mono t82
    replace e_plain := e_plain.mono t82
    replace e_full := e_full.mono t82
    replace e_broken := e_broken.mono t82
    replace e_many := e_many.mono t82
    replace hk := t82 _ _ hk
    replace c57 := t82 _ _ c57
    replace c63 := t82 _ _ c63
    replace c65 := t82 _ _ c65
    replace c72 := t82 _ _ c72
    replace c74 := t82 _ _ c74
    replace c78 := t82 _ _ c78
    replace c80 := t82 _ _ c80
    replace u := u.trans t82
    refine ⟨_, _, _, rfl, rfl, c82, by decide, by decide, (by show 1 * 12 ≤ sizeLine; decide), fun p83 n83 => ?_⟩
    have q83 : (List.replicate (12 : Int).toNat [V.bl true]).flatten = [V.bl true, V.bl true, V.bl true, V.bl true, V.bl true, V.bl true, V.bl true, V.bl true, V.bl true, V.bl true, V.bl true, V.bl true] := rfl
    rw [q83]
    have t84 : Same H82 (upd H82 p83 (.lst [V.bl true, V.bl true, V.bl true, V.bl true, V.bl true, V.bl true, V.bl true, V.bl true, V.bl true, V.bl true, V.bl true, V.bl true])) := same_loc (Same.refl _) n83 _
    have c84 : (upd H82 p83 (.lst [V.bl true, V.bl true, V.bl true, V.bl true, V.bl true, V.bl true, V.bl true, V.bl true, V.bl true, V.bl true, V.bl true, V.bl true])) p83 = some (.lst [V.bl true, V.bl true, V.bl true, V.bl true, V.bl true, V.bl true, V.bl true, V.bl true, V.bl true, V.bl true, V.bl true, V.bl true]) := upd_same
    generalize upd H82 p83 (.lst [V.bl true, V.bl true, V.bl true, V.bl true, V.bl true, V.bl true, V.bl true, V.bl true, V.bl true, V.bl true, V.bl true, V.bl true]) = H84 at t84 c84
    replace e_pattern := e_pattern.mono t84
    replace e_meet := e_meet.mono t84
    replace e_value := e_value.mono t84
    replace e_plain := e_plain.mono t84
    replace e_full := e_full.mono t84
    replace e_broken := e_broken.mono t84
    replace e_many := e_many.mono t84
    replace hk := t84 _ _ hk
    replace c57 := t84 _ _ c57
    replace c63 := t84 _ _ c63
    replace c65 := t84 _ _ c65
    replace c72 := t84 _ _ c72
    replace c74 := t84 _ _ c74
    replace c78 := t84 _ _ c78
    replace c80 := t84 _ _ c80
    replace c82 := t84 _ _ c82
    replace u := u.trans t84
    have s85 : SeqAt.shaped (.list [.bool true, .bool true, .bool true, .bool true, .bool true, .bool true, .bool true, .bool true, .bool true, .bool true, .bool true, .bool true]) = true := by
      unfold SeqAt.shaped
      have g1 : PyData.canLay0 (.list [.bool true, .bool true, .bool true, .bool true, .bool true, .bool true, .bool true, .bool true, .bool true, .bool true, .bool true, .bool true]) = true := by simp [PyData.canLay0, PyData.canLayAll0, hx.ok, hy.ok, h1.ok, h2.ok, h3.ok]
      have g2 : decide (PyData.depth (.list [.bool true, .bool true, .bool true, .bool true, .bool true, .bool true, .bool true, .bool true, .bool true, .bool true, .bool true, .bool true]) ≤ 64) = true := rfl
      rw [g1, g2]
      rfl
    refine ⟨.list [.bool true, .bool true, .bool true, .bool true, .bool true, .bool true, .bool true, .bool true, .bool true, .bool true, .bool true, .bool true], .list [.bool true, .bool true, .bool true, .bool true, .bool true, .bool true, .bool true, .bool true, .bool true, .bool true, .bool true, .bool true], .lst (SqL.of c80) (.cons (.bl true) (.cons (.bl true) (.cons (.bl true) (.cons (.bl true) (.cons (.bl true) (.cons (.bl true) (.cons (.bl true) (.cons (.bl true) (.cons (.bl true) (.cons (.bl true) (.cons (.bl true) (.cons (.bl true) (.nil))))))))))))), .lst (SqL.of c84) (.cons (.bl true) (.cons (.bl true) (.cons (.bl true) (.cons (.bl true) (.cons (.bl true) (.cons (.bl true) (.cons (.bl true) (.cons (.bl true) (.cons (.bl true) (.cons (.bl true) (.cons (.bl true) (.cons (.bl true) (.nil))))))))))))), s85, s85, ?_⟩
    rw [PySem.SeqAt.eqv_refl _ (PySem.SeqAt.canLay_of_shaped s85)]
    clear c57
    clear c63
    clear c65
    clear c72
    clear c74
    clear c78
    clear c80
    clear c82
    clear c84
    exact k _ u
end
end OA

/-! ### the law -/
namespace OA
open PySem PySem.Spec PyProof.Rows L2
def spLaw (K : PySem.W.Frag) : Sp := fun vs H Q _ => ∃ (a : Addr) (ns : List Int), vs = [.ref a] ∧ SqL K H a (ns.map V.int) ∧ ns.length ≤ 63 ∧ ∀ H', Q (.bl true) H'
section
variable {P : Program} {w : World} {K : PySem.W.Frag} {mg : Str → Option Value} {base : Heap}
theorem sc_law : FnScope ["_law_script", "_law_state", "_law_words", "_law_number", "_law_agreement"] ["_law_script"] (defScope (topS 32)) := ⟨rfl, rfl, rfl, by decide +kernel, rfl, by decide +kernel, by decide +kernel⟩
set_option maxHeartbeats 16000000 in
theorem ok_law {f : Addr} {fd : FuncData} (F : Fun K "law" "law" (topS 32) f fd) (T : Txt K mg)
    (c_get_state : Callee P w K mg base "_law_get_state" ["_law_script"] (spState K) 1) (c_draw : Callee P w K mg base "_law_draw" ["_law_st", "_law_limit"] spDraw 1) (c_get_words : Callee P w K mg base "_law_get_words" ["_law_st", "_law_most", "_law_count"] spWords 2)
    (c_get_numbers : Callee P w K mg base "_law_get_numbers" ["_law_number", "_law_word"] spNums 4) (c_caught : Callee P w K mg base "_law_caught" ["_law_number"] spCaught 4) (c_get_others : Callee P w K mg base "_law_get_others" ["_law_number", "_law_word", "_law_other", "_law_agreement"] spOthers 4) :
    FnOk P w K mg base CX0 5 f fd ["_law_script"] (spLaw K) := by
  refine F.ok sc_law (fun vs H Q E h => ?_) (fun cdv A outer s H vs Q E hr h => ?_)
  · obtain ⟨a, ns, rfl, _⟩ := h
    rfl
  · obtain ⟨a, ns, rfl, hS, hlen, k⟩ := h
    refine ⟨_, (pss_cons (ps_set (i := 1) sc_law.nd rfl (Or.inl rfl) (pe_co c_get_state hr (by decide) (by rfl) (pa_cons (pv 0) pa_nil)))
      (pss_cons (ps_set (i := 2) sc_law.nd rfl (Or.inl rfl) (pe_co c_get_words hr (by decide) (by rfl) (pa_cons (pv 1) (pa_cons pe_int (pa_cons pe_int pa_nil)))))
      (pss_cons (ps_set (i := 3) sc_law.nd rfl (Or.inl rfl) (pe_op o_add (pe_ix (ix_lst K) (pe_lst (pa_cons pe_int (pa_cons pe_int (pa_cons pe_int (pa_cons (pe_op o_pow pe_int pe_int) (pa_cons (pe_op o_pow pe_int pe_int) pa_nil)))))) (pe_co c_draw hr (by decide) (by rfl) (pa_cons (pv 1) (pa_cons pe_int pa_nil))) (fun _ _ => rfl)) (pe_co c_draw hr (by decide) (by rfl) (pa_cons (pv 1) (pa_cons pe_int pa_nil)))))
      (pss_cons (ps_set (i := 4) sc_law.nd rfl (Or.inl rfl) (pe_tup (pa_cons (pe_ix (ix_lst K) (pv 2) pe_int (fun _ _ => rfl)) (pa_cons (pe_ix (ix_lst K) (pv 2) pe_int (fun _ _ => rfl)) (pa_cons (pe_ix (ix_lst K) (pv 2) pe_int (fun _ _ => rfl)) pa_nil)))))
      (pss_cons (ps_if (PW.pt (pw_or (pt_not (pt_val (pe_co c_get_numbers hr (by decide) (by rfl) (pa_cons (pv 3) (pa_cons (pe_ix (ix_lst K) (pv 2) pe_int (fun _ _ => rfl)) pa_nil))))) (pw_or1 (pt_not (pt_val (pe_co c_caught hr (by decide) (by rfl) (pa_cons (pv 3) pa_nil))))))) (pss_one (ps_ret pe_bl)) pss_nil)
      (pss_one (ps_ret (pe_co c_get_others hr (by decide) (by rfl) (pa_cons (pv 3) (pa_cons (pe_ix (ix_lst K) (pv 2) pe_int (fun _ _ => rfl)) (pa_cons (pe_ix (ix_lst K) (pv 2) pe_int (fun _ _ => rfl)) (pa_cons (pv 4) pa_nil)))))))))))), ?_⟩
    refine ⟨_, rfl, a, ns, rfl, hS, by omega, fun st inn H1 s1 S1 => ?_⟩
    refine ⟨_, rfl, H, st, inn, 12, 4, rfl, s1, S1, by decide, by decide, by decide, fun v ws G2 H2 s2 S2 hv hw => ?_⟩
    obtain ⟨wa, rfl, hwa⟩ := hv
    obtain ⟨w0, w1, w2, w3, rfl⟩ : ∃ w0 w1 w2 w3, ws = [w0, w1, w2, w3] := by
      have := hw.len
      match ws, this with
      | [w0, w1, w2, w3], _ => exact ⟨w0, w1, w2, w3, rfl⟩
    have a0 : Asc w0 := (hw.all w0 (by simp)).asc
    have a1 : Asc w1 := (hw.all w1 (by simp)).asc
    have a2 : Asc w2 := (hw.all w2 (by simp)).asc
    -- number
    refine ⟨_, _, rfl, rfl, ⟨by decide, by decide, by decide⟩, _, _, rfl, rfl, ⟨by decide, by decide, by decide⟩, (by show 5 ≤ sizeLine; decide), fun L nL => ?_⟩
    have s3 := Stp.put (F := F2 st inn) s2.gh nL (.lst [.int 0, .int 1, .int 2, .int (10 ^ (9 : Int).toNat), .int (10 ^ (30 : Int).toNat)])
    have S3 := S2.new nL s2.gh (.lst [.int 0, .int 1, .int 2, .int (10 ^ (9 : Int).toNat), .int (10 ^ (30 : Int).toNat)])
    have c3 : Cell G2 _ L _ := Cell.new s2.gh nL (.lst [.int 0, .int 1, .int 2, .int (10 ^ (9 : Int).toNat), .int (10 ^ (30 : Int).toNat)])
    have offL : ¬ F2 st inn L := S2.off nL
    refine ⟨_, rfl, G2, st, inn, 5, rfl, s3.gh, S3, by decide, by decide, fun r4 H4 s4 S4 r0 r1 => ?_⟩
    have c4 := s4.cell c3 offL
    obtain ⟨m, hm⟩ : ∃ m : Int, atI [V.int 0, V.int 1, V.int 2, V.int (10 ^ (9 : Int).toNat), V.int (10 ^ (30 : Int).toNat)] r4 = some (.int m) := by
      have hr4 : r4 = 0 ∨ r4 = 1 ∨ r4 = 2 ∨ r4 = 3 ∨ r4 = 4 := by omega
      rcases hr4 with e | e | e | e | e <;> subst e
      · exact ⟨_, at_of (j := 0) rfl rfl⟩
      · exact ⟨_, at_of (j := 1) rfl rfl⟩
      · exact ⟨_, at_of (j := 2) rfl rfl⟩
      · exact ⟨_, at_of (j := 3) rfl rfl⟩
      · exact ⟨_, at_of (j := 4) rfl rfl⟩
    refine ⟨L, _, _, .int m, rfl, rfl, SqL.of c4.at_, hm, ?_⟩
    refine ⟨_, rfl, G2, st, inn, 100, rfl, s4.gh, S4, by decide, by decide, fun r5 H5 s5 S5 r2 r3 => ⟨_, _, rfl, rfl, ?_⟩⟩
    have hw5 := s5.gh _ _ hwa
    -- agreement
    refine ⟨_, rfl, wa, _, _, .str w0, rfl, rfl, SqL.of hw5, at_of (j := 0) rfl rfl, _, rfl, wa, _, _, .str w1, rfl, rfl, SqL.of hw5, at_of (j := 1) rfl rfl, _, rfl, wa, _, _, .str w2, rfl, rfl, SqL.of hw5, at_of (j := 2) rfl rfl, (by show 3 ≤ sizeLine; decide), fun g ng => ?_⟩
    have t6 : Same H5 (upd H5 g (.tup [.str w0, .str w1, .str w2])) := same_loc (Same.refl H5) ng _
    have hg : (upd H5 g (.tup [.str w0, .str w1, .str w2])) g = some (.tup [.str w0, .str w1, .str w2]) := upd_same
    generalize upd H5 g (.tup [.str w0, .str w1, .str w2]) = H6 at t6 hg
    have hw6 := t6 _ _ hw5
    refine ⟨_, rfl, _, rfl, wa, _, _, .str w0, rfl, rfl, SqL.of hw6, at_of (j := 0) rfl rfl, _, _, rfl, a0, fun H7 t7 => ⟨_, rfl, ?_⟩⟩
    refine iteF ?_
    refine ⟨_, rfl, _, rfl, fun H8 t8 => ⟨_, rfl, ?_⟩⟩
    refine iteF ?_
    have t68 := t7.trans t8
    have hw8 := t68 _ _ hw6
    refine ⟨_, rfl, _, rfl, wa, _, _, .str w1, rfl, rfl, SqL.of hw8, at_of (j := 1) rfl rfl, _, rfl, wa, _, _, .str w2, rfl, rfl, SqL.of hw8, at_of (j := 2) rfl rfl, _, rfl, _, _, _, g, w0, w1, w2, rfl, t68 _ _ hg, a1, a2, a0, a1, a2, fun H9 _ => ?_⟩
    exact k H9
end
end OA

namespace OA
open PySem PySem.Spec PyProof.Rows L2
theorem all_mk {l : PySem.W.OpenLaw} {w : World} {K : PySem.W.Frag} {h : Heap} {mg : Str → Option Value} {fa : Addr} (X : K.In h) (G : h.Ns mainGlobals mg) (hfa : mg "law" = some (.ref fa))
    {C_AgreeError : Addr}
    {C_BadLine : Addr}
    {C_DuplicateName : Addr}
    {C_UnknownName : Addr}
    {C_WrongTable : Addr}
    {C_WrongCount : Addr}
    {C_TooMany : Addr}
    {C_BadPattern : Addr}
    {C_ConstantsMeet : Addr}
    {C_OtherPlaces : Addr}
    {C_OtherSchema : Addr}
    {C_BadValue : Addr}
    {C_NoRow : Addr}
    {C_Refused : Addr}
    {C_Broken : Addr}
    {C_BadCase : Addr}
    {C_TooManyPatterns : Addr}
    {C_BadDerivation : Addr}
    {C_NotReachable : Addr}
    {C_TooLong : Addr}
    {C_NotComparable : Addr}
    {C_BadOffer : Addr}
    {nm_BadLine qq_BadLine : Str} {N_BadLine : Addr} {bs_BadLine : List Value} {sn_BadLine : List Str} {sub_BadLine : List Value} {ab_BadLine : Bool} {col_BadLine : Option Bool} {dd_BadLine : Option Addr} {m0_BadLine m1_BadLine m2_BadLine m3_BadLine m5_BadLine : Option Value}
    {nm_DuplicateName qq_DuplicateName : Str} {N_DuplicateName : Addr} {bs_DuplicateName : List Value} {sn_DuplicateName : List Str} {sub_DuplicateName : List Value} {ab_DuplicateName : Bool} {col_DuplicateName : Option Bool} {dd_DuplicateName : Option Addr} {m0_DuplicateName m1_DuplicateName m2_DuplicateName m3_DuplicateName m5_DuplicateName : Option Value}
    {nm_UnknownName qq_UnknownName : Str} {N_UnknownName : Addr} {bs_UnknownName : List Value} {sn_UnknownName : List Str} {sub_UnknownName : List Value} {ab_UnknownName : Bool} {col_UnknownName : Option Bool} {dd_UnknownName : Option Addr} {m0_UnknownName m1_UnknownName m2_UnknownName m3_UnknownName m5_UnknownName : Option Value}
    {nm_WrongTable qq_WrongTable : Str} {N_WrongTable : Addr} {bs_WrongTable : List Value} {sn_WrongTable : List Str} {sub_WrongTable : List Value} {ab_WrongTable : Bool} {col_WrongTable : Option Bool} {dd_WrongTable : Option Addr} {m0_WrongTable m1_WrongTable m2_WrongTable m3_WrongTable m5_WrongTable : Option Value}
    {nm_WrongCount qq_WrongCount : Str} {N_WrongCount : Addr} {bs_WrongCount : List Value} {sn_WrongCount : List Str} {sub_WrongCount : List Value} {ab_WrongCount : Bool} {col_WrongCount : Option Bool} {dd_WrongCount : Option Addr} {m0_WrongCount m1_WrongCount m2_WrongCount m3_WrongCount m5_WrongCount : Option Value}
    {nm_TooMany qq_TooMany : Str} {N_TooMany : Addr} {bs_TooMany : List Value} {sn_TooMany : List Str} {sub_TooMany : List Value} {ab_TooMany : Bool} {col_TooMany : Option Bool} {dd_TooMany : Option Addr} {m0_TooMany m1_TooMany m2_TooMany m3_TooMany m5_TooMany : Option Value}
    {nm_BadPattern qq_BadPattern : Str} {N_BadPattern : Addr} {bs_BadPattern : List Value} {sn_BadPattern : List Str} {sub_BadPattern : List Value} {ab_BadPattern : Bool} {col_BadPattern : Option Bool} {dd_BadPattern : Option Addr} {m0_BadPattern m1_BadPattern m2_BadPattern m3_BadPattern m5_BadPattern : Option Value}
    {nm_ConstantsMeet qq_ConstantsMeet : Str} {N_ConstantsMeet : Addr} {bs_ConstantsMeet : List Value} {sn_ConstantsMeet : List Str} {sub_ConstantsMeet : List Value} {ab_ConstantsMeet : Bool} {col_ConstantsMeet : Option Bool} {dd_ConstantsMeet : Option Addr} {m0_ConstantsMeet m1_ConstantsMeet m2_ConstantsMeet m3_ConstantsMeet m5_ConstantsMeet : Option Value}
    {nm_BadValue qq_BadValue : Str} {N_BadValue : Addr} {bs_BadValue : List Value} {sn_BadValue : List Str} {sub_BadValue : List Value} {ab_BadValue : Bool} {col_BadValue : Option Bool} {dd_BadValue : Option Addr} {m0_BadValue m1_BadValue m2_BadValue m3_BadValue m5_BadValue : Option Value}
    {nm_NoRow qq_NoRow : Str} {N_NoRow : Addr} {bs_NoRow : List Value} {sn_NoRow : List Str} {sub_NoRow : List Value} {ab_NoRow : Bool} {col_NoRow : Option Bool} {dd_NoRow : Option Addr} {m0_NoRow m1_NoRow m2_NoRow m3_NoRow m5_NoRow : Option Value}
    {nm_Refused qq_Refused : Str} {N_Refused : Addr} {bs_Refused : List Value} {sn_Refused : List Str} {sub_Refused : List Value} {ab_Refused : Bool} {col_Refused : Option Bool} {dd_Refused : Option Addr} {m0_Refused m1_Refused m2_Refused m3_Refused m5_Refused : Option Value}
    {nm_Broken qq_Broken : Str} {N_Broken : Addr} {bs_Broken : List Value} {sn_Broken : List Str} {sub_Broken : List Value} {ab_Broken : Bool} {col_Broken : Option Bool} {dd_Broken : Option Addr} {m0_Broken m1_Broken m2_Broken m3_Broken m5_Broken : Option Value}
    {nm_TooManyPatterns qq_TooManyPatterns : Str} {N_TooManyPatterns : Addr} {bs_TooManyPatterns : List Value} {sn_TooManyPatterns : List Str} {sub_TooManyPatterns : List Value} {ab_TooManyPatterns : Bool} {col_TooManyPatterns : Option Bool} {dd_TooManyPatterns : Option Addr} {m0_TooManyPatterns m1_TooManyPatterns m2_TooManyPatterns m3_TooManyPatterns m5_TooManyPatterns : Option Value}
    {nm_BadDerivation qq_BadDerivation : Str} {N_BadDerivation : Addr} {bs_BadDerivation : List Value} {sn_BadDerivation : List Str} {sub_BadDerivation : List Value} {ab_BadDerivation : Bool} {col_BadDerivation : Option Bool} {dd_BadDerivation : Option Addr} {m0_BadDerivation m1_BadDerivation m2_BadDerivation m3_BadDerivation m5_BadDerivation : Option Value}
    {nm_TooLong qq_TooLong : Str} {N_TooLong : Addr} {bs_TooLong : List Value} {sn_TooLong : List Str} {sub_TooLong : List Value} {ab_TooLong : Bool} {col_TooLong : Option Bool} {dd_TooLong : Option Addr} {m0_TooLong m1_TooLong m2_TooLong m3_TooLong m5_TooLong : Option Value}
    {nm_BadOffer qq_BadOffer : Str} {N_BadOffer : Addr} {bs_BadOffer : List Value} {sn_BadOffer : List Str} {sub_BadOffer : List Value} {ab_BadOffer : Bool} {col_BadOffer : Option Bool} {dd_BadOffer : Option Addr} {m0_BadOffer m1_BadOffer m2_BadOffer m3_BadOffer m5_BadOffer : Option Value}
    {f_BadLine___init__ : Addr} {od_BadLine___init__ an_BadLine___init__ : Option Addr} {sl_BadLine___init__ : Array (Option Value)} {oc_BadLine___init__ kV_BadLine___init__ dc_BadLine___init__ pm_BadLine___init__ cd_BadLine___init__ ct_BadLine___init__ : Value}
    {f_DuplicateName___init__ : Addr} {od_DuplicateName___init__ an_DuplicateName___init__ : Option Addr} {sl_DuplicateName___init__ : Array (Option Value)} {oc_DuplicateName___init__ kV_DuplicateName___init__ dc_DuplicateName___init__ pm_DuplicateName___init__ cd_DuplicateName___init__ ct_DuplicateName___init__ : Value}
    {f_UnknownName___init__ : Addr} {od_UnknownName___init__ an_UnknownName___init__ : Option Addr} {sl_UnknownName___init__ : Array (Option Value)} {oc_UnknownName___init__ kV_UnknownName___init__ dc_UnknownName___init__ pm_UnknownName___init__ cd_UnknownName___init__ ct_UnknownName___init__ : Value}
    {f_WrongTable___init__ : Addr} {od_WrongTable___init__ an_WrongTable___init__ : Option Addr} {sl_WrongTable___init__ : Array (Option Value)} {oc_WrongTable___init__ kV_WrongTable___init__ dc_WrongTable___init__ pm_WrongTable___init__ cd_WrongTable___init__ ct_WrongTable___init__ : Value}
    {f_WrongCount___init__ : Addr} {od_WrongCount___init__ an_WrongCount___init__ : Option Addr} {sl_WrongCount___init__ : Array (Option Value)} {oc_WrongCount___init__ kV_WrongCount___init__ dc_WrongCount___init__ pm_WrongCount___init__ cd_WrongCount___init__ ct_WrongCount___init__ : Value}
    {f_TooMany___init__ : Addr} {od_TooMany___init__ an_TooMany___init__ : Option Addr} {sl_TooMany___init__ : Array (Option Value)} {oc_TooMany___init__ kV_TooMany___init__ dc_TooMany___init__ pm_TooMany___init__ cd_TooMany___init__ ct_TooMany___init__ : Value}
    {f_BadPattern___init__ : Addr} {od_BadPattern___init__ an_BadPattern___init__ : Option Addr} {sl_BadPattern___init__ : Array (Option Value)} {oc_BadPattern___init__ kV_BadPattern___init__ dc_BadPattern___init__ pm_BadPattern___init__ cd_BadPattern___init__ ct_BadPattern___init__ : Value}
    {f_ConstantsMeet___init__ : Addr} {od_ConstantsMeet___init__ an_ConstantsMeet___init__ : Option Addr} {sl_ConstantsMeet___init__ : Array (Option Value)} {oc_ConstantsMeet___init__ kV_ConstantsMeet___init__ dc_ConstantsMeet___init__ pm_ConstantsMeet___init__ cd_ConstantsMeet___init__ ct_ConstantsMeet___init__ : Value}
    {f_BadValue___init__ : Addr} {od_BadValue___init__ an_BadValue___init__ : Option Addr} {sl_BadValue___init__ : Array (Option Value)} {oc_BadValue___init__ kV_BadValue___init__ dc_BadValue___init__ pm_BadValue___init__ cd_BadValue___init__ ct_BadValue___init__ : Value}
    {f_NoRow___init__ : Addr} {od_NoRow___init__ an_NoRow___init__ : Option Addr} {sl_NoRow___init__ : Array (Option Value)} {oc_NoRow___init__ kV_NoRow___init__ dc_NoRow___init__ pm_NoRow___init__ cd_NoRow___init__ ct_NoRow___init__ : Value}
    {f_Refused___init__ : Addr} {od_Refused___init__ an_Refused___init__ : Option Addr} {sl_Refused___init__ : Array (Option Value)} {oc_Refused___init__ kV_Refused___init__ dc_Refused___init__ pm_Refused___init__ cd_Refused___init__ ct_Refused___init__ : Value}
    {T_Refused___init__ : Addr} {tc_Refused___init__ : Value} {td_Refused___init__ : Option Addr} {tn_Refused___init__ : Nat} {ts_Refused___init__ : Array (Option Value)}
    {f_Broken___init__ : Addr} {od_Broken___init__ an_Broken___init__ : Option Addr} {sl_Broken___init__ : Array (Option Value)} {oc_Broken___init__ kV_Broken___init__ dc_Broken___init__ pm_Broken___init__ cd_Broken___init__ ct_Broken___init__ : Value}
    {f_TooManyPatterns___init__ : Addr} {od_TooManyPatterns___init__ an_TooManyPatterns___init__ : Option Addr} {sl_TooManyPatterns___init__ : Array (Option Value)} {oc_TooManyPatterns___init__ kV_TooManyPatterns___init__ dc_TooManyPatterns___init__ pm_TooManyPatterns___init__ cd_TooManyPatterns___init__ ct_TooManyPatterns___init__ : Value}
    {f_BadDerivation___init__ : Addr} {od_BadDerivation___init__ an_BadDerivation___init__ : Option Addr} {sl_BadDerivation___init__ : Array (Option Value)} {oc_BadDerivation___init__ kV_BadDerivation___init__ dc_BadDerivation___init__ pm_BadDerivation___init__ cd_BadDerivation___init__ ct_BadDerivation___init__ : Value}
    {f_TooLong___init__ : Addr} {od_TooLong___init__ an_TooLong___init__ : Option Addr} {sl_TooLong___init__ : Array (Option Value)} {oc_TooLong___init__ kV_TooLong___init__ dc_TooLong___init__ pm_TooLong___init__ cd_TooLong___init__ ct_TooLong___init__ : Value}
    {f_BadOffer___init__ : Addr} {od_BadOffer___init__ an_BadOffer___init__ : Option Addr} {sl_BadOffer___init__ : Array (Option Value)} {oc_BadOffer___init__ kV_BadOffer___init__ dc_BadOffer___init__ pm_BadOffer___init__ cd_BadOffer___init__ ct_BadOffer___init__ : Value}
    {f_family : Addr} {od_family an_family : Option Addr} {sl_family : Array (Option Value)} {oc_family kV_family dc_family pm_family cd_family ct_family : Value}
    {f_get_kin : Addr} {od_get_kin an_get_kin : Option Addr} {sl_get_kin : Array (Option Value)} {oc_get_kin kV_get_kin dc_get_kin pm_get_kin cd_get_kin ct_get_kin : Value}
    {f_caught : Addr} {od_caught an_caught : Option Addr} {sl_caught : Array (Option Value)} {oc_caught kV_caught dc_caught pm_caught cd_caught ct_caught : Value}
    {f_get_numbers : Addr} {od_get_numbers an_get_numbers : Option Addr} {sl_get_numbers : Array (Option Value)} {oc_get_numbers kV_get_numbers dc_get_numbers pm_get_numbers cd_get_numbers ct_get_numbers : Value}
    {f_get_others : Addr} {od_get_others an_get_others : Option Addr} {sl_get_others : Array (Option Value)} {oc_get_others kV_get_others dc_get_others pm_get_others cd_get_others ct_get_others : Value}
    {f_draw : Addr} {od_draw an_draw : Option Addr} {sl_draw : Array (Option Value)} {oc_draw kV_draw dc_draw pm_draw cd_draw ct_draw : Value}
    {f_get_state : Addr} {od_get_state an_get_state : Option Addr} {sl_get_state : Array (Option Value)} {oc_get_state kV_get_state dc_get_state pm_get_state cd_get_state ct_get_state : Value}
    {f_get_words : Addr} {od_get_words an_get_words : Option Addr} {sl_get_words : Array (Option Value)} {oc_get_words kV_get_words dc_get_words pm_get_words cd_get_words ct_get_words : Value}
    {f_law : Addr} {od_law an_law : Option Addr} {sl_law : Array (Option Value)} {oc_law kV_law dc_law pm_law cd_law ct_law : Value}
    (g_AgreeError : PySem.W.nsIn K mainGlobals "AgreeError" = some (some (.ref C_AgreeError)))
    (g_BadLine : PySem.W.nsIn K mainGlobals "BadLine" = some (some (.ref C_BadLine)))
    (g_DuplicateName : PySem.W.nsIn K mainGlobals "DuplicateName" = some (some (.ref C_DuplicateName)))
    (g_UnknownName : PySem.W.nsIn K mainGlobals "UnknownName" = some (some (.ref C_UnknownName)))
    (g_WrongTable : PySem.W.nsIn K mainGlobals "WrongTable" = some (some (.ref C_WrongTable)))
    (g_WrongCount : PySem.W.nsIn K mainGlobals "WrongCount" = some (some (.ref C_WrongCount)))
    (g_TooMany : PySem.W.nsIn K mainGlobals "TooMany" = some (some (.ref C_TooMany)))
    (g_BadPattern : PySem.W.nsIn K mainGlobals "BadPattern" = some (some (.ref C_BadPattern)))
    (g_ConstantsMeet : PySem.W.nsIn K mainGlobals "ConstantsMeet" = some (some (.ref C_ConstantsMeet)))
    (g_OtherPlaces : PySem.W.nsIn K mainGlobals "OtherPlaces" = some (some (.ref C_OtherPlaces)))
    (g_OtherSchema : PySem.W.nsIn K mainGlobals "OtherSchema" = some (some (.ref C_OtherSchema)))
    (g_BadValue : PySem.W.nsIn K mainGlobals "BadValue" = some (some (.ref C_BadValue)))
    (g_NoRow : PySem.W.nsIn K mainGlobals "NoRow" = some (some (.ref C_NoRow)))
    (g_Refused : PySem.W.nsIn K mainGlobals "Refused" = some (some (.ref C_Refused)))
    (g_Broken : PySem.W.nsIn K mainGlobals "Broken" = some (some (.ref C_Broken)))
    (g_BadCase : PySem.W.nsIn K mainGlobals "BadCase" = some (some (.ref C_BadCase)))
    (g_TooManyPatterns : PySem.W.nsIn K mainGlobals "TooManyPatterns" = some (some (.ref C_TooManyPatterns)))
    (g_BadDerivation : PySem.W.nsIn K mainGlobals "BadDerivation" = some (some (.ref C_BadDerivation)))
    (g_NotReachable : PySem.W.nsIn K mainGlobals "NotReachable" = some (some (.ref C_NotReachable)))
    (g_TooLong : PySem.W.nsIn K mainGlobals "TooLong" = some (some (.ref C_TooLong)))
    (g_NotComparable : PySem.W.nsIn K mainGlobals "NotComparable" = some (some (.ref C_NotComparable)))
    (g_BadOffer : PySem.W.nsIn K mainGlobals "BadOffer" = some (some (.ref C_BadOffer)))
    (x_BadLine : K.lookup C_BadLine = some (PySem.excClassObj nm_BadLine qq_BadLine C_BadLine N_BadLine bs_BadLine [.ref C_AgreeError, .type "ValueError", .type "Exception", .type "BaseException", .type "object"] true sn_BadLine sub_BadLine ab_BadLine col_BadLine dd_BadLine m0_BadLine m1_BadLine m2_BadLine m3_BadLine m5_BadLine "ValueError.__new__"))
    (sa_BadLine : PySem.W.findIn K (.ref C_BadLine) "__setattr__" = some (some (.builtin "object.__setattr__")))
    (ga_BadLine : PySem.W.findIn K (.ref C_BadLine) "__getattribute__" = some (some (.builtin "BaseException.__getattribute__")))
    (gg_BadLine : PySem.W.findIn K (.ref C_BadLine) "__getattr__" = some none)
    (eb_BadLine : PySem.W.subIn K (.ref C_BadLine) (.type "BaseException") = some true)
    (ty_BadLine : PySem.W.typeIn K (.ref C_BadLine) = some (.type "type"))
    (hd_BadLine : PySem.W.hasDictIn K C_BadLine = true)
    (kp_BadLine : PySem.W.keepIn K (.ref C_BadLine) = true)
    (ca_BadLine : PySem.W.findIn K (.ref C_BadLine) "__class__" = some (some (.builtin "object.__class__")))
    (mr_BadLine : PySem.W.mroIn K C_BadLine (.type "object") = some true)
    (ss_BadLine : PySem.W.subIn K (.ref C_BadLine) (.ref C_BadLine) = some true)
    (no_BadLine_line : PySem.W.findIn K (.ref C_BadLine) "line" = some none)
    (x_DuplicateName : K.lookup C_DuplicateName = some (PySem.excClassObj nm_DuplicateName qq_DuplicateName C_DuplicateName N_DuplicateName bs_DuplicateName [.ref C_AgreeError, .type "ValueError", .type "Exception", .type "BaseException", .type "object"] true sn_DuplicateName sub_DuplicateName ab_DuplicateName col_DuplicateName dd_DuplicateName m0_DuplicateName m1_DuplicateName m2_DuplicateName m3_DuplicateName m5_DuplicateName "ValueError.__new__"))
    (sa_DuplicateName : PySem.W.findIn K (.ref C_DuplicateName) "__setattr__" = some (some (.builtin "object.__setattr__")))
    (ga_DuplicateName : PySem.W.findIn K (.ref C_DuplicateName) "__getattribute__" = some (some (.builtin "BaseException.__getattribute__")))
    (gg_DuplicateName : PySem.W.findIn K (.ref C_DuplicateName) "__getattr__" = some none)
    (eb_DuplicateName : PySem.W.subIn K (.ref C_DuplicateName) (.type "BaseException") = some true)
    (ty_DuplicateName : PySem.W.typeIn K (.ref C_DuplicateName) = some (.type "type"))
    (hd_DuplicateName : PySem.W.hasDictIn K C_DuplicateName = true)
    (kp_DuplicateName : PySem.W.keepIn K (.ref C_DuplicateName) = true)
    (ca_DuplicateName : PySem.W.findIn K (.ref C_DuplicateName) "__class__" = some (some (.builtin "object.__class__")))
    (mr_DuplicateName : PySem.W.mroIn K C_DuplicateName (.type "object") = some true)
    (ss_DuplicateName : PySem.W.subIn K (.ref C_DuplicateName) (.ref C_DuplicateName) = some true)
    (no_DuplicateName_line : PySem.W.findIn K (.ref C_DuplicateName) "line" = some none)
    (no_DuplicateName_name : PySem.W.findIn K (.ref C_DuplicateName) "name" = some none)
    (x_UnknownName : K.lookup C_UnknownName = some (PySem.excClassObj nm_UnknownName qq_UnknownName C_UnknownName N_UnknownName bs_UnknownName [.ref C_AgreeError, .type "ValueError", .type "Exception", .type "BaseException", .type "object"] true sn_UnknownName sub_UnknownName ab_UnknownName col_UnknownName dd_UnknownName m0_UnknownName m1_UnknownName m2_UnknownName m3_UnknownName m5_UnknownName "ValueError.__new__"))
    (sa_UnknownName : PySem.W.findIn K (.ref C_UnknownName) "__setattr__" = some (some (.builtin "object.__setattr__")))
    (ga_UnknownName : PySem.W.findIn K (.ref C_UnknownName) "__getattribute__" = some (some (.builtin "BaseException.__getattribute__")))
    (gg_UnknownName : PySem.W.findIn K (.ref C_UnknownName) "__getattr__" = some none)
    (eb_UnknownName : PySem.W.subIn K (.ref C_UnknownName) (.type "BaseException") = some true)
    (ty_UnknownName : PySem.W.typeIn K (.ref C_UnknownName) = some (.type "type"))
    (hd_UnknownName : PySem.W.hasDictIn K C_UnknownName = true)
    (kp_UnknownName : PySem.W.keepIn K (.ref C_UnknownName) = true)
    (ca_UnknownName : PySem.W.findIn K (.ref C_UnknownName) "__class__" = some (some (.builtin "object.__class__")))
    (mr_UnknownName : PySem.W.mroIn K C_UnknownName (.type "object") = some true)
    (ss_UnknownName : PySem.W.subIn K (.ref C_UnknownName) (.ref C_UnknownName) = some true)
    (no_UnknownName_line : PySem.W.findIn K (.ref C_UnknownName) "line" = some none)
    (no_UnknownName_name : PySem.W.findIn K (.ref C_UnknownName) "name" = some none)
    (x_WrongTable : K.lookup C_WrongTable = some (PySem.excClassObj nm_WrongTable qq_WrongTable C_WrongTable N_WrongTable bs_WrongTable [.ref C_AgreeError, .type "ValueError", .type "Exception", .type "BaseException", .type "object"] true sn_WrongTable sub_WrongTable ab_WrongTable col_WrongTable dd_WrongTable m0_WrongTable m1_WrongTable m2_WrongTable m3_WrongTable m5_WrongTable "ValueError.__new__"))
    (sa_WrongTable : PySem.W.findIn K (.ref C_WrongTable) "__setattr__" = some (some (.builtin "object.__setattr__")))
    (ga_WrongTable : PySem.W.findIn K (.ref C_WrongTable) "__getattribute__" = some (some (.builtin "BaseException.__getattribute__")))
    (gg_WrongTable : PySem.W.findIn K (.ref C_WrongTable) "__getattr__" = some none)
    (eb_WrongTable : PySem.W.subIn K (.ref C_WrongTable) (.type "BaseException") = some true)
    (ty_WrongTable : PySem.W.typeIn K (.ref C_WrongTable) = some (.type "type"))
    (hd_WrongTable : PySem.W.hasDictIn K C_WrongTable = true)
    (kp_WrongTable : PySem.W.keepIn K (.ref C_WrongTable) = true)
    (ca_WrongTable : PySem.W.findIn K (.ref C_WrongTable) "__class__" = some (some (.builtin "object.__class__")))
    (mr_WrongTable : PySem.W.mroIn K C_WrongTable (.type "object") = some true)
    (ss_WrongTable : PySem.W.subIn K (.ref C_WrongTable) (.ref C_WrongTable) = some true)
    (no_WrongTable_line : PySem.W.findIn K (.ref C_WrongTable) "line" = some none)
    (no_WrongTable_name : PySem.W.findIn K (.ref C_WrongTable) "name" = some none)
    (x_WrongCount : K.lookup C_WrongCount = some (PySem.excClassObj nm_WrongCount qq_WrongCount C_WrongCount N_WrongCount bs_WrongCount [.ref C_AgreeError, .type "ValueError", .type "Exception", .type "BaseException", .type "object"] true sn_WrongCount sub_WrongCount ab_WrongCount col_WrongCount dd_WrongCount m0_WrongCount m1_WrongCount m2_WrongCount m3_WrongCount m5_WrongCount "ValueError.__new__"))
    (sa_WrongCount : PySem.W.findIn K (.ref C_WrongCount) "__setattr__" = some (some (.builtin "object.__setattr__")))
    (ga_WrongCount : PySem.W.findIn K (.ref C_WrongCount) "__getattribute__" = some (some (.builtin "BaseException.__getattribute__")))
    (gg_WrongCount : PySem.W.findIn K (.ref C_WrongCount) "__getattr__" = some none)
    (eb_WrongCount : PySem.W.subIn K (.ref C_WrongCount) (.type "BaseException") = some true)
    (ty_WrongCount : PySem.W.typeIn K (.ref C_WrongCount) = some (.type "type"))
    (hd_WrongCount : PySem.W.hasDictIn K C_WrongCount = true)
    (kp_WrongCount : PySem.W.keepIn K (.ref C_WrongCount) = true)
    (ca_WrongCount : PySem.W.findIn K (.ref C_WrongCount) "__class__" = some (some (.builtin "object.__class__")))
    (mr_WrongCount : PySem.W.mroIn K C_WrongCount (.type "object") = some true)
    (ss_WrongCount : PySem.W.subIn K (.ref C_WrongCount) (.ref C_WrongCount) = some true)
    (no_WrongCount_line : PySem.W.findIn K (.ref C_WrongCount) "line" = some none)
    (x_TooMany : K.lookup C_TooMany = some (PySem.excClassObj nm_TooMany qq_TooMany C_TooMany N_TooMany bs_TooMany [.ref C_AgreeError, .type "ValueError", .type "Exception", .type "BaseException", .type "object"] true sn_TooMany sub_TooMany ab_TooMany col_TooMany dd_TooMany m0_TooMany m1_TooMany m2_TooMany m3_TooMany m5_TooMany "ValueError.__new__"))
    (sa_TooMany : PySem.W.findIn K (.ref C_TooMany) "__setattr__" = some (some (.builtin "object.__setattr__")))
    (ga_TooMany : PySem.W.findIn K (.ref C_TooMany) "__getattribute__" = some (some (.builtin "BaseException.__getattribute__")))
    (gg_TooMany : PySem.W.findIn K (.ref C_TooMany) "__getattr__" = some none)
    (eb_TooMany : PySem.W.subIn K (.ref C_TooMany) (.type "BaseException") = some true)
    (ty_TooMany : PySem.W.typeIn K (.ref C_TooMany) = some (.type "type"))
    (hd_TooMany : PySem.W.hasDictIn K C_TooMany = true)
    (kp_TooMany : PySem.W.keepIn K (.ref C_TooMany) = true)
    (ca_TooMany : PySem.W.findIn K (.ref C_TooMany) "__class__" = some (some (.builtin "object.__class__")))
    (mr_TooMany : PySem.W.mroIn K C_TooMany (.type "object") = some true)
    (ss_TooMany : PySem.W.subIn K (.ref C_TooMany) (.ref C_TooMany) = some true)
    (no_TooMany_line : PySem.W.findIn K (.ref C_TooMany) "line" = some none)
    (x_BadPattern : K.lookup C_BadPattern = some (PySem.excClassObj nm_BadPattern qq_BadPattern C_BadPattern N_BadPattern bs_BadPattern [.ref C_AgreeError, .type "ValueError", .type "Exception", .type "BaseException", .type "object"] true sn_BadPattern sub_BadPattern ab_BadPattern col_BadPattern dd_BadPattern m0_BadPattern m1_BadPattern m2_BadPattern m3_BadPattern m5_BadPattern "ValueError.__new__"))
    (sa_BadPattern : PySem.W.findIn K (.ref C_BadPattern) "__setattr__" = some (some (.builtin "object.__setattr__")))
    (ga_BadPattern : PySem.W.findIn K (.ref C_BadPattern) "__getattribute__" = some (some (.builtin "BaseException.__getattribute__")))
    (gg_BadPattern : PySem.W.findIn K (.ref C_BadPattern) "__getattr__" = some none)
    (eb_BadPattern : PySem.W.subIn K (.ref C_BadPattern) (.type "BaseException") = some true)
    (ty_BadPattern : PySem.W.typeIn K (.ref C_BadPattern) = some (.type "type"))
    (hd_BadPattern : PySem.W.hasDictIn K C_BadPattern = true)
    (kp_BadPattern : PySem.W.keepIn K (.ref C_BadPattern) = true)
    (ca_BadPattern : PySem.W.findIn K (.ref C_BadPattern) "__class__" = some (some (.builtin "object.__class__")))
    (mr_BadPattern : PySem.W.mroIn K C_BadPattern (.type "object") = some true)
    (ss_BadPattern : PySem.W.subIn K (.ref C_BadPattern) (.ref C_BadPattern) = some true)
    (no_BadPattern_place : PySem.W.findIn K (.ref C_BadPattern) "place" = some none)
    (x_ConstantsMeet : K.lookup C_ConstantsMeet = some (PySem.excClassObj nm_ConstantsMeet qq_ConstantsMeet C_ConstantsMeet N_ConstantsMeet bs_ConstantsMeet [.ref C_AgreeError, .type "ValueError", .type "Exception", .type "BaseException", .type "object"] true sn_ConstantsMeet sub_ConstantsMeet ab_ConstantsMeet col_ConstantsMeet dd_ConstantsMeet m0_ConstantsMeet m1_ConstantsMeet m2_ConstantsMeet m3_ConstantsMeet m5_ConstantsMeet "ValueError.__new__"))
    (sa_ConstantsMeet : PySem.W.findIn K (.ref C_ConstantsMeet) "__setattr__" = some (some (.builtin "object.__setattr__")))
    (ga_ConstantsMeet : PySem.W.findIn K (.ref C_ConstantsMeet) "__getattribute__" = some (some (.builtin "BaseException.__getattribute__")))
    (gg_ConstantsMeet : PySem.W.findIn K (.ref C_ConstantsMeet) "__getattr__" = some none)
    (eb_ConstantsMeet : PySem.W.subIn K (.ref C_ConstantsMeet) (.type "BaseException") = some true)
    (ty_ConstantsMeet : PySem.W.typeIn K (.ref C_ConstantsMeet) = some (.type "type"))
    (hd_ConstantsMeet : PySem.W.hasDictIn K C_ConstantsMeet = true)
    (kp_ConstantsMeet : PySem.W.keepIn K (.ref C_ConstantsMeet) = true)
    (ca_ConstantsMeet : PySem.W.findIn K (.ref C_ConstantsMeet) "__class__" = some (some (.builtin "object.__class__")))
    (mr_ConstantsMeet : PySem.W.mroIn K C_ConstantsMeet (.type "object") = some true)
    (ss_ConstantsMeet : PySem.W.subIn K (.ref C_ConstantsMeet) (.ref C_ConstantsMeet) = some true)
    (no_ConstantsMeet_first : PySem.W.findIn K (.ref C_ConstantsMeet) "first" = some none)
    (no_ConstantsMeet_second : PySem.W.findIn K (.ref C_ConstantsMeet) "second" = some none)
    (xi_OtherPlaces : PySem.W.excIn K C_OtherPlaces [.type "ValueError", .type "Exception", .type "BaseException", .type "object"] "ValueError.__new__" = true)
    (ga_OtherPlaces : PySem.W.findIn K (.ref C_OtherPlaces) "__getattribute__" = some (some (.builtin "BaseException.__getattribute__")))
    (gg_OtherPlaces : PySem.W.findIn K (.ref C_OtherPlaces) "__getattr__" = some none)
    (eb_OtherPlaces : PySem.W.subIn K (.ref C_OtherPlaces) (.type "BaseException") = some true)
    (ty_OtherPlaces : PySem.W.typeIn K (.ref C_OtherPlaces) = some (.type "type"))
    (hd_OtherPlaces : PySem.W.hasDictIn K C_OtherPlaces = true)
    (kp_OtherPlaces : PySem.W.keepIn K (.ref C_OtherPlaces) = true)
    (ca_OtherPlaces : PySem.W.findIn K (.ref C_OtherPlaces) "__class__" = some (some (.builtin "object.__class__")))
    (mr_OtherPlaces : PySem.W.mroIn K C_OtherPlaces (.type "object") = some true)
    (ss_OtherPlaces : PySem.W.subIn K (.ref C_OtherPlaces) (.ref C_OtherPlaces) = some true)
    (xi_OtherSchema : PySem.W.excIn K C_OtherSchema [.type "ValueError", .type "Exception", .type "BaseException", .type "object"] "ValueError.__new__" = true)
    (ga_OtherSchema : PySem.W.findIn K (.ref C_OtherSchema) "__getattribute__" = some (some (.builtin "BaseException.__getattribute__")))
    (gg_OtherSchema : PySem.W.findIn K (.ref C_OtherSchema) "__getattr__" = some none)
    (eb_OtherSchema : PySem.W.subIn K (.ref C_OtherSchema) (.type "BaseException") = some true)
    (ty_OtherSchema : PySem.W.typeIn K (.ref C_OtherSchema) = some (.type "type"))
    (hd_OtherSchema : PySem.W.hasDictIn K C_OtherSchema = true)
    (kp_OtherSchema : PySem.W.keepIn K (.ref C_OtherSchema) = true)
    (ca_OtherSchema : PySem.W.findIn K (.ref C_OtherSchema) "__class__" = some (some (.builtin "object.__class__")))
    (mr_OtherSchema : PySem.W.mroIn K C_OtherSchema (.type "object") = some true)
    (ss_OtherSchema : PySem.W.subIn K (.ref C_OtherSchema) (.ref C_OtherSchema) = some true)
    (x_BadValue : K.lookup C_BadValue = some (PySem.excClassObj nm_BadValue qq_BadValue C_BadValue N_BadValue bs_BadValue [.ref C_AgreeError, .type "ValueError", .type "Exception", .type "BaseException", .type "object"] true sn_BadValue sub_BadValue ab_BadValue col_BadValue dd_BadValue m0_BadValue m1_BadValue m2_BadValue m3_BadValue m5_BadValue "ValueError.__new__"))
    (sa_BadValue : PySem.W.findIn K (.ref C_BadValue) "__setattr__" = some (some (.builtin "object.__setattr__")))
    (ga_BadValue : PySem.W.findIn K (.ref C_BadValue) "__getattribute__" = some (some (.builtin "BaseException.__getattribute__")))
    (gg_BadValue : PySem.W.findIn K (.ref C_BadValue) "__getattr__" = some none)
    (eb_BadValue : PySem.W.subIn K (.ref C_BadValue) (.type "BaseException") = some true)
    (ty_BadValue : PySem.W.typeIn K (.ref C_BadValue) = some (.type "type"))
    (hd_BadValue : PySem.W.hasDictIn K C_BadValue = true)
    (kp_BadValue : PySem.W.keepIn K (.ref C_BadValue) = true)
    (ca_BadValue : PySem.W.findIn K (.ref C_BadValue) "__class__" = some (some (.builtin "object.__class__")))
    (mr_BadValue : PySem.W.mroIn K C_BadValue (.type "object") = some true)
    (ss_BadValue : PySem.W.subIn K (.ref C_BadValue) (.ref C_BadValue) = some true)
    (no_BadValue_value : PySem.W.findIn K (.ref C_BadValue) "value" = some none)
    (x_NoRow : K.lookup C_NoRow = some (PySem.excClassObj nm_NoRow qq_NoRow C_NoRow N_NoRow bs_NoRow [.ref C_AgreeError, .type "ValueError", .type "Exception", .type "BaseException", .type "object"] true sn_NoRow sub_NoRow ab_NoRow col_NoRow dd_NoRow m0_NoRow m1_NoRow m2_NoRow m3_NoRow m5_NoRow "ValueError.__new__"))
    (sa_NoRow : PySem.W.findIn K (.ref C_NoRow) "__setattr__" = some (some (.builtin "object.__setattr__")))
    (ga_NoRow : PySem.W.findIn K (.ref C_NoRow) "__getattribute__" = some (some (.builtin "BaseException.__getattribute__")))
    (gg_NoRow : PySem.W.findIn K (.ref C_NoRow) "__getattr__" = some none)
    (eb_NoRow : PySem.W.subIn K (.ref C_NoRow) (.type "BaseException") = some true)
    (ty_NoRow : PySem.W.typeIn K (.ref C_NoRow) = some (.type "type"))
    (hd_NoRow : PySem.W.hasDictIn K C_NoRow = true)
    (kp_NoRow : PySem.W.keepIn K (.ref C_NoRow) = true)
    (ca_NoRow : PySem.W.findIn K (.ref C_NoRow) "__class__" = some (some (.builtin "object.__class__")))
    (mr_NoRow : PySem.W.mroIn K C_NoRow (.type "object") = some true)
    (ss_NoRow : PySem.W.subIn K (.ref C_NoRow) (.ref C_NoRow) = some true)
    (no_NoRow_table : PySem.W.findIn K (.ref C_NoRow) "table" = some none)
    (no_NoRow_number : PySem.W.findIn K (.ref C_NoRow) "number" = some none)
    (x_Refused : K.lookup C_Refused = some (PySem.excClassObj nm_Refused qq_Refused C_Refused N_Refused bs_Refused [.ref C_AgreeError, .type "ValueError", .type "Exception", .type "BaseException", .type "object"] true sn_Refused sub_Refused ab_Refused col_Refused dd_Refused m0_Refused m1_Refused m2_Refused m3_Refused m5_Refused "ValueError.__new__"))
    (sa_Refused : PySem.W.findIn K (.ref C_Refused) "__setattr__" = some (some (.builtin "object.__setattr__")))
    (ga_Refused : PySem.W.findIn K (.ref C_Refused) "__getattribute__" = some (some (.builtin "BaseException.__getattribute__")))
    (gg_Refused : PySem.W.findIn K (.ref C_Refused) "__getattr__" = some none)
    (eb_Refused : PySem.W.subIn K (.ref C_Refused) (.type "BaseException") = some true)
    (ty_Refused : PySem.W.typeIn K (.ref C_Refused) = some (.type "type"))
    (hd_Refused : PySem.W.hasDictIn K C_Refused = true)
    (kp_Refused : PySem.W.keepIn K (.ref C_Refused) = true)
    (ca_Refused : PySem.W.findIn K (.ref C_Refused) "__class__" = some (some (.builtin "object.__class__")))
    (mr_Refused : PySem.W.mroIn K C_Refused (.type "object") = some true)
    (ss_Refused : PySem.W.subIn K (.ref C_Refused) (.ref C_Refused) = some true)
    (no_Refused_handler : PySem.W.findIn K (.ref C_Refused) "handler" = some none)
    (no_Refused_guard : PySem.W.findIn K (.ref C_Refused) "guard" = some none)
    (no_Refused_agreement : PySem.W.findIn K (.ref C_Refused) "agreement" = some none)
    (no_Refused_number : PySem.W.findIn K (.ref C_Refused) "number" = some none)
    (x_Broken : K.lookup C_Broken = some (PySem.excClassObj nm_Broken qq_Broken C_Broken N_Broken bs_Broken [.ref C_AgreeError, .type "ValueError", .type "Exception", .type "BaseException", .type "object"] true sn_Broken sub_Broken ab_Broken col_Broken dd_Broken m0_Broken m1_Broken m2_Broken m3_Broken m5_Broken "ValueError.__new__"))
    (sa_Broken : PySem.W.findIn K (.ref C_Broken) "__setattr__" = some (some (.builtin "object.__setattr__")))
    (ga_Broken : PySem.W.findIn K (.ref C_Broken) "__getattribute__" = some (some (.builtin "BaseException.__getattribute__")))
    (gg_Broken : PySem.W.findIn K (.ref C_Broken) "__getattr__" = some none)
    (eb_Broken : PySem.W.subIn K (.ref C_Broken) (.type "BaseException") = some true)
    (ty_Broken : PySem.W.typeIn K (.ref C_Broken) = some (.type "type"))
    (hd_Broken : PySem.W.hasDictIn K C_Broken = true)
    (kp_Broken : PySem.W.keepIn K (.ref C_Broken) = true)
    (ca_Broken : PySem.W.findIn K (.ref C_Broken) "__class__" = some (some (.builtin "object.__class__")))
    (mr_Broken : PySem.W.mroIn K C_Broken (.type "object") = some true)
    (ss_Broken : PySem.W.subIn K (.ref C_Broken) (.ref C_Broken) = some true)
    (no_Broken_agreement : PySem.W.findIn K (.ref C_Broken) "agreement" = some none)
    (no_Broken_number : PySem.W.findIn K (.ref C_Broken) "number" = some none)
    (xi_BadCase : PySem.W.excIn K C_BadCase [.type "ValueError", .type "Exception", .type "BaseException", .type "object"] "ValueError.__new__" = true)
    (ga_BadCase : PySem.W.findIn K (.ref C_BadCase) "__getattribute__" = some (some (.builtin "BaseException.__getattribute__")))
    (gg_BadCase : PySem.W.findIn K (.ref C_BadCase) "__getattr__" = some none)
    (eb_BadCase : PySem.W.subIn K (.ref C_BadCase) (.type "BaseException") = some true)
    (ty_BadCase : PySem.W.typeIn K (.ref C_BadCase) = some (.type "type"))
    (hd_BadCase : PySem.W.hasDictIn K C_BadCase = true)
    (kp_BadCase : PySem.W.keepIn K (.ref C_BadCase) = true)
    (ca_BadCase : PySem.W.findIn K (.ref C_BadCase) "__class__" = some (some (.builtin "object.__class__")))
    (mr_BadCase : PySem.W.mroIn K C_BadCase (.type "object") = some true)
    (ss_BadCase : PySem.W.subIn K (.ref C_BadCase) (.ref C_BadCase) = some true)
    (x_TooManyPatterns : K.lookup C_TooManyPatterns = some (PySem.excClassObj nm_TooManyPatterns qq_TooManyPatterns C_TooManyPatterns N_TooManyPatterns bs_TooManyPatterns [.ref C_AgreeError, .type "ValueError", .type "Exception", .type "BaseException", .type "object"] true sn_TooManyPatterns sub_TooManyPatterns ab_TooManyPatterns col_TooManyPatterns dd_TooManyPatterns m0_TooManyPatterns m1_TooManyPatterns m2_TooManyPatterns m3_TooManyPatterns m5_TooManyPatterns "ValueError.__new__"))
    (sa_TooManyPatterns : PySem.W.findIn K (.ref C_TooManyPatterns) "__setattr__" = some (some (.builtin "object.__setattr__")))
    (ga_TooManyPatterns : PySem.W.findIn K (.ref C_TooManyPatterns) "__getattribute__" = some (some (.builtin "BaseException.__getattribute__")))
    (gg_TooManyPatterns : PySem.W.findIn K (.ref C_TooManyPatterns) "__getattr__" = some none)
    (eb_TooManyPatterns : PySem.W.subIn K (.ref C_TooManyPatterns) (.type "BaseException") = some true)
    (ty_TooManyPatterns : PySem.W.typeIn K (.ref C_TooManyPatterns) = some (.type "type"))
    (hd_TooManyPatterns : PySem.W.hasDictIn K C_TooManyPatterns = true)
    (kp_TooManyPatterns : PySem.W.keepIn K (.ref C_TooManyPatterns) = true)
    (ca_TooManyPatterns : PySem.W.findIn K (.ref C_TooManyPatterns) "__class__" = some (some (.builtin "object.__class__")))
    (mr_TooManyPatterns : PySem.W.mroIn K C_TooManyPatterns (.type "object") = some true)
    (ss_TooManyPatterns : PySem.W.subIn K (.ref C_TooManyPatterns) (.ref C_TooManyPatterns) = some true)
    (no_TooManyPatterns_table : PySem.W.findIn K (.ref C_TooManyPatterns) "table" = some none)
    (x_BadDerivation : K.lookup C_BadDerivation = some (PySem.excClassObj nm_BadDerivation qq_BadDerivation C_BadDerivation N_BadDerivation bs_BadDerivation [.ref C_AgreeError, .type "ValueError", .type "Exception", .type "BaseException", .type "object"] true sn_BadDerivation sub_BadDerivation ab_BadDerivation col_BadDerivation dd_BadDerivation m0_BadDerivation m1_BadDerivation m2_BadDerivation m3_BadDerivation m5_BadDerivation "ValueError.__new__"))
    (sa_BadDerivation : PySem.W.findIn K (.ref C_BadDerivation) "__setattr__" = some (some (.builtin "object.__setattr__")))
    (ga_BadDerivation : PySem.W.findIn K (.ref C_BadDerivation) "__getattribute__" = some (some (.builtin "BaseException.__getattribute__")))
    (gg_BadDerivation : PySem.W.findIn K (.ref C_BadDerivation) "__getattr__" = some none)
    (eb_BadDerivation : PySem.W.subIn K (.ref C_BadDerivation) (.type "BaseException") = some true)
    (ty_BadDerivation : PySem.W.typeIn K (.ref C_BadDerivation) = some (.type "type"))
    (hd_BadDerivation : PySem.W.hasDictIn K C_BadDerivation = true)
    (kp_BadDerivation : PySem.W.keepIn K (.ref C_BadDerivation) = true)
    (ca_BadDerivation : PySem.W.findIn K (.ref C_BadDerivation) "__class__" = some (some (.builtin "object.__class__")))
    (mr_BadDerivation : PySem.W.mroIn K C_BadDerivation (.type "object") = some true)
    (ss_BadDerivation : PySem.W.subIn K (.ref C_BadDerivation) (.ref C_BadDerivation) = some true)
    (no_BadDerivation_line : PySem.W.findIn K (.ref C_BadDerivation) "line" = some none)
    (xi_NotReachable : PySem.W.excIn K C_NotReachable [.type "ValueError", .type "Exception", .type "BaseException", .type "object"] "ValueError.__new__" = true)
    (ga_NotReachable : PySem.W.findIn K (.ref C_NotReachable) "__getattribute__" = some (some (.builtin "BaseException.__getattribute__")))
    (gg_NotReachable : PySem.W.findIn K (.ref C_NotReachable) "__getattr__" = some none)
    (eb_NotReachable : PySem.W.subIn K (.ref C_NotReachable) (.type "BaseException") = some true)
    (ty_NotReachable : PySem.W.typeIn K (.ref C_NotReachable) = some (.type "type"))
    (hd_NotReachable : PySem.W.hasDictIn K C_NotReachable = true)
    (kp_NotReachable : PySem.W.keepIn K (.ref C_NotReachable) = true)
    (ca_NotReachable : PySem.W.findIn K (.ref C_NotReachable) "__class__" = some (some (.builtin "object.__class__")))
    (mr_NotReachable : PySem.W.mroIn K C_NotReachable (.type "object") = some true)
    (ss_NotReachable : PySem.W.subIn K (.ref C_NotReachable) (.ref C_NotReachable) = some true)
    (x_TooLong : K.lookup C_TooLong = some (PySem.excClassObj nm_TooLong qq_TooLong C_TooLong N_TooLong bs_TooLong [.ref C_AgreeError, .type "ValueError", .type "Exception", .type "BaseException", .type "object"] true sn_TooLong sub_TooLong ab_TooLong col_TooLong dd_TooLong m0_TooLong m1_TooLong m2_TooLong m3_TooLong m5_TooLong "ValueError.__new__"))
    (sa_TooLong : PySem.W.findIn K (.ref C_TooLong) "__setattr__" = some (some (.builtin "object.__setattr__")))
    (ga_TooLong : PySem.W.findIn K (.ref C_TooLong) "__getattribute__" = some (some (.builtin "BaseException.__getattribute__")))
    (gg_TooLong : PySem.W.findIn K (.ref C_TooLong) "__getattr__" = some none)
    (eb_TooLong : PySem.W.subIn K (.ref C_TooLong) (.type "BaseException") = some true)
    (ty_TooLong : PySem.W.typeIn K (.ref C_TooLong) = some (.type "type"))
    (hd_TooLong : PySem.W.hasDictIn K C_TooLong = true)
    (kp_TooLong : PySem.W.keepIn K (.ref C_TooLong) = true)
    (ca_TooLong : PySem.W.findIn K (.ref C_TooLong) "__class__" = some (some (.builtin "object.__class__")))
    (mr_TooLong : PySem.W.mroIn K C_TooLong (.type "object") = some true)
    (ss_TooLong : PySem.W.subIn K (.ref C_TooLong) (.ref C_TooLong) = some true)
    (no_TooLong_size : PySem.W.findIn K (.ref C_TooLong) "size" = some none)
    (xi_NotComparable : PySem.W.excIn K C_NotComparable [.type "ValueError", .type "Exception", .type "BaseException", .type "object"] "ValueError.__new__" = true)
    (ga_NotComparable : PySem.W.findIn K (.ref C_NotComparable) "__getattribute__" = some (some (.builtin "BaseException.__getattribute__")))
    (gg_NotComparable : PySem.W.findIn K (.ref C_NotComparable) "__getattr__" = some none)
    (eb_NotComparable : PySem.W.subIn K (.ref C_NotComparable) (.type "BaseException") = some true)
    (ty_NotComparable : PySem.W.typeIn K (.ref C_NotComparable) = some (.type "type"))
    (hd_NotComparable : PySem.W.hasDictIn K C_NotComparable = true)
    (kp_NotComparable : PySem.W.keepIn K (.ref C_NotComparable) = true)
    (ca_NotComparable : PySem.W.findIn K (.ref C_NotComparable) "__class__" = some (some (.builtin "object.__class__")))
    (mr_NotComparable : PySem.W.mroIn K C_NotComparable (.type "object") = some true)
    (ss_NotComparable : PySem.W.subIn K (.ref C_NotComparable) (.ref C_NotComparable) = some true)
    (x_BadOffer : K.lookup C_BadOffer = some (PySem.excClassObj nm_BadOffer qq_BadOffer C_BadOffer N_BadOffer bs_BadOffer [.ref C_AgreeError, .type "ValueError", .type "Exception", .type "BaseException", .type "object"] true sn_BadOffer sub_BadOffer ab_BadOffer col_BadOffer dd_BadOffer m0_BadOffer m1_BadOffer m2_BadOffer m3_BadOffer m5_BadOffer "ValueError.__new__"))
    (sa_BadOffer : PySem.W.findIn K (.ref C_BadOffer) "__setattr__" = some (some (.builtin "object.__setattr__")))
    (ga_BadOffer : PySem.W.findIn K (.ref C_BadOffer) "__getattribute__" = some (some (.builtin "BaseException.__getattribute__")))
    (gg_BadOffer : PySem.W.findIn K (.ref C_BadOffer) "__getattr__" = some none)
    (eb_BadOffer : PySem.W.subIn K (.ref C_BadOffer) (.type "BaseException") = some true)
    (ty_BadOffer : PySem.W.typeIn K (.ref C_BadOffer) = some (.type "type"))
    (hd_BadOffer : PySem.W.hasDictIn K C_BadOffer = true)
    (kp_BadOffer : PySem.W.keepIn K (.ref C_BadOffer) = true)
    (ca_BadOffer : PySem.W.findIn K (.ref C_BadOffer) "__class__" = some (some (.builtin "object.__class__")))
    (mr_BadOffer : PySem.W.mroIn K C_BadOffer (.type "object") = some true)
    (ss_BadOffer : PySem.W.subIn K (.ref C_BadOffer) (.ref C_BadOffer) = some true)
    (no_BadOffer_number : PySem.W.findIn K (.ref C_BadOffer) "number" = some none)
    (a_BadLine___init__ : PySem.W.findIn K (.ref C_BadLine) "__init__" = some (some (.ref f_BadLine___init__))) (i_BadLine___init__ : PySem.W.typeIn K (.ref f_BadLine___init__) = some (.type "function"))
    (l_BadLine___init__ : K.lookup f_BadLine___init__ = some ⟨oc_BadLine___init__, od_BadLine___init__, .func (PySem.W.fnOf "__init__" "BadLine.__init__" (defArgs (inClass (topS 2) 0)) (defBody (inClass (topS 2) 0)) (defScope (inClass (topS 2) 0)) .none kV_BadLine___init__ dc_BadLine___init__ pm_BadLine___init__ an_BadLine___init__ cd_BadLine___init__ ct_BadLine___init__), sl_BadLine___init__⟩)
    (o_BadLine___init__ : PySem.W.codeIn K cd_BadLine___init__ "BadLine.__init__" = true) (k_BadLine___init__ : PySem.W.keepIn K (.ref f_BadLine___init__) = true)
    (a_DuplicateName___init__ : PySem.W.findIn K (.ref C_DuplicateName) "__init__" = some (some (.ref f_DuplicateName___init__))) (i_DuplicateName___init__ : PySem.W.typeIn K (.ref f_DuplicateName___init__) = some (.type "function"))
    (l_DuplicateName___init__ : K.lookup f_DuplicateName___init__ = some ⟨oc_DuplicateName___init__, od_DuplicateName___init__, .func (PySem.W.fnOf "__init__" "DuplicateName.__init__" (defArgs (inClass (topS 3) 0)) (defBody (inClass (topS 3) 0)) (defScope (inClass (topS 3) 0)) .none kV_DuplicateName___init__ dc_DuplicateName___init__ pm_DuplicateName___init__ an_DuplicateName___init__ cd_DuplicateName___init__ ct_DuplicateName___init__), sl_DuplicateName___init__⟩)
    (o_DuplicateName___init__ : PySem.W.codeIn K cd_DuplicateName___init__ "DuplicateName.__init__" = true) (k_DuplicateName___init__ : PySem.W.keepIn K (.ref f_DuplicateName___init__) = true)
    (a_UnknownName___init__ : PySem.W.findIn K (.ref C_UnknownName) "__init__" = some (some (.ref f_UnknownName___init__))) (i_UnknownName___init__ : PySem.W.typeIn K (.ref f_UnknownName___init__) = some (.type "function"))
    (l_UnknownName___init__ : K.lookup f_UnknownName___init__ = some ⟨oc_UnknownName___init__, od_UnknownName___init__, .func (PySem.W.fnOf "__init__" "UnknownName.__init__" (defArgs (inClass (topS 4) 0)) (defBody (inClass (topS 4) 0)) (defScope (inClass (topS 4) 0)) .none kV_UnknownName___init__ dc_UnknownName___init__ pm_UnknownName___init__ an_UnknownName___init__ cd_UnknownName___init__ ct_UnknownName___init__), sl_UnknownName___init__⟩)
    (o_UnknownName___init__ : PySem.W.codeIn K cd_UnknownName___init__ "UnknownName.__init__" = true) (k_UnknownName___init__ : PySem.W.keepIn K (.ref f_UnknownName___init__) = true)
    (a_WrongTable___init__ : PySem.W.findIn K (.ref C_WrongTable) "__init__" = some (some (.ref f_WrongTable___init__))) (i_WrongTable___init__ : PySem.W.typeIn K (.ref f_WrongTable___init__) = some (.type "function"))
    (l_WrongTable___init__ : K.lookup f_WrongTable___init__ = some ⟨oc_WrongTable___init__, od_WrongTable___init__, .func (PySem.W.fnOf "__init__" "WrongTable.__init__" (defArgs (inClass (topS 5) 0)) (defBody (inClass (topS 5) 0)) (defScope (inClass (topS 5) 0)) .none kV_WrongTable___init__ dc_WrongTable___init__ pm_WrongTable___init__ an_WrongTable___init__ cd_WrongTable___init__ ct_WrongTable___init__), sl_WrongTable___init__⟩)
    (o_WrongTable___init__ : PySem.W.codeIn K cd_WrongTable___init__ "WrongTable.__init__" = true) (k_WrongTable___init__ : PySem.W.keepIn K (.ref f_WrongTable___init__) = true)
    (a_WrongCount___init__ : PySem.W.findIn K (.ref C_WrongCount) "__init__" = some (some (.ref f_WrongCount___init__))) (i_WrongCount___init__ : PySem.W.typeIn K (.ref f_WrongCount___init__) = some (.type "function"))
    (l_WrongCount___init__ : K.lookup f_WrongCount___init__ = some ⟨oc_WrongCount___init__, od_WrongCount___init__, .func (PySem.W.fnOf "__init__" "WrongCount.__init__" (defArgs (inClass (topS 6) 0)) (defBody (inClass (topS 6) 0)) (defScope (inClass (topS 6) 0)) .none kV_WrongCount___init__ dc_WrongCount___init__ pm_WrongCount___init__ an_WrongCount___init__ cd_WrongCount___init__ ct_WrongCount___init__), sl_WrongCount___init__⟩)
    (o_WrongCount___init__ : PySem.W.codeIn K cd_WrongCount___init__ "WrongCount.__init__" = true) (k_WrongCount___init__ : PySem.W.keepIn K (.ref f_WrongCount___init__) = true)
    (a_TooMany___init__ : PySem.W.findIn K (.ref C_TooMany) "__init__" = some (some (.ref f_TooMany___init__))) (i_TooMany___init__ : PySem.W.typeIn K (.ref f_TooMany___init__) = some (.type "function"))
    (l_TooMany___init__ : K.lookup f_TooMany___init__ = some ⟨oc_TooMany___init__, od_TooMany___init__, .func (PySem.W.fnOf "__init__" "TooMany.__init__" (defArgs (inClass (topS 7) 0)) (defBody (inClass (topS 7) 0)) (defScope (inClass (topS 7) 0)) .none kV_TooMany___init__ dc_TooMany___init__ pm_TooMany___init__ an_TooMany___init__ cd_TooMany___init__ ct_TooMany___init__), sl_TooMany___init__⟩)
    (o_TooMany___init__ : PySem.W.codeIn K cd_TooMany___init__ "TooMany.__init__" = true) (k_TooMany___init__ : PySem.W.keepIn K (.ref f_TooMany___init__) = true)
    (a_BadPattern___init__ : PySem.W.findIn K (.ref C_BadPattern) "__init__" = some (some (.ref f_BadPattern___init__))) (i_BadPattern___init__ : PySem.W.typeIn K (.ref f_BadPattern___init__) = some (.type "function"))
    (l_BadPattern___init__ : K.lookup f_BadPattern___init__ = some ⟨oc_BadPattern___init__, od_BadPattern___init__, .func (PySem.W.fnOf "__init__" "BadPattern.__init__" (defArgs (inClass (topS 8) 0)) (defBody (inClass (topS 8) 0)) (defScope (inClass (topS 8) 0)) .none kV_BadPattern___init__ dc_BadPattern___init__ pm_BadPattern___init__ an_BadPattern___init__ cd_BadPattern___init__ ct_BadPattern___init__), sl_BadPattern___init__⟩)
    (o_BadPattern___init__ : PySem.W.codeIn K cd_BadPattern___init__ "BadPattern.__init__" = true) (k_BadPattern___init__ : PySem.W.keepIn K (.ref f_BadPattern___init__) = true)
    (a_ConstantsMeet___init__ : PySem.W.findIn K (.ref C_ConstantsMeet) "__init__" = some (some (.ref f_ConstantsMeet___init__))) (i_ConstantsMeet___init__ : PySem.W.typeIn K (.ref f_ConstantsMeet___init__) = some (.type "function"))
    (l_ConstantsMeet___init__ : K.lookup f_ConstantsMeet___init__ = some ⟨oc_ConstantsMeet___init__, od_ConstantsMeet___init__, .func (PySem.W.fnOf "__init__" "ConstantsMeet.__init__" (defArgs (inClass (topS 9) 0)) (defBody (inClass (topS 9) 0)) (defScope (inClass (topS 9) 0)) .none kV_ConstantsMeet___init__ dc_ConstantsMeet___init__ pm_ConstantsMeet___init__ an_ConstantsMeet___init__ cd_ConstantsMeet___init__ ct_ConstantsMeet___init__), sl_ConstantsMeet___init__⟩)
    (o_ConstantsMeet___init__ : PySem.W.codeIn K cd_ConstantsMeet___init__ "ConstantsMeet.__init__" = true) (k_ConstantsMeet___init__ : PySem.W.keepIn K (.ref f_ConstantsMeet___init__) = true)
    (a_BadValue___init__ : PySem.W.findIn K (.ref C_BadValue) "__init__" = some (some (.ref f_BadValue___init__))) (i_BadValue___init__ : PySem.W.typeIn K (.ref f_BadValue___init__) = some (.type "function"))
    (l_BadValue___init__ : K.lookup f_BadValue___init__ = some ⟨oc_BadValue___init__, od_BadValue___init__, .func (PySem.W.fnOf "__init__" "BadValue.__init__" (defArgs (inClass (topS 12) 0)) (defBody (inClass (topS 12) 0)) (defScope (inClass (topS 12) 0)) .none kV_BadValue___init__ dc_BadValue___init__ pm_BadValue___init__ an_BadValue___init__ cd_BadValue___init__ ct_BadValue___init__), sl_BadValue___init__⟩)
    (o_BadValue___init__ : PySem.W.codeIn K cd_BadValue___init__ "BadValue.__init__" = true) (k_BadValue___init__ : PySem.W.keepIn K (.ref f_BadValue___init__) = true)
    (a_NoRow___init__ : PySem.W.findIn K (.ref C_NoRow) "__init__" = some (some (.ref f_NoRow___init__))) (i_NoRow___init__ : PySem.W.typeIn K (.ref f_NoRow___init__) = some (.type "function"))
    (l_NoRow___init__ : K.lookup f_NoRow___init__ = some ⟨oc_NoRow___init__, od_NoRow___init__, .func (PySem.W.fnOf "__init__" "NoRow.__init__" (defArgs (inClass (topS 13) 0)) (defBody (inClass (topS 13) 0)) (defScope (inClass (topS 13) 0)) .none kV_NoRow___init__ dc_NoRow___init__ pm_NoRow___init__ an_NoRow___init__ cd_NoRow___init__ ct_NoRow___init__), sl_NoRow___init__⟩)
    (o_NoRow___init__ : PySem.W.codeIn K cd_NoRow___init__ "NoRow.__init__" = true) (k_NoRow___init__ : PySem.W.keepIn K (.ref f_NoRow___init__) = true)
    (a_Refused___init__ : PySem.W.findIn K (.ref C_Refused) "__init__" = some (some (.ref f_Refused___init__))) (i_Refused___init__ : PySem.W.typeIn K (.ref f_Refused___init__) = some (.type "function"))
    (l_Refused___init__ : K.lookup f_Refused___init__ = some ⟨oc_Refused___init__, od_Refused___init__, .func (PySem.W.fnOf "__init__" "Refused.__init__" (defArgs (inClass (topS 14) 0)) (defBody (inClass (topS 14) 0)) (defScope (inClass (topS 14) 0)) (.ref T_Refused___init__) kV_Refused___init__ dc_Refused___init__ pm_Refused___init__ an_Refused___init__ cd_Refused___init__ ct_Refused___init__), sl_Refused___init__⟩)
    (lt_Refused___init__ : K.lookup T_Refused___init__ = some ⟨tc_Refused___init__, td_Refused___init__, .seq #[.none, .none] tn_Refused___init__, ts_Refused___init__⟩)
    (o_Refused___init__ : PySem.W.codeIn K cd_Refused___init__ "Refused.__init__" = true) (k_Refused___init__ : PySem.W.keepIn K (.ref f_Refused___init__) = true)
    (a_Broken___init__ : PySem.W.findIn K (.ref C_Broken) "__init__" = some (some (.ref f_Broken___init__))) (i_Broken___init__ : PySem.W.typeIn K (.ref f_Broken___init__) = some (.type "function"))
    (l_Broken___init__ : K.lookup f_Broken___init__ = some ⟨oc_Broken___init__, od_Broken___init__, .func (PySem.W.fnOf "__init__" "Broken.__init__" (defArgs (inClass (topS 15) 0)) (defBody (inClass (topS 15) 0)) (defScope (inClass (topS 15) 0)) .none kV_Broken___init__ dc_Broken___init__ pm_Broken___init__ an_Broken___init__ cd_Broken___init__ ct_Broken___init__), sl_Broken___init__⟩)
    (o_Broken___init__ : PySem.W.codeIn K cd_Broken___init__ "Broken.__init__" = true) (k_Broken___init__ : PySem.W.keepIn K (.ref f_Broken___init__) = true)
    (a_TooManyPatterns___init__ : PySem.W.findIn K (.ref C_TooManyPatterns) "__init__" = some (some (.ref f_TooManyPatterns___init__))) (i_TooManyPatterns___init__ : PySem.W.typeIn K (.ref f_TooManyPatterns___init__) = some (.type "function"))
    (l_TooManyPatterns___init__ : K.lookup f_TooManyPatterns___init__ = some ⟨oc_TooManyPatterns___init__, od_TooManyPatterns___init__, .func (PySem.W.fnOf "__init__" "TooManyPatterns.__init__" (defArgs (inClass (topS 17) 0)) (defBody (inClass (topS 17) 0)) (defScope (inClass (topS 17) 0)) .none kV_TooManyPatterns___init__ dc_TooManyPatterns___init__ pm_TooManyPatterns___init__ an_TooManyPatterns___init__ cd_TooManyPatterns___init__ ct_TooManyPatterns___init__), sl_TooManyPatterns___init__⟩)
    (o_TooManyPatterns___init__ : PySem.W.codeIn K cd_TooManyPatterns___init__ "TooManyPatterns.__init__" = true) (k_TooManyPatterns___init__ : PySem.W.keepIn K (.ref f_TooManyPatterns___init__) = true)
    (a_BadDerivation___init__ : PySem.W.findIn K (.ref C_BadDerivation) "__init__" = some (some (.ref f_BadDerivation___init__))) (i_BadDerivation___init__ : PySem.W.typeIn K (.ref f_BadDerivation___init__) = some (.type "function"))
    (l_BadDerivation___init__ : K.lookup f_BadDerivation___init__ = some ⟨oc_BadDerivation___init__, od_BadDerivation___init__, .func (PySem.W.fnOf "__init__" "BadDerivation.__init__" (defArgs (inClass (topS 18) 0)) (defBody (inClass (topS 18) 0)) (defScope (inClass (topS 18) 0)) .none kV_BadDerivation___init__ dc_BadDerivation___init__ pm_BadDerivation___init__ an_BadDerivation___init__ cd_BadDerivation___init__ ct_BadDerivation___init__), sl_BadDerivation___init__⟩)
    (o_BadDerivation___init__ : PySem.W.codeIn K cd_BadDerivation___init__ "BadDerivation.__init__" = true) (k_BadDerivation___init__ : PySem.W.keepIn K (.ref f_BadDerivation___init__) = true)
    (a_TooLong___init__ : PySem.W.findIn K (.ref C_TooLong) "__init__" = some (some (.ref f_TooLong___init__))) (i_TooLong___init__ : PySem.W.typeIn K (.ref f_TooLong___init__) = some (.type "function"))
    (l_TooLong___init__ : K.lookup f_TooLong___init__ = some ⟨oc_TooLong___init__, od_TooLong___init__, .func (PySem.W.fnOf "__init__" "TooLong.__init__" (defArgs (inClass (topS 20) 0)) (defBody (inClass (topS 20) 0)) (defScope (inClass (topS 20) 0)) .none kV_TooLong___init__ dc_TooLong___init__ pm_TooLong___init__ an_TooLong___init__ cd_TooLong___init__ ct_TooLong___init__), sl_TooLong___init__⟩)
    (o_TooLong___init__ : PySem.W.codeIn K cd_TooLong___init__ "TooLong.__init__" = true) (k_TooLong___init__ : PySem.W.keepIn K (.ref f_TooLong___init__) = true)
    (a_BadOffer___init__ : PySem.W.findIn K (.ref C_BadOffer) "__init__" = some (some (.ref f_BadOffer___init__))) (i_BadOffer___init__ : PySem.W.typeIn K (.ref f_BadOffer___init__) = some (.type "function"))
    (l_BadOffer___init__ : K.lookup f_BadOffer___init__ = some ⟨oc_BadOffer___init__, od_BadOffer___init__, .func (PySem.W.fnOf "__init__" "BadOffer.__init__" (defArgs (inClass (topS 22) 0)) (defBody (inClass (topS 22) 0)) (defScope (inClass (topS 22) 0)) .none kV_BadOffer___init__ dc_BadOffer___init__ pm_BadOffer___init__ an_BadOffer___init__ cd_BadOffer___init__ ct_BadOffer___init__), sl_BadOffer___init__⟩)
    (o_BadOffer___init__ : PySem.W.codeIn K cd_BadOffer___init__ "BadOffer.__init__" = true) (k_BadOffer___init__ : PySem.W.keepIn K (.ref f_BadOffer___init__) = true)
    (a_family : PySem.W.nsIn K mainGlobals "_law_family" = some (some (.ref f_family)))
    (l_family : K.lookup f_family = some ⟨oc_family, od_family, .func (PySem.W.fnOf "_law_family" "_law_family" (defArgs (topS 27)) (defBody (topS 27)) (defScope (topS 27)) .none kV_family dc_family pm_family an_family cd_family ct_family), sl_family⟩)
    (o_family : PySem.W.codeIn K cd_family "_law_family" = true) (k_family : PySem.W.keepIn K (.ref f_family) = true)
    (a_get_kin : PySem.W.nsIn K mainGlobals "_law_get_kin" = some (some (.ref f_get_kin)))
    (l_get_kin : K.lookup f_get_kin = some ⟨oc_get_kin, od_get_kin, .func (PySem.W.fnOf "_law_get_kin" "_law_get_kin" (defArgs (topS 28)) (defBody (topS 28)) (defScope (topS 28)) .none kV_get_kin dc_get_kin pm_get_kin an_get_kin cd_get_kin ct_get_kin), sl_get_kin⟩)
    (o_get_kin : PySem.W.codeIn K cd_get_kin "_law_get_kin" = true) (k_get_kin : PySem.W.keepIn K (.ref f_get_kin) = true)
    (a_caught : PySem.W.nsIn K mainGlobals "_law_caught" = some (some (.ref f_caught)))
    (l_caught : K.lookup f_caught = some ⟨oc_caught, od_caught, .func (PySem.W.fnOf "_law_caught" "_law_caught" (defArgs (topS 31)) (defBody (topS 31)) (defScope (topS 31)) .none kV_caught dc_caught pm_caught an_caught cd_caught ct_caught), sl_caught⟩)
    (o_caught : PySem.W.codeIn K cd_caught "_law_caught" = true) (k_caught : PySem.W.keepIn K (.ref f_caught) = true)
    (a_get_numbers : PySem.W.nsIn K mainGlobals "_law_get_numbers" = some (some (.ref f_get_numbers)))
    (l_get_numbers : K.lookup f_get_numbers = some ⟨oc_get_numbers, od_get_numbers, .func (PySem.W.fnOf "_law_get_numbers" "_law_get_numbers" (defArgs (topS 29)) (defBody (topS 29)) (defScope (topS 29)) .none kV_get_numbers dc_get_numbers pm_get_numbers an_get_numbers cd_get_numbers ct_get_numbers), sl_get_numbers⟩)
    (o_get_numbers : PySem.W.codeIn K cd_get_numbers "_law_get_numbers" = true) (k_get_numbers : PySem.W.keepIn K (.ref f_get_numbers) = true)
    (a_get_others : PySem.W.nsIn K mainGlobals "_law_get_others" = some (some (.ref f_get_others)))
    (l_get_others : K.lookup f_get_others = some ⟨oc_get_others, od_get_others, .func (PySem.W.fnOf "_law_get_others" "_law_get_others" (defArgs (topS 30)) (defBody (topS 30)) (defScope (topS 30)) .none kV_get_others dc_get_others pm_get_others an_get_others cd_get_others ct_get_others), sl_get_others⟩)
    (o_get_others : PySem.W.codeIn K cd_get_others "_law_get_others" = true) (k_get_others : PySem.W.keepIn K (.ref f_get_others) = true)
    (a_draw : PySem.W.nsIn K mainGlobals "_law_draw" = some (some (.ref f_draw)))
    (l_draw : K.lookup f_draw = some ⟨oc_draw, od_draw, .func (PySem.W.fnOf "_law_draw" "_law_draw" (defArgs (topS 25)) (defBody (topS 25)) (defScope (topS 25)) .none kV_draw dc_draw pm_draw an_draw cd_draw ct_draw), sl_draw⟩)
    (o_draw : PySem.W.codeIn K cd_draw "_law_draw" = true) (k_draw : PySem.W.keepIn K (.ref f_draw) = true)
    (a_get_state : PySem.W.nsIn K mainGlobals "_law_get_state" = some (some (.ref f_get_state)))
    (l_get_state : K.lookup f_get_state = some ⟨oc_get_state, od_get_state, .func (PySem.W.fnOf "_law_get_state" "_law_get_state" (defArgs (topS 24)) (defBody (topS 24)) (defScope (topS 24)) .none kV_get_state dc_get_state pm_get_state an_get_state cd_get_state ct_get_state), sl_get_state⟩)
    (o_get_state : PySem.W.codeIn K cd_get_state "_law_get_state" = true) (k_get_state : PySem.W.keepIn K (.ref f_get_state) = true)
    (a_get_words : PySem.W.nsIn K mainGlobals "_law_get_words" = some (some (.ref f_get_words)))
    (l_get_words : K.lookup f_get_words = some ⟨oc_get_words, od_get_words, .func (PySem.W.fnOf "_law_get_words" "_law_get_words" (defArgs (topS 26)) (defBody (topS 26)) (defScope (topS 26)) .none kV_get_words dc_get_words pm_get_words an_get_words cd_get_words ct_get_words), sl_get_words⟩)
    (o_get_words : PySem.W.codeIn K cd_get_words "_law_get_words" = true) (k_get_words : PySem.W.keepIn K (.ref f_get_words) = true)
    (a_law : PySem.W.nsIn K mainGlobals "law" = some (some (.ref f_law)))
    (l_law : K.lookup f_law = some ⟨oc_law, od_law, .func (PySem.W.fnOf "law" "law" (defArgs (topS 32)) (defBody (topS 32)) (defScope (topS 32)) .none kV_law dc_law pm_law an_law cd_law ct_law), sl_law⟩)
    (o_law : PySem.W.codeIn K cd_law "law" = true) (k_law : PySem.W.keepIn K (.ref f_law) = true)
    (z_len : PySem.W.nsIn K mainGlobals "len" = some none)
    (z_abs : PySem.W.nsIn K mainGlobals "abs" = some none)
    (z_int : PySem.W.nsIn K mainGlobals "int" = some none)
    (z_str : PySem.W.nsIn K mainGlobals "str" = some none)
    (z_list : PySem.W.nsIn K mainGlobals "list" = some none)
    (z_tuple : PySem.W.nsIn K mainGlobals "tuple" = some none)
    (z_range : PySem.W.nsIn K mainGlobals "range" = some none)
    (z_isinstance : PySem.W.nsIn K mainGlobals "isinstance" = some none)
    (z_any : PySem.W.nsIn K mainGlobals "any" = some none)
    (z_all : PySem.W.nsIn K mainGlobals "all" = some none)
    (z_sorted : PySem.W.nsIn K mainGlobals "sorted" = some none)
    (z_bool : PySem.W.nsIn K mainGlobals "bool" = some none)
    (z_ValueError : PySem.W.nsIn K mainGlobals "ValueError" = some none)
    (q_hn : PySem.W.specialIn K (.builtin "object.__class__") "__get__" = some (some (.builtin "getset_descriptor.__get__")))
    (q_htk : PySem.W.takesIn K (.builtin "object.__class__") = some true)
    (eb_AgreeError : PySem.W.subIn K (.ref C_AgreeError) (.type "BaseException") = some true)
    (hd_AgreeError : PySem.W.hasDictIn K C_AgreeError = true)
    (ty_AgreeError : PySem.W.typeIn K (.ref C_AgreeError) = some (.type "type"))
    (sa_BadLine_Agree : PySem.W.subIn K (.ref C_BadLine) (.ref C_AgreeError) = some true)
    (q_meA_0 : PySem.W.kitOne K (.ref C_BadLine) (.ref C_AgreeError) = some true)
    (q_meV_0 : PySem.W.kitOne K (.ref C_BadLine) (.type "ValueError") = some true)
    (q_me_0_0 : PySem.W.kitOne K (.ref C_BadLine) (.ref C_BadLine) = some true)
    (q_me_0_1 : PySem.W.kitOne K (.ref C_BadLine) (.ref C_DuplicateName) = some false)
    (q_me_0_2 : PySem.W.kitOne K (.ref C_BadLine) (.ref C_UnknownName) = some false)
    (q_me_0_3 : PySem.W.kitOne K (.ref C_BadLine) (.ref C_WrongTable) = some false)
    (q_me_0_4 : PySem.W.kitOne K (.ref C_BadLine) (.ref C_WrongCount) = some false)
    (q_me_0_5 : PySem.W.kitOne K (.ref C_BadLine) (.ref C_TooMany) = some false)
    (q_me_0_6 : PySem.W.kitOne K (.ref C_BadLine) (.ref C_BadPattern) = some false)
    (q_me_0_7 : PySem.W.kitOne K (.ref C_BadLine) (.ref C_ConstantsMeet) = some false)
    (q_me_0_8 : PySem.W.kitOne K (.ref C_BadLine) (.ref C_OtherPlaces) = some false)
    (q_me_0_9 : PySem.W.kitOne K (.ref C_BadLine) (.ref C_OtherSchema) = some false)
    (q_me_0_10 : PySem.W.kitOne K (.ref C_BadLine) (.ref C_BadValue) = some false)
    (q_me_0_11 : PySem.W.kitOne K (.ref C_BadLine) (.ref C_NoRow) = some false)
    (q_me_0_12 : PySem.W.kitOne K (.ref C_BadLine) (.ref C_Refused) = some false)
    (q_me_0_13 : PySem.W.kitOne K (.ref C_BadLine) (.ref C_Broken) = some false)
    (q_me_0_14 : PySem.W.kitOne K (.ref C_BadLine) (.ref C_BadCase) = some false)
    (q_me_0_15 : PySem.W.kitOne K (.ref C_BadLine) (.ref C_TooManyPatterns) = some false)
    (q_me_0_16 : PySem.W.kitOne K (.ref C_BadLine) (.ref C_BadDerivation) = some false)
    (q_me_0_17 : PySem.W.kitOne K (.ref C_BadLine) (.ref C_NotReachable) = some false)
    (q_me_0_18 : PySem.W.kitOne K (.ref C_BadLine) (.ref C_TooLong) = some false)
    (q_me_0_19 : PySem.W.kitOne K (.ref C_BadLine) (.ref C_NotComparable) = some false)
    (q_me_0_20 : PySem.W.kitOne K (.ref C_BadLine) (.ref C_BadOffer) = some false)
    (q_meA_1 : PySem.W.kitOne K (.ref C_DuplicateName) (.ref C_AgreeError) = some true)
    (q_meV_1 : PySem.W.kitOne K (.ref C_DuplicateName) (.type "ValueError") = some true)
    (q_me_1_0 : PySem.W.kitOne K (.ref C_DuplicateName) (.ref C_BadLine) = some false)
    (q_me_1_1 : PySem.W.kitOne K (.ref C_DuplicateName) (.ref C_DuplicateName) = some true)
    (q_me_1_2 : PySem.W.kitOne K (.ref C_DuplicateName) (.ref C_UnknownName) = some false)
    (q_me_1_3 : PySem.W.kitOne K (.ref C_DuplicateName) (.ref C_WrongTable) = some false)
    (q_me_1_4 : PySem.W.kitOne K (.ref C_DuplicateName) (.ref C_WrongCount) = some false)
    (q_me_1_5 : PySem.W.kitOne K (.ref C_DuplicateName) (.ref C_TooMany) = some false)
    (q_me_1_6 : PySem.W.kitOne K (.ref C_DuplicateName) (.ref C_BadPattern) = some false)
    (q_me_1_7 : PySem.W.kitOne K (.ref C_DuplicateName) (.ref C_ConstantsMeet) = some false)
    (q_me_1_8 : PySem.W.kitOne K (.ref C_DuplicateName) (.ref C_OtherPlaces) = some false)
    (q_me_1_9 : PySem.W.kitOne K (.ref C_DuplicateName) (.ref C_OtherSchema) = some false)
    (q_me_1_10 : PySem.W.kitOne K (.ref C_DuplicateName) (.ref C_BadValue) = some false)
    (q_me_1_11 : PySem.W.kitOne K (.ref C_DuplicateName) (.ref C_NoRow) = some false)
    (q_me_1_12 : PySem.W.kitOne K (.ref C_DuplicateName) (.ref C_Refused) = some false)
    (q_me_1_13 : PySem.W.kitOne K (.ref C_DuplicateName) (.ref C_Broken) = some false)
    (q_me_1_14 : PySem.W.kitOne K (.ref C_DuplicateName) (.ref C_BadCase) = some false)
    (q_me_1_15 : PySem.W.kitOne K (.ref C_DuplicateName) (.ref C_TooManyPatterns) = some false)
    (q_me_1_16 : PySem.W.kitOne K (.ref C_DuplicateName) (.ref C_BadDerivation) = some false)
    (q_me_1_17 : PySem.W.kitOne K (.ref C_DuplicateName) (.ref C_NotReachable) = some false)
    (q_me_1_18 : PySem.W.kitOne K (.ref C_DuplicateName) (.ref C_TooLong) = some false)
    (q_me_1_19 : PySem.W.kitOne K (.ref C_DuplicateName) (.ref C_NotComparable) = some false)
    (q_me_1_20 : PySem.W.kitOne K (.ref C_DuplicateName) (.ref C_BadOffer) = some false)
    (q_meA_2 : PySem.W.kitOne K (.ref C_UnknownName) (.ref C_AgreeError) = some true)
    (q_meV_2 : PySem.W.kitOne K (.ref C_UnknownName) (.type "ValueError") = some true)
    (q_me_2_0 : PySem.W.kitOne K (.ref C_UnknownName) (.ref C_BadLine) = some false)
    (q_me_2_1 : PySem.W.kitOne K (.ref C_UnknownName) (.ref C_DuplicateName) = some false)
    (q_me_2_2 : PySem.W.kitOne K (.ref C_UnknownName) (.ref C_UnknownName) = some true)
    (q_me_2_3 : PySem.W.kitOne K (.ref C_UnknownName) (.ref C_WrongTable) = some false)
    (q_me_2_4 : PySem.W.kitOne K (.ref C_UnknownName) (.ref C_WrongCount) = some false)
    (q_me_2_5 : PySem.W.kitOne K (.ref C_UnknownName) (.ref C_TooMany) = some false)
    (q_me_2_6 : PySem.W.kitOne K (.ref C_UnknownName) (.ref C_BadPattern) = some false)
    (q_me_2_7 : PySem.W.kitOne K (.ref C_UnknownName) (.ref C_ConstantsMeet) = some false)
    (q_me_2_8 : PySem.W.kitOne K (.ref C_UnknownName) (.ref C_OtherPlaces) = some false)
    (q_me_2_9 : PySem.W.kitOne K (.ref C_UnknownName) (.ref C_OtherSchema) = some false)
    (q_me_2_10 : PySem.W.kitOne K (.ref C_UnknownName) (.ref C_BadValue) = some false)
    (q_me_2_11 : PySem.W.kitOne K (.ref C_UnknownName) (.ref C_NoRow) = some false)
    (q_me_2_12 : PySem.W.kitOne K (.ref C_UnknownName) (.ref C_Refused) = some false)
    (q_me_2_13 : PySem.W.kitOne K (.ref C_UnknownName) (.ref C_Broken) = some false)
    (q_me_2_14 : PySem.W.kitOne K (.ref C_UnknownName) (.ref C_BadCase) = some false)
    (q_me_2_15 : PySem.W.kitOne K (.ref C_UnknownName) (.ref C_TooManyPatterns) = some false)
    (q_me_2_16 : PySem.W.kitOne K (.ref C_UnknownName) (.ref C_BadDerivation) = some false)
    (q_me_2_17 : PySem.W.kitOne K (.ref C_UnknownName) (.ref C_NotReachable) = some false)
    (q_me_2_18 : PySem.W.kitOne K (.ref C_UnknownName) (.ref C_TooLong) = some false)
    (q_me_2_19 : PySem.W.kitOne K (.ref C_UnknownName) (.ref C_NotComparable) = some false)
    (q_me_2_20 : PySem.W.kitOne K (.ref C_UnknownName) (.ref C_BadOffer) = some false)
    (q_meA_3 : PySem.W.kitOne K (.ref C_WrongTable) (.ref C_AgreeError) = some true)
    (q_meV_3 : PySem.W.kitOne K (.ref C_WrongTable) (.type "ValueError") = some true)
    (q_me_3_0 : PySem.W.kitOne K (.ref C_WrongTable) (.ref C_BadLine) = some false)
    (q_me_3_1 : PySem.W.kitOne K (.ref C_WrongTable) (.ref C_DuplicateName) = some false)
    (q_me_3_2 : PySem.W.kitOne K (.ref C_WrongTable) (.ref C_UnknownName) = some false)
    (q_me_3_3 : PySem.W.kitOne K (.ref C_WrongTable) (.ref C_WrongTable) = some true)
    (q_me_3_4 : PySem.W.kitOne K (.ref C_WrongTable) (.ref C_WrongCount) = some false)
    (q_me_3_5 : PySem.W.kitOne K (.ref C_WrongTable) (.ref C_TooMany) = some false)
    (q_me_3_6 : PySem.W.kitOne K (.ref C_WrongTable) (.ref C_BadPattern) = some false)
    (q_me_3_7 : PySem.W.kitOne K (.ref C_WrongTable) (.ref C_ConstantsMeet) = some false)
    (q_me_3_8 : PySem.W.kitOne K (.ref C_WrongTable) (.ref C_OtherPlaces) = some false)
    (q_me_3_9 : PySem.W.kitOne K (.ref C_WrongTable) (.ref C_OtherSchema) = some false)
    (q_me_3_10 : PySem.W.kitOne K (.ref C_WrongTable) (.ref C_BadValue) = some false)
    (q_me_3_11 : PySem.W.kitOne K (.ref C_WrongTable) (.ref C_NoRow) = some false)
    (q_me_3_12 : PySem.W.kitOne K (.ref C_WrongTable) (.ref C_Refused) = some false)
    (q_me_3_13 : PySem.W.kitOne K (.ref C_WrongTable) (.ref C_Broken) = some false)
    (q_me_3_14 : PySem.W.kitOne K (.ref C_WrongTable) (.ref C_BadCase) = some false)
    (q_me_3_15 : PySem.W.kitOne K (.ref C_WrongTable) (.ref C_TooManyPatterns) = some false)
    (q_me_3_16 : PySem.W.kitOne K (.ref C_WrongTable) (.ref C_BadDerivation) = some false)
    (q_me_3_17 : PySem.W.kitOne K (.ref C_WrongTable) (.ref C_NotReachable) = some false)
    (q_me_3_18 : PySem.W.kitOne K (.ref C_WrongTable) (.ref C_TooLong) = some false)
    (q_me_3_19 : PySem.W.kitOne K (.ref C_WrongTable) (.ref C_NotComparable) = some false)
    (q_me_3_20 : PySem.W.kitOne K (.ref C_WrongTable) (.ref C_BadOffer) = some false)
    (q_meA_4 : PySem.W.kitOne K (.ref C_WrongCount) (.ref C_AgreeError) = some true)
    (q_meV_4 : PySem.W.kitOne K (.ref C_WrongCount) (.type "ValueError") = some true)
    (q_me_4_0 : PySem.W.kitOne K (.ref C_WrongCount) (.ref C_BadLine) = some false)
    (q_me_4_1 : PySem.W.kitOne K (.ref C_WrongCount) (.ref C_DuplicateName) = some false)
    (q_me_4_2 : PySem.W.kitOne K (.ref C_WrongCount) (.ref C_UnknownName) = some false)
    (q_me_4_3 : PySem.W.kitOne K (.ref C_WrongCount) (.ref C_WrongTable) = some false)
    (q_me_4_4 : PySem.W.kitOne K (.ref C_WrongCount) (.ref C_WrongCount) = some true)
    (q_me_4_5 : PySem.W.kitOne K (.ref C_WrongCount) (.ref C_TooMany) = some false)
    (q_me_4_6 : PySem.W.kitOne K (.ref C_WrongCount) (.ref C_BadPattern) = some false)
    (q_me_4_7 : PySem.W.kitOne K (.ref C_WrongCount) (.ref C_ConstantsMeet) = some false)
    (q_me_4_8 : PySem.W.kitOne K (.ref C_WrongCount) (.ref C_OtherPlaces) = some false)
    (q_me_4_9 : PySem.W.kitOne K (.ref C_WrongCount) (.ref C_OtherSchema) = some false)
    (q_me_4_10 : PySem.W.kitOne K (.ref C_WrongCount) (.ref C_BadValue) = some false)
    (q_me_4_11 : PySem.W.kitOne K (.ref C_WrongCount) (.ref C_NoRow) = some false)
    (q_me_4_12 : PySem.W.kitOne K (.ref C_WrongCount) (.ref C_Refused) = some false)
    (q_me_4_13 : PySem.W.kitOne K (.ref C_WrongCount) (.ref C_Broken) = some false)
    (q_me_4_14 : PySem.W.kitOne K (.ref C_WrongCount) (.ref C_BadCase) = some false)
    (q_me_4_15 : PySem.W.kitOne K (.ref C_WrongCount) (.ref C_TooManyPatterns) = some false)
    (q_me_4_16 : PySem.W.kitOne K (.ref C_WrongCount) (.ref C_BadDerivation) = some false)
    (q_me_4_17 : PySem.W.kitOne K (.ref C_WrongCount) (.ref C_NotReachable) = some false)
    (q_me_4_18 : PySem.W.kitOne K (.ref C_WrongCount) (.ref C_TooLong) = some false)
    (q_me_4_19 : PySem.W.kitOne K (.ref C_WrongCount) (.ref C_NotComparable) = some false)
    (q_me_4_20 : PySem.W.kitOne K (.ref C_WrongCount) (.ref C_BadOffer) = some false)
    (q_meA_5 : PySem.W.kitOne K (.ref C_TooMany) (.ref C_AgreeError) = some true)
    (q_meV_5 : PySem.W.kitOne K (.ref C_TooMany) (.type "ValueError") = some true)
    (q_me_5_0 : PySem.W.kitOne K (.ref C_TooMany) (.ref C_BadLine) = some false)
    (q_me_5_1 : PySem.W.kitOne K (.ref C_TooMany) (.ref C_DuplicateName) = some false)
    (q_me_5_2 : PySem.W.kitOne K (.ref C_TooMany) (.ref C_UnknownName) = some false)
    (q_me_5_3 : PySem.W.kitOne K (.ref C_TooMany) (.ref C_WrongTable) = some false)
    (q_me_5_4 : PySem.W.kitOne K (.ref C_TooMany) (.ref C_WrongCount) = some false)
    (q_me_5_5 : PySem.W.kitOne K (.ref C_TooMany) (.ref C_TooMany) = some true)
    (q_me_5_6 : PySem.W.kitOne K (.ref C_TooMany) (.ref C_BadPattern) = some false)
    (q_me_5_7 : PySem.W.kitOne K (.ref C_TooMany) (.ref C_ConstantsMeet) = some false)
    (q_me_5_8 : PySem.W.kitOne K (.ref C_TooMany) (.ref C_OtherPlaces) = some false)
    (q_me_5_9 : PySem.W.kitOne K (.ref C_TooMany) (.ref C_OtherSchema) = some false)
    (q_me_5_10 : PySem.W.kitOne K (.ref C_TooMany) (.ref C_BadValue) = some false)
    (q_me_5_11 : PySem.W.kitOne K (.ref C_TooMany) (.ref C_NoRow) = some false)
    (q_me_5_12 : PySem.W.kitOne K (.ref C_TooMany) (.ref C_Refused) = some false)
    (q_me_5_13 : PySem.W.kitOne K (.ref C_TooMany) (.ref C_Broken) = some false)
    (q_me_5_14 : PySem.W.kitOne K (.ref C_TooMany) (.ref C_BadCase) = some false)
    (q_me_5_15 : PySem.W.kitOne K (.ref C_TooMany) (.ref C_TooManyPatterns) = some false)
    (q_me_5_16 : PySem.W.kitOne K (.ref C_TooMany) (.ref C_BadDerivation) = some false)
    (q_me_5_17 : PySem.W.kitOne K (.ref C_TooMany) (.ref C_NotReachable) = some false)
    (q_me_5_18 : PySem.W.kitOne K (.ref C_TooMany) (.ref C_TooLong) = some false)
    (q_me_5_19 : PySem.W.kitOne K (.ref C_TooMany) (.ref C_NotComparable) = some false)
    (q_me_5_20 : PySem.W.kitOne K (.ref C_TooMany) (.ref C_BadOffer) = some false)
    (q_meA_6 : PySem.W.kitOne K (.ref C_BadPattern) (.ref C_AgreeError) = some true)
    (q_meV_6 : PySem.W.kitOne K (.ref C_BadPattern) (.type "ValueError") = some true)
    (q_me_6_0 : PySem.W.kitOne K (.ref C_BadPattern) (.ref C_BadLine) = some false)
    (q_me_6_1 : PySem.W.kitOne K (.ref C_BadPattern) (.ref C_DuplicateName) = some false)
    (q_me_6_2 : PySem.W.kitOne K (.ref C_BadPattern) (.ref C_UnknownName) = some false)
    (q_me_6_3 : PySem.W.kitOne K (.ref C_BadPattern) (.ref C_WrongTable) = some false)
    (q_me_6_4 : PySem.W.kitOne K (.ref C_BadPattern) (.ref C_WrongCount) = some false)
    (q_me_6_5 : PySem.W.kitOne K (.ref C_BadPattern) (.ref C_TooMany) = some false)
    (q_me_6_6 : PySem.W.kitOne K (.ref C_BadPattern) (.ref C_BadPattern) = some true)
    (q_me_6_7 : PySem.W.kitOne K (.ref C_BadPattern) (.ref C_ConstantsMeet) = some false)
    (q_me_6_8 : PySem.W.kitOne K (.ref C_BadPattern) (.ref C_OtherPlaces) = some false)
    (q_me_6_9 : PySem.W.kitOne K (.ref C_BadPattern) (.ref C_OtherSchema) = some false)
    (q_me_6_10 : PySem.W.kitOne K (.ref C_BadPattern) (.ref C_BadValue) = some false)
    (q_me_6_11 : PySem.W.kitOne K (.ref C_BadPattern) (.ref C_NoRow) = some false)
    (q_me_6_12 : PySem.W.kitOne K (.ref C_BadPattern) (.ref C_Refused) = some false)
    (q_me_6_13 : PySem.W.kitOne K (.ref C_BadPattern) (.ref C_Broken) = some false)
    (q_me_6_14 : PySem.W.kitOne K (.ref C_BadPattern) (.ref C_BadCase) = some false)
    (q_me_6_15 : PySem.W.kitOne K (.ref C_BadPattern) (.ref C_TooManyPatterns) = some false)
    (q_me_6_16 : PySem.W.kitOne K (.ref C_BadPattern) (.ref C_BadDerivation) = some false)
    (q_me_6_17 : PySem.W.kitOne K (.ref C_BadPattern) (.ref C_NotReachable) = some false)
    (q_me_6_18 : PySem.W.kitOne K (.ref C_BadPattern) (.ref C_TooLong) = some false)
    (q_me_6_19 : PySem.W.kitOne K (.ref C_BadPattern) (.ref C_NotComparable) = some false)
    (q_me_6_20 : PySem.W.kitOne K (.ref C_BadPattern) (.ref C_BadOffer) = some false)
    (q_meA_7 : PySem.W.kitOne K (.ref C_ConstantsMeet) (.ref C_AgreeError) = some true)
    (q_meV_7 : PySem.W.kitOne K (.ref C_ConstantsMeet) (.type "ValueError") = some true)
    (q_me_7_0 : PySem.W.kitOne K (.ref C_ConstantsMeet) (.ref C_BadLine) = some false)
    (q_me_7_1 : PySem.W.kitOne K (.ref C_ConstantsMeet) (.ref C_DuplicateName) = some false)
    (q_me_7_2 : PySem.W.kitOne K (.ref C_ConstantsMeet) (.ref C_UnknownName) = some false)
    (q_me_7_3 : PySem.W.kitOne K (.ref C_ConstantsMeet) (.ref C_WrongTable) = some false)
    (q_me_7_4 : PySem.W.kitOne K (.ref C_ConstantsMeet) (.ref C_WrongCount) = some false)
    (q_me_7_5 : PySem.W.kitOne K (.ref C_ConstantsMeet) (.ref C_TooMany) = some false)
    (q_me_7_6 : PySem.W.kitOne K (.ref C_ConstantsMeet) (.ref C_BadPattern) = some false)
    (q_me_7_7 : PySem.W.kitOne K (.ref C_ConstantsMeet) (.ref C_ConstantsMeet) = some true)
    (q_me_7_8 : PySem.W.kitOne K (.ref C_ConstantsMeet) (.ref C_OtherPlaces) = some false)
    (q_me_7_9 : PySem.W.kitOne K (.ref C_ConstantsMeet) (.ref C_OtherSchema) = some false)
    (q_me_7_10 : PySem.W.kitOne K (.ref C_ConstantsMeet) (.ref C_BadValue) = some false)
    (q_me_7_11 : PySem.W.kitOne K (.ref C_ConstantsMeet) (.ref C_NoRow) = some false)
    (q_me_7_12 : PySem.W.kitOne K (.ref C_ConstantsMeet) (.ref C_Refused) = some false)
    (q_me_7_13 : PySem.W.kitOne K (.ref C_ConstantsMeet) (.ref C_Broken) = some false)
    (q_me_7_14 : PySem.W.kitOne K (.ref C_ConstantsMeet) (.ref C_BadCase) = some false)
    (q_me_7_15 : PySem.W.kitOne K (.ref C_ConstantsMeet) (.ref C_TooManyPatterns) = some false)
    (q_me_7_16 : PySem.W.kitOne K (.ref C_ConstantsMeet) (.ref C_BadDerivation) = some false)
    (q_me_7_17 : PySem.W.kitOne K (.ref C_ConstantsMeet) (.ref C_NotReachable) = some false)
    (q_me_7_18 : PySem.W.kitOne K (.ref C_ConstantsMeet) (.ref C_TooLong) = some false)
    (q_me_7_19 : PySem.W.kitOne K (.ref C_ConstantsMeet) (.ref C_NotComparable) = some false)
    (q_me_7_20 : PySem.W.kitOne K (.ref C_ConstantsMeet) (.ref C_BadOffer) = some false)
    (q_meA_8 : PySem.W.kitOne K (.ref C_OtherPlaces) (.ref C_AgreeError) = some true)
    (q_meV_8 : PySem.W.kitOne K (.ref C_OtherPlaces) (.type "ValueError") = some true)
    (q_me_8_0 : PySem.W.kitOne K (.ref C_OtherPlaces) (.ref C_BadLine) = some false)
    (q_me_8_1 : PySem.W.kitOne K (.ref C_OtherPlaces) (.ref C_DuplicateName) = some false)
    (q_me_8_2 : PySem.W.kitOne K (.ref C_OtherPlaces) (.ref C_UnknownName) = some false)
    (q_me_8_3 : PySem.W.kitOne K (.ref C_OtherPlaces) (.ref C_WrongTable) = some false)
    (q_me_8_4 : PySem.W.kitOne K (.ref C_OtherPlaces) (.ref C_WrongCount) = some false)
    (q_me_8_5 : PySem.W.kitOne K (.ref C_OtherPlaces) (.ref C_TooMany) = some false)
    (q_me_8_6 : PySem.W.kitOne K (.ref C_OtherPlaces) (.ref C_BadPattern) = some false)
    (q_me_8_7 : PySem.W.kitOne K (.ref C_OtherPlaces) (.ref C_ConstantsMeet) = some false)
    (q_me_8_8 : PySem.W.kitOne K (.ref C_OtherPlaces) (.ref C_OtherPlaces) = some true)
    (q_me_8_9 : PySem.W.kitOne K (.ref C_OtherPlaces) (.ref C_OtherSchema) = some false)
    (q_me_8_10 : PySem.W.kitOne K (.ref C_OtherPlaces) (.ref C_BadValue) = some false)
    (q_me_8_11 : PySem.W.kitOne K (.ref C_OtherPlaces) (.ref C_NoRow) = some false)
    (q_me_8_12 : PySem.W.kitOne K (.ref C_OtherPlaces) (.ref C_Refused) = some false)
    (q_me_8_13 : PySem.W.kitOne K (.ref C_OtherPlaces) (.ref C_Broken) = some false)
    (q_me_8_14 : PySem.W.kitOne K (.ref C_OtherPlaces) (.ref C_BadCase) = some false)
    (q_me_8_15 : PySem.W.kitOne K (.ref C_OtherPlaces) (.ref C_TooManyPatterns) = some false)
    (q_me_8_16 : PySem.W.kitOne K (.ref C_OtherPlaces) (.ref C_BadDerivation) = some false)
    (q_me_8_17 : PySem.W.kitOne K (.ref C_OtherPlaces) (.ref C_NotReachable) = some false)
    (q_me_8_18 : PySem.W.kitOne K (.ref C_OtherPlaces) (.ref C_TooLong) = some false)
    (q_me_8_19 : PySem.W.kitOne K (.ref C_OtherPlaces) (.ref C_NotComparable) = some false)
    (q_me_8_20 : PySem.W.kitOne K (.ref C_OtherPlaces) (.ref C_BadOffer) = some false)
    (q_meA_9 : PySem.W.kitOne K (.ref C_OtherSchema) (.ref C_AgreeError) = some true)
    (q_meV_9 : PySem.W.kitOne K (.ref C_OtherSchema) (.type "ValueError") = some true)
    (q_me_9_0 : PySem.W.kitOne K (.ref C_OtherSchema) (.ref C_BadLine) = some false)
    (q_me_9_1 : PySem.W.kitOne K (.ref C_OtherSchema) (.ref C_DuplicateName) = some false)
    (q_me_9_2 : PySem.W.kitOne K (.ref C_OtherSchema) (.ref C_UnknownName) = some false)
    (q_me_9_3 : PySem.W.kitOne K (.ref C_OtherSchema) (.ref C_WrongTable) = some false)
    (q_me_9_4 : PySem.W.kitOne K (.ref C_OtherSchema) (.ref C_WrongCount) = some false)
    (q_me_9_5 : PySem.W.kitOne K (.ref C_OtherSchema) (.ref C_TooMany) = some false)
    (q_me_9_6 : PySem.W.kitOne K (.ref C_OtherSchema) (.ref C_BadPattern) = some false)
    (q_me_9_7 : PySem.W.kitOne K (.ref C_OtherSchema) (.ref C_ConstantsMeet) = some false)
    (q_me_9_8 : PySem.W.kitOne K (.ref C_OtherSchema) (.ref C_OtherPlaces) = some false)
    (q_me_9_9 : PySem.W.kitOne K (.ref C_OtherSchema) (.ref C_OtherSchema) = some true)
    (q_me_9_10 : PySem.W.kitOne K (.ref C_OtherSchema) (.ref C_BadValue) = some false)
    (q_me_9_11 : PySem.W.kitOne K (.ref C_OtherSchema) (.ref C_NoRow) = some false)
    (q_me_9_12 : PySem.W.kitOne K (.ref C_OtherSchema) (.ref C_Refused) = some false)
    (q_me_9_13 : PySem.W.kitOne K (.ref C_OtherSchema) (.ref C_Broken) = some false)
    (q_me_9_14 : PySem.W.kitOne K (.ref C_OtherSchema) (.ref C_BadCase) = some false)
    (q_me_9_15 : PySem.W.kitOne K (.ref C_OtherSchema) (.ref C_TooManyPatterns) = some false)
    (q_me_9_16 : PySem.W.kitOne K (.ref C_OtherSchema) (.ref C_BadDerivation) = some false)
    (q_me_9_17 : PySem.W.kitOne K (.ref C_OtherSchema) (.ref C_NotReachable) = some false)
    (q_me_9_18 : PySem.W.kitOne K (.ref C_OtherSchema) (.ref C_TooLong) = some false)
    (q_me_9_19 : PySem.W.kitOne K (.ref C_OtherSchema) (.ref C_NotComparable) = some false)
    (q_me_9_20 : PySem.W.kitOne K (.ref C_OtherSchema) (.ref C_BadOffer) = some false)
    (q_meA_10 : PySem.W.kitOne K (.ref C_BadValue) (.ref C_AgreeError) = some true)
    (q_meV_10 : PySem.W.kitOne K (.ref C_BadValue) (.type "ValueError") = some true)
    (q_me_10_0 : PySem.W.kitOne K (.ref C_BadValue) (.ref C_BadLine) = some false)
    (q_me_10_1 : PySem.W.kitOne K (.ref C_BadValue) (.ref C_DuplicateName) = some false)
    (q_me_10_2 : PySem.W.kitOne K (.ref C_BadValue) (.ref C_UnknownName) = some false)
    (q_me_10_3 : PySem.W.kitOne K (.ref C_BadValue) (.ref C_WrongTable) = some false)
    (q_me_10_4 : PySem.W.kitOne K (.ref C_BadValue) (.ref C_WrongCount) = some false)
    (q_me_10_5 : PySem.W.kitOne K (.ref C_BadValue) (.ref C_TooMany) = some false)
    (q_me_10_6 : PySem.W.kitOne K (.ref C_BadValue) (.ref C_BadPattern) = some false)
    (q_me_10_7 : PySem.W.kitOne K (.ref C_BadValue) (.ref C_ConstantsMeet) = some false)
    (q_me_10_8 : PySem.W.kitOne K (.ref C_BadValue) (.ref C_OtherPlaces) = some false)
    (q_me_10_9 : PySem.W.kitOne K (.ref C_BadValue) (.ref C_OtherSchema) = some false)
    (q_me_10_10 : PySem.W.kitOne K (.ref C_BadValue) (.ref C_BadValue) = some true)
    (q_me_10_11 : PySem.W.kitOne K (.ref C_BadValue) (.ref C_NoRow) = some false)
    (q_me_10_12 : PySem.W.kitOne K (.ref C_BadValue) (.ref C_Refused) = some false)
    (q_me_10_13 : PySem.W.kitOne K (.ref C_BadValue) (.ref C_Broken) = some false)
    (q_me_10_14 : PySem.W.kitOne K (.ref C_BadValue) (.ref C_BadCase) = some false)
    (q_me_10_15 : PySem.W.kitOne K (.ref C_BadValue) (.ref C_TooManyPatterns) = some false)
    (q_me_10_16 : PySem.W.kitOne K (.ref C_BadValue) (.ref C_BadDerivation) = some false)
    (q_me_10_17 : PySem.W.kitOne K (.ref C_BadValue) (.ref C_NotReachable) = some false)
    (q_me_10_18 : PySem.W.kitOne K (.ref C_BadValue) (.ref C_TooLong) = some false)
    (q_me_10_19 : PySem.W.kitOne K (.ref C_BadValue) (.ref C_NotComparable) = some false)
    (q_me_10_20 : PySem.W.kitOne K (.ref C_BadValue) (.ref C_BadOffer) = some false)
    (q_meA_11 : PySem.W.kitOne K (.ref C_NoRow) (.ref C_AgreeError) = some true)
    (q_meV_11 : PySem.W.kitOne K (.ref C_NoRow) (.type "ValueError") = some true)
    (q_me_11_0 : PySem.W.kitOne K (.ref C_NoRow) (.ref C_BadLine) = some false)
    (q_me_11_1 : PySem.W.kitOne K (.ref C_NoRow) (.ref C_DuplicateName) = some false)
    (q_me_11_2 : PySem.W.kitOne K (.ref C_NoRow) (.ref C_UnknownName) = some false)
    (q_me_11_3 : PySem.W.kitOne K (.ref C_NoRow) (.ref C_WrongTable) = some false)
    (q_me_11_4 : PySem.W.kitOne K (.ref C_NoRow) (.ref C_WrongCount) = some false)
    (q_me_11_5 : PySem.W.kitOne K (.ref C_NoRow) (.ref C_TooMany) = some false)
    (q_me_11_6 : PySem.W.kitOne K (.ref C_NoRow) (.ref C_BadPattern) = some false)
    (q_me_11_7 : PySem.W.kitOne K (.ref C_NoRow) (.ref C_ConstantsMeet) = some false)
    (q_me_11_8 : PySem.W.kitOne K (.ref C_NoRow) (.ref C_OtherPlaces) = some false)
    (q_me_11_9 : PySem.W.kitOne K (.ref C_NoRow) (.ref C_OtherSchema) = some false)
    (q_me_11_10 : PySem.W.kitOne K (.ref C_NoRow) (.ref C_BadValue) = some false)
    (q_me_11_11 : PySem.W.kitOne K (.ref C_NoRow) (.ref C_NoRow) = some true)
    (q_me_11_12 : PySem.W.kitOne K (.ref C_NoRow) (.ref C_Refused) = some false)
    (q_me_11_13 : PySem.W.kitOne K (.ref C_NoRow) (.ref C_Broken) = some false)
    (q_me_11_14 : PySem.W.kitOne K (.ref C_NoRow) (.ref C_BadCase) = some false)
    (q_me_11_15 : PySem.W.kitOne K (.ref C_NoRow) (.ref C_TooManyPatterns) = some false)
    (q_me_11_16 : PySem.W.kitOne K (.ref C_NoRow) (.ref C_BadDerivation) = some false)
    (q_me_11_17 : PySem.W.kitOne K (.ref C_NoRow) (.ref C_NotReachable) = some false)
    (q_me_11_18 : PySem.W.kitOne K (.ref C_NoRow) (.ref C_TooLong) = some false)
    (q_me_11_19 : PySem.W.kitOne K (.ref C_NoRow) (.ref C_NotComparable) = some false)
    (q_me_11_20 : PySem.W.kitOne K (.ref C_NoRow) (.ref C_BadOffer) = some false)
    (q_meA_12 : PySem.W.kitOne K (.ref C_Refused) (.ref C_AgreeError) = some true)
    (q_meV_12 : PySem.W.kitOne K (.ref C_Refused) (.type "ValueError") = some true)
    (q_me_12_0 : PySem.W.kitOne K (.ref C_Refused) (.ref C_BadLine) = some false)
    (q_me_12_1 : PySem.W.kitOne K (.ref C_Refused) (.ref C_DuplicateName) = some false)
    (q_me_12_2 : PySem.W.kitOne K (.ref C_Refused) (.ref C_UnknownName) = some false)
    (q_me_12_3 : PySem.W.kitOne K (.ref C_Refused) (.ref C_WrongTable) = some false)
    (q_me_12_4 : PySem.W.kitOne K (.ref C_Refused) (.ref C_WrongCount) = some false)
    (q_me_12_5 : PySem.W.kitOne K (.ref C_Refused) (.ref C_TooMany) = some false)
    (q_me_12_6 : PySem.W.kitOne K (.ref C_Refused) (.ref C_BadPattern) = some false)
    (q_me_12_7 : PySem.W.kitOne K (.ref C_Refused) (.ref C_ConstantsMeet) = some false)
    (q_me_12_8 : PySem.W.kitOne K (.ref C_Refused) (.ref C_OtherPlaces) = some false)
    (q_me_12_9 : PySem.W.kitOne K (.ref C_Refused) (.ref C_OtherSchema) = some false)
    (q_me_12_10 : PySem.W.kitOne K (.ref C_Refused) (.ref C_BadValue) = some false)
    (q_me_12_11 : PySem.W.kitOne K (.ref C_Refused) (.ref C_NoRow) = some false)
    (q_me_12_12 : PySem.W.kitOne K (.ref C_Refused) (.ref C_Refused) = some true)
    (q_me_12_13 : PySem.W.kitOne K (.ref C_Refused) (.ref C_Broken) = some false)
    (q_me_12_14 : PySem.W.kitOne K (.ref C_Refused) (.ref C_BadCase) = some false)
    (q_me_12_15 : PySem.W.kitOne K (.ref C_Refused) (.ref C_TooManyPatterns) = some false)
    (q_me_12_16 : PySem.W.kitOne K (.ref C_Refused) (.ref C_BadDerivation) = some false)
    (q_me_12_17 : PySem.W.kitOne K (.ref C_Refused) (.ref C_NotReachable) = some false)
    (q_me_12_18 : PySem.W.kitOne K (.ref C_Refused) (.ref C_TooLong) = some false)
    (q_me_12_19 : PySem.W.kitOne K (.ref C_Refused) (.ref C_NotComparable) = some false)
    (q_me_12_20 : PySem.W.kitOne K (.ref C_Refused) (.ref C_BadOffer) = some false)
    (q_meA_13 : PySem.W.kitOne K (.ref C_Broken) (.ref C_AgreeError) = some true)
    (q_meV_13 : PySem.W.kitOne K (.ref C_Broken) (.type "ValueError") = some true)
    (q_me_13_0 : PySem.W.kitOne K (.ref C_Broken) (.ref C_BadLine) = some false)
    (q_me_13_1 : PySem.W.kitOne K (.ref C_Broken) (.ref C_DuplicateName) = some false)
    (q_me_13_2 : PySem.W.kitOne K (.ref C_Broken) (.ref C_UnknownName) = some false)
    (q_me_13_3 : PySem.W.kitOne K (.ref C_Broken) (.ref C_WrongTable) = some false)
    (q_me_13_4 : PySem.W.kitOne K (.ref C_Broken) (.ref C_WrongCount) = some false)
    (q_me_13_5 : PySem.W.kitOne K (.ref C_Broken) (.ref C_TooMany) = some false)
    (q_me_13_6 : PySem.W.kitOne K (.ref C_Broken) (.ref C_BadPattern) = some false)
    (q_me_13_7 : PySem.W.kitOne K (.ref C_Broken) (.ref C_ConstantsMeet) = some false)
    (q_me_13_8 : PySem.W.kitOne K (.ref C_Broken) (.ref C_OtherPlaces) = some false)
    (q_me_13_9 : PySem.W.kitOne K (.ref C_Broken) (.ref C_OtherSchema) = some false)
    (q_me_13_10 : PySem.W.kitOne K (.ref C_Broken) (.ref C_BadValue) = some false)
    (q_me_13_11 : PySem.W.kitOne K (.ref C_Broken) (.ref C_NoRow) = some false)
    (q_me_13_12 : PySem.W.kitOne K (.ref C_Broken) (.ref C_Refused) = some false)
    (q_me_13_13 : PySem.W.kitOne K (.ref C_Broken) (.ref C_Broken) = some true)
    (q_me_13_14 : PySem.W.kitOne K (.ref C_Broken) (.ref C_BadCase) = some false)
    (q_me_13_15 : PySem.W.kitOne K (.ref C_Broken) (.ref C_TooManyPatterns) = some false)
    (q_me_13_16 : PySem.W.kitOne K (.ref C_Broken) (.ref C_BadDerivation) = some false)
    (q_me_13_17 : PySem.W.kitOne K (.ref C_Broken) (.ref C_NotReachable) = some false)
    (q_me_13_18 : PySem.W.kitOne K (.ref C_Broken) (.ref C_TooLong) = some false)
    (q_me_13_19 : PySem.W.kitOne K (.ref C_Broken) (.ref C_NotComparable) = some false)
    (q_me_13_20 : PySem.W.kitOne K (.ref C_Broken) (.ref C_BadOffer) = some false)
    (q_meA_14 : PySem.W.kitOne K (.ref C_BadCase) (.ref C_AgreeError) = some true)
    (q_meV_14 : PySem.W.kitOne K (.ref C_BadCase) (.type "ValueError") = some true)
    (q_me_14_0 : PySem.W.kitOne K (.ref C_BadCase) (.ref C_BadLine) = some false)
    (q_me_14_1 : PySem.W.kitOne K (.ref C_BadCase) (.ref C_DuplicateName) = some false)
    (q_me_14_2 : PySem.W.kitOne K (.ref C_BadCase) (.ref C_UnknownName) = some false)
    (q_me_14_3 : PySem.W.kitOne K (.ref C_BadCase) (.ref C_WrongTable) = some false)
    (q_me_14_4 : PySem.W.kitOne K (.ref C_BadCase) (.ref C_WrongCount) = some false)
    (q_me_14_5 : PySem.W.kitOne K (.ref C_BadCase) (.ref C_TooMany) = some false)
    (q_me_14_6 : PySem.W.kitOne K (.ref C_BadCase) (.ref C_BadPattern) = some false)
    (q_me_14_7 : PySem.W.kitOne K (.ref C_BadCase) (.ref C_ConstantsMeet) = some false)
    (q_me_14_8 : PySem.W.kitOne K (.ref C_BadCase) (.ref C_OtherPlaces) = some false)
    (q_me_14_9 : PySem.W.kitOne K (.ref C_BadCase) (.ref C_OtherSchema) = some false)
    (q_me_14_10 : PySem.W.kitOne K (.ref C_BadCase) (.ref C_BadValue) = some false)
    (q_me_14_11 : PySem.W.kitOne K (.ref C_BadCase) (.ref C_NoRow) = some false)
    (q_me_14_12 : PySem.W.kitOne K (.ref C_BadCase) (.ref C_Refused) = some false)
    (q_me_14_13 : PySem.W.kitOne K (.ref C_BadCase) (.ref C_Broken) = some false)
    (q_me_14_14 : PySem.W.kitOne K (.ref C_BadCase) (.ref C_BadCase) = some true)
    (q_me_14_15 : PySem.W.kitOne K (.ref C_BadCase) (.ref C_TooManyPatterns) = some false)
    (q_me_14_16 : PySem.W.kitOne K (.ref C_BadCase) (.ref C_BadDerivation) = some false)
    (q_me_14_17 : PySem.W.kitOne K (.ref C_BadCase) (.ref C_NotReachable) = some false)
    (q_me_14_18 : PySem.W.kitOne K (.ref C_BadCase) (.ref C_TooLong) = some false)
    (q_me_14_19 : PySem.W.kitOne K (.ref C_BadCase) (.ref C_NotComparable) = some false)
    (q_me_14_20 : PySem.W.kitOne K (.ref C_BadCase) (.ref C_BadOffer) = some false)
    (q_meA_15 : PySem.W.kitOne K (.ref C_TooManyPatterns) (.ref C_AgreeError) = some true)
    (q_meV_15 : PySem.W.kitOne K (.ref C_TooManyPatterns) (.type "ValueError") = some true)
    (q_me_15_0 : PySem.W.kitOne K (.ref C_TooManyPatterns) (.ref C_BadLine) = some false)
    (q_me_15_1 : PySem.W.kitOne K (.ref C_TooManyPatterns) (.ref C_DuplicateName) = some false)
    (q_me_15_2 : PySem.W.kitOne K (.ref C_TooManyPatterns) (.ref C_UnknownName) = some false)
    (q_me_15_3 : PySem.W.kitOne K (.ref C_TooManyPatterns) (.ref C_WrongTable) = some false)
    (q_me_15_4 : PySem.W.kitOne K (.ref C_TooManyPatterns) (.ref C_WrongCount) = some false)
    (q_me_15_5 : PySem.W.kitOne K (.ref C_TooManyPatterns) (.ref C_TooMany) = some false)
    (q_me_15_6 : PySem.W.kitOne K (.ref C_TooManyPatterns) (.ref C_BadPattern) = some false)
    (q_me_15_7 : PySem.W.kitOne K (.ref C_TooManyPatterns) (.ref C_ConstantsMeet) = some false)
    (q_me_15_8 : PySem.W.kitOne K (.ref C_TooManyPatterns) (.ref C_OtherPlaces) = some false)
    (q_me_15_9 : PySem.W.kitOne K (.ref C_TooManyPatterns) (.ref C_OtherSchema) = some false)
    (q_me_15_10 : PySem.W.kitOne K (.ref C_TooManyPatterns) (.ref C_BadValue) = some false)
    (q_me_15_11 : PySem.W.kitOne K (.ref C_TooManyPatterns) (.ref C_NoRow) = some false)
    (q_me_15_12 : PySem.W.kitOne K (.ref C_TooManyPatterns) (.ref C_Refused) = some false)
    (q_me_15_13 : PySem.W.kitOne K (.ref C_TooManyPatterns) (.ref C_Broken) = some false)
    (q_me_15_14 : PySem.W.kitOne K (.ref C_TooManyPatterns) (.ref C_BadCase) = some false)
    (q_me_15_15 : PySem.W.kitOne K (.ref C_TooManyPatterns) (.ref C_TooManyPatterns) = some true)
    (q_me_15_16 : PySem.W.kitOne K (.ref C_TooManyPatterns) (.ref C_BadDerivation) = some false)
    (q_me_15_17 : PySem.W.kitOne K (.ref C_TooManyPatterns) (.ref C_NotReachable) = some false)
    (q_me_15_18 : PySem.W.kitOne K (.ref C_TooManyPatterns) (.ref C_TooLong) = some false)
    (q_me_15_19 : PySem.W.kitOne K (.ref C_TooManyPatterns) (.ref C_NotComparable) = some false)
    (q_me_15_20 : PySem.W.kitOne K (.ref C_TooManyPatterns) (.ref C_BadOffer) = some false)
    (q_meA_16 : PySem.W.kitOne K (.ref C_BadDerivation) (.ref C_AgreeError) = some true)
    (q_meV_16 : PySem.W.kitOne K (.ref C_BadDerivation) (.type "ValueError") = some true)
    (q_me_16_0 : PySem.W.kitOne K (.ref C_BadDerivation) (.ref C_BadLine) = some false)
    (q_me_16_1 : PySem.W.kitOne K (.ref C_BadDerivation) (.ref C_DuplicateName) = some false)
    (q_me_16_2 : PySem.W.kitOne K (.ref C_BadDerivation) (.ref C_UnknownName) = some false)
    (q_me_16_3 : PySem.W.kitOne K (.ref C_BadDerivation) (.ref C_WrongTable) = some false)
    (q_me_16_4 : PySem.W.kitOne K (.ref C_BadDerivation) (.ref C_WrongCount) = some false)
    (q_me_16_5 : PySem.W.kitOne K (.ref C_BadDerivation) (.ref C_TooMany) = some false)
    (q_me_16_6 : PySem.W.kitOne K (.ref C_BadDerivation) (.ref C_BadPattern) = some false)
    (q_me_16_7 : PySem.W.kitOne K (.ref C_BadDerivation) (.ref C_ConstantsMeet) = some false)
    (q_me_16_8 : PySem.W.kitOne K (.ref C_BadDerivation) (.ref C_OtherPlaces) = some false)
    (q_me_16_9 : PySem.W.kitOne K (.ref C_BadDerivation) (.ref C_OtherSchema) = some false)
    (q_me_16_10 : PySem.W.kitOne K (.ref C_BadDerivation) (.ref C_BadValue) = some false)
    (q_me_16_11 : PySem.W.kitOne K (.ref C_BadDerivation) (.ref C_NoRow) = some false)
    (q_me_16_12 : PySem.W.kitOne K (.ref C_BadDerivation) (.ref C_Refused) = some false)
    (q_me_16_13 : PySem.W.kitOne K (.ref C_BadDerivation) (.ref C_Broken) = some false)
    (q_me_16_14 : PySem.W.kitOne K (.ref C_BadDerivation) (.ref C_BadCase) = some false)
    (q_me_16_15 : PySem.W.kitOne K (.ref C_BadDerivation) (.ref C_TooManyPatterns) = some false)
    (q_me_16_16 : PySem.W.kitOne K (.ref C_BadDerivation) (.ref C_BadDerivation) = some true)
    (q_me_16_17 : PySem.W.kitOne K (.ref C_BadDerivation) (.ref C_NotReachable) = some false)
    (q_me_16_18 : PySem.W.kitOne K (.ref C_BadDerivation) (.ref C_TooLong) = some false)
    (q_me_16_19 : PySem.W.kitOne K (.ref C_BadDerivation) (.ref C_NotComparable) = some false)
    (q_me_16_20 : PySem.W.kitOne K (.ref C_BadDerivation) (.ref C_BadOffer) = some false)
    (q_meA_17 : PySem.W.kitOne K (.ref C_NotReachable) (.ref C_AgreeError) = some true)
    (q_meV_17 : PySem.W.kitOne K (.ref C_NotReachable) (.type "ValueError") = some true)
    (q_me_17_0 : PySem.W.kitOne K (.ref C_NotReachable) (.ref C_BadLine) = some false)
    (q_me_17_1 : PySem.W.kitOne K (.ref C_NotReachable) (.ref C_DuplicateName) = some false)
    (q_me_17_2 : PySem.W.kitOne K (.ref C_NotReachable) (.ref C_UnknownName) = some false)
    (q_me_17_3 : PySem.W.kitOne K (.ref C_NotReachable) (.ref C_WrongTable) = some false)
    (q_me_17_4 : PySem.W.kitOne K (.ref C_NotReachable) (.ref C_WrongCount) = some false)
    (q_me_17_5 : PySem.W.kitOne K (.ref C_NotReachable) (.ref C_TooMany) = some false)
    (q_me_17_6 : PySem.W.kitOne K (.ref C_NotReachable) (.ref C_BadPattern) = some false)
    (q_me_17_7 : PySem.W.kitOne K (.ref C_NotReachable) (.ref C_ConstantsMeet) = some false)
    (q_me_17_8 : PySem.W.kitOne K (.ref C_NotReachable) (.ref C_OtherPlaces) = some false)
    (q_me_17_9 : PySem.W.kitOne K (.ref C_NotReachable) (.ref C_OtherSchema) = some false)
    (q_me_17_10 : PySem.W.kitOne K (.ref C_NotReachable) (.ref C_BadValue) = some false)
    (q_me_17_11 : PySem.W.kitOne K (.ref C_NotReachable) (.ref C_NoRow) = some false)
    (q_me_17_12 : PySem.W.kitOne K (.ref C_NotReachable) (.ref C_Refused) = some false)
    (q_me_17_13 : PySem.W.kitOne K (.ref C_NotReachable) (.ref C_Broken) = some false)
    (q_me_17_14 : PySem.W.kitOne K (.ref C_NotReachable) (.ref C_BadCase) = some false)
    (q_me_17_15 : PySem.W.kitOne K (.ref C_NotReachable) (.ref C_TooManyPatterns) = some false)
    (q_me_17_16 : PySem.W.kitOne K (.ref C_NotReachable) (.ref C_BadDerivation) = some false)
    (q_me_17_17 : PySem.W.kitOne K (.ref C_NotReachable) (.ref C_NotReachable) = some true)
    (q_me_17_18 : PySem.W.kitOne K (.ref C_NotReachable) (.ref C_TooLong) = some false)
    (q_me_17_19 : PySem.W.kitOne K (.ref C_NotReachable) (.ref C_NotComparable) = some false)
    (q_me_17_20 : PySem.W.kitOne K (.ref C_NotReachable) (.ref C_BadOffer) = some false)
    (q_meA_18 : PySem.W.kitOne K (.ref C_TooLong) (.ref C_AgreeError) = some true)
    (q_meV_18 : PySem.W.kitOne K (.ref C_TooLong) (.type "ValueError") = some true)
    (q_me_18_0 : PySem.W.kitOne K (.ref C_TooLong) (.ref C_BadLine) = some false)
    (q_me_18_1 : PySem.W.kitOne K (.ref C_TooLong) (.ref C_DuplicateName) = some false)
    (q_me_18_2 : PySem.W.kitOne K (.ref C_TooLong) (.ref C_UnknownName) = some false)
    (q_me_18_3 : PySem.W.kitOne K (.ref C_TooLong) (.ref C_WrongTable) = some false)
    (q_me_18_4 : PySem.W.kitOne K (.ref C_TooLong) (.ref C_WrongCount) = some false)
    (q_me_18_5 : PySem.W.kitOne K (.ref C_TooLong) (.ref C_TooMany) = some false)
    (q_me_18_6 : PySem.W.kitOne K (.ref C_TooLong) (.ref C_BadPattern) = some false)
    (q_me_18_7 : PySem.W.kitOne K (.ref C_TooLong) (.ref C_ConstantsMeet) = some false)
    (q_me_18_8 : PySem.W.kitOne K (.ref C_TooLong) (.ref C_OtherPlaces) = some false)
    (q_me_18_9 : PySem.W.kitOne K (.ref C_TooLong) (.ref C_OtherSchema) = some false)
    (q_me_18_10 : PySem.W.kitOne K (.ref C_TooLong) (.ref C_BadValue) = some false)
    (q_me_18_11 : PySem.W.kitOne K (.ref C_TooLong) (.ref C_NoRow) = some false)
    (q_me_18_12 : PySem.W.kitOne K (.ref C_TooLong) (.ref C_Refused) = some false)
    (q_me_18_13 : PySem.W.kitOne K (.ref C_TooLong) (.ref C_Broken) = some false)
    (q_me_18_14 : PySem.W.kitOne K (.ref C_TooLong) (.ref C_BadCase) = some false)
    (q_me_18_15 : PySem.W.kitOne K (.ref C_TooLong) (.ref C_TooManyPatterns) = some false)
    (q_me_18_16 : PySem.W.kitOne K (.ref C_TooLong) (.ref C_BadDerivation) = some false)
    (q_me_18_17 : PySem.W.kitOne K (.ref C_TooLong) (.ref C_NotReachable) = some false)
    (q_me_18_18 : PySem.W.kitOne K (.ref C_TooLong) (.ref C_TooLong) = some true)
    (q_me_18_19 : PySem.W.kitOne K (.ref C_TooLong) (.ref C_NotComparable) = some false)
    (q_me_18_20 : PySem.W.kitOne K (.ref C_TooLong) (.ref C_BadOffer) = some false)
    (q_meA_19 : PySem.W.kitOne K (.ref C_NotComparable) (.ref C_AgreeError) = some true)
    (q_meV_19 : PySem.W.kitOne K (.ref C_NotComparable) (.type "ValueError") = some true)
    (q_me_19_0 : PySem.W.kitOne K (.ref C_NotComparable) (.ref C_BadLine) = some false)
    (q_me_19_1 : PySem.W.kitOne K (.ref C_NotComparable) (.ref C_DuplicateName) = some false)
    (q_me_19_2 : PySem.W.kitOne K (.ref C_NotComparable) (.ref C_UnknownName) = some false)
    (q_me_19_3 : PySem.W.kitOne K (.ref C_NotComparable) (.ref C_WrongTable) = some false)
    (q_me_19_4 : PySem.W.kitOne K (.ref C_NotComparable) (.ref C_WrongCount) = some false)
    (q_me_19_5 : PySem.W.kitOne K (.ref C_NotComparable) (.ref C_TooMany) = some false)
    (q_me_19_6 : PySem.W.kitOne K (.ref C_NotComparable) (.ref C_BadPattern) = some false)
    (q_me_19_7 : PySem.W.kitOne K (.ref C_NotComparable) (.ref C_ConstantsMeet) = some false)
    (q_me_19_8 : PySem.W.kitOne K (.ref C_NotComparable) (.ref C_OtherPlaces) = some false)
    (q_me_19_9 : PySem.W.kitOne K (.ref C_NotComparable) (.ref C_OtherSchema) = some false)
    (q_me_19_10 : PySem.W.kitOne K (.ref C_NotComparable) (.ref C_BadValue) = some false)
    (q_me_19_11 : PySem.W.kitOne K (.ref C_NotComparable) (.ref C_NoRow) = some false)
    (q_me_19_12 : PySem.W.kitOne K (.ref C_NotComparable) (.ref C_Refused) = some false)
    (q_me_19_13 : PySem.W.kitOne K (.ref C_NotComparable) (.ref C_Broken) = some false)
    (q_me_19_14 : PySem.W.kitOne K (.ref C_NotComparable) (.ref C_BadCase) = some false)
    (q_me_19_15 : PySem.W.kitOne K (.ref C_NotComparable) (.ref C_TooManyPatterns) = some false)
    (q_me_19_16 : PySem.W.kitOne K (.ref C_NotComparable) (.ref C_BadDerivation) = some false)
    (q_me_19_17 : PySem.W.kitOne K (.ref C_NotComparable) (.ref C_NotReachable) = some false)
    (q_me_19_18 : PySem.W.kitOne K (.ref C_NotComparable) (.ref C_TooLong) = some false)
    (q_me_19_19 : PySem.W.kitOne K (.ref C_NotComparable) (.ref C_NotComparable) = some true)
    (q_me_19_20 : PySem.W.kitOne K (.ref C_NotComparable) (.ref C_BadOffer) = some false)
    (q_meA_20 : PySem.W.kitOne K (.ref C_BadOffer) (.ref C_AgreeError) = some true)
    (q_meV_20 : PySem.W.kitOne K (.ref C_BadOffer) (.type "ValueError") = some true)
    (q_me_20_0 : PySem.W.kitOne K (.ref C_BadOffer) (.ref C_BadLine) = some false)
    (q_me_20_1 : PySem.W.kitOne K (.ref C_BadOffer) (.ref C_DuplicateName) = some false)
    (q_me_20_2 : PySem.W.kitOne K (.ref C_BadOffer) (.ref C_UnknownName) = some false)
    (q_me_20_3 : PySem.W.kitOne K (.ref C_BadOffer) (.ref C_WrongTable) = some false)
    (q_me_20_4 : PySem.W.kitOne K (.ref C_BadOffer) (.ref C_WrongCount) = some false)
    (q_me_20_5 : PySem.W.kitOne K (.ref C_BadOffer) (.ref C_TooMany) = some false)
    (q_me_20_6 : PySem.W.kitOne K (.ref C_BadOffer) (.ref C_BadPattern) = some false)
    (q_me_20_7 : PySem.W.kitOne K (.ref C_BadOffer) (.ref C_ConstantsMeet) = some false)
    (q_me_20_8 : PySem.W.kitOne K (.ref C_BadOffer) (.ref C_OtherPlaces) = some false)
    (q_me_20_9 : PySem.W.kitOne K (.ref C_BadOffer) (.ref C_OtherSchema) = some false)
    (q_me_20_10 : PySem.W.kitOne K (.ref C_BadOffer) (.ref C_BadValue) = some false)
    (q_me_20_11 : PySem.W.kitOne K (.ref C_BadOffer) (.ref C_NoRow) = some false)
    (q_me_20_12 : PySem.W.kitOne K (.ref C_BadOffer) (.ref C_Refused) = some false)
    (q_me_20_13 : PySem.W.kitOne K (.ref C_BadOffer) (.ref C_Broken) = some false)
    (q_me_20_14 : PySem.W.kitOne K (.ref C_BadOffer) (.ref C_BadCase) = some false)
    (q_me_20_15 : PySem.W.kitOne K (.ref C_BadOffer) (.ref C_TooManyPatterns) = some false)
    (q_me_20_16 : PySem.W.kitOne K (.ref C_BadOffer) (.ref C_BadDerivation) = some false)
    (q_me_20_17 : PySem.W.kitOne K (.ref C_BadOffer) (.ref C_NotReachable) = some false)
    (q_me_20_18 : PySem.W.kitOne K (.ref C_BadOffer) (.ref C_TooLong) = some false)
    (q_me_20_19 : PySem.W.kitOne K (.ref C_BadOffer) (.ref C_NotComparable) = some false)
    (q_me_20_20 : PySem.W.kitOne K (.ref C_BadOffer) (.ref C_BadOffer) = some true) :
    ∃ fd : FuncData, (∀ (s : Shared) (v : Value), BindsTo s fd ⟨[v], []⟩ [("_law_script", v)]) ∧ ∀ base : Heap, K.In base → base.Ns mainGlobals mg → FnOk l.prog w K mg base CX0 5 fa fd ["_law_script"] (spLaw K) := by
  have e := hfa.symm.trans (PySem.W.mg_of X G a_law)
  cases e
  have T : Txt K mg := ⟨PySem.W.mg_none_of X G z_len, PySem.W.mg_none_of X G z_abs, PySem.W.mg_none_of X G z_int, PySem.W.mg_none_of X G z_str, PySem.W.mg_none_of X G z_list, PySem.W.mg_none_of X G z_tuple, PySem.W.mg_none_of X G z_range, PySem.W.mg_none_of X G z_isinstance, PySem.W.mg_none_of X G z_any, PySem.W.mg_none_of X G z_all, PySem.W.mg_none_of X G z_sorted, PySem.W.mg_none_of X G z_bool, PySem.W.mg_none_of X G z_ValueError⟩
  have oex_BadLine : OexC K C_BadLine := ⟨⟨_, _, _, _, _, _, _, _, _, _, _, _, _, _, _, x_BadLine, (show PySem.HandSPX.refsVE PySem.HandSPX.veTail = true from by decide +kernel)⟩, sa_BadLine, eb_BadLine, ty_BadLine, kp_BadLine⟩
  have exc_BadLine : ExcC K C_BadLine := ⟨ga_BadLine, gg_BadLine, eb_BadLine, hd_BadLine, ca_BadLine, q_hn, q_htk, mr_BadLine⟩
  have xf_BadLine : XfC K C_BadLine := ⟨ga_BadLine, gg_BadLine, eb_BadLine, hd_BadLine⟩
  have exm_BadLine := PySem.W.exm_ref eb_BadLine hd_BadLine ty_BadLine ss_BadLine
  have oex_DuplicateName : OexC K C_DuplicateName := ⟨⟨_, _, _, _, _, _, _, _, _, _, _, _, _, _, _, x_DuplicateName, (show PySem.HandSPX.refsVE PySem.HandSPX.veTail = true from by decide +kernel)⟩, sa_DuplicateName, eb_DuplicateName, ty_DuplicateName, kp_DuplicateName⟩
  have exc_DuplicateName : ExcC K C_DuplicateName := ⟨ga_DuplicateName, gg_DuplicateName, eb_DuplicateName, hd_DuplicateName, ca_DuplicateName, q_hn, q_htk, mr_DuplicateName⟩
  have xf_DuplicateName : XfC K C_DuplicateName := ⟨ga_DuplicateName, gg_DuplicateName, eb_DuplicateName, hd_DuplicateName⟩
  have exm_DuplicateName := PySem.W.exm_ref eb_DuplicateName hd_DuplicateName ty_DuplicateName ss_DuplicateName
  have oex_UnknownName : OexC K C_UnknownName := ⟨⟨_, _, _, _, _, _, _, _, _, _, _, _, _, _, _, x_UnknownName, (show PySem.HandSPX.refsVE PySem.HandSPX.veTail = true from by decide +kernel)⟩, sa_UnknownName, eb_UnknownName, ty_UnknownName, kp_UnknownName⟩
  have exc_UnknownName : ExcC K C_UnknownName := ⟨ga_UnknownName, gg_UnknownName, eb_UnknownName, hd_UnknownName, ca_UnknownName, q_hn, q_htk, mr_UnknownName⟩
  have xf_UnknownName : XfC K C_UnknownName := ⟨ga_UnknownName, gg_UnknownName, eb_UnknownName, hd_UnknownName⟩
  have exm_UnknownName := PySem.W.exm_ref eb_UnknownName hd_UnknownName ty_UnknownName ss_UnknownName
  have oex_WrongTable : OexC K C_WrongTable := ⟨⟨_, _, _, _, _, _, _, _, _, _, _, _, _, _, _, x_WrongTable, (show PySem.HandSPX.refsVE PySem.HandSPX.veTail = true from by decide +kernel)⟩, sa_WrongTable, eb_WrongTable, ty_WrongTable, kp_WrongTable⟩
  have exc_WrongTable : ExcC K C_WrongTable := ⟨ga_WrongTable, gg_WrongTable, eb_WrongTable, hd_WrongTable, ca_WrongTable, q_hn, q_htk, mr_WrongTable⟩
  have xf_WrongTable : XfC K C_WrongTable := ⟨ga_WrongTable, gg_WrongTable, eb_WrongTable, hd_WrongTable⟩
  have exm_WrongTable := PySem.W.exm_ref eb_WrongTable hd_WrongTable ty_WrongTable ss_WrongTable
  have oex_WrongCount : OexC K C_WrongCount := ⟨⟨_, _, _, _, _, _, _, _, _, _, _, _, _, _, _, x_WrongCount, (show PySem.HandSPX.refsVE PySem.HandSPX.veTail = true from by decide +kernel)⟩, sa_WrongCount, eb_WrongCount, ty_WrongCount, kp_WrongCount⟩
  have exc_WrongCount : ExcC K C_WrongCount := ⟨ga_WrongCount, gg_WrongCount, eb_WrongCount, hd_WrongCount, ca_WrongCount, q_hn, q_htk, mr_WrongCount⟩
  have xf_WrongCount : XfC K C_WrongCount := ⟨ga_WrongCount, gg_WrongCount, eb_WrongCount, hd_WrongCount⟩
  have exm_WrongCount := PySem.W.exm_ref eb_WrongCount hd_WrongCount ty_WrongCount ss_WrongCount
  have oex_TooMany : OexC K C_TooMany := ⟨⟨_, _, _, _, _, _, _, _, _, _, _, _, _, _, _, x_TooMany, (show PySem.HandSPX.refsVE PySem.HandSPX.veTail = true from by decide +kernel)⟩, sa_TooMany, eb_TooMany, ty_TooMany, kp_TooMany⟩
  have exc_TooMany : ExcC K C_TooMany := ⟨ga_TooMany, gg_TooMany, eb_TooMany, hd_TooMany, ca_TooMany, q_hn, q_htk, mr_TooMany⟩
  have xf_TooMany : XfC K C_TooMany := ⟨ga_TooMany, gg_TooMany, eb_TooMany, hd_TooMany⟩
  have exm_TooMany := PySem.W.exm_ref eb_TooMany hd_TooMany ty_TooMany ss_TooMany
  have oex_BadPattern : OexC K C_BadPattern := ⟨⟨_, _, _, _, _, _, _, _, _, _, _, _, _, _, _, x_BadPattern, (show PySem.HandSPX.refsVE PySem.HandSPX.veTail = true from by decide +kernel)⟩, sa_BadPattern, eb_BadPattern, ty_BadPattern, kp_BadPattern⟩
  have exc_BadPattern : ExcC K C_BadPattern := ⟨ga_BadPattern, gg_BadPattern, eb_BadPattern, hd_BadPattern, ca_BadPattern, q_hn, q_htk, mr_BadPattern⟩
  have xf_BadPattern : XfC K C_BadPattern := ⟨ga_BadPattern, gg_BadPattern, eb_BadPattern, hd_BadPattern⟩
  have exm_BadPattern := PySem.W.exm_ref eb_BadPattern hd_BadPattern ty_BadPattern ss_BadPattern
  have oex_ConstantsMeet : OexC K C_ConstantsMeet := ⟨⟨_, _, _, _, _, _, _, _, _, _, _, _, _, _, _, x_ConstantsMeet, (show PySem.HandSPX.refsVE PySem.HandSPX.veTail = true from by decide +kernel)⟩, sa_ConstantsMeet, eb_ConstantsMeet, ty_ConstantsMeet, kp_ConstantsMeet⟩
  have exc_ConstantsMeet : ExcC K C_ConstantsMeet := ⟨ga_ConstantsMeet, gg_ConstantsMeet, eb_ConstantsMeet, hd_ConstantsMeet, ca_ConstantsMeet, q_hn, q_htk, mr_ConstantsMeet⟩
  have xf_ConstantsMeet : XfC K C_ConstantsMeet := ⟨ga_ConstantsMeet, gg_ConstantsMeet, eb_ConstantsMeet, hd_ConstantsMeet⟩
  have exm_ConstantsMeet := PySem.W.exm_ref eb_ConstantsMeet hd_ConstantsMeet ty_ConstantsMeet ss_ConstantsMeet
  have e_OtherPlaces : Err0 K mg "OtherPlaces" C_OtherPlaces := ⟨PySem.W.mg_of X G g_OtherPlaces, xi_OtherPlaces, kp_OtherPlaces, eb_OtherPlaces, ty_OtherPlaces⟩
  have exc_OtherPlaces : ExcC K C_OtherPlaces := ⟨ga_OtherPlaces, gg_OtherPlaces, eb_OtherPlaces, hd_OtherPlaces, ca_OtherPlaces, q_hn, q_htk, mr_OtherPlaces⟩
  have exm_OtherPlaces := PySem.W.exm_ref eb_OtherPlaces hd_OtherPlaces ty_OtherPlaces ss_OtherPlaces
  have e_OtherSchema : Err0 K mg "OtherSchema" C_OtherSchema := ⟨PySem.W.mg_of X G g_OtherSchema, xi_OtherSchema, kp_OtherSchema, eb_OtherSchema, ty_OtherSchema⟩
  have exc_OtherSchema : ExcC K C_OtherSchema := ⟨ga_OtherSchema, gg_OtherSchema, eb_OtherSchema, hd_OtherSchema, ca_OtherSchema, q_hn, q_htk, mr_OtherSchema⟩
  have exm_OtherSchema := PySem.W.exm_ref eb_OtherSchema hd_OtherSchema ty_OtherSchema ss_OtherSchema
  have oex_BadValue : OexC K C_BadValue := ⟨⟨_, _, _, _, _, _, _, _, _, _, _, _, _, _, _, x_BadValue, (show PySem.HandSPX.refsVE PySem.HandSPX.veTail = true from by decide +kernel)⟩, sa_BadValue, eb_BadValue, ty_BadValue, kp_BadValue⟩
  have exc_BadValue : ExcC K C_BadValue := ⟨ga_BadValue, gg_BadValue, eb_BadValue, hd_BadValue, ca_BadValue, q_hn, q_htk, mr_BadValue⟩
  have xf_BadValue : XfC K C_BadValue := ⟨ga_BadValue, gg_BadValue, eb_BadValue, hd_BadValue⟩
  have exm_BadValue := PySem.W.exm_ref eb_BadValue hd_BadValue ty_BadValue ss_BadValue
  have oex_NoRow : OexC K C_NoRow := ⟨⟨_, _, _, _, _, _, _, _, _, _, _, _, _, _, _, x_NoRow, (show PySem.HandSPX.refsVE PySem.HandSPX.veTail = true from by decide +kernel)⟩, sa_NoRow, eb_NoRow, ty_NoRow, kp_NoRow⟩
  have exc_NoRow : ExcC K C_NoRow := ⟨ga_NoRow, gg_NoRow, eb_NoRow, hd_NoRow, ca_NoRow, q_hn, q_htk, mr_NoRow⟩
  have xf_NoRow : XfC K C_NoRow := ⟨ga_NoRow, gg_NoRow, eb_NoRow, hd_NoRow⟩
  have exm_NoRow := PySem.W.exm_ref eb_NoRow hd_NoRow ty_NoRow ss_NoRow
  have oex_Refused : OexC K C_Refused := ⟨⟨_, _, _, _, _, _, _, _, _, _, _, _, _, _, _, x_Refused, (show PySem.HandSPX.refsVE PySem.HandSPX.veTail = true from by decide +kernel)⟩, sa_Refused, eb_Refused, ty_Refused, kp_Refused⟩
  have exc_Refused : ExcC K C_Refused := ⟨ga_Refused, gg_Refused, eb_Refused, hd_Refused, ca_Refused, q_hn, q_htk, mr_Refused⟩
  have xf_Refused : XfC K C_Refused := ⟨ga_Refused, gg_Refused, eb_Refused, hd_Refused⟩
  have exm_Refused := PySem.W.exm_ref eb_Refused hd_Refused ty_Refused ss_Refused
  have oex_Broken : OexC K C_Broken := ⟨⟨_, _, _, _, _, _, _, _, _, _, _, _, _, _, _, x_Broken, (show PySem.HandSPX.refsVE PySem.HandSPX.veTail = true from by decide +kernel)⟩, sa_Broken, eb_Broken, ty_Broken, kp_Broken⟩
  have exc_Broken : ExcC K C_Broken := ⟨ga_Broken, gg_Broken, eb_Broken, hd_Broken, ca_Broken, q_hn, q_htk, mr_Broken⟩
  have xf_Broken : XfC K C_Broken := ⟨ga_Broken, gg_Broken, eb_Broken, hd_Broken⟩
  have exm_Broken := PySem.W.exm_ref eb_Broken hd_Broken ty_Broken ss_Broken
  have e_BadCase : Err0 K mg "BadCase" C_BadCase := ⟨PySem.W.mg_of X G g_BadCase, xi_BadCase, kp_BadCase, eb_BadCase, ty_BadCase⟩
  have exc_BadCase : ExcC K C_BadCase := ⟨ga_BadCase, gg_BadCase, eb_BadCase, hd_BadCase, ca_BadCase, q_hn, q_htk, mr_BadCase⟩
  have exm_BadCase := PySem.W.exm_ref eb_BadCase hd_BadCase ty_BadCase ss_BadCase
  have oex_TooManyPatterns : OexC K C_TooManyPatterns := ⟨⟨_, _, _, _, _, _, _, _, _, _, _, _, _, _, _, x_TooManyPatterns, (show PySem.HandSPX.refsVE PySem.HandSPX.veTail = true from by decide +kernel)⟩, sa_TooManyPatterns, eb_TooManyPatterns, ty_TooManyPatterns, kp_TooManyPatterns⟩
  have exc_TooManyPatterns : ExcC K C_TooManyPatterns := ⟨ga_TooManyPatterns, gg_TooManyPatterns, eb_TooManyPatterns, hd_TooManyPatterns, ca_TooManyPatterns, q_hn, q_htk, mr_TooManyPatterns⟩
  have xf_TooManyPatterns : XfC K C_TooManyPatterns := ⟨ga_TooManyPatterns, gg_TooManyPatterns, eb_TooManyPatterns, hd_TooManyPatterns⟩
  have exm_TooManyPatterns := PySem.W.exm_ref eb_TooManyPatterns hd_TooManyPatterns ty_TooManyPatterns ss_TooManyPatterns
  have oex_BadDerivation : OexC K C_BadDerivation := ⟨⟨_, _, _, _, _, _, _, _, _, _, _, _, _, _, _, x_BadDerivation, (show PySem.HandSPX.refsVE PySem.HandSPX.veTail = true from by decide +kernel)⟩, sa_BadDerivation, eb_BadDerivation, ty_BadDerivation, kp_BadDerivation⟩
  have exc_BadDerivation : ExcC K C_BadDerivation := ⟨ga_BadDerivation, gg_BadDerivation, eb_BadDerivation, hd_BadDerivation, ca_BadDerivation, q_hn, q_htk, mr_BadDerivation⟩
  have xf_BadDerivation : XfC K C_BadDerivation := ⟨ga_BadDerivation, gg_BadDerivation, eb_BadDerivation, hd_BadDerivation⟩
  have exm_BadDerivation := PySem.W.exm_ref eb_BadDerivation hd_BadDerivation ty_BadDerivation ss_BadDerivation
  have e_NotReachable : Err0 K mg "NotReachable" C_NotReachable := ⟨PySem.W.mg_of X G g_NotReachable, xi_NotReachable, kp_NotReachable, eb_NotReachable, ty_NotReachable⟩
  have exc_NotReachable : ExcC K C_NotReachable := ⟨ga_NotReachable, gg_NotReachable, eb_NotReachable, hd_NotReachable, ca_NotReachable, q_hn, q_htk, mr_NotReachable⟩
  have exm_NotReachable := PySem.W.exm_ref eb_NotReachable hd_NotReachable ty_NotReachable ss_NotReachable
  have oex_TooLong : OexC K C_TooLong := ⟨⟨_, _, _, _, _, _, _, _, _, _, _, _, _, _, _, x_TooLong, (show PySem.HandSPX.refsVE PySem.HandSPX.veTail = true from by decide +kernel)⟩, sa_TooLong, eb_TooLong, ty_TooLong, kp_TooLong⟩
  have exc_TooLong : ExcC K C_TooLong := ⟨ga_TooLong, gg_TooLong, eb_TooLong, hd_TooLong, ca_TooLong, q_hn, q_htk, mr_TooLong⟩
  have xf_TooLong : XfC K C_TooLong := ⟨ga_TooLong, gg_TooLong, eb_TooLong, hd_TooLong⟩
  have exm_TooLong := PySem.W.exm_ref eb_TooLong hd_TooLong ty_TooLong ss_TooLong
  have e_NotComparable : Err0 K mg "NotComparable" C_NotComparable := ⟨PySem.W.mg_of X G g_NotComparable, xi_NotComparable, kp_NotComparable, eb_NotComparable, ty_NotComparable⟩
  have exc_NotComparable : ExcC K C_NotComparable := ⟨ga_NotComparable, gg_NotComparable, eb_NotComparable, hd_NotComparable, ca_NotComparable, q_hn, q_htk, mr_NotComparable⟩
  have exm_NotComparable := PySem.W.exm_ref eb_NotComparable hd_NotComparable ty_NotComparable ss_NotComparable
  have oex_BadOffer : OexC K C_BadOffer := ⟨⟨_, _, _, _, _, _, _, _, _, _, _, _, _, _, _, x_BadOffer, (show PySem.HandSPX.refsVE PySem.HandSPX.veTail = true from by decide +kernel)⟩, sa_BadOffer, eb_BadOffer, ty_BadOffer, kp_BadOffer⟩
  have exc_BadOffer : ExcC K C_BadOffer := ⟨ga_BadOffer, gg_BadOffer, eb_BadOffer, hd_BadOffer, ca_BadOffer, q_hn, q_htk, mr_BadOffer⟩
  have xf_BadOffer : XfC K C_BadOffer := ⟨ga_BadOffer, gg_BadOffer, eb_BadOffer, hd_BadOffer⟩
  have exm_BadOffer := PySem.W.exm_ref eb_BadOffer hd_BadOffer ty_BadOffer ss_BadOffer
  have F_BadLine___init__ := fun_mk (st := (inClass (topS 2) 0)) l_BadLine___init__ o_BadLine___init__ k_BadLine___init__
  have b_BadLine___init__ := F_BadLine___init__.binds (ps := ["self", "line"]) fun _ _ _ _ _ _ us hl => match us, hl with | [_, _], _ => rfl
  have F_DuplicateName___init__ := fun_mk (st := (inClass (topS 3) 0)) l_DuplicateName___init__ o_DuplicateName___init__ k_DuplicateName___init__
  have b_DuplicateName___init__ := F_DuplicateName___init__.binds (ps := ["self", "line", "name"]) fun _ _ _ _ _ _ us hl => match us, hl with | [_, _, _], _ => rfl
  have F_UnknownName___init__ := fun_mk (st := (inClass (topS 4) 0)) l_UnknownName___init__ o_UnknownName___init__ k_UnknownName___init__
  have b_UnknownName___init__ := F_UnknownName___init__.binds (ps := ["self", "line", "name"]) fun _ _ _ _ _ _ us hl => match us, hl with | [_, _, _], _ => rfl
  have F_WrongTable___init__ := fun_mk (st := (inClass (topS 5) 0)) l_WrongTable___init__ o_WrongTable___init__ k_WrongTable___init__
  have b_WrongTable___init__ := F_WrongTable___init__.binds (ps := ["self", "line", "name"]) fun _ _ _ _ _ _ us hl => match us, hl with | [_, _, _], _ => rfl
  have F_WrongCount___init__ := fun_mk (st := (inClass (topS 6) 0)) l_WrongCount___init__ o_WrongCount___init__ k_WrongCount___init__
  have b_WrongCount___init__ := F_WrongCount___init__.binds (ps := ["self", "line"]) fun _ _ _ _ _ _ us hl => match us, hl with | [_, _], _ => rfl
  have F_TooMany___init__ := fun_mk (st := (inClass (topS 7) 0)) l_TooMany___init__ o_TooMany___init__ k_TooMany___init__
  have b_TooMany___init__ := F_TooMany___init__.binds (ps := ["self", "line"]) fun _ _ _ _ _ _ us hl => match us, hl with | [_, _], _ => rfl
  have F_BadPattern___init__ := fun_mk (st := (inClass (topS 8) 0)) l_BadPattern___init__ o_BadPattern___init__ k_BadPattern___init__
  have b_BadPattern___init__ := F_BadPattern___init__.binds (ps := ["self", "place"]) fun _ _ _ _ _ _ us hl => match us, hl with | [_, _], _ => rfl
  have F_ConstantsMeet___init__ := fun_mk (st := (inClass (topS 9) 0)) l_ConstantsMeet___init__ o_ConstantsMeet___init__ k_ConstantsMeet___init__
  have b_ConstantsMeet___init__ := F_ConstantsMeet___init__.binds (ps := ["self", "first", "second"]) fun _ _ _ _ _ _ us hl => match us, hl with | [_, _, _], _ => rfl
  have F_BadValue___init__ := fun_mk (st := (inClass (topS 12) 0)) l_BadValue___init__ o_BadValue___init__ k_BadValue___init__
  have b_BadValue___init__ := F_BadValue___init__.binds (ps := ["self", "value"]) fun _ _ _ _ _ _ us hl => match us, hl with | [_, _], _ => rfl
  have F_NoRow___init__ := fun_mk (st := (inClass (topS 13) 0)) l_NoRow___init__ o_NoRow___init__ k_NoRow___init__
  have b_NoRow___init__ := F_NoRow___init__.binds (ps := ["self", "table", "number"]) fun _ _ _ _ _ _ us hl => match us, hl with | [_, _, _], _ => rfl
  have F_Refused___init__ : FunD K "__init__" "Refused.__init__" (defArgs (inClass (topS 14) 0)) (defBody (inClass (topS 14) 0)) (defScope (inClass (topS 14) 0)) [.non, .non] [] f_Refused___init__ _ := ⟨⟨_, _, _, _, _, _, _, _, _, _, rfl, l_Refused___init__, o_Refused___init__, .inr ⟨by simp, T_Refused___init__, _, [.none, .none], _, rfl, lt_Refused___init__, rfl, .cons rfl (.cons rfl (.nil))⟩, .inl rfl⟩, k_Refused___init__⟩
  have b_Refused___init__ := F_Refused___init__.binds1 (ps := ["self", "handler", "guard", "agreement", "number"]) 5 2 (by simp) rfl fun _ _ _ _ _ _ _ us its hu hi => (match us, its, hu, hi with | [_, _, _, _, _], [_, _], _, _ => ⟨_, rfl, rfl⟩)
  have b_Refused___init___d := F_Refused___init__.binds1 (ps := ["self", "handler", "guard", "agreement", "number"]) 3 0 (by simp) rfl fun _ _ _ _ _ _ _ us its hu hi => (match us, its, hu, hi with | [_, _, _], [_, _], _, _ => ⟨_, rfl, rfl⟩)
  have F_Broken___init__ := fun_mk (st := (inClass (topS 15) 0)) l_Broken___init__ o_Broken___init__ k_Broken___init__
  have b_Broken___init__ := F_Broken___init__.binds (ps := ["self", "agreement", "number"]) fun _ _ _ _ _ _ us hl => match us, hl with | [_, _, _], _ => rfl
  have F_TooManyPatterns___init__ := fun_mk (st := (inClass (topS 17) 0)) l_TooManyPatterns___init__ o_TooManyPatterns___init__ k_TooManyPatterns___init__
  have b_TooManyPatterns___init__ := F_TooManyPatterns___init__.binds (ps := ["self", "table"]) fun _ _ _ _ _ _ us hl => match us, hl with | [_, _], _ => rfl
  have F_BadDerivation___init__ := fun_mk (st := (inClass (topS 18) 0)) l_BadDerivation___init__ o_BadDerivation___init__ k_BadDerivation___init__
  have b_BadDerivation___init__ := F_BadDerivation___init__.binds (ps := ["self", "line"]) fun _ _ _ _ _ _ us hl => match us, hl with | [_, _], _ => rfl
  have F_TooLong___init__ := fun_mk (st := (inClass (topS 20) 0)) l_TooLong___init__ o_TooLong___init__ k_TooLong___init__
  have b_TooLong___init__ := F_TooLong___init__.binds (ps := ["self", "size"]) fun _ _ _ _ _ _ us hl => match us, hl with | [_, _], _ => rfl
  have F_BadOffer___init__ := fun_mk (st := (inClass (topS 22) 0)) l_BadOffer___init__ o_BadOffer___init__ k_BadOffer___init__
  have b_BadOffer___init__ := F_BadOffer___init__.binds (ps := ["self", "number"]) fun _ _ _ _ _ _ us hl => match us, hl with | [_, _], _ => rfl
  have F_family := fun_mk (st := (topS 27)) l_family o_family k_family
  have b_family := F_family.binds (ps := ["_law_error"]) fun _ _ _ _ _ _ us hl => match us, hl with | [_], _ => rfl
  have F_get_kin := fun_mk (st := (topS 28)) l_get_kin o_get_kin k_get_kin
  have b_get_kin := F_get_kin.binds (ps := ["_law_error", "_law_place"]) fun _ _ _ _ _ _ us hl => match us, hl with | [_, _], _ => rfl
  have F_caught := fun_mk (st := (topS 31)) l_caught o_caught k_caught
  have b_caught := F_caught.binds (ps := ["_law_number"]) fun _ _ _ _ _ _ us hl => match us, hl with | [_], _ => rfl
  have F_get_numbers := fun_mk (st := (topS 29)) l_get_numbers o_get_numbers k_get_numbers
  have b_get_numbers := F_get_numbers.binds (ps := ["_law_number", "_law_word"]) fun _ _ _ _ _ _ us hl => match us, hl with | [_, _], _ => rfl
  have F_get_others := fun_mk (st := (topS 30)) l_get_others o_get_others k_get_others
  have b_get_others := F_get_others.binds (ps := ["_law_number", "_law_word", "_law_other", "_law_agreement"]) fun _ _ _ _ _ _ us hl => match us, hl with | [_, _, _, _], _ => rfl
  have F_draw := fun_mk (st := (topS 25)) l_draw o_draw k_draw
  have b_draw := F_draw.binds (ps := ["_law_st", "_law_limit"]) fun _ _ _ _ _ _ us hl => match us, hl with | [_, _], _ => rfl
  have F_get_state := fun_mk (st := (topS 24)) l_get_state o_get_state k_get_state
  have b_get_state := F_get_state.binds (ps := ["_law_script"]) fun _ _ _ _ _ _ us hl => match us, hl with | [_], _ => rfl
  have F_get_words := fun_mk (st := (topS 26)) l_get_words o_get_words k_get_words
  have b_get_words := F_get_words.binds (ps := ["_law_st", "_law_most", "_law_count"]) fun _ _ _ _ _ _ us hl => match us, hl with | [_, _, _], _ => rfl
  have F_law := fun_mk (st := (topS 32)) l_law o_law k_law
  have fam_BadLine : Fam K C_AgreeError [C_BadLine, C_DuplicateName, C_UnknownName, C_WrongTable, C_WrongCount, C_TooMany, C_BadPattern, C_ConstantsMeet, C_OtherPlaces, C_OtherSchema, C_BadValue, C_NoRow, C_Refused, C_Broken, C_BadCase, C_TooManyPatterns, C_BadDerivation, C_NotReachable, C_TooLong, C_NotComparable, C_BadOffer] C_BadLine (famB 0) := ⟨q_meA_0, q_meV_0, by rw [show famB 0 = [true, false, false, false, false, false, false, false, false, false, false, false, false, false, false, false, false, false, false, false, false] from by decide]; exact .cons q_me_0_0 (.cons q_me_0_1 (.cons q_me_0_2 (.cons q_me_0_3 (.cons q_me_0_4 (.cons q_me_0_5 (.cons q_me_0_6 (.cons q_me_0_7 (.cons q_me_0_8 (.cons q_me_0_9 (.cons q_me_0_10 (.cons q_me_0_11 (.cons q_me_0_12 (.cons q_me_0_13 (.cons q_me_0_14 (.cons q_me_0_15 (.cons q_me_0_16 (.cons q_me_0_17 (.cons q_me_0_18 (.cons q_me_0_19 (.cons q_me_0_20 (.nil)))))))))))))))))))))⟩
  have fam_DuplicateName : Fam K C_AgreeError [C_BadLine, C_DuplicateName, C_UnknownName, C_WrongTable, C_WrongCount, C_TooMany, C_BadPattern, C_ConstantsMeet, C_OtherPlaces, C_OtherSchema, C_BadValue, C_NoRow, C_Refused, C_Broken, C_BadCase, C_TooManyPatterns, C_BadDerivation, C_NotReachable, C_TooLong, C_NotComparable, C_BadOffer] C_DuplicateName (famB 1) := ⟨q_meA_1, q_meV_1, by rw [show famB 1 = [false, true, false, false, false, false, false, false, false, false, false, false, false, false, false, false, false, false, false, false, false] from by decide]; exact .cons q_me_1_0 (.cons q_me_1_1 (.cons q_me_1_2 (.cons q_me_1_3 (.cons q_me_1_4 (.cons q_me_1_5 (.cons q_me_1_6 (.cons q_me_1_7 (.cons q_me_1_8 (.cons q_me_1_9 (.cons q_me_1_10 (.cons q_me_1_11 (.cons q_me_1_12 (.cons q_me_1_13 (.cons q_me_1_14 (.cons q_me_1_15 (.cons q_me_1_16 (.cons q_me_1_17 (.cons q_me_1_18 (.cons q_me_1_19 (.cons q_me_1_20 (.nil)))))))))))))))))))))⟩
  have fam_UnknownName : Fam K C_AgreeError [C_BadLine, C_DuplicateName, C_UnknownName, C_WrongTable, C_WrongCount, C_TooMany, C_BadPattern, C_ConstantsMeet, C_OtherPlaces, C_OtherSchema, C_BadValue, C_NoRow, C_Refused, C_Broken, C_BadCase, C_TooManyPatterns, C_BadDerivation, C_NotReachable, C_TooLong, C_NotComparable, C_BadOffer] C_UnknownName (famB 2) := ⟨q_meA_2, q_meV_2, by rw [show famB 2 = [false, false, true, false, false, false, false, false, false, false, false, false, false, false, false, false, false, false, false, false, false] from by decide]; exact .cons q_me_2_0 (.cons q_me_2_1 (.cons q_me_2_2 (.cons q_me_2_3 (.cons q_me_2_4 (.cons q_me_2_5 (.cons q_me_2_6 (.cons q_me_2_7 (.cons q_me_2_8 (.cons q_me_2_9 (.cons q_me_2_10 (.cons q_me_2_11 (.cons q_me_2_12 (.cons q_me_2_13 (.cons q_me_2_14 (.cons q_me_2_15 (.cons q_me_2_16 (.cons q_me_2_17 (.cons q_me_2_18 (.cons q_me_2_19 (.cons q_me_2_20 (.nil)))))))))))))))))))))⟩
  have fam_WrongTable : Fam K C_AgreeError [C_BadLine, C_DuplicateName, C_UnknownName, C_WrongTable, C_WrongCount, C_TooMany, C_BadPattern, C_ConstantsMeet, C_OtherPlaces, C_OtherSchema, C_BadValue, C_NoRow, C_Refused, C_Broken, C_BadCase, C_TooManyPatterns, C_BadDerivation, C_NotReachable, C_TooLong, C_NotComparable, C_BadOffer] C_WrongTable (famB 3) := ⟨q_meA_3, q_meV_3, by rw [show famB 3 = [false, false, false, true, false, false, false, false, false, false, false, false, false, false, false, false, false, false, false, false, false] from by decide]; exact .cons q_me_3_0 (.cons q_me_3_1 (.cons q_me_3_2 (.cons q_me_3_3 (.cons q_me_3_4 (.cons q_me_3_5 (.cons q_me_3_6 (.cons q_me_3_7 (.cons q_me_3_8 (.cons q_me_3_9 (.cons q_me_3_10 (.cons q_me_3_11 (.cons q_me_3_12 (.cons q_me_3_13 (.cons q_me_3_14 (.cons q_me_3_15 (.cons q_me_3_16 (.cons q_me_3_17 (.cons q_me_3_18 (.cons q_me_3_19 (.cons q_me_3_20 (.nil)))))))))))))))))))))⟩
  have fam_WrongCount : Fam K C_AgreeError [C_BadLine, C_DuplicateName, C_UnknownName, C_WrongTable, C_WrongCount, C_TooMany, C_BadPattern, C_ConstantsMeet, C_OtherPlaces, C_OtherSchema, C_BadValue, C_NoRow, C_Refused, C_Broken, C_BadCase, C_TooManyPatterns, C_BadDerivation, C_NotReachable, C_TooLong, C_NotComparable, C_BadOffer] C_WrongCount (famB 4) := ⟨q_meA_4, q_meV_4, by rw [show famB 4 = [false, false, false, false, true, false, false, false, false, false, false, false, false, false, false, false, false, false, false, false, false] from by decide]; exact .cons q_me_4_0 (.cons q_me_4_1 (.cons q_me_4_2 (.cons q_me_4_3 (.cons q_me_4_4 (.cons q_me_4_5 (.cons q_me_4_6 (.cons q_me_4_7 (.cons q_me_4_8 (.cons q_me_4_9 (.cons q_me_4_10 (.cons q_me_4_11 (.cons q_me_4_12 (.cons q_me_4_13 (.cons q_me_4_14 (.cons q_me_4_15 (.cons q_me_4_16 (.cons q_me_4_17 (.cons q_me_4_18 (.cons q_me_4_19 (.cons q_me_4_20 (.nil)))))))))))))))))))))⟩
  have fam_TooMany : Fam K C_AgreeError [C_BadLine, C_DuplicateName, C_UnknownName, C_WrongTable, C_WrongCount, C_TooMany, C_BadPattern, C_ConstantsMeet, C_OtherPlaces, C_OtherSchema, C_BadValue, C_NoRow, C_Refused, C_Broken, C_BadCase, C_TooManyPatterns, C_BadDerivation, C_NotReachable, C_TooLong, C_NotComparable, C_BadOffer] C_TooMany (famB 5) := ⟨q_meA_5, q_meV_5, by rw [show famB 5 = [false, false, false, false, false, true, false, false, false, false, false, false, false, false, false, false, false, false, false, false, false] from by decide]; exact .cons q_me_5_0 (.cons q_me_5_1 (.cons q_me_5_2 (.cons q_me_5_3 (.cons q_me_5_4 (.cons q_me_5_5 (.cons q_me_5_6 (.cons q_me_5_7 (.cons q_me_5_8 (.cons q_me_5_9 (.cons q_me_5_10 (.cons q_me_5_11 (.cons q_me_5_12 (.cons q_me_5_13 (.cons q_me_5_14 (.cons q_me_5_15 (.cons q_me_5_16 (.cons q_me_5_17 (.cons q_me_5_18 (.cons q_me_5_19 (.cons q_me_5_20 (.nil)))))))))))))))))))))⟩
  have fam_BadPattern : Fam K C_AgreeError [C_BadLine, C_DuplicateName, C_UnknownName, C_WrongTable, C_WrongCount, C_TooMany, C_BadPattern, C_ConstantsMeet, C_OtherPlaces, C_OtherSchema, C_BadValue, C_NoRow, C_Refused, C_Broken, C_BadCase, C_TooManyPatterns, C_BadDerivation, C_NotReachable, C_TooLong, C_NotComparable, C_BadOffer] C_BadPattern (famB 6) := ⟨q_meA_6, q_meV_6, by rw [show famB 6 = [false, false, false, false, false, false, true, false, false, false, false, false, false, false, false, false, false, false, false, false, false] from by decide]; exact .cons q_me_6_0 (.cons q_me_6_1 (.cons q_me_6_2 (.cons q_me_6_3 (.cons q_me_6_4 (.cons q_me_6_5 (.cons q_me_6_6 (.cons q_me_6_7 (.cons q_me_6_8 (.cons q_me_6_9 (.cons q_me_6_10 (.cons q_me_6_11 (.cons q_me_6_12 (.cons q_me_6_13 (.cons q_me_6_14 (.cons q_me_6_15 (.cons q_me_6_16 (.cons q_me_6_17 (.cons q_me_6_18 (.cons q_me_6_19 (.cons q_me_6_20 (.nil)))))))))))))))))))))⟩
  have fam_ConstantsMeet : Fam K C_AgreeError [C_BadLine, C_DuplicateName, C_UnknownName, C_WrongTable, C_WrongCount, C_TooMany, C_BadPattern, C_ConstantsMeet, C_OtherPlaces, C_OtherSchema, C_BadValue, C_NoRow, C_Refused, C_Broken, C_BadCase, C_TooManyPatterns, C_BadDerivation, C_NotReachable, C_TooLong, C_NotComparable, C_BadOffer] C_ConstantsMeet (famB 7) := ⟨q_meA_7, q_meV_7, by rw [show famB 7 = [false, false, false, false, false, false, false, true, false, false, false, false, false, false, false, false, false, false, false, false, false] from by decide]; exact .cons q_me_7_0 (.cons q_me_7_1 (.cons q_me_7_2 (.cons q_me_7_3 (.cons q_me_7_4 (.cons q_me_7_5 (.cons q_me_7_6 (.cons q_me_7_7 (.cons q_me_7_8 (.cons q_me_7_9 (.cons q_me_7_10 (.cons q_me_7_11 (.cons q_me_7_12 (.cons q_me_7_13 (.cons q_me_7_14 (.cons q_me_7_15 (.cons q_me_7_16 (.cons q_me_7_17 (.cons q_me_7_18 (.cons q_me_7_19 (.cons q_me_7_20 (.nil)))))))))))))))))))))⟩
  have fam_OtherPlaces : Fam K C_AgreeError [C_BadLine, C_DuplicateName, C_UnknownName, C_WrongTable, C_WrongCount, C_TooMany, C_BadPattern, C_ConstantsMeet, C_OtherPlaces, C_OtherSchema, C_BadValue, C_NoRow, C_Refused, C_Broken, C_BadCase, C_TooManyPatterns, C_BadDerivation, C_NotReachable, C_TooLong, C_NotComparable, C_BadOffer] C_OtherPlaces (famB 8) := ⟨q_meA_8, q_meV_8, by rw [show famB 8 = [false, false, false, false, false, false, false, false, true, false, false, false, false, false, false, false, false, false, false, false, false] from by decide]; exact .cons q_me_8_0 (.cons q_me_8_1 (.cons q_me_8_2 (.cons q_me_8_3 (.cons q_me_8_4 (.cons q_me_8_5 (.cons q_me_8_6 (.cons q_me_8_7 (.cons q_me_8_8 (.cons q_me_8_9 (.cons q_me_8_10 (.cons q_me_8_11 (.cons q_me_8_12 (.cons q_me_8_13 (.cons q_me_8_14 (.cons q_me_8_15 (.cons q_me_8_16 (.cons q_me_8_17 (.cons q_me_8_18 (.cons q_me_8_19 (.cons q_me_8_20 (.nil)))))))))))))))))))))⟩
  have fam_OtherSchema : Fam K C_AgreeError [C_BadLine, C_DuplicateName, C_UnknownName, C_WrongTable, C_WrongCount, C_TooMany, C_BadPattern, C_ConstantsMeet, C_OtherPlaces, C_OtherSchema, C_BadValue, C_NoRow, C_Refused, C_Broken, C_BadCase, C_TooManyPatterns, C_BadDerivation, C_NotReachable, C_TooLong, C_NotComparable, C_BadOffer] C_OtherSchema (famB 9) := ⟨q_meA_9, q_meV_9, by rw [show famB 9 = [false, false, false, false, false, false, false, false, false, true, false, false, false, false, false, false, false, false, false, false, false] from by decide]; exact .cons q_me_9_0 (.cons q_me_9_1 (.cons q_me_9_2 (.cons q_me_9_3 (.cons q_me_9_4 (.cons q_me_9_5 (.cons q_me_9_6 (.cons q_me_9_7 (.cons q_me_9_8 (.cons q_me_9_9 (.cons q_me_9_10 (.cons q_me_9_11 (.cons q_me_9_12 (.cons q_me_9_13 (.cons q_me_9_14 (.cons q_me_9_15 (.cons q_me_9_16 (.cons q_me_9_17 (.cons q_me_9_18 (.cons q_me_9_19 (.cons q_me_9_20 (.nil)))))))))))))))))))))⟩
  have fam_BadValue : Fam K C_AgreeError [C_BadLine, C_DuplicateName, C_UnknownName, C_WrongTable, C_WrongCount, C_TooMany, C_BadPattern, C_ConstantsMeet, C_OtherPlaces, C_OtherSchema, C_BadValue, C_NoRow, C_Refused, C_Broken, C_BadCase, C_TooManyPatterns, C_BadDerivation, C_NotReachable, C_TooLong, C_NotComparable, C_BadOffer] C_BadValue (famB 10) := ⟨q_meA_10, q_meV_10, by rw [show famB 10 = [false, false, false, false, false, false, false, false, false, false, true, false, false, false, false, false, false, false, false, false, false] from by decide]; exact .cons q_me_10_0 (.cons q_me_10_1 (.cons q_me_10_2 (.cons q_me_10_3 (.cons q_me_10_4 (.cons q_me_10_5 (.cons q_me_10_6 (.cons q_me_10_7 (.cons q_me_10_8 (.cons q_me_10_9 (.cons q_me_10_10 (.cons q_me_10_11 (.cons q_me_10_12 (.cons q_me_10_13 (.cons q_me_10_14 (.cons q_me_10_15 (.cons q_me_10_16 (.cons q_me_10_17 (.cons q_me_10_18 (.cons q_me_10_19 (.cons q_me_10_20 (.nil)))))))))))))))))))))⟩
  have fam_NoRow : Fam K C_AgreeError [C_BadLine, C_DuplicateName, C_UnknownName, C_WrongTable, C_WrongCount, C_TooMany, C_BadPattern, C_ConstantsMeet, C_OtherPlaces, C_OtherSchema, C_BadValue, C_NoRow, C_Refused, C_Broken, C_BadCase, C_TooManyPatterns, C_BadDerivation, C_NotReachable, C_TooLong, C_NotComparable, C_BadOffer] C_NoRow (famB 11) := ⟨q_meA_11, q_meV_11, by rw [show famB 11 = [false, false, false, false, false, false, false, false, false, false, false, true, false, false, false, false, false, false, false, false, false] from by decide]; exact .cons q_me_11_0 (.cons q_me_11_1 (.cons q_me_11_2 (.cons q_me_11_3 (.cons q_me_11_4 (.cons q_me_11_5 (.cons q_me_11_6 (.cons q_me_11_7 (.cons q_me_11_8 (.cons q_me_11_9 (.cons q_me_11_10 (.cons q_me_11_11 (.cons q_me_11_12 (.cons q_me_11_13 (.cons q_me_11_14 (.cons q_me_11_15 (.cons q_me_11_16 (.cons q_me_11_17 (.cons q_me_11_18 (.cons q_me_11_19 (.cons q_me_11_20 (.nil)))))))))))))))))))))⟩
  have fam_Refused : Fam K C_AgreeError [C_BadLine, C_DuplicateName, C_UnknownName, C_WrongTable, C_WrongCount, C_TooMany, C_BadPattern, C_ConstantsMeet, C_OtherPlaces, C_OtherSchema, C_BadValue, C_NoRow, C_Refused, C_Broken, C_BadCase, C_TooManyPatterns, C_BadDerivation, C_NotReachable, C_TooLong, C_NotComparable, C_BadOffer] C_Refused (famB 12) := ⟨q_meA_12, q_meV_12, by rw [show famB 12 = [false, false, false, false, false, false, false, false, false, false, false, false, true, false, false, false, false, false, false, false, false] from by decide]; exact .cons q_me_12_0 (.cons q_me_12_1 (.cons q_me_12_2 (.cons q_me_12_3 (.cons q_me_12_4 (.cons q_me_12_5 (.cons q_me_12_6 (.cons q_me_12_7 (.cons q_me_12_8 (.cons q_me_12_9 (.cons q_me_12_10 (.cons q_me_12_11 (.cons q_me_12_12 (.cons q_me_12_13 (.cons q_me_12_14 (.cons q_me_12_15 (.cons q_me_12_16 (.cons q_me_12_17 (.cons q_me_12_18 (.cons q_me_12_19 (.cons q_me_12_20 (.nil)))))))))))))))))))))⟩
  have fam_Broken : Fam K C_AgreeError [C_BadLine, C_DuplicateName, C_UnknownName, C_WrongTable, C_WrongCount, C_TooMany, C_BadPattern, C_ConstantsMeet, C_OtherPlaces, C_OtherSchema, C_BadValue, C_NoRow, C_Refused, C_Broken, C_BadCase, C_TooManyPatterns, C_BadDerivation, C_NotReachable, C_TooLong, C_NotComparable, C_BadOffer] C_Broken (famB 13) := ⟨q_meA_13, q_meV_13, by rw [show famB 13 = [false, false, false, false, false, false, false, false, false, false, false, false, false, true, false, false, false, false, false, false, false] from by decide]; exact .cons q_me_13_0 (.cons q_me_13_1 (.cons q_me_13_2 (.cons q_me_13_3 (.cons q_me_13_4 (.cons q_me_13_5 (.cons q_me_13_6 (.cons q_me_13_7 (.cons q_me_13_8 (.cons q_me_13_9 (.cons q_me_13_10 (.cons q_me_13_11 (.cons q_me_13_12 (.cons q_me_13_13 (.cons q_me_13_14 (.cons q_me_13_15 (.cons q_me_13_16 (.cons q_me_13_17 (.cons q_me_13_18 (.cons q_me_13_19 (.cons q_me_13_20 (.nil)))))))))))))))))))))⟩
  have fam_BadCase : Fam K C_AgreeError [C_BadLine, C_DuplicateName, C_UnknownName, C_WrongTable, C_WrongCount, C_TooMany, C_BadPattern, C_ConstantsMeet, C_OtherPlaces, C_OtherSchema, C_BadValue, C_NoRow, C_Refused, C_Broken, C_BadCase, C_TooManyPatterns, C_BadDerivation, C_NotReachable, C_TooLong, C_NotComparable, C_BadOffer] C_BadCase (famB 14) := ⟨q_meA_14, q_meV_14, by rw [show famB 14 = [false, false, false, false, false, false, false, false, false, false, false, false, false, false, true, false, false, false, false, false, false] from by decide]; exact .cons q_me_14_0 (.cons q_me_14_1 (.cons q_me_14_2 (.cons q_me_14_3 (.cons q_me_14_4 (.cons q_me_14_5 (.cons q_me_14_6 (.cons q_me_14_7 (.cons q_me_14_8 (.cons q_me_14_9 (.cons q_me_14_10 (.cons q_me_14_11 (.cons q_me_14_12 (.cons q_me_14_13 (.cons q_me_14_14 (.cons q_me_14_15 (.cons q_me_14_16 (.cons q_me_14_17 (.cons q_me_14_18 (.cons q_me_14_19 (.cons q_me_14_20 (.nil)))))))))))))))))))))⟩
  have fam_TooManyPatterns : Fam K C_AgreeError [C_BadLine, C_DuplicateName, C_UnknownName, C_WrongTable, C_WrongCount, C_TooMany, C_BadPattern, C_ConstantsMeet, C_OtherPlaces, C_OtherSchema, C_BadValue, C_NoRow, C_Refused, C_Broken, C_BadCase, C_TooManyPatterns, C_BadDerivation, C_NotReachable, C_TooLong, C_NotComparable, C_BadOffer] C_TooManyPatterns (famB 15) := ⟨q_meA_15, q_meV_15, by rw [show famB 15 = [false, false, false, false, false, false, false, false, false, false, false, false, false, false, false, true, false, false, false, false, false] from by decide]; exact .cons q_me_15_0 (.cons q_me_15_1 (.cons q_me_15_2 (.cons q_me_15_3 (.cons q_me_15_4 (.cons q_me_15_5 (.cons q_me_15_6 (.cons q_me_15_7 (.cons q_me_15_8 (.cons q_me_15_9 (.cons q_me_15_10 (.cons q_me_15_11 (.cons q_me_15_12 (.cons q_me_15_13 (.cons q_me_15_14 (.cons q_me_15_15 (.cons q_me_15_16 (.cons q_me_15_17 (.cons q_me_15_18 (.cons q_me_15_19 (.cons q_me_15_20 (.nil)))))))))))))))))))))⟩
  have fam_BadDerivation : Fam K C_AgreeError [C_BadLine, C_DuplicateName, C_UnknownName, C_WrongTable, C_WrongCount, C_TooMany, C_BadPattern, C_ConstantsMeet, C_OtherPlaces, C_OtherSchema, C_BadValue, C_NoRow, C_Refused, C_Broken, C_BadCase, C_TooManyPatterns, C_BadDerivation, C_NotReachable, C_TooLong, C_NotComparable, C_BadOffer] C_BadDerivation (famB 16) := ⟨q_meA_16, q_meV_16, by rw [show famB 16 = [false, false, false, false, false, false, false, false, false, false, false, false, false, false, false, false, true, false, false, false, false] from by decide]; exact .cons q_me_16_0 (.cons q_me_16_1 (.cons q_me_16_2 (.cons q_me_16_3 (.cons q_me_16_4 (.cons q_me_16_5 (.cons q_me_16_6 (.cons q_me_16_7 (.cons q_me_16_8 (.cons q_me_16_9 (.cons q_me_16_10 (.cons q_me_16_11 (.cons q_me_16_12 (.cons q_me_16_13 (.cons q_me_16_14 (.cons q_me_16_15 (.cons q_me_16_16 (.cons q_me_16_17 (.cons q_me_16_18 (.cons q_me_16_19 (.cons q_me_16_20 (.nil)))))))))))))))))))))⟩
  have fam_NotReachable : Fam K C_AgreeError [C_BadLine, C_DuplicateName, C_UnknownName, C_WrongTable, C_WrongCount, C_TooMany, C_BadPattern, C_ConstantsMeet, C_OtherPlaces, C_OtherSchema, C_BadValue, C_NoRow, C_Refused, C_Broken, C_BadCase, C_TooManyPatterns, C_BadDerivation, C_NotReachable, C_TooLong, C_NotComparable, C_BadOffer] C_NotReachable (famB 17) := ⟨q_meA_17, q_meV_17, by rw [show famB 17 = [false, false, false, false, false, false, false, false, false, false, false, false, false, false, false, false, false, true, false, false, false] from by decide]; exact .cons q_me_17_0 (.cons q_me_17_1 (.cons q_me_17_2 (.cons q_me_17_3 (.cons q_me_17_4 (.cons q_me_17_5 (.cons q_me_17_6 (.cons q_me_17_7 (.cons q_me_17_8 (.cons q_me_17_9 (.cons q_me_17_10 (.cons q_me_17_11 (.cons q_me_17_12 (.cons q_me_17_13 (.cons q_me_17_14 (.cons q_me_17_15 (.cons q_me_17_16 (.cons q_me_17_17 (.cons q_me_17_18 (.cons q_me_17_19 (.cons q_me_17_20 (.nil)))))))))))))))))))))⟩
  have fam_TooLong : Fam K C_AgreeError [C_BadLine, C_DuplicateName, C_UnknownName, C_WrongTable, C_WrongCount, C_TooMany, C_BadPattern, C_ConstantsMeet, C_OtherPlaces, C_OtherSchema, C_BadValue, C_NoRow, C_Refused, C_Broken, C_BadCase, C_TooManyPatterns, C_BadDerivation, C_NotReachable, C_TooLong, C_NotComparable, C_BadOffer] C_TooLong (famB 18) := ⟨q_meA_18, q_meV_18, by rw [show famB 18 = [false, false, false, false, false, false, false, false, false, false, false, false, false, false, false, false, false, false, true, false, false] from by decide]; exact .cons q_me_18_0 (.cons q_me_18_1 (.cons q_me_18_2 (.cons q_me_18_3 (.cons q_me_18_4 (.cons q_me_18_5 (.cons q_me_18_6 (.cons q_me_18_7 (.cons q_me_18_8 (.cons q_me_18_9 (.cons q_me_18_10 (.cons q_me_18_11 (.cons q_me_18_12 (.cons q_me_18_13 (.cons q_me_18_14 (.cons q_me_18_15 (.cons q_me_18_16 (.cons q_me_18_17 (.cons q_me_18_18 (.cons q_me_18_19 (.cons q_me_18_20 (.nil)))))))))))))))))))))⟩
  have fam_NotComparable : Fam K C_AgreeError [C_BadLine, C_DuplicateName, C_UnknownName, C_WrongTable, C_WrongCount, C_TooMany, C_BadPattern, C_ConstantsMeet, C_OtherPlaces, C_OtherSchema, C_BadValue, C_NoRow, C_Refused, C_Broken, C_BadCase, C_TooManyPatterns, C_BadDerivation, C_NotReachable, C_TooLong, C_NotComparable, C_BadOffer] C_NotComparable (famB 19) := ⟨q_meA_19, q_meV_19, by rw [show famB 19 = [false, false, false, false, false, false, false, false, false, false, false, false, false, false, false, false, false, false, false, true, false] from by decide]; exact .cons q_me_19_0 (.cons q_me_19_1 (.cons q_me_19_2 (.cons q_me_19_3 (.cons q_me_19_4 (.cons q_me_19_5 (.cons q_me_19_6 (.cons q_me_19_7 (.cons q_me_19_8 (.cons q_me_19_9 (.cons q_me_19_10 (.cons q_me_19_11 (.cons q_me_19_12 (.cons q_me_19_13 (.cons q_me_19_14 (.cons q_me_19_15 (.cons q_me_19_16 (.cons q_me_19_17 (.cons q_me_19_18 (.cons q_me_19_19 (.cons q_me_19_20 (.nil)))))))))))))))))))))⟩
  have fam_BadOffer : Fam K C_AgreeError [C_BadLine, C_DuplicateName, C_UnknownName, C_WrongTable, C_WrongCount, C_TooMany, C_BadPattern, C_ConstantsMeet, C_OtherPlaces, C_OtherSchema, C_BadValue, C_NoRow, C_Refused, C_Broken, C_BadCase, C_TooManyPatterns, C_BadDerivation, C_NotReachable, C_TooLong, C_NotComparable, C_BadOffer] C_BadOffer (famB 20) := ⟨q_meA_20, q_meV_20, by rw [show famB 20 = [false, false, false, false, false, false, false, false, false, false, false, false, false, false, false, false, false, false, false, false, true] from by decide]; exact .cons q_me_20_0 (.cons q_me_20_1 (.cons q_me_20_2 (.cons q_me_20_3 (.cons q_me_20_4 (.cons q_me_20_5 (.cons q_me_20_6 (.cons q_me_20_7 (.cons q_me_20_8 (.cons q_me_20_9 (.cons q_me_20_10 (.cons q_me_20_11 (.cons q_me_20_12 (.cons q_me_20_13 (.cons q_me_20_14 (.cons q_me_20_15 (.cons q_me_20_16 (.cons q_me_20_17 (.cons q_me_20_18 (.cons q_me_20_19 (.cons q_me_20_20 (.nil)))))))))))))))))))))⟩
  have TE : ET K mg C_AgreeError C_BadLine C_DuplicateName C_UnknownName C_WrongTable C_WrongCount C_TooMany C_BadPattern C_ConstantsMeet C_OtherPlaces C_OtherSchema C_BadValue C_NoRow C_Refused C_Broken C_BadCase C_TooManyPatterns C_BadDerivation C_NotReachable C_TooLong C_NotComparable C_BadOffer := ⟨PySem.W.mg_of X G g_AgreeError, PySem.W.exm_ref eb_AgreeError hd_AgreeError ty_AgreeError sa_BadLine_Agree, PySem.W.mg_of X G g_BadLine, exc_BadLine, fam_BadLine, xf_BadLine, no_BadLine_line, PySem.W.mg_of X G g_DuplicateName, exc_DuplicateName, fam_DuplicateName, xf_DuplicateName, no_DuplicateName_line, no_DuplicateName_name, PySem.W.mg_of X G g_UnknownName, exc_UnknownName, fam_UnknownName, xf_UnknownName, no_UnknownName_line, no_UnknownName_name, PySem.W.mg_of X G g_WrongTable, exc_WrongTable, fam_WrongTable, xf_WrongTable, no_WrongTable_line, no_WrongTable_name, PySem.W.mg_of X G g_WrongCount, exc_WrongCount, fam_WrongCount, xf_WrongCount, no_WrongCount_line, PySem.W.mg_of X G g_TooMany, exc_TooMany, fam_TooMany, xf_TooMany, no_TooMany_line, PySem.W.mg_of X G g_BadPattern, exc_BadPattern, fam_BadPattern, xf_BadPattern, no_BadPattern_place, PySem.W.mg_of X G g_ConstantsMeet, exc_ConstantsMeet, fam_ConstantsMeet, xf_ConstantsMeet, no_ConstantsMeet_first, no_ConstantsMeet_second, PySem.W.mg_of X G g_OtherPlaces, exc_OtherPlaces, fam_OtherPlaces, PySem.W.mg_of X G g_OtherSchema, exc_OtherSchema, fam_OtherSchema, PySem.W.mg_of X G g_BadValue, exc_BadValue, fam_BadValue, xf_BadValue, no_BadValue_value, PySem.W.mg_of X G g_NoRow, exc_NoRow, fam_NoRow, xf_NoRow, no_NoRow_table, no_NoRow_number, PySem.W.mg_of X G g_Refused, exc_Refused, fam_Refused, xf_Refused, no_Refused_handler, no_Refused_guard, no_Refused_agreement, no_Refused_number, PySem.W.mg_of X G g_Broken, exc_Broken, fam_Broken, xf_Broken, no_Broken_agreement, no_Broken_number, PySem.W.mg_of X G g_BadCase, exc_BadCase, fam_BadCase, PySem.W.mg_of X G g_TooManyPatterns, exc_TooManyPatterns, fam_TooManyPatterns, xf_TooManyPatterns, no_TooManyPatterns_table, PySem.W.mg_of X G g_BadDerivation, exc_BadDerivation, fam_BadDerivation, xf_BadDerivation, no_BadDerivation_line, PySem.W.mg_of X G g_NotReachable, exc_NotReachable, fam_NotReachable, PySem.W.mg_of X G g_TooLong, exc_TooLong, fam_TooLong, xf_TooLong, no_TooLong_size, PySem.W.mg_of X G g_NotComparable, exc_NotComparable, fam_NotComparable, PySem.W.mg_of X G g_BadOffer, exc_BadOffer, fam_BadOffer, xf_BadOffer, no_BadOffer_number⟩
  refine ⟨PySem.W.fnOf "law" "law" (defArgs (topS 32)) (defBody (topS 32)) (defScope (topS 32)) .none kV_law dc_law pm_law an_law cd_law ct_law, fun s v => .of_eq rfl, fun base _ _ => ?_⟩
  have c_BadLine : ErrMkD l.prog w K mg base "BadLine" C_BadLine ["self", "line"] (spE1 C_BadLine "line") 1 [] := ⟨_, _, ok_BadLine F_BadLine___init__ oex_BadLine no_BadLine_line, ⟨[], .nil, b_BadLine___init__⟩, PySem.W.mg_of X G g_BadLine, oex_BadLine, a_BadLine___init__, i_BadLine___init__⟩
  have c_DuplicateName : ErrMkD l.prog w K mg base "DuplicateName" C_DuplicateName ["self", "line", "name"] (spE2 C_DuplicateName "line" "name") 1 [] := ⟨_, _, ok_DuplicateName F_DuplicateName___init__ oex_DuplicateName no_DuplicateName_line no_DuplicateName_name, ⟨[], .nil, b_DuplicateName___init__⟩, PySem.W.mg_of X G g_DuplicateName, oex_DuplicateName, a_DuplicateName___init__, i_DuplicateName___init__⟩
  have c_UnknownName : ErrMkD l.prog w K mg base "UnknownName" C_UnknownName ["self", "line", "name"] (spE2 C_UnknownName "line" "name") 1 [] := ⟨_, _, ok_UnknownName F_UnknownName___init__ oex_UnknownName no_UnknownName_line no_UnknownName_name, ⟨[], .nil, b_UnknownName___init__⟩, PySem.W.mg_of X G g_UnknownName, oex_UnknownName, a_UnknownName___init__, i_UnknownName___init__⟩
  have c_WrongTable : ErrMkD l.prog w K mg base "WrongTable" C_WrongTable ["self", "line", "name"] (spE2 C_WrongTable "line" "name") 1 [] := ⟨_, _, ok_WrongTable F_WrongTable___init__ oex_WrongTable no_WrongTable_line no_WrongTable_name, ⟨[], .nil, b_WrongTable___init__⟩, PySem.W.mg_of X G g_WrongTable, oex_WrongTable, a_WrongTable___init__, i_WrongTable___init__⟩
  have c_WrongCount : ErrMkD l.prog w K mg base "WrongCount" C_WrongCount ["self", "line"] (spE1 C_WrongCount "line") 1 [] := ⟨_, _, ok_WrongCount F_WrongCount___init__ oex_WrongCount no_WrongCount_line, ⟨[], .nil, b_WrongCount___init__⟩, PySem.W.mg_of X G g_WrongCount, oex_WrongCount, a_WrongCount___init__, i_WrongCount___init__⟩
  have c_TooMany : ErrMkD l.prog w K mg base "TooMany" C_TooMany ["self", "line"] (spE1 C_TooMany "line") 1 [] := ⟨_, _, ok_TooMany F_TooMany___init__ oex_TooMany no_TooMany_line, ⟨[], .nil, b_TooMany___init__⟩, PySem.W.mg_of X G g_TooMany, oex_TooMany, a_TooMany___init__, i_TooMany___init__⟩
  have c_BadPattern : ErrMkD l.prog w K mg base "BadPattern" C_BadPattern ["self", "place"] (spE1 C_BadPattern "place") 1 [] := ⟨_, _, ok_BadPattern F_BadPattern___init__ oex_BadPattern no_BadPattern_place, ⟨[], .nil, b_BadPattern___init__⟩, PySem.W.mg_of X G g_BadPattern, oex_BadPattern, a_BadPattern___init__, i_BadPattern___init__⟩
  have c_ConstantsMeet : ErrMkD l.prog w K mg base "ConstantsMeet" C_ConstantsMeet ["self", "first", "second"] (spE2 C_ConstantsMeet "first" "second") 1 [] := ⟨_, _, ok_ConstantsMeet F_ConstantsMeet___init__ oex_ConstantsMeet no_ConstantsMeet_first no_ConstantsMeet_second, ⟨[], .nil, b_ConstantsMeet___init__⟩, PySem.W.mg_of X G g_ConstantsMeet, oex_ConstantsMeet, a_ConstantsMeet___init__, i_ConstantsMeet___init__⟩
  have c_BadValue : ErrMkD l.prog w K mg base "BadValue" C_BadValue ["self", "value"] (spE1 C_BadValue "value") 1 [] := ⟨_, _, ok_BadValue F_BadValue___init__ oex_BadValue no_BadValue_value, ⟨[], .nil, b_BadValue___init__⟩, PySem.W.mg_of X G g_BadValue, oex_BadValue, a_BadValue___init__, i_BadValue___init__⟩
  have c_NoRow : ErrMkD l.prog w K mg base "NoRow" C_NoRow ["self", "table", "number"] (spE2 C_NoRow "table" "number") 1 [] := ⟨_, _, ok_NoRow F_NoRow___init__ oex_NoRow no_NoRow_table no_NoRow_number, ⟨[], .nil, b_NoRow___init__⟩, PySem.W.mg_of X G g_NoRow, oex_NoRow, a_NoRow___init__, i_NoRow___init__⟩
  have c_Refused : ErrMkD l.prog w K mg base "Refused" C_Refused ["self", "handler", "guard", "agreement", "number"] (spE4 C_Refused "handler" "guard" "agreement" "number") 1 [] := ⟨_, _, ok_Refused F_Refused___init__ oex_Refused no_Refused_handler no_Refused_guard no_Refused_agreement no_Refused_number, b_Refused___init__, PySem.W.mg_of X G g_Refused, oex_Refused, a_Refused___init__, i_Refused___init__⟩
  have c_Refused_2 : ErrMkD l.prog w K mg base "Refused" C_Refused ["self", "handler", "guard", "agreement", "number"] (spE4 C_Refused "handler" "guard" "agreement" "number") 1 [.non, .non] := ⟨_, _, ok_Refused F_Refused___init__ oex_Refused no_Refused_handler no_Refused_guard no_Refused_agreement no_Refused_number, b_Refused___init___d, PySem.W.mg_of X G g_Refused, oex_Refused, a_Refused___init__, i_Refused___init__⟩
  have c_Broken : ErrMkD l.prog w K mg base "Broken" C_Broken ["self", "agreement", "number"] (spE2 C_Broken "agreement" "number") 1 [] := ⟨_, _, ok_Broken F_Broken___init__ oex_Broken no_Broken_agreement no_Broken_number, ⟨[], .nil, b_Broken___init__⟩, PySem.W.mg_of X G g_Broken, oex_Broken, a_Broken___init__, i_Broken___init__⟩
  have c_TooManyPatterns : ErrMkD l.prog w K mg base "TooManyPatterns" C_TooManyPatterns ["self", "table"] (spE1 C_TooManyPatterns "table") 1 [] := ⟨_, _, ok_TooManyPatterns F_TooManyPatterns___init__ oex_TooManyPatterns no_TooManyPatterns_table, ⟨[], .nil, b_TooManyPatterns___init__⟩, PySem.W.mg_of X G g_TooManyPatterns, oex_TooManyPatterns, a_TooManyPatterns___init__, i_TooManyPatterns___init__⟩
  have c_BadDerivation : ErrMkD l.prog w K mg base "BadDerivation" C_BadDerivation ["self", "line"] (spE1 C_BadDerivation "line") 1 [] := ⟨_, _, ok_BadDerivation F_BadDerivation___init__ oex_BadDerivation no_BadDerivation_line, ⟨[], .nil, b_BadDerivation___init__⟩, PySem.W.mg_of X G g_BadDerivation, oex_BadDerivation, a_BadDerivation___init__, i_BadDerivation___init__⟩
  have c_TooLong : ErrMkD l.prog w K mg base "TooLong" C_TooLong ["self", "size"] (spE1 C_TooLong "size") 1 [] := ⟨_, _, ok_TooLong F_TooLong___init__ oex_TooLong no_TooLong_size, ⟨[], .nil, b_TooLong___init__⟩, PySem.W.mg_of X G g_TooLong, oex_TooLong, a_TooLong___init__, i_TooLong___init__⟩
  have c_BadOffer : ErrMkD l.prog w K mg base "BadOffer" C_BadOffer ["self", "number"] (spE1 C_BadOffer "number") 1 [] := ⟨_, _, ok_BadOffer F_BadOffer___init__ oex_BadOffer no_BadOffer_number, ⟨[], .nil, b_BadOffer___init__⟩, PySem.W.mg_of X G g_BadOffer, oex_BadOffer, a_BadOffer___init__, i_BadOffer___init__⟩
  have c_family : Callee l.prog w K mg base "_law_family" ["_law_error"] (spFam K C_AgreeError [C_BadLine, C_DuplicateName, C_UnknownName, C_WrongTable, C_WrongCount, C_TooMany, C_BadPattern, C_ConstantsMeet, C_OtherPlaces, C_OtherSchema, C_BadValue, C_NoRow, C_Refused, C_Broken, C_BadCase, C_TooManyPatterns, C_BadDerivation, C_NotReachable, C_TooLong, C_NotComparable, C_BadOffer]) 1 := ⟨_, _, ok_family F_family TE T, b_family, PySem.W.mg_of X G a_family, k_family⟩
  have c_get_kin : Callee l.prog w K mg base "_law_get_kin" ["_law_error", "_law_place"] (spKin K C_AgreeError [C_BadLine, C_DuplicateName, C_UnknownName, C_WrongTable, C_WrongCount, C_TooMany, C_BadPattern, C_ConstantsMeet, C_OtherPlaces, C_OtherSchema, C_BadValue, C_NoRow, C_Refused, C_Broken, C_BadCase, C_TooManyPatterns, C_BadDerivation, C_NotReachable, C_TooLong, C_NotComparable, C_BadOffer]) 2 := ⟨_, _, ok_get_kin F_get_kin TE T c_family, b_get_kin, PySem.W.mg_of X G a_get_kin, k_get_kin⟩
  have c_caught : Callee l.prog w K mg base "_law_caught" ["_law_number"] spCaught 4 := ⟨_, _, ok_caught F_caught TE T c_BadLine, b_caught, PySem.W.mg_of X G a_caught, k_caught⟩
  have c_get_numbers : Callee l.prog w K mg base "_law_get_numbers" ["_law_number", "_law_word"] spNums 4 := ⟨_, _, ok_get_numbers F_get_numbers TE T c_get_kin c_BadLine c_WrongCount c_TooMany c_BadDerivation c_TooLong c_BadOffer c_DuplicateName c_UnknownName c_WrongTable c_NoRow, b_get_numbers, PySem.W.mg_of X G a_get_numbers, k_get_numbers⟩
  have c_get_others : Callee l.prog w K mg base "_law_get_others" ["_law_number", "_law_word", "_law_other", "_law_agreement"] spOthers 4 := ⟨_, _, ok_get_others F_get_others TE T c_get_kin c_BadPattern c_ConstantsMeet c_BadValue c_Refused c_Broken c_TooManyPatterns c_Refused_2 e_OtherPlaces e_OtherSchema e_BadCase e_NotReachable e_NotComparable, b_get_others, PySem.W.mg_of X G a_get_others, k_get_others⟩
  have c_draw : Callee l.prog w K mg base "_law_draw" ["_law_st", "_law_limit"] spDraw 1 := ⟨_, _, ok_draw F_draw T, b_draw, PySem.W.mg_of X G a_draw, k_draw⟩
  have c_get_state : Callee l.prog w K mg base "_law_get_state" ["_law_script"] (spState K) 1 := ⟨_, _, ok_get_state F_get_state T, b_get_state, PySem.W.mg_of X G a_get_state, k_get_state⟩
  have c_get_words : Callee l.prog w K mg base "_law_get_words" ["_law_st", "_law_most", "_law_count"] spWords 2 := ⟨_, _, ok_get_words F_get_words T c_draw, b_get_words, PySem.W.mg_of X G a_get_words, k_get_words⟩
  exact ok_law F_law T c_get_state c_draw c_get_words c_get_numbers c_caught c_get_others
theorem walk {l : PySem.W.OpenLaw} {q : Program} {loose : List Str} {XP : (Str → Option Value) → Heap → Prop} {YP : World → Heap → Prop} {d : DefRec} {K : Params → PySem.W.Frag} (hn : l.most = some 63) (hdf : d.params.defaults = [])
    (hY : ∀ (w : World) (h : Heap), YP w h → (K w.params).In h)
    (F : ∀ (w : World) (mg : Str → Option Value) (fa : Addr) (h : Heap), (K w.params).In h → h.Ns mainGlobals mg → mg d.name = some (.ref fa) →
      ∃ fd : FuncData, (∀ (s : Shared) (u : Value), BindsTo s fd ⟨[u], []⟩ [("_law_script", u)]) ∧ ∀ base : Heap, (K w.params).In base → base.Ns mainGlobals mg → FnOk l.prog w (K w.params) mg base CX0 5 fa fd ["_law_script"] (spLaw (K w.params))) :
    PySem.W.WalkO q loose XP YP l.row.toRowW d [] (fun f vs => PySem.call f vs) :=
  L2.walk_of (n := 63) (k := 5) (x := "_law_script") (CX := fun _ => CX0) (sp := fun w => spLaw (K w.params)) hn (by decide) hdf ⟨rfl, by decide, by decide⟩ hY F (fun _ _ a ns hl _ hS => ⟨a, ns, rfl, hS, hl, fun _ => rfl⟩) fun _ _ _ _ _ z => z
end OA
open PySem PySem.W PyProof.Rows
set_option maxRecDepth 100000 in
set_option maxHeartbeats 0 in
theorem PySem.Challenge.cw_ownersagree_k01_errors_made_holds : PySem.Challenge.rw_ownersagree_k01_errors_made.Holds := by
  w_on; o_law; k_head; (case hw => w_witness2)
  k_fill
  refine OA.walk (l := PySem.Challenge.rw_ownersagree_k01_errors_made) rfl rfl (fun w h Y => PySem.W.kIn_of Y) ?F
  case F =>
    intro w mg fa h KX G hmg
    refine' OA.all_mk KX G hmg ?g_AgreeError ?g_BadLine ?g_DuplicateName ?g_UnknownName ?g_WrongTable ?g_WrongCount ?g_TooMany ?g_BadPattern ?g_ConstantsMeet ?g_OtherPlaces ?g_OtherSchema ?g_BadValue ?g_NoRow ?g_Refused ?g_Broken ?g_BadCase ?g_TooManyPatterns ?g_BadDerivation ?g_NotReachable ?g_TooLong ?g_NotComparable ?g_BadOffer ?x_BadLine ?sa_BadLine ?ga_BadLine ?gg_BadLine ?eb_BadLine ?ty_BadLine ?hd_BadLine ?kp_BadLine ?ca_BadLine ?mr_BadLine ?ss_BadLine ?no_BadLine_line ?x_DuplicateName ?sa_DuplicateName ?ga_DuplicateName ?gg_DuplicateName ?eb_DuplicateName ?ty_DuplicateName ?hd_DuplicateName ?kp_DuplicateName ?ca_DuplicateName ?mr_DuplicateName ?ss_DuplicateName ?no_DuplicateName_line ?no_DuplicateName_name ?x_UnknownName ?sa_UnknownName ?ga_UnknownName ?gg_UnknownName ?eb_UnknownName ?ty_UnknownName ?hd_UnknownName ?kp_UnknownName ?ca_UnknownName ?mr_UnknownName ?ss_UnknownName ?no_UnknownName_line ?no_UnknownName_name ?x_WrongTable ?sa_WrongTable ?ga_WrongTable ?gg_WrongTable ?eb_WrongTable ?ty_WrongTable ?hd_WrongTable ?kp_WrongTable ?ca_WrongTable ?mr_WrongTable ?ss_WrongTable ?no_WrongTable_line ?no_WrongTable_name ?x_WrongCount ?sa_WrongCount ?ga_WrongCount ?gg_WrongCount ?eb_WrongCount ?ty_WrongCount ?hd_WrongCount ?kp_WrongCount ?ca_WrongCount ?mr_WrongCount ?ss_WrongCount ?no_WrongCount_line ?x_TooMany ?sa_TooMany ?ga_TooMany ?gg_TooMany ?eb_TooMany ?ty_TooMany ?hd_TooMany ?kp_TooMany ?ca_TooMany ?mr_TooMany ?ss_TooMany ?no_TooMany_line ?x_BadPattern ?sa_BadPattern ?ga_BadPattern ?gg_BadPattern ?eb_BadPattern ?ty_BadPattern ?hd_BadPattern ?kp_BadPattern ?ca_BadPattern ?mr_BadPattern ?ss_BadPattern ?no_BadPattern_place ?x_ConstantsMeet ?sa_ConstantsMeet ?ga_ConstantsMeet ?gg_ConstantsMeet ?eb_ConstantsMeet ?ty_ConstantsMeet ?hd_ConstantsMeet ?kp_ConstantsMeet ?ca_ConstantsMeet ?mr_ConstantsMeet ?ss_ConstantsMeet ?no_ConstantsMeet_first ?no_ConstantsMeet_second ?xi_OtherPlaces ?ga_OtherPlaces ?gg_OtherPlaces ?eb_OtherPlaces ?ty_OtherPlaces ?hd_OtherPlaces ?kp_OtherPlaces ?ca_OtherPlaces ?mr_OtherPlaces ?ss_OtherPlaces ?xi_OtherSchema ?ga_OtherSchema ?gg_OtherSchema ?eb_OtherSchema ?ty_OtherSchema ?hd_OtherSchema ?kp_OtherSchema ?ca_OtherSchema ?mr_OtherSchema ?ss_OtherSchema ?x_BadValue ?sa_BadValue ?ga_BadValue ?gg_BadValue ?eb_BadValue ?ty_BadValue ?hd_BadValue ?kp_BadValue ?ca_BadValue ?mr_BadValue ?ss_BadValue ?no_BadValue_value ?x_NoRow ?sa_NoRow ?ga_NoRow ?gg_NoRow ?eb_NoRow ?ty_NoRow ?hd_NoRow ?kp_NoRow ?ca_NoRow ?mr_NoRow ?ss_NoRow ?no_NoRow_table ?no_NoRow_number ?x_Refused ?sa_Refused ?ga_Refused ?gg_Refused ?eb_Refused ?ty_Refused ?hd_Refused ?kp_Refused ?ca_Refused ?mr_Refused ?ss_Refused ?no_Refused_handler ?no_Refused_guard ?no_Refused_agreement ?no_Refused_number ?x_Broken ?sa_Broken ?ga_Broken ?gg_Broken ?eb_Broken ?ty_Broken ?hd_Broken ?kp_Broken ?ca_Broken ?mr_Broken ?ss_Broken ?no_Broken_agreement ?no_Broken_number ?xi_BadCase ?ga_BadCase ?gg_BadCase ?eb_BadCase ?ty_BadCase ?hd_BadCase ?kp_BadCase ?ca_BadCase ?mr_BadCase ?ss_BadCase ?x_TooManyPatterns ?sa_TooManyPatterns ?ga_TooManyPatterns ?gg_TooManyPatterns ?eb_TooManyPatterns ?ty_TooManyPatterns ?hd_TooManyPatterns ?kp_TooManyPatterns ?ca_TooManyPatterns ?mr_TooManyPatterns ?ss_TooManyPatterns ?no_TooManyPatterns_table ?x_BadDerivation ?sa_BadDerivation ?ga_BadDerivation ?gg_BadDerivation ?eb_BadDerivation ?ty_BadDerivation ?hd_BadDerivation ?kp_BadDerivation ?ca_BadDerivation ?mr_BadDerivation ?ss_BadDerivation ?no_BadDerivation_line ?xi_NotReachable ?ga_NotReachable ?gg_NotReachable ?eb_NotReachable ?ty_NotReachable ?hd_NotReachable ?kp_NotReachable ?ca_NotReachable ?mr_NotReachable ?ss_NotReachable ?x_TooLong ?sa_TooLong ?ga_TooLong ?gg_TooLong ?eb_TooLong ?ty_TooLong ?hd_TooLong ?kp_TooLong ?ca_TooLong ?mr_TooLong ?ss_TooLong ?no_TooLong_size ?xi_NotComparable ?ga_NotComparable ?gg_NotComparable ?eb_NotComparable ?ty_NotComparable ?hd_NotComparable ?kp_NotComparable ?ca_NotComparable ?mr_NotComparable ?ss_NotComparable ?x_BadOffer ?sa_BadOffer ?ga_BadOffer ?gg_BadOffer ?eb_BadOffer ?ty_BadOffer ?hd_BadOffer ?kp_BadOffer ?ca_BadOffer ?mr_BadOffer ?ss_BadOffer ?no_BadOffer_number ?a_BadLine___init__ ?i_BadLine___init__ ?l_BadLine___init__ ?o_BadLine___init__ ?k_BadLine___init__ ?a_DuplicateName___init__ ?i_DuplicateName___init__ ?l_DuplicateName___init__ ?o_DuplicateName___init__ ?k_DuplicateName___init__ ?a_UnknownName___init__ ?i_UnknownName___init__ ?l_UnknownName___init__ ?o_UnknownName___init__ ?k_UnknownName___init__ ?a_WrongTable___init__ ?i_WrongTable___init__ ?l_WrongTable___init__ ?o_WrongTable___init__ ?k_WrongTable___init__ ?a_WrongCount___init__ ?i_WrongCount___init__ ?l_WrongCount___init__ ?o_WrongCount___init__ ?k_WrongCount___init__ ?a_TooMany___init__ ?i_TooMany___init__ ?l_TooMany___init__ ?o_TooMany___init__ ?k_TooMany___init__ ?a_BadPattern___init__ ?i_BadPattern___init__ ?l_BadPattern___init__ ?o_BadPattern___init__ ?k_BadPattern___init__ ?a_ConstantsMeet___init__ ?i_ConstantsMeet___init__ ?l_ConstantsMeet___init__ ?o_ConstantsMeet___init__ ?k_ConstantsMeet___init__ ?a_BadValue___init__ ?i_BadValue___init__ ?l_BadValue___init__ ?o_BadValue___init__ ?k_BadValue___init__ ?a_NoRow___init__ ?i_NoRow___init__ ?l_NoRow___init__ ?o_NoRow___init__ ?k_NoRow___init__ ?a_Refused___init__ ?i_Refused___init__ ?l_Refused___init__ ?lt_Refused___init__ ?o_Refused___init__ ?k_Refused___init__ ?a_Broken___init__ ?i_Broken___init__ ?l_Broken___init__ ?o_Broken___init__ ?k_Broken___init__ ?a_TooManyPatterns___init__ ?i_TooManyPatterns___init__ ?l_TooManyPatterns___init__ ?o_TooManyPatterns___init__ ?k_TooManyPatterns___init__ ?a_BadDerivation___init__ ?i_BadDerivation___init__ ?l_BadDerivation___init__ ?o_BadDerivation___init__ ?k_BadDerivation___init__ ?a_TooLong___init__ ?i_TooLong___init__ ?l_TooLong___init__ ?o_TooLong___init__ ?k_TooLong___init__ ?a_BadOffer___init__ ?i_BadOffer___init__ ?l_BadOffer___init__ ?o_BadOffer___init__ ?k_BadOffer___init__ ?a_family ?l_family ?o_family ?k_family ?a_get_kin ?l_get_kin ?o_get_kin ?k_get_kin ?a_caught ?l_caught ?o_caught ?k_caught ?a_get_numbers ?l_get_numbers ?o_get_numbers ?k_get_numbers ?a_get_others ?l_get_others ?o_get_others ?k_get_others ?a_draw ?l_draw ?o_draw ?k_draw ?a_get_state ?l_get_state ?o_get_state ?k_get_state ?a_get_words ?l_get_words ?o_get_words ?k_get_words ?a_law ?l_law ?o_law ?k_law ?z_len ?z_abs ?z_int ?z_str ?z_list ?z_tuple ?z_range ?z_isinstance ?z_any ?z_all ?z_sorted ?z_bool ?z_ValueError ?q_hn ?q_htk ?eb_AgreeError ?hd_AgreeError ?ty_AgreeError ?sa_BadLine_Agree ?q_meA_0 ?q_meV_0 ?q_me_0_0 ?q_me_0_1 ?q_me_0_2 ?q_me_0_3 ?q_me_0_4 ?q_me_0_5 ?q_me_0_6 ?q_me_0_7 ?q_me_0_8 ?q_me_0_9 ?q_me_0_10 ?q_me_0_11 ?q_me_0_12 ?q_me_0_13 ?q_me_0_14 ?q_me_0_15 ?q_me_0_16 ?q_me_0_17 ?q_me_0_18 ?q_me_0_19 ?q_me_0_20 ?q_meA_1 ?q_meV_1 ?q_me_1_0 ?q_me_1_1 ?q_me_1_2 ?q_me_1_3 ?q_me_1_4 ?q_me_1_5 ?q_me_1_6 ?q_me_1_7 ?q_me_1_8 ?q_me_1_9 ?q_me_1_10 ?q_me_1_11 ?q_me_1_12 ?q_me_1_13 ?q_me_1_14 ?q_me_1_15 ?q_me_1_16 ?q_me_1_17 ?q_me_1_18 ?q_me_1_19 ?q_me_1_20 ?q_meA_2 ?q_meV_2 ?q_me_2_0 ?q_me_2_1 ?q_me_2_2 ?q_me_2_3 ?q_me_2_4 ?q_me_2_5 ?q_me_2_6 ?q_me_2_7 ?q_me_2_8 ?q_me_2_9 ?q_me_2_10 ?q_me_2_11 ?q_me_2_12 ?q_me_2_13 ?q_me_2_14 ?q_me_2_15 ?q_me_2_16 ?q_me_2_17 ?q_me_2_18 ?q_me_2_19 ?q_me_2_20 ?q_meA_3 ?q_meV_3 ?q_me_3_0 ?q_me_3_1 ?q_me_3_2 ?q_me_3_3 ?q_me_3_4 ?q_me_3_5 ?q_me_3_6 ?q_me_3_7 ?q_me_3_8 ?q_me_3_9 ?q_me_3_10 ?q_me_3_11 ?q_me_3_12 ?q_me_3_13 ?q_me_3_14 ?q_me_3_15 ?q_me_3_16 ?q_me_3_17 ?q_me_3_18 ?q_me_3_19 ?q_me_3_20 ?q_meA_4 ?q_meV_4 ?q_me_4_0 ?q_me_4_1 ?q_me_4_2 ?q_me_4_3 ?q_me_4_4 ?q_me_4_5 ?q_me_4_6 ?q_me_4_7 ?q_me_4_8 ?q_me_4_9 ?q_me_4_10 ?q_me_4_11 ?q_me_4_12 ?q_me_4_13 ?q_me_4_14 ?q_me_4_15 ?q_me_4_16 ?q_me_4_17 ?q_me_4_18 ?q_me_4_19 ?q_me_4_20 ?q_meA_5 ?q_meV_5 ?q_me_5_0 ?q_me_5_1 ?q_me_5_2 ?q_me_5_3 ?q_me_5_4 ?q_me_5_5 ?q_me_5_6 ?q_me_5_7 ?q_me_5_8 ?q_me_5_9 ?q_me_5_10 ?q_me_5_11 ?q_me_5_12 ?q_me_5_13 ?q_me_5_14 ?q_me_5_15 ?q_me_5_16 ?q_me_5_17 ?q_me_5_18 ?q_me_5_19 ?q_me_5_20 ?q_meA_6 ?q_meV_6 ?q_me_6_0 ?q_me_6_1 ?q_me_6_2 ?q_me_6_3 ?q_me_6_4 ?q_me_6_5 ?q_me_6_6 ?q_me_6_7 ?q_me_6_8 ?q_me_6_9 ?q_me_6_10 ?q_me_6_11 ?q_me_6_12 ?q_me_6_13 ?q_me_6_14 ?q_me_6_15 ?q_me_6_16 ?q_me_6_17 ?q_me_6_18 ?q_me_6_19 ?q_me_6_20 ?q_meA_7 ?q_meV_7 ?q_me_7_0 ?q_me_7_1 ?q_me_7_2 ?q_me_7_3 ?q_me_7_4 ?q_me_7_5 ?q_me_7_6 ?q_me_7_7 ?q_me_7_8 ?q_me_7_9 ?q_me_7_10 ?q_me_7_11 ?q_me_7_12 ?q_me_7_13 ?q_me_7_14 ?q_me_7_15 ?q_me_7_16 ?q_me_7_17 ?q_me_7_18 ?q_me_7_19 ?q_me_7_20 ?q_meA_8 ?q_meV_8 ?q_me_8_0 ?q_me_8_1 ?q_me_8_2 ?q_me_8_3 ?q_me_8_4 ?q_me_8_5 ?q_me_8_6 ?q_me_8_7 ?q_me_8_8 ?q_me_8_9 ?q_me_8_10 ?q_me_8_11 ?q_me_8_12 ?q_me_8_13 ?q_me_8_14 ?q_me_8_15 ?q_me_8_16 ?q_me_8_17 ?q_me_8_18 ?q_me_8_19 ?q_me_8_20 ?q_meA_9 ?q_meV_9 ?q_me_9_0 ?q_me_9_1 ?q_me_9_2 ?q_me_9_3 ?q_me_9_4 ?q_me_9_5 ?q_me_9_6 ?q_me_9_7 ?q_me_9_8 ?q_me_9_9 ?q_me_9_10 ?q_me_9_11 ?q_me_9_12 ?q_me_9_13 ?q_me_9_14 ?q_me_9_15 ?q_me_9_16 ?q_me_9_17 ?q_me_9_18 ?q_me_9_19 ?q_me_9_20 ?q_meA_10 ?q_meV_10 ?q_me_10_0 ?q_me_10_1 ?q_me_10_2 ?q_me_10_3 ?q_me_10_4 ?q_me_10_5 ?q_me_10_6 ?q_me_10_7 ?q_me_10_8 ?q_me_10_9 ?q_me_10_10 ?q_me_10_11 ?q_me_10_12 ?q_me_10_13 ?q_me_10_14 ?q_me_10_15 ?q_me_10_16 ?q_me_10_17 ?q_me_10_18 ?q_me_10_19 ?q_me_10_20 ?q_meA_11 ?q_meV_11 ?q_me_11_0 ?q_me_11_1 ?q_me_11_2 ?q_me_11_3 ?q_me_11_4 ?q_me_11_5 ?q_me_11_6 ?q_me_11_7 ?q_me_11_8 ?q_me_11_9 ?q_me_11_10 ?q_me_11_11 ?q_me_11_12 ?q_me_11_13 ?q_me_11_14 ?q_me_11_15 ?q_me_11_16 ?q_me_11_17 ?q_me_11_18 ?q_me_11_19 ?q_me_11_20 ?q_meA_12 ?q_meV_12 ?q_me_12_0 ?q_me_12_1 ?q_me_12_2 ?q_me_12_3 ?q_me_12_4 ?q_me_12_5 ?q_me_12_6 ?q_me_12_7 ?q_me_12_8 ?q_me_12_9 ?q_me_12_10 ?q_me_12_11 ?q_me_12_12 ?q_me_12_13 ?q_me_12_14 ?q_me_12_15 ?q_me_12_16 ?q_me_12_17 ?q_me_12_18 ?q_me_12_19 ?q_me_12_20 ?q_meA_13 ?q_meV_13 ?q_me_13_0 ?q_me_13_1 ?q_me_13_2 ?q_me_13_3 ?q_me_13_4 ?q_me_13_5 ?q_me_13_6 ?q_me_13_7 ?q_me_13_8 ?q_me_13_9 ?q_me_13_10 ?q_me_13_11 ?q_me_13_12 ?q_me_13_13 ?q_me_13_14 ?q_me_13_15 ?q_me_13_16 ?q_me_13_17 ?q_me_13_18 ?q_me_13_19 ?q_me_13_20 ?q_meA_14 ?q_meV_14 ?q_me_14_0 ?q_me_14_1 ?q_me_14_2 ?q_me_14_3 ?q_me_14_4 ?q_me_14_5 ?q_me_14_6 ?q_me_14_7 ?q_me_14_8 ?q_me_14_9 ?q_me_14_10 ?q_me_14_11 ?q_me_14_12 ?q_me_14_13 ?q_me_14_14 ?q_me_14_15 ?q_me_14_16 ?q_me_14_17 ?q_me_14_18 ?q_me_14_19 ?q_me_14_20 ?q_meA_15 ?q_meV_15 ?q_me_15_0 ?q_me_15_1 ?q_me_15_2 ?q_me_15_3 ?q_me_15_4 ?q_me_15_5 ?q_me_15_6 ?q_me_15_7 ?q_me_15_8 ?q_me_15_9 ?q_me_15_10 ?q_me_15_11 ?q_me_15_12 ?q_me_15_13 ?q_me_15_14 ?q_me_15_15 ?q_me_15_16 ?q_me_15_17 ?q_me_15_18 ?q_me_15_19 ?q_me_15_20 ?q_meA_16 ?q_meV_16 ?q_me_16_0 ?q_me_16_1 ?q_me_16_2 ?q_me_16_3 ?q_me_16_4 ?q_me_16_5 ?q_me_16_6 ?q_me_16_7 ?q_me_16_8 ?q_me_16_9 ?q_me_16_10 ?q_me_16_11 ?q_me_16_12 ?q_me_16_13 ?q_me_16_14 ?q_me_16_15 ?q_me_16_16 ?q_me_16_17 ?q_me_16_18 ?q_me_16_19 ?q_me_16_20 ?q_meA_17 ?q_meV_17 ?q_me_17_0 ?q_me_17_1 ?q_me_17_2 ?q_me_17_3 ?q_me_17_4 ?q_me_17_5 ?q_me_17_6 ?q_me_17_7 ?q_me_17_8 ?q_me_17_9 ?q_me_17_10 ?q_me_17_11 ?q_me_17_12 ?q_me_17_13 ?q_me_17_14 ?q_me_17_15 ?q_me_17_16 ?q_me_17_17 ?q_me_17_18 ?q_me_17_19 ?q_me_17_20 ?q_meA_18 ?q_meV_18 ?q_me_18_0 ?q_me_18_1 ?q_me_18_2 ?q_me_18_3 ?q_me_18_4 ?q_me_18_5 ?q_me_18_6 ?q_me_18_7 ?q_me_18_8 ?q_me_18_9 ?q_me_18_10 ?q_me_18_11 ?q_me_18_12 ?q_me_18_13 ?q_me_18_14 ?q_me_18_15 ?q_me_18_16 ?q_me_18_17 ?q_me_18_18 ?q_me_18_19 ?q_me_18_20 ?q_meA_19 ?q_meV_19 ?q_me_19_0 ?q_me_19_1 ?q_me_19_2 ?q_me_19_3 ?q_me_19_4 ?q_me_19_5 ?q_me_19_6 ?q_me_19_7 ?q_me_19_8 ?q_me_19_9 ?q_me_19_10 ?q_me_19_11 ?q_me_19_12 ?q_me_19_13 ?q_me_19_14 ?q_me_19_15 ?q_me_19_16 ?q_me_19_17 ?q_me_19_18 ?q_me_19_19 ?q_me_19_20 ?q_meA_20 ?q_meV_20 ?q_me_20_0 ?q_me_20_1 ?q_me_20_2 ?q_me_20_3 ?q_me_20_4 ?q_me_20_5 ?q_me_20_6 ?q_me_20_7 ?q_me_20_8 ?q_me_20_9 ?q_me_20_10 ?q_me_20_11 ?q_me_20_12 ?q_me_20_13 ?q_me_20_14 ?q_me_20_15 ?q_me_20_16 ?q_me_20_17 ?q_me_20_18 ?q_me_20_19 ?q_me_20_20
    (case g_AgreeError => k_is)
    (case g_BadLine => k_is)
    (case g_DuplicateName => k_is)
    (case g_UnknownName => k_is)
    (case g_WrongTable => k_is)
    (case g_WrongCount => k_is)
    (case g_TooMany => k_is)
    (case g_BadPattern => k_is)
    (case g_ConstantsMeet => k_is)
    (case g_OtherPlaces => k_is)
    (case g_OtherSchema => k_is)
    (case g_BadValue => k_is)
    (case g_NoRow => k_is)
    (case g_Refused => k_is)
    (case g_Broken => k_is)
    (case g_BadCase => k_is)
    (case g_TooManyPatterns => k_is)
    (case g_BadDerivation => k_is)
    (case g_NotReachable => k_is)
    (case g_TooLong => k_is)
    (case g_NotComparable => k_is)
    (case g_BadOffer => k_is)
    (case x_BadLine => k_is)
    (case sa_BadLine => k_is)
    (case ga_BadLine => k_is)
    (case gg_BadLine => k_is)
    (case eb_BadLine => k_is)
    (case ty_BadLine => k_is)
    (case hd_BadLine => k_is)
    (case kp_BadLine => k_is)
    (case ca_BadLine => k_is)
    (case mr_BadLine => k_is)
    (case ss_BadLine => k_is)
    (case no_BadLine_line => k_is)
    (case x_DuplicateName => k_is)
    (case sa_DuplicateName => k_is)
    (case ga_DuplicateName => k_is)
    (case gg_DuplicateName => k_is)
    (case eb_DuplicateName => k_is)
    (case ty_DuplicateName => k_is)
    (case hd_DuplicateName => k_is)
    (case kp_DuplicateName => k_is)
    (case ca_DuplicateName => k_is)
    (case mr_DuplicateName => k_is)
    (case ss_DuplicateName => k_is)
    (case no_DuplicateName_line => k_is)
    (case no_DuplicateName_name => k_is)
    (case x_UnknownName => k_is)
    (case sa_UnknownName => k_is)
    (case ga_UnknownName => k_is)
    (case gg_UnknownName => k_is)
    (case eb_UnknownName => k_is)
    (case ty_UnknownName => k_is)
    (case hd_UnknownName => k_is)
    (case kp_UnknownName => k_is)
    (case ca_UnknownName => k_is)
    (case mr_UnknownName => k_is)
    (case ss_UnknownName => k_is)
    (case no_UnknownName_line => k_is)
    (case no_UnknownName_name => k_is)
    (case x_WrongTable => k_is)
    (case sa_WrongTable => k_is)
    (case ga_WrongTable => k_is)
    (case gg_WrongTable => k_is)
    (case eb_WrongTable => k_is)
    (case ty_WrongTable => k_is)
    (case hd_WrongTable => k_is)
    (case kp_WrongTable => k_is)
    (case ca_WrongTable => k_is)
    (case mr_WrongTable => k_is)
    (case ss_WrongTable => k_is)
    (case no_WrongTable_line => k_is)
    (case no_WrongTable_name => k_is)
    (case x_WrongCount => k_is)
    (case sa_WrongCount => k_is)
    (case ga_WrongCount => k_is)
    (case gg_WrongCount => k_is)
    (case eb_WrongCount => k_is)
    (case ty_WrongCount => k_is)
    (case hd_WrongCount => k_is)
    (case kp_WrongCount => k_is)
    (case ca_WrongCount => k_is)
    (case mr_WrongCount => k_is)
    (case ss_WrongCount => k_is)
    (case no_WrongCount_line => k_is)
    (case x_TooMany => k_is)
    (case sa_TooMany => k_is)
    (case ga_TooMany => k_is)
    (case gg_TooMany => k_is)
    (case eb_TooMany => k_is)
    (case ty_TooMany => k_is)
    (case hd_TooMany => k_is)
    (case kp_TooMany => k_is)
    (case ca_TooMany => k_is)
    (case mr_TooMany => k_is)
    (case ss_TooMany => k_is)
    (case no_TooMany_line => k_is)
    (case x_BadPattern => k_is)
    (case sa_BadPattern => k_is)
    (case ga_BadPattern => k_is)
    (case gg_BadPattern => k_is)
    (case eb_BadPattern => k_is)
    (case ty_BadPattern => k_is)
    (case hd_BadPattern => k_is)
    (case kp_BadPattern => k_is)
    (case ca_BadPattern => k_is)
    (case mr_BadPattern => k_is)
    (case ss_BadPattern => k_is)
    (case no_BadPattern_place => k_is)
    (case x_ConstantsMeet => k_is)
    (case sa_ConstantsMeet => k_is)
    (case ga_ConstantsMeet => k_is)
    (case gg_ConstantsMeet => k_is)
    (case eb_ConstantsMeet => k_is)
    (case ty_ConstantsMeet => k_is)
    (case hd_ConstantsMeet => k_is)
    (case kp_ConstantsMeet => k_is)
    (case ca_ConstantsMeet => k_is)
    (case mr_ConstantsMeet => k_is)
    (case ss_ConstantsMeet => k_is)
    (case no_ConstantsMeet_first => k_is)
    (case no_ConstantsMeet_second => k_is)
    (case xi_OtherPlaces => k_exc)
    (case ga_OtherPlaces => k_is)
    (case gg_OtherPlaces => k_is)
    (case eb_OtherPlaces => k_is)
    (case ty_OtherPlaces => k_is)
    (case hd_OtherPlaces => k_is)
    (case kp_OtherPlaces => k_is)
    (case ca_OtherPlaces => k_is)
    (case mr_OtherPlaces => k_is)
    (case ss_OtherPlaces => k_is)
    (case xi_OtherSchema => k_exc)
    (case ga_OtherSchema => k_is)
    (case gg_OtherSchema => k_is)
    (case eb_OtherSchema => k_is)
    (case ty_OtherSchema => k_is)
    (case hd_OtherSchema => k_is)
    (case kp_OtherSchema => k_is)
    (case ca_OtherSchema => k_is)
    (case mr_OtherSchema => k_is)
    (case ss_OtherSchema => k_is)
    (case x_BadValue => k_is)
    (case sa_BadValue => k_is)
    (case ga_BadValue => k_is)
    (case gg_BadValue => k_is)
    (case eb_BadValue => k_is)
    (case ty_BadValue => k_is)
    (case hd_BadValue => k_is)
    (case kp_BadValue => k_is)
    (case ca_BadValue => k_is)
    (case mr_BadValue => k_is)
    (case ss_BadValue => k_is)
    (case no_BadValue_value => k_is)
    (case x_NoRow => k_is)
    (case sa_NoRow => k_is)
    (case ga_NoRow => k_is)
    (case gg_NoRow => k_is)
    (case eb_NoRow => k_is)
    (case ty_NoRow => k_is)
    (case hd_NoRow => k_is)
    (case kp_NoRow => k_is)
    (case ca_NoRow => k_is)
    (case mr_NoRow => k_is)
    (case ss_NoRow => k_is)
    (case no_NoRow_table => k_is)
    (case no_NoRow_number => k_is)
    (case x_Refused => k_is)
    (case sa_Refused => k_is)
    (case ga_Refused => k_is)
    (case gg_Refused => k_is)
    (case eb_Refused => k_is)
    (case ty_Refused => k_is)
    (case hd_Refused => k_is)
    (case kp_Refused => k_is)
    (case ca_Refused => k_is)
    (case mr_Refused => k_is)
    (case ss_Refused => k_is)
    (case no_Refused_handler => k_is)
    (case no_Refused_guard => k_is)
    (case no_Refused_agreement => k_is)
    (case no_Refused_number => k_is)
    (case x_Broken => k_is)
    (case sa_Broken => k_is)
    (case ga_Broken => k_is)
    (case gg_Broken => k_is)
    (case eb_Broken => k_is)
    (case ty_Broken => k_is)
    (case hd_Broken => k_is)
    (case kp_Broken => k_is)
    (case ca_Broken => k_is)
    (case mr_Broken => k_is)
    (case ss_Broken => k_is)
    (case no_Broken_agreement => k_is)
    (case no_Broken_number => k_is)
    (case xi_BadCase => k_exc)
    (case ga_BadCase => k_is)
    (case gg_BadCase => k_is)
    (case eb_BadCase => k_is)
    (case ty_BadCase => k_is)
    (case hd_BadCase => k_is)
    (case kp_BadCase => k_is)
    (case ca_BadCase => k_is)
    (case mr_BadCase => k_is)
    (case ss_BadCase => k_is)
    (case x_TooManyPatterns => k_is)
    (case sa_TooManyPatterns => k_is)
    (case ga_TooManyPatterns => k_is)
    (case gg_TooManyPatterns => k_is)
    (case eb_TooManyPatterns => k_is)
    (case ty_TooManyPatterns => k_is)
    (case hd_TooManyPatterns => k_is)
    (case kp_TooManyPatterns => k_is)
    (case ca_TooManyPatterns => k_is)
    (case mr_TooManyPatterns => k_is)
    (case ss_TooManyPatterns => k_is)
    (case no_TooManyPatterns_table => k_is)
    (case x_BadDerivation => k_is)
    (case sa_BadDerivation => k_is)
    (case ga_BadDerivation => k_is)
    (case gg_BadDerivation => k_is)
    (case eb_BadDerivation => k_is)
    (case ty_BadDerivation => k_is)
    (case hd_BadDerivation => k_is)
    (case kp_BadDerivation => k_is)
    (case ca_BadDerivation => k_is)
    (case mr_BadDerivation => k_is)
    (case ss_BadDerivation => k_is)
    (case no_BadDerivation_line => k_is)
    (case xi_NotReachable => k_exc)
    (case ga_NotReachable => k_is)
    (case gg_NotReachable => k_is)
    (case eb_NotReachable => k_is)
    (case ty_NotReachable => k_is)
    (case hd_NotReachable => k_is)
    (case kp_NotReachable => k_is)
    (case ca_NotReachable => k_is)
    (case mr_NotReachable => k_is)
    (case ss_NotReachable => k_is)
    (case x_TooLong => k_is)
    (case sa_TooLong => k_is)
    (case ga_TooLong => k_is)
    (case gg_TooLong => k_is)
    (case eb_TooLong => k_is)
    (case ty_TooLong => k_is)
    (case hd_TooLong => k_is)
    (case kp_TooLong => k_is)
    (case ca_TooLong => k_is)
    (case mr_TooLong => k_is)
    (case ss_TooLong => k_is)
    (case no_TooLong_size => k_is)
    (case xi_NotComparable => k_exc)
    (case ga_NotComparable => k_is)
    (case gg_NotComparable => k_is)
    (case eb_NotComparable => k_is)
    (case ty_NotComparable => k_is)
    (case hd_NotComparable => k_is)
    (case kp_NotComparable => k_is)
    (case ca_NotComparable => k_is)
    (case mr_NotComparable => k_is)
    (case ss_NotComparable => k_is)
    (case x_BadOffer => k_is)
    (case sa_BadOffer => k_is)
    (case ga_BadOffer => k_is)
    (case gg_BadOffer => k_is)
    (case eb_BadOffer => k_is)
    (case ty_BadOffer => k_is)
    (case hd_BadOffer => k_is)
    (case kp_BadOffer => k_is)
    (case ca_BadOffer => k_is)
    (case mr_BadOffer => k_is)
    (case ss_BadOffer => k_is)
    (case no_BadOffer_number => k_is)
    (case a_BadLine___init__ => k_is)
    (case i_BadLine___init__ => k_is)
    (case l_BadLine___init__ => k_is)
    (case o_BadLine___init__ => k_is)
    (case k_BadLine___init__ => k_is)
    (case a_DuplicateName___init__ => k_is)
    (case i_DuplicateName___init__ => k_is)
    (case l_DuplicateName___init__ => k_is)
    (case o_DuplicateName___init__ => k_is)
    (case k_DuplicateName___init__ => k_is)
    (case a_UnknownName___init__ => k_is)
    (case i_UnknownName___init__ => k_is)
    (case l_UnknownName___init__ => k_is)
    (case o_UnknownName___init__ => k_is)
    (case k_UnknownName___init__ => k_is)
    (case a_WrongTable___init__ => k_is)
    (case i_WrongTable___init__ => k_is)
    (case l_WrongTable___init__ => k_is)
    (case o_WrongTable___init__ => k_is)
    (case k_WrongTable___init__ => k_is)
    (case a_WrongCount___init__ => k_is)
    (case i_WrongCount___init__ => k_is)
    (case l_WrongCount___init__ => k_is)
    (case o_WrongCount___init__ => k_is)
    (case k_WrongCount___init__ => k_is)
    (case a_TooMany___init__ => k_is)
    (case i_TooMany___init__ => k_is)
    (case l_TooMany___init__ => k_is)
    (case o_TooMany___init__ => k_is)
    (case k_TooMany___init__ => k_is)
    (case a_BadPattern___init__ => k_is)
    (case i_BadPattern___init__ => k_is)
    (case l_BadPattern___init__ => k_is)
    (case o_BadPattern___init__ => k_is)
    (case k_BadPattern___init__ => k_is)
    (case a_ConstantsMeet___init__ => k_is)
    (case i_ConstantsMeet___init__ => k_is)
    (case l_ConstantsMeet___init__ => k_is)
    (case o_ConstantsMeet___init__ => k_is)
    (case k_ConstantsMeet___init__ => k_is)
    (case a_BadValue___init__ => k_is)
    (case i_BadValue___init__ => k_is)
    (case l_BadValue___init__ => k_is)
    (case o_BadValue___init__ => k_is)
    (case k_BadValue___init__ => k_is)
    (case a_NoRow___init__ => k_is)
    (case i_NoRow___init__ => k_is)
    (case l_NoRow___init__ => k_is)
    (case o_NoRow___init__ => k_is)
    (case k_NoRow___init__ => k_is)
    (case a_Refused___init__ => k_is)
    (case i_Refused___init__ => k_is)
    (case l_Refused___init__ => k_is)
    (case lt_Refused___init__ => k_is)
    (case o_Refused___init__ => k_is)
    (case k_Refused___init__ => k_is)
    (case a_Broken___init__ => k_is)
    (case i_Broken___init__ => k_is)
    (case l_Broken___init__ => k_is)
    (case o_Broken___init__ => k_is)
    (case k_Broken___init__ => k_is)
    (case a_TooManyPatterns___init__ => k_is)
    (case i_TooManyPatterns___init__ => k_is)
    (case l_TooManyPatterns___init__ => k_is)
    (case o_TooManyPatterns___init__ => k_is)
    (case k_TooManyPatterns___init__ => k_is)
    (case a_BadDerivation___init__ => k_is)
    (case i_BadDerivation___init__ => k_is)
    (case l_BadDerivation___init__ => k_is)
    (case o_BadDerivation___init__ => k_is)
    (case k_BadDerivation___init__ => k_is)
    (case a_TooLong___init__ => k_is)
    (case i_TooLong___init__ => k_is)
    (case l_TooLong___init__ => k_is)
    (case o_TooLong___init__ => k_is)
    (case k_TooLong___init__ => k_is)
    (case a_BadOffer___init__ => k_is)
    (case i_BadOffer___init__ => k_is)
    (case l_BadOffer___init__ => k_is)
    (case o_BadOffer___init__ => k_is)
    (case k_BadOffer___init__ => k_is)
    (case a_family => k_is)
    (case l_family => k_is)
    (case o_family => k_is)
    (case k_family => k_is)
    (case a_get_kin => k_is)
    (case l_get_kin => k_is)
    (case o_get_kin => k_is)
    (case k_get_kin => k_is)
    (case a_caught => k_is)
    (case l_caught => k_is)
    (case o_caught => k_is)
    (case k_caught => k_is)
    (case a_get_numbers => k_is)
    (case l_get_numbers => k_is)
    (case o_get_numbers => k_is)
    (case k_get_numbers => k_is)
    (case a_get_others => k_is)
    (case l_get_others => k_is)
    (case o_get_others => k_is)
    (case k_get_others => k_is)
    (case a_draw => k_is)
    (case l_draw => k_is)
    (case o_draw => k_is)
    (case k_draw => k_is)
    (case a_get_state => k_is)
    (case l_get_state => k_is)
    (case o_get_state => k_is)
    (case k_get_state => k_is)
    (case a_get_words => k_is)
    (case l_get_words => k_is)
    (case o_get_words => k_is)
    (case k_get_words => k_is)
    (case a_law => k_is)
    (case l_law => k_is)
    (case o_law => k_is)
    (case k_law => k_is)
    (case z_len => k_is)
    (case z_abs => k_is)
    (case z_int => k_is)
    (case z_str => k_is)
    (case z_list => k_is)
    (case z_tuple => k_is)
    (case z_range => k_is)
    (case z_isinstance => k_is)
    (case z_any => k_is)
    (case z_all => k_is)
    (case z_sorted => k_is)
    (case z_bool => k_is)
    (case z_ValueError => k_is)
    (case q_hn => k_is)
    (case q_htk => k_is)
    (case eb_AgreeError => k_is)
    (case hd_AgreeError => k_is)
    (case ty_AgreeError => k_is)
    (case sa_BadLine_Agree => k_is)
    (case q_meA_0 => kit_is)
    (case q_meV_0 => kit_is)
    (case q_me_0_0 => kit_is)
    (case q_me_0_1 => kit_is)
    (case q_me_0_2 => kit_is)
    (case q_me_0_3 => kit_is)
    (case q_me_0_4 => kit_is)
    (case q_me_0_5 => kit_is)
    (case q_me_0_6 => kit_is)
    (case q_me_0_7 => kit_is)
    (case q_me_0_8 => kit_is)
    (case q_me_0_9 => kit_is)
    (case q_me_0_10 => kit_is)
    (case q_me_0_11 => kit_is)
    (case q_me_0_12 => kit_is)
    (case q_me_0_13 => kit_is)
    (case q_me_0_14 => kit_is)
    (case q_me_0_15 => kit_is)
    (case q_me_0_16 => kit_is)
    (case q_me_0_17 => kit_is)
    (case q_me_0_18 => kit_is)
    (case q_me_0_19 => kit_is)
    (case q_me_0_20 => kit_is)
    (case q_meA_1 => kit_is)
    (case q_meV_1 => kit_is)
    (case q_me_1_0 => kit_is)
    (case q_me_1_1 => kit_is)
    (case q_me_1_2 => kit_is)
    (case q_me_1_3 => kit_is)
    (case q_me_1_4 => kit_is)
    (case q_me_1_5 => kit_is)
    (case q_me_1_6 => kit_is)
    (case q_me_1_7 => kit_is)
    (case q_me_1_8 => kit_is)
    (case q_me_1_9 => kit_is)
    (case q_me_1_10 => kit_is)
    (case q_me_1_11 => kit_is)
    (case q_me_1_12 => kit_is)
    (case q_me_1_13 => kit_is)
    (case q_me_1_14 => kit_is)
    (case q_me_1_15 => kit_is)
    (case q_me_1_16 => kit_is)
    (case q_me_1_17 => kit_is)
    (case q_me_1_18 => kit_is)
    (case q_me_1_19 => kit_is)
    (case q_me_1_20 => kit_is)
    (case q_meA_2 => kit_is)
    (case q_meV_2 => kit_is)
    (case q_me_2_0 => kit_is)
    (case q_me_2_1 => kit_is)
    (case q_me_2_2 => kit_is)
    (case q_me_2_3 => kit_is)
    (case q_me_2_4 => kit_is)
    (case q_me_2_5 => kit_is)
    (case q_me_2_6 => kit_is)
    (case q_me_2_7 => kit_is)
    (case q_me_2_8 => kit_is)
    (case q_me_2_9 => kit_is)
    (case q_me_2_10 => kit_is)
    (case q_me_2_11 => kit_is)
    (case q_me_2_12 => kit_is)
    (case q_me_2_13 => kit_is)
    (case q_me_2_14 => kit_is)
    (case q_me_2_15 => kit_is)
    (case q_me_2_16 => kit_is)
    (case q_me_2_17 => kit_is)
    (case q_me_2_18 => kit_is)
    (case q_me_2_19 => kit_is)
    (case q_me_2_20 => kit_is)
    (case q_meA_3 => kit_is)
    (case q_meV_3 => kit_is)
    (case q_me_3_0 => kit_is)
    (case q_me_3_1 => kit_is)
    (case q_me_3_2 => kit_is)
    (case q_me_3_3 => kit_is)
    (case q_me_3_4 => kit_is)
    (case q_me_3_5 => kit_is)
    (case q_me_3_6 => kit_is)
    (case q_me_3_7 => kit_is)
    (case q_me_3_8 => kit_is)
    (case q_me_3_9 => kit_is)
    (case q_me_3_10 => kit_is)
    (case q_me_3_11 => kit_is)
    (case q_me_3_12 => kit_is)
    (case q_me_3_13 => kit_is)
    (case q_me_3_14 => kit_is)
    (case q_me_3_15 => kit_is)
    (case q_me_3_16 => kit_is)
    (case q_me_3_17 => kit_is)
    (case q_me_3_18 => kit_is)
    (case q_me_3_19 => kit_is)
    (case q_me_3_20 => kit_is)
    (case q_meA_4 => kit_is)
    (case q_meV_4 => kit_is)
    (case q_me_4_0 => kit_is)
    (case q_me_4_1 => kit_is)
    (case q_me_4_2 => kit_is)
    (case q_me_4_3 => kit_is)
    (case q_me_4_4 => kit_is)
    (case q_me_4_5 => kit_is)
    (case q_me_4_6 => kit_is)
    (case q_me_4_7 => kit_is)
    (case q_me_4_8 => kit_is)
    (case q_me_4_9 => kit_is)
    (case q_me_4_10 => kit_is)
    (case q_me_4_11 => kit_is)
    (case q_me_4_12 => kit_is)
    (case q_me_4_13 => kit_is)
    (case q_me_4_14 => kit_is)
    (case q_me_4_15 => kit_is)
    (case q_me_4_16 => kit_is)
    (case q_me_4_17 => kit_is)
    (case q_me_4_18 => kit_is)
    (case q_me_4_19 => kit_is)
    (case q_me_4_20 => kit_is)
    (case q_meA_5 => kit_is)
    (case q_meV_5 => kit_is)
    (case q_me_5_0 => kit_is)
    (case q_me_5_1 => kit_is)
    (case q_me_5_2 => kit_is)
    (case q_me_5_3 => kit_is)
    (case q_me_5_4 => kit_is)
    (case q_me_5_5 => kit_is)
    (case q_me_5_6 => kit_is)
    (case q_me_5_7 => kit_is)
    (case q_me_5_8 => kit_is)
    (case q_me_5_9 => kit_is)
    (case q_me_5_10 => kit_is)
    (case q_me_5_11 => kit_is)
    (case q_me_5_12 => kit_is)
    (case q_me_5_13 => kit_is)
    (case q_me_5_14 => kit_is)
    (case q_me_5_15 => kit_is)
    (case q_me_5_16 => kit_is)
    (case q_me_5_17 => kit_is)
    (case q_me_5_18 => kit_is)
    (case q_me_5_19 => kit_is)
    (case q_me_5_20 => kit_is)
    (case q_meA_6 => kit_is)
    (case q_meV_6 => kit_is)
    (case q_me_6_0 => kit_is)
    (case q_me_6_1 => kit_is)
    (case q_me_6_2 => kit_is)
    (case q_me_6_3 => kit_is)
    (case q_me_6_4 => kit_is)
    (case q_me_6_5 => kit_is)
    (case q_me_6_6 => kit_is)
    (case q_me_6_7 => kit_is)
    (case q_me_6_8 => kit_is)
    (case q_me_6_9 => kit_is)
    (case q_me_6_10 => kit_is)
    (case q_me_6_11 => kit_is)
    (case q_me_6_12 => kit_is)
    (case q_me_6_13 => kit_is)
    (case q_me_6_14 => kit_is)
    (case q_me_6_15 => kit_is)
    (case q_me_6_16 => kit_is)
    (case q_me_6_17 => kit_is)
    (case q_me_6_18 => kit_is)
    (case q_me_6_19 => kit_is)
    (case q_me_6_20 => kit_is)
    (case q_meA_7 => kit_is)
    (case q_meV_7 => kit_is)
    (case q_me_7_0 => kit_is)
    (case q_me_7_1 => kit_is)
    (case q_me_7_2 => kit_is)
    (case q_me_7_3 => kit_is)
    (case q_me_7_4 => kit_is)
    (case q_me_7_5 => kit_is)
    (case q_me_7_6 => kit_is)
    (case q_me_7_7 => kit_is)
    (case q_me_7_8 => kit_is)
    (case q_me_7_9 => kit_is)
    (case q_me_7_10 => kit_is)
    (case q_me_7_11 => kit_is)
    (case q_me_7_12 => kit_is)
    (case q_me_7_13 => kit_is)
    (case q_me_7_14 => kit_is)
    (case q_me_7_15 => kit_is)
    (case q_me_7_16 => kit_is)
    (case q_me_7_17 => kit_is)
    (case q_me_7_18 => kit_is)
    (case q_me_7_19 => kit_is)
    (case q_me_7_20 => kit_is)
    (case q_meA_8 => kit_is)
    (case q_meV_8 => kit_is)
    (case q_me_8_0 => kit_is)
    (case q_me_8_1 => kit_is)
    (case q_me_8_2 => kit_is)
    (case q_me_8_3 => kit_is)
    (case q_me_8_4 => kit_is)
    (case q_me_8_5 => kit_is)
    (case q_me_8_6 => kit_is)
    (case q_me_8_7 => kit_is)
    (case q_me_8_8 => kit_is)
    (case q_me_8_9 => kit_is)
    (case q_me_8_10 => kit_is)
    (case q_me_8_11 => kit_is)
    (case q_me_8_12 => kit_is)
    (case q_me_8_13 => kit_is)
    (case q_me_8_14 => kit_is)
    (case q_me_8_15 => kit_is)
    (case q_me_8_16 => kit_is)
    (case q_me_8_17 => kit_is)
    (case q_me_8_18 => kit_is)
    (case q_me_8_19 => kit_is)
    (case q_me_8_20 => kit_is)
    (case q_meA_9 => kit_is)
    (case q_meV_9 => kit_is)
    (case q_me_9_0 => kit_is)
    (case q_me_9_1 => kit_is)
    (case q_me_9_2 => kit_is)
    (case q_me_9_3 => kit_is)
    (case q_me_9_4 => kit_is)
    (case q_me_9_5 => kit_is)
    (case q_me_9_6 => kit_is)
    (case q_me_9_7 => kit_is)
    (case q_me_9_8 => kit_is)
    (case q_me_9_9 => kit_is)
    (case q_me_9_10 => kit_is)
    (case q_me_9_11 => kit_is)
    (case q_me_9_12 => kit_is)
    (case q_me_9_13 => kit_is)
    (case q_me_9_14 => kit_is)
    (case q_me_9_15 => kit_is)
    (case q_me_9_16 => kit_is)
    (case q_me_9_17 => kit_is)
    (case q_me_9_18 => kit_is)
    (case q_me_9_19 => kit_is)
    (case q_me_9_20 => kit_is)
    (case q_meA_10 => kit_is)
    (case q_meV_10 => kit_is)
    (case q_me_10_0 => kit_is)
    (case q_me_10_1 => kit_is)
    (case q_me_10_2 => kit_is)
    (case q_me_10_3 => kit_is)
    (case q_me_10_4 => kit_is)
    (case q_me_10_5 => kit_is)
    (case q_me_10_6 => kit_is)
    (case q_me_10_7 => kit_is)
    (case q_me_10_8 => kit_is)
    (case q_me_10_9 => kit_is)
    (case q_me_10_10 => kit_is)
    (case q_me_10_11 => kit_is)
    (case q_me_10_12 => kit_is)
    (case q_me_10_13 => kit_is)
    (case q_me_10_14 => kit_is)
    (case q_me_10_15 => kit_is)
    (case q_me_10_16 => kit_is)
    (case q_me_10_17 => kit_is)
    (case q_me_10_18 => kit_is)
    (case q_me_10_19 => kit_is)
    (case q_me_10_20 => kit_is)
    (case q_meA_11 => kit_is)
    (case q_meV_11 => kit_is)
    (case q_me_11_0 => kit_is)
    (case q_me_11_1 => kit_is)
    (case q_me_11_2 => kit_is)
    (case q_me_11_3 => kit_is)
    (case q_me_11_4 => kit_is)
    (case q_me_11_5 => kit_is)
    (case q_me_11_6 => kit_is)
    (case q_me_11_7 => kit_is)
    (case q_me_11_8 => kit_is)
    (case q_me_11_9 => kit_is)
    (case q_me_11_10 => kit_is)
    (case q_me_11_11 => kit_is)
    (case q_me_11_12 => kit_is)
    (case q_me_11_13 => kit_is)
    (case q_me_11_14 => kit_is)
    (case q_me_11_15 => kit_is)
    (case q_me_11_16 => kit_is)
    (case q_me_11_17 => kit_is)
    (case q_me_11_18 => kit_is)
    (case q_me_11_19 => kit_is)
    (case q_me_11_20 => kit_is)
    (case q_meA_12 => kit_is)
    (case q_meV_12 => kit_is)
    (case q_me_12_0 => kit_is)
    (case q_me_12_1 => kit_is)
    (case q_me_12_2 => kit_is)
    (case q_me_12_3 => kit_is)
    (case q_me_12_4 => kit_is)
    (case q_me_12_5 => kit_is)
    (case q_me_12_6 => kit_is)
    (case q_me_12_7 => kit_is)
    (case q_me_12_8 => kit_is)
    (case q_me_12_9 => kit_is)
    (case q_me_12_10 => kit_is)
    (case q_me_12_11 => kit_is)
    (case q_me_12_12 => kit_is)
    (case q_me_12_13 => kit_is)
    (case q_me_12_14 => kit_is)
    (case q_me_12_15 => kit_is)
    (case q_me_12_16 => kit_is)
    (case q_me_12_17 => kit_is)
    (case q_me_12_18 => kit_is)
    (case q_me_12_19 => kit_is)
    (case q_me_12_20 => kit_is)
    (case q_meA_13 => kit_is)
    (case q_meV_13 => kit_is)
    (case q_me_13_0 => kit_is)
    (case q_me_13_1 => kit_is)
    (case q_me_13_2 => kit_is)
    (case q_me_13_3 => kit_is)
    (case q_me_13_4 => kit_is)
    (case q_me_13_5 => kit_is)
    (case q_me_13_6 => kit_is)
    (case q_me_13_7 => kit_is)
    (case q_me_13_8 => kit_is)
    (case q_me_13_9 => kit_is)
    (case q_me_13_10 => kit_is)
    (case q_me_13_11 => kit_is)
    (case q_me_13_12 => kit_is)
    (case q_me_13_13 => kit_is)
    (case q_me_13_14 => kit_is)
    (case q_me_13_15 => kit_is)
    (case q_me_13_16 => kit_is)
    (case q_me_13_17 => kit_is)
    (case q_me_13_18 => kit_is)
    (case q_me_13_19 => kit_is)
    (case q_me_13_20 => kit_is)
    (case q_meA_14 => kit_is)
    (case q_meV_14 => kit_is)
    (case q_me_14_0 => kit_is)
    (case q_me_14_1 => kit_is)
    (case q_me_14_2 => kit_is)
    (case q_me_14_3 => kit_is)
    (case q_me_14_4 => kit_is)
    (case q_me_14_5 => kit_is)
    (case q_me_14_6 => kit_is)
    (case q_me_14_7 => kit_is)
    (case q_me_14_8 => kit_is)
    (case q_me_14_9 => kit_is)
    (case q_me_14_10 => kit_is)
    (case q_me_14_11 => kit_is)
    (case q_me_14_12 => kit_is)
    (case q_me_14_13 => kit_is)
    (case q_me_14_14 => kit_is)
    (case q_me_14_15 => kit_is)
    (case q_me_14_16 => kit_is)
    (case q_me_14_17 => kit_is)
    (case q_me_14_18 => kit_is)
    (case q_me_14_19 => kit_is)
    (case q_me_14_20 => kit_is)
    (case q_meA_15 => kit_is)
    (case q_meV_15 => kit_is)
    (case q_me_15_0 => kit_is)
    (case q_me_15_1 => kit_is)
    (case q_me_15_2 => kit_is)
    (case q_me_15_3 => kit_is)
    (case q_me_15_4 => kit_is)
    (case q_me_15_5 => kit_is)
    (case q_me_15_6 => kit_is)
    (case q_me_15_7 => kit_is)
    (case q_me_15_8 => kit_is)
    (case q_me_15_9 => kit_is)
    (case q_me_15_10 => kit_is)
    (case q_me_15_11 => kit_is)
    (case q_me_15_12 => kit_is)
    (case q_me_15_13 => kit_is)
    (case q_me_15_14 => kit_is)
    (case q_me_15_15 => kit_is)
    (case q_me_15_16 => kit_is)
    (case q_me_15_17 => kit_is)
    (case q_me_15_18 => kit_is)
    (case q_me_15_19 => kit_is)
    (case q_me_15_20 => kit_is)
    (case q_meA_16 => kit_is)
    (case q_meV_16 => kit_is)
    (case q_me_16_0 => kit_is)
    (case q_me_16_1 => kit_is)
    (case q_me_16_2 => kit_is)
    (case q_me_16_3 => kit_is)
    (case q_me_16_4 => kit_is)
    (case q_me_16_5 => kit_is)
    (case q_me_16_6 => kit_is)
    (case q_me_16_7 => kit_is)
    (case q_me_16_8 => kit_is)
    (case q_me_16_9 => kit_is)
    (case q_me_16_10 => kit_is)
    (case q_me_16_11 => kit_is)
    (case q_me_16_12 => kit_is)
    (case q_me_16_13 => kit_is)
    (case q_me_16_14 => kit_is)
    (case q_me_16_15 => kit_is)
    (case q_me_16_16 => kit_is)
    (case q_me_16_17 => kit_is)
    (case q_me_16_18 => kit_is)
    (case q_me_16_19 => kit_is)
    (case q_me_16_20 => kit_is)
    (case q_meA_17 => kit_is)
    (case q_meV_17 => kit_is)
    (case q_me_17_0 => kit_is)
    (case q_me_17_1 => kit_is)
    (case q_me_17_2 => kit_is)
    (case q_me_17_3 => kit_is)
    (case q_me_17_4 => kit_is)
    (case q_me_17_5 => kit_is)
    (case q_me_17_6 => kit_is)
    (case q_me_17_7 => kit_is)
    (case q_me_17_8 => kit_is)
    (case q_me_17_9 => kit_is)
    (case q_me_17_10 => kit_is)
    (case q_me_17_11 => kit_is)
    (case q_me_17_12 => kit_is)
    (case q_me_17_13 => kit_is)
    (case q_me_17_14 => kit_is)
    (case q_me_17_15 => kit_is)
    (case q_me_17_16 => kit_is)
    (case q_me_17_17 => kit_is)
    (case q_me_17_18 => kit_is)
    (case q_me_17_19 => kit_is)
    (case q_me_17_20 => kit_is)
    (case q_meA_18 => kit_is)
    (case q_meV_18 => kit_is)
    (case q_me_18_0 => kit_is)
    (case q_me_18_1 => kit_is)
    (case q_me_18_2 => kit_is)
    (case q_me_18_3 => kit_is)
    (case q_me_18_4 => kit_is)
    (case q_me_18_5 => kit_is)
    (case q_me_18_6 => kit_is)
    (case q_me_18_7 => kit_is)
    (case q_me_18_8 => kit_is)
    (case q_me_18_9 => kit_is)
    (case q_me_18_10 => kit_is)
    (case q_me_18_11 => kit_is)
    (case q_me_18_12 => kit_is)
    (case q_me_18_13 => kit_is)
    (case q_me_18_14 => kit_is)
    (case q_me_18_15 => kit_is)
    (case q_me_18_16 => kit_is)
    (case q_me_18_17 => kit_is)
    (case q_me_18_18 => kit_is)
    (case q_me_18_19 => kit_is)
    (case q_me_18_20 => kit_is)
    (case q_meA_19 => kit_is)
    (case q_meV_19 => kit_is)
    (case q_me_19_0 => kit_is)
    (case q_me_19_1 => kit_is)
    (case q_me_19_2 => kit_is)
    (case q_me_19_3 => kit_is)
    (case q_me_19_4 => kit_is)
    (case q_me_19_5 => kit_is)
    (case q_me_19_6 => kit_is)
    (case q_me_19_7 => kit_is)
    (case q_me_19_8 => kit_is)
    (case q_me_19_9 => kit_is)
    (case q_me_19_10 => kit_is)
    (case q_me_19_11 => kit_is)
    (case q_me_19_12 => kit_is)
    (case q_me_19_13 => kit_is)
    (case q_me_19_14 => kit_is)
    (case q_me_19_15 => kit_is)
    (case q_me_19_16 => kit_is)
    (case q_me_19_17 => kit_is)
    (case q_me_19_18 => kit_is)
    (case q_me_19_19 => kit_is)
    (case q_me_19_20 => kit_is)
    (case q_meA_20 => kit_is)
    (case q_meV_20 => kit_is)
    (case q_me_20_0 => kit_is)
    (case q_me_20_1 => kit_is)
    (case q_me_20_2 => kit_is)
    (case q_me_20_3 => kit_is)
    (case q_me_20_4 => kit_is)
    (case q_me_20_5 => kit_is)
    (case q_me_20_6 => kit_is)
    (case q_me_20_7 => kit_is)
    (case q_me_20_8 => kit_is)
    (case q_me_20_9 => kit_is)
    (case q_me_20_10 => kit_is)
    (case q_me_20_11 => kit_is)
    (case q_me_20_12 => kit_is)
    (case q_me_20_13 => kit_is)
    (case q_me_20_14 => kit_is)
    (case q_me_20_15 => kit_is)
    (case q_me_20_16 => kit_is)
    (case q_me_20_17 => kit_is)
    (case q_me_20_18 => kit_is)
    (case q_me_20_19 => kit_is)
    (case q_me_20_20 => kit_is)

