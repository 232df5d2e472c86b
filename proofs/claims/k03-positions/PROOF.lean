import PyProof.Rows.All
import Wide.All
import OpenK.AllK
import Wide.FinOn
import HandS.ForMost
import HandS.ForExc
import HandS.IsInst
import HandS.Conv
import HandS.Codes
import HandS.Walk
import KE.KDictList
import KE.KCallOwn
import HandS.ListItems
import HandS.TupLe
import HandS.ExcInit
import HandS.ExcField
import HandS.ExcIs
import KE.KExcIs
import HandS.RaiseMore
import HandS.Deep
import HandS.More
import HandS.TryOnly
import HandS.ExcValue
import HandS.Defaults
import HandS.ClsMeth
import PySem.Challenge.RW_ownersagree_k03_positions
set_option Elab.async false
set_option linter.all false
set_option maxRecDepth 100000
set_option maxHeartbeats 4000000
namespace OA
open PySem PySem.Spec PyProof.Rows L2
/-! ### the heap in two tiers: G is what stands still, H is all -/
structure Stp (F : Addr → Prop) (G H G' H' : Hp) : Prop where
  gg : Same G G'
  gh : Same G' H'
  nw : ∀ b o, G' b = some o → G b = none → H b = none
  fr : ∀ b o, H b = some o → ¬ F b → H' b = some o
  al : ∀ b o, H b = some o → ∃ o', H' b = some o'
structure Cell (G H : Hp) (p : Addr) (o : HO) : Prop where
  at_ : H p = some o
  no : G p = none
abbrev F0 : Addr → Prop := fun _ => False
abbrev F2 (a b : Addr) : Addr → Prop := fun p => p = a ∨ p = b
section
variable {F F' : Addr → Prop} {G H G' H' G1 H1 G2 H2 : Hp} {p q : Addr} {o o' : HO}
theorem none_of (h : ∀ o, H p ≠ some o) : H p = none := by
  cases e : H p with
  | none => rfl
  | some o => exact absurd e (h o)
theorem Stp.refl (h : Same G H) : Stp F G H G H := ⟨Same.refl G, h, fun b o h1 h2 => absurd (h1.symm.trans h2) (fun z => nomatch z), fun _ _ h _ => h, fun _ o h => ⟨o, h⟩⟩
theorem Stp.trans (a : Stp F G H G1 H1) (b : Stp F G1 H1 G2 H2) : Stp F G H G2 H2 := by
  refine ⟨a.gg.trans b.gg, b.gh, fun c o h1 h2 => ?_, fun c o h hF => b.fr c o (a.fr c o h hF) hF, fun c o h => ?_⟩
  · cases e : G1 c with
    | some u => exact a.nw c u e h2
    | none =>
      have h3 := b.nw c o h1 e
      cases e2 : H c with
      | none => rfl
      | some u =>
        obtain ⟨u', e3⟩ := a.al c u e2
        rw [e3] at h3
        cases h3
  · obtain ⟨u, e⟩ := a.al c o h
    exact b.al c u e
theorem Stp.wide (a : Stp F G H G' H') (h : ∀ b, F b → F' b) : Stp F' G H G' H' := ⟨a.gg, a.gh, a.nw, fun b o e hF => a.fr b o e (fun z => hF (h b z)), a.al⟩
/-- what is new since the start does not count -/
theorem Stp.drop (a : Stp F G H G' H') (h : ∀ b, F b → F' b ∨ H b = none) : Stp F' G H G' H' := ⟨a.gg, a.gh, a.nw, fun b o e hF => a.fr b o e (fun z => by
  rcases h b z with h | h
  · exact hF h
  · rw [h] at e; cases e), a.al⟩
theorem Stp.cell (a : Stp F G H G' H') (c : Cell G H p o) (hF : ¬ F p) : Cell G' H' p o := by
  refine ⟨a.fr p o c.at_ hF, none_of fun u e => ?_⟩
  have := a.nw p u e c.no
  rw [c.at_] at this
  cases this
theorem Stp.new (a : Stp F G H G' H') (h : H' p = none) : H p = none := by
  cases e : H p with
  | none => rfl
  | some u =>
    obtain ⟨u', e'⟩ := a.al p u e
    rw [e'] at h
    cases h
/-- a new thing that stands still -/
theorem Stp.lay (h : Same G H) (hp : H p = none) (o : HO) : Stp F G H (upd G p o) (upd H p o) := by
  have gp : G p = none := h.free hp
  refine ⟨fun b u e => ?_, fun b u e => ?_, fun b u e h2 => ?_, fun b u e _ => ?_, fun b u e => ⟨u, ?_⟩⟩
  · rw [upd_ne (ne_of_none e gp)]; exact e
  · by_cases hb : b = p
    · subst hb; rw [upd_same] at e ⊢; exact e
    · rw [upd_ne hb] at e ⊢; exact h b u e
  · by_cases hb : b = p
    · subst hb; exact hp
    · rw [upd_ne hb, h2] at e; cases e
  · rw [upd_ne (ne_of_none e hp)]; exact e
  · rw [upd_ne (ne_of_none e hp)]; exact e
/-- a new thing that may change -/
theorem Stp.put (h : Same G H) (hp : H p = none) (o : HO) : Stp F G H G (upd H p o) := by
  refine ⟨Same.refl G, fun b u e => ?_, fun b u e h2 => ?_, fun b u e _ => ?_, fun b u e => ⟨u, ?_⟩⟩
  · rw [upd_ne (ne_of_none (h b u e) hp)]; exact h b u e
  · rw [e] at h2; cases h2
  · rw [upd_ne (ne_of_none e hp)]; exact e
  · rw [upd_ne (ne_of_none e hp)]; exact e
theorem Cell.new (h : Same G H) (hp : H p = none) (o : HO) : Cell G (upd H p o) p o := ⟨upd_same, h.free hp⟩
/-- a change -/
theorem Stp.write (h : Same G H) (c : Cell G H p o) (hF : F p) (u : HO) : Stp F G H G (upd H p u) := by
  refine ⟨Same.refl G, fun b v e => ?_, fun b v e h2 => ?_, fun b v e hn => ?_, fun b v e => ?_⟩
  · rw [upd_ne (ne_of_none e c.no)]; exact h b v e
  · rw [e] at h2; cases h2
  · rw [upd_ne (fun z => hn (by rw [z]; exact hF))]; exact e
  · by_cases hb : b = p
    · exact ⟨u, by rw [hb, upd_same]⟩
    · exact ⟨v, by rw [upd_ne hb]; exact e⟩
/-- a change of what is new since the start -/
theorem Stp.loc (s : Stp F G H G1 H1) (c : Cell G1 H1 p o) (hp : H p = none) (u : HO) : Stp F G H G1 (upd H1 p u) := by
  refine ⟨s.gg, fun b v e => ?_, s.nw, fun b v e hn => ?_, fun b v e => ?_⟩
  · rw [upd_ne (ne_of_none e c.no)]; exact s.gh b v e
  · rw [upd_ne (ne_of_none e hp)]; exact s.fr b v e hn
  · rw [upd_ne (ne_of_none e hp)]; exact s.al b v e
theorem Cell.set (c : Cell G H p o) (u : HO) : Cell G (upd H p u) p u := ⟨upd_same, c.no⟩
theorem Cell.off (c : Cell G H p o) (h : p ≠ q) (u : HO) : Cell G (upd H q u) p o := ⟨by rw [upd_ne h]; exact c.at_, c.no⟩
theorem same_loc (s : Same H H1) (hp : H p = none) (u : HO) : Same H (upd H1 p u) := fun b o e => by rw [upd_ne (ne_of_none e hp)]; exact s b o e
theorem Stp.same (h : Same G H) (s : Same H H') : Stp F G H G H' := ⟨Same.refl G, h.trans s, fun b o h1 h2 => absurd (h1.symm.trans h2) (fun z => nomatch z), fun b o e _ => s b o e, fun b o e => ⟨o, s b o e⟩⟩
/-- a thing that was new since the start stands still from now on -/
theorem Stp.freeze (a : Stp F G H G' H') (c : Cell G' H' p o) (hp : H p = none) : Stp F G H (upd G' p o) H' := by
  refine ⟨fun b u e => ?_, fun b u e => ?_, fun b u e h2 => ?_, a.fr, a.al⟩
  · rw [upd_ne (ne_of_none (a.gg b u e) c.no)]; exact a.gg b u e
  · by_cases hb : b = p
    · subst hb; rw [upd_same] at e; cases e; exact c.at_
    · rw [upd_ne hb] at e; exact a.gh b u e
  · by_cases hb : b = p
    · subst hb; exact hp
    · rw [upd_ne hb] at e; exact a.nw b u e h2
/-- all of L that was new since the start stands still from now on -/
def frzL (G H : Hp) (L : List Addr) : Hp := fun b => if b ∈ L then H b else G b
theorem frzL_in {L : List Addr} (h : p ∈ L) (e : H p = some o) : frzL G H L p = some o := by unfold frzL; rw [if_pos h]; exact e
theorem frzL_out {L : List Addr} (h : p ∉ L) : frzL G H L p = G p := by unfold frzL; rw [if_neg h]
theorem frzL_sub {L : List Addr} (s : Same G H) : Same G (frzL G H L) := fun b u e => by
  by_cases hb : b ∈ L
  · exact frzL_in hb (s b u e)
  · rw [frzL_out hb]; exact e
theorem Stp.freezeL (a : Stp F G H G' H') {L : List Addr} (hL : ∀ b ∈ L, H b = none) : Stp F G H (frzL G' H' L) H' := by
  refine ⟨a.gg.trans (frzL_sub a.gh), fun b u e => ?_, fun b u e h2 => ?_, a.fr, a.al⟩
  · by_cases hb : b ∈ L
    · unfold frzL at e; rw [if_pos hb] at e; exact e
    · rw [frzL_out hb] at e; exact a.gh b u e
  · by_cases hb : b ∈ L
    · exact hL b hb
    · rw [frzL_out hb] at e; exact a.nw b u e h2
theorem Cell.frzL {L : List Addr} (c : Cell G H p o) (h : p ∉ L) : Cell (OA.frzL G H L) H p o := ⟨c.at_, by rw [frzL_out h]; exact c.no⟩
theorem Same.lay (h : G p = none) (o : HO) : Same G (upd G p o) := fun b u e => by rw [upd_ne (ne_of_none e h)]; exact e
theorem Cell.lay (c : Cell G H p o) (h : p ≠ q) (u : HO) : Cell (upd G q u) H p o := ⟨c.at_, by rw [upd_ne h]; exact c.no⟩
theorem Cell.ne (c : Cell G H p o) (d : H q = none) : p ≠ q := ne_of_none c.at_ d
theorem Stp.fresh (a : Stp F G H G' H') (h : H p = none) (c : Cell G' H' q o) (hq : H q = some o') : q ≠ p := ne_of_none hq h
end
theorem Same.sqL {K : PySem.W.Frag} {H H' : Hp} {a : Addr} {xs : List V} (e : Same H H') (h : H a = some (.lst xs)) : SqL K H' a xs := SqL.of (e a _ h)

/-! ### data: lists of texts, lists of lists of texts, of ints -/
def Ss (G : Hp) (v : V) (xs : List Str) : Prop := ∃ a, v = .ref a ∧ G a = some (.lst (xs.map V.str))
def Si (G : Hp) (v : V) (xs : List Int) : Prop := ∃ a, v = .ref a ∧ G a = some (.lst (xs.map V.int))
def Sss (G : Hp) (v : V) (xss : List (List Str)) : Prop := ∃ a as, v = .ref a ∧ G a = some (.lst (as.map V.ref)) ∧ Paired (fun p xs => G p = some (.lst (xs.map V.str))) as xss
theorem Ss.mono {G G' : Hp} {v : V} {xs : List Str} (s : Same G G') (h : Ss G v xs) : Ss G' v xs := by
  obtain ⟨a, e, h⟩ := h
  exact ⟨a, e, s a _ h⟩
theorem Si.mono {G G' : Hp} {v : V} {xs : List Int} (s : Same G G') (h : Si G v xs) : Si G' v xs := by
  obtain ⟨a, e, h⟩ := h
  exact ⟨a, e, s a _ h⟩
theorem Sss.mono {G G' : Hp} {v : V} {xs : List (List Str)} (s : Same G G') (h : Sss G v xs) : Sss G' v xs := by
  obtain ⟨a, as, e, h, p⟩ := h
  exact ⟨a, as, e, s a _ h, Paired.mapP p fun p xs h => s p _ h⟩

/-! ### the drawing state of a law -/
def StAt (G H : Hp) (st inn : Addr) : Prop := ∃ (cs : List Int) (a b c : Int), Cell G H st (.lst [.ref inn, .int a, .int b, .int c]) ∧ Cell G H inn (.lst (cs.map V.int)) ∧ (∀ x ∈ cs, 0 ≤ x) ∧ 0 ≤ a ∧ 0 ≤ b ∧ 0 ≤ c
theorem StAt.off {G H : Hp} {st inn : Addr} (h : StAt G H st inn) {p : Addr} (hp : H p = none) : ¬ F2 st inn p := by
  obtain ⟨cs, a, b, c, h1, h2, _⟩ := h
  rintro (e | e)
  · subst e; rw [h1.at_] at hp; cases hp
  · subst e; rw [h2.at_] at hp; cases hp
theorem StAt.keep {G H G' H' : Hp} {st inn : Addr} {F : Addr → Prop} (h : StAt G H st inn) (s : Stp F G H G' H') (h1 : ¬ F st) (h2 : ¬ F inn) : StAt G' H' st inn := by
  obtain ⟨cs, a, b, c, x, y, z⟩ := h
  exact ⟨cs, a, b, c, s.cell x h1, s.cell y h2, z⟩
theorem StAt.keep0 {G H G' H' : Hp} {st inn : Addr} (h : StAt G H st inn) (s : Stp F0 G H G' H') : StAt G' H' st inn := h.keep s id id
theorem StAt.new {G H : Hp} {st inn : Addr} (h : StAt G H st inn) {p : Addr} (hp : H p = none) (hs : Same G H) (o : HO) : StAt G (upd H p o) st inn := h.keep0 (Stp.put hs hp o)
theorem StAt.write {G H : Hp} {st inn : Addr} (h : StAt G H st inn) {p : Addr} (hp : ¬ F2 st inn p) (o : HO) : StAt G (upd H p o) st inn := by
  obtain ⟨cs, a, b, c, x, y, z⟩ := h
  exact ⟨cs, a, b, c, x.off (fun e => hp (.inl e.symm)) o, y.off (fun e => hp (.inr e.symm)) o, z⟩
theorem StAt.frz {G H : Hp} {st inn : Addr} (h : StAt G H st inn) {p : Addr} (hp : ¬ F2 st inn p) (o : HO) : StAt (upd G p o) H st inn := by
  obtain ⟨cs, a, b, c, x, y, z⟩ := h
  exact ⟨cs, a, b, c, x.lay (fun e => hp (.inl e.symm)) o, y.lay (fun e => hp (.inr e.symm)) o, z⟩

theorem StAt.frzL {G H : Hp} {st inn : Addr} (h : StAt G H st inn) {L : List Addr} (hL : ∀ b ∈ L, ¬ F2 st inn b) : StAt (OA.frzL G H L) H st inn := by
  obtain ⟨cs, a, b, c, x, y, z⟩ := h
  exact ⟨cs, a, b, c, x.frzL (fun m => hL st m (.inl rfl)), y.frzL (fun m => hL inn m (.inr rfl)), z⟩
/-! ### a def of the top that is called by its name -/
structure Callee (P : Program) (w : World) (K : PySem.W.Frag) (mg : Str → Option Value) (base : Heap) (x : Str) (ps : List Str) (sp : Sp) (k : Nat) : Prop where
  ex : ∃ f fd, FnOk P w K mg base CX0 k f fd ps sp ∧ Binds K fd ps [] ∧ mg x = some (.ref f) ∧ PySem.W.keepIn K (.ref f) = true
theorem pe_co {X : Cx} {x : Str} {ps : List Str} {sp : Sp} {k j : Nat} {e : Expr} {es : List Expr} {t : TA} {p pos : Pos} (c : Callee X.prog X.w X.K X.mg X.base x ps sp k) (hr : Room j X.A) (hk : k ≤ j) (hg : Gl X x) (ha : PA X (e :: es) t)
    (hdb : (x == ("__debug__" : Str)) = false := by decide) (he : starEach (e :: es) X.env = (false, eval e X.env) :: starEach es X.env := by rfl) (hpl : (backTo pos (starEach es X.env)).any (·.1) = false := by rfl) :
    PE X (.Call (.Name x p) (e :: es) [] pos) (tCall sp [] E0 t) := by
  obtain ⟨f, fd, F, b, m, kp⟩ := c.ex
  exact pe_call F (hr.mono hk) hg m kp b .nil pass0 ha hdb he hpl
/-- a class of the top with its __init__ -/
structure Maker (P : Program) (w : World) (K : PySem.W.Frag) (mg : Str → Option Value) (base : Heap) (x : Str) (C : Addr) (ps : List Str) (sp : Sp) (k : Nat) : Prop where
  ex : ∃ f fd, FnOk P w K mg base CX0 k f fd ps sp ∧ Binds K fd ps [] ∧ mg x = some (.ref C) ∧ Mk K C f
theorem pe_mk {X : Cx} {x : Str} {C : Addr} {ps : List Str} {sp : Sp} {k j : Nat} {e : Expr} {es : List Expr} {t : TA} {p pos : Pos} (c : Maker X.prog X.w X.K X.mg X.base x C ps sp k) (hr : Room j X.A) (hk : k + 1 ≤ j) (hg : Gl X x) (ha : PA X (e :: es) t)
    (hdb : (x == ("__debug__" : Str)) = false := by decide) (he : starEach (e :: es) X.env = (false, eval e X.env) :: starEach es X.env := by rfl) (hpl : (backTo pos (starEach es X.env)).any (·.1) = false := by rfl) :
    PE X (.Call (.Name x p) (e :: es) [] pos) (tMake C sp [] E0 t) := by
  obtain ⟨f, fd, F, b, m, M⟩ := c.ex
  exact pe_make M F (hr.mono hk) hg m b .nil pass0 ha hdb he hpl
/-- a method of a class of the top -/
structure Method (P : Program) (w : World) (K : PySem.W.Frag) (mg : Str → Option Value) (base : Heap) (C : Addr) (m : Str) (ps : List Str) (sp : Sp) (k : Nat) : Prop where
  ex : ∃ f fd, FnOk P w K mg base CX0 k f fd ps sp ∧ Binds K fd ps [] ∧ Cls K C ∧ Meth K C m f
theorem pe_mo0 {X : Cx} {C : Addr} {m : Str} {ps : List Str} {sp : Sp} {k j : Nat} {o : Expr} {ta : TE} {apos pos : Pos} {pl : Sem Bool} (c : Method X.prog X.w X.K X.mg X.base C m ps sp k) (hr : Room j X.A) (hk : k ≤ j) (he : PE X o ta)
    (ht : eval (.Call (.Attribute o m apos) [] [] pos) X.env = (do
      let ov ← eval o X.env
      standAt apos.atName
      let (f, first) ← holding [ov] (getMethod ov m pl)
      callWith pos f first (backTo pos (starEach [] X.env)) (backToKw pos (keywordEach [] X.env))) := by rfl) :
    PE X (.Call (.Attribute o m apos) [] [] pos) (tMeth C m sp [] E0 ta tNil) := by
  obtain ⟨f, fd, F, b, cl, M⟩ := c.ex
  exact pe_meth0 he cl M F (hr.mono hk) b .nil pass0 ht
theorem Callee.mono {P : Program} {w : World} {K : PySem.W.Frag} {mg : Str → Option Value} {base : Heap} {x : Str} {ps : List Str} {sp : Sp} {j k : Nat} (c : Callee P w K mg base x ps sp j) (h : j ≤ k) : Callee P w K mg base x ps sp k := by
  obtain ⟨f, fd, F, r⟩ := c.ex
  exact ⟨f, fd, F.mono h, r⟩

/-! ### rules that lacked -/
section
variable {X : Cx}
theorem pe_gstr {x : Str} {z : Str} {pos : Pos} (h : ∃ t, X.mg x = some (.str z t)) (hg : Gl X x := by rfl) (hd : (x == ("__debug__" : Str)) = false := by decide) : PE X (.Name x pos) (tC (.str z)) := by
  obtain ⟨t, h⟩ := h
  exact pe_glob hg h ⟨t, rfl⟩ hd
theorem pe_gint {x : Str} {z : Int} {pos : Pos} (h : ∃ t, X.mg x = some (.int z t)) (hg : Gl X x := by rfl) (hd : (x == ("__debug__" : Str)) = false := by decide) : PE X (.Name x pos) (tC (.int z)) := by
  obtain ⟨t, h⟩ := h
  exact pe_glob hg h ⟨t, rfl⟩ hd
/-! operators with plain readings -/
def rAddI : R2 := fun x y H Q => ∃ i j, x = .int i ∧ y = .int j ∧ Q (.int (i + j)) H
def rSubI : R2 := fun x y H Q => ∃ i j, x = .int i ∧ y = .int j ∧ Q (.int (i - j)) H
def rMulI : R2 := fun x y H Q => ∃ i j, x = .int i ∧ y = .int j ∧ ((-(2 ^ 64) < i ∧ i < 2 ^ 64) ∨ (-(2 ^ 64) < j ∧ j < 2 ^ 64)) ∧ Q (.int (i * j)) H
def rModI : R2 := fun x y H Q => ∃ i j, x = .int i ∧ y = .int j ∧ 0 < j ∧ Q (.int (i % j)) H
def rDivI : R2 := fun x y H Q => ∃ i j, x = .int i ∧ y = .int j ∧ (0 < j ∧ j < 1073741824) ∧ Q (.int (i / j)) H
def rPowI : R2 := fun x y H Q => ∃ i j, x = .int i ∧ y = .int j ∧ (0 ≤ j ∧ j ≤ 1000000 ∧ i.natAbs < 2 ^ 64) ∧ Q (.int (i ^ j.toNat)) H
def rLtI : R2 := fun x y H Q => ∃ i j, x = .int i ∧ y = .int j ∧ Q (.bl (decide (i < j))) H
def rLeI : R2 := fun x y H Q => ∃ i j, x = .int i ∧ y = .int j ∧ Q (.bl (decide (i ≤ j))) H
def rGtI : R2 := fun x y H Q => ∃ i j, x = .int i ∧ y = .int j ∧ Q (.bl (decide (j < i))) H
def rGeI : R2 := fun x y H Q => ∃ i j, x = .int i ∧ y = .int j ∧ Q (.bl (decide (j ≤ i))) H
theorem o_add : OpR X (binaryOp .Add) rAddI := op_add
theorem o_sub : OpR X (binaryOp .Sub) rSubI := op_sub
theorem o_mul : OpR X (binaryOp .Mult) rMulI := op_mul
theorem o_mod : OpR X (binaryOp .Mod) rModI := op_mod
theorem o_fdiv : OpR X (binaryOp .FloorDiv) rDivI := op_fdiv
theorem o_pow : OpR X (binaryOp .Pow) rPowI := op_pow
theorem o_lt : OpR X (compareOp .Lt) rLtI := op_lt
theorem o_le : OpR X (compareOp .LtE) rLeI := op_le
theorem o_gt : OpR X (compareOp .Gt) rGtI := op_gt
theorem o_ge : OpR X (compareOp .GtE) rGeI := op_ge
def rAbsI : List V → Hp → VK → Prop := fun xs H Q => ∃ i, xs = [.int i] ∧ Q (.int (if i < 0 then -i else i)) H
theorem c_abs : CallR X (.builtin "abs") rAbsI := call_abs
def rIntI : List V → Hp → VK → Prop := fun xs H Q => (∃ i, xs = [.int i] ∧ Q (.int i) H) ∨ ∃ k, xs = [.bl k] ∧ Q (.int (if k then 1 else 0)) H
theorem c_int : CallR X (.type "int") rIntI := call_int1
def rLenL (K : PySem.W.Frag) : List V → Hp → VK → Prop := fun xs H Q => ∃ p ys, xs = [.ref p] ∧ (SqL K H p ys ∨ SqT K H p ys) ∧ Q (.int ys.length) H
theorem c_len (K : PySem.W.Frag) (h : X.K = K := by rfl) : CallR X (.builtin "len") (rLenL K) := by subst h; exact call_len_seq
def rLenT : List V → Hp → VK → Prop := fun xs H Q => ∃ z, xs = [.str z] ∧ z.length ≤ sizeLine ∧ Q (.int z.length) H
theorem c_lenS : CallR X (.builtin "len") rLenT := call_len_str
def rListO (K : PySem.W.Frag) : List V → Hp → VK → Prop := fun xs H Q => ∃ p ys, xs = [.ref p] ∧ (SqL K H p ys ∨ SqT K H p ys) ∧ ∀ l, H l = none → Q (.ref l) (upd H l (.lst ys))
theorem c_list (K : PySem.W.Frag) (h : X.K = K := by rfl) : CallR X (.type "list") (rListO K) := by subst h; exact call_list_of
def rTupO (K : PySem.W.Frag) : List V → Hp → VK → Prop := fun xs H Q => ∃ p ys, xs = [.ref p] ∧ ((SqL K H p ys ∧ ∀ l, H l = none → Q (.ref l) (upd H l (.tup ys))) ∨ (SqT K H p ys ∧ Q (.ref p) H))
theorem c_tuple (K : PySem.W.Frag) (h : X.K = K := by rfl) : CallR X (.type "tuple") (rTupO K) := by subst h; exact call_tuple_of
theorem c_isi (K : PySem.W.Frag) (h : X.K = K := by rfl) : CallR X (.builtin "isinstance") (rIsi K) := by subst h; exact call_isi
theorem c_any (K : PySem.W.Frag) (h : X.K = K := by rfl) (hc : X.calm = true := by rfl) : CallR X (.builtin "any") (rAny K) := by subst h; exact cr_any hc
theorem c_all (K : PySem.W.Frag) (h : X.K = K := by rfl) (hc : X.calm = true := by rfl) : CallR X (.builtin "all") (rAll K) := by subst h; exact cr_all hc
theorem c_sortedS (K : PySem.W.Frag) (h : X.K = K := by rfl) : CallR X (.builtin "sorted") (rSortedS K) := by subst h; exact cr_sortedS
theorem ix_lst (K : PySem.W.Frag) (h : X.K = K := by rfl) : IxR X (rIxL K) := by subst h; exact ix_list
theorem ix_tpl (K : PySem.W.Frag) (h : X.K = K := by rfl) : IxR X (rIxT K) := by subst h; exact ix_tup
theorem sl_lst (K : PySem.W.Frag) (h : X.K = K := by rfl) : SlR X (rSlL K) := by subst h; exact sl_list
theorem sl_tpl (K : PySem.W.Frag) (h : X.K = K := by rfl) : SlR X (rSlT K) := by subst h; exact sl_tup
theorem o_in (K : PySem.W.Frag) (h : X.K = K := by rfl) : OpR X (compareOp .In) (rIn K false) := by subst h; exact op_in_seq
theorem o_notin (K : PySem.W.Frag) (h : X.K = K := by rfl) : OpR X (compareOp .NotIn) (rIn K true) := by subst h; exact op_notIn_seq
theorem o_eqD (K : PySem.W.Frag) (hu : X.A.units + 64 < cLine) (h : X.K = K := by rfl) : OpR X (compareOp .Eq) (rEqD K) := by subst h; exact op_eqD hu
theorem o_neD (K : PySem.W.Frag) (hu : X.A.units + 64 < cLine) (h : X.K = K := by rfl) : OpR X (compareOp .NotEq) (rNeD K) := by subst h; exact op_neD hu
theorem m_index (K : PySem.W.Frag) (h : X.K = K := by rfl) : MtR X "list.index" (rIndex K) := by subst h; exact mt_index
theorem i_list (K : PySem.W.Frag) {tg l : Expr} {tl : TE} (hl : PE X l tl) (h : X.K = K := by rfl) : PI X tg l (iList K tl) := by subst h; exact pi_list hl
theorem i_tup (K : PySem.W.Frag) {tg l : Expr} {tl : TE} (hl : PE X l tl) (h : X.K = K := by rfl) : PI X tg l (iTup K tl) := by subst h; exact pi_tup hl
theorem e_fld (K : PySem.W.Frag) {e : Expr} {f : Str} {ta : TE} {pos : Pos} (he : PE X e ta) (hb : attributeBase e f X.env (eval e X.env) = eval e X.env) (h : X.K = K := by rfl) : PE X (.Attribute e f pos) (tFld K ta f) := by subst h; exact pe_fld he hb
theorem g_tup (K : PySem.W.Frag) {es : List Expr} {k : Nat} {t : TGs} {n : Nat} {pos : Pos} (hc : X.calm = true) (hg : PGs X es t) (hn : (assignEach es X.env).length = n := by rfl) (hst : (assignEach es X.env).findIdx? (·.1) = none := by rfl) (h : X.K = K := by rfl) : PG X (.Tuple es k pos) (gTup K n t) := by
  subst h
  exact pg_tup hc hg hn hst
def tTruth (K : PySem.W.Frag) (ta : TE) : TT := fun σ H Q => ta σ H fun x H' => ∃ k, TruV K x H' k ∧ Q k H'
theorem t_truth (K : PySem.W.Frag) {a : Expr} {ta : TE} (ha : PE X a ta) (he : ∀ whole, isTrue a X.env whole = (do let v ← whole; standAt a.pos; holding [v] (truthy v))) (h : X.K = K := by rfl) : PT X a (tTruth K ta) := by
  subst h
  exact pt_truth ha he
def rJoin (K : PySem.W.Frag) : V → List V → Hp → VK → Prop := fun x xs H Q => ∃ a p, ∃ ys : List Str, x = .str a ∧ xs = [.ref p] ∧ (SqL K H p (ys.map V.str) ∨ SqT K H p (ys.map V.str)) ∧ (ys.map (·.length)).sum + ys.length * a.length ≤ 16777216 ∧ Q (.str (Txt.join a ys)) H
theorem e_join (K : PySem.W.Frag) {o e : Expr} {to te : TE} {apos pos : Pos} (ho : PE X o to) (he : PE X e te) (hs : starEach [e] X.env = [(false, eval e X.env)] := by rfl) (hbase : attributeBase o "join" X.env (eval o X.env) = eval o X.env := by rfl) (hline : (apos.endLine == pos.line) = true := by rfl) (h : X.K = K := by rfl) :
    PE X (.Call (.Attribute o "join" apos) [e] [] pos) (tM1 (rJoin K) to te) := by
  subst h
  exact pe_join ho he hs hbase hline
theorem e_bm (K : PySem.W.Frag) {T : String} {name : Str} {id : String} {r : V → List V → Hp → VK → Prop} {o e : Expr} {es : List Expr} {to : TE} {t : TA} {apos cpos : Pos} (pa : PlainAttrs T) (slot : Slot T name id) (hty : typeOf (.builtin id) = pure (.type "method_descriptor")) (hm : MtR X id r) (ho : PE X o to) (ha : PA X (e :: es) t)
    (hbase : attributeBase o name X.env (eval o X.env) = eval o X.env := by rfl)
    (hfew : ((backTo cpos (starEach (e :: es) X.env)).all (fun x => !x.1) && (backToKw cpos (keywordEach [] X.env)).all (fun x => x.1.isSome) && decide ((e :: es).length + ([] : List Keyword).length + (if ([] : List Keyword).isEmpty then 0 else 1) < 30)) = true := by rfl)
    (hline : (apos.endLine == cpos.line) = true := by rfl) (hs : starEach (e :: es) X.env = (false, eval e X.env) :: starEach es X.env := by rfl) (hplain : (backTo cpos (starEach es X.env)).any (·.1) = false := by rfl) (h : X.K = K := by rfl) :
    PE X (.Call (.Attribute o name apos) (e :: es) [] cpos) (tBM K T r to t) := by
  subst h
  exact pe_bm pa slot hty hm ho ha hbase hfew hline hs hplain
theorem e_bm0 (K : PySem.W.Frag) {T : String} {name : Str} {id : String} {r : V → List V → Hp → VK → Prop} {o : Expr} {to : TE} {apos cpos : Pos} (pa : PlainAttrs T) (slot : Slot T name id) (hty : typeOf (.builtin id) = pure (.type "method_descriptor")) (hm : MtR X id r) (ho : PE X o to)
    (hbase : attributeBase o name X.env (eval o X.env) = eval o X.env := by rfl) (hline : (apos.endLine == cpos.line) = true := by rfl) (h : X.K = K := by rfl) : PE X (.Call (.Attribute o name apos) [] [] cpos) (tBM0 K T r to) := by
  subst h
  exact pe_bm0 pa slot hty hm ho hbase hline
def rAddT : R2 := fun x y H Q => ∃ i j, x = .str i ∧ y = .str j ∧ i.length + j.length ≤ sizeLine ∧ Q (.str (i ++ j)) H
theorem o_adds : OpR X (binaryOp .Add) rAddT := op_add_str
def rInG : R2 := fun x y H Q => ∃ (c : Nat) (z : Str), x = .str ⟨#[c]⟩ ∧ y = .str z ∧ Q (.bl (decide (c ∈ z.cps.toList))) H
theorem o_insign : OpR X (compareOp .In) rInG := op_in_sign
def rInT : R2 := fun x y H Q => ∃ i j, x = .str i ∧ y = .str j ∧ Q (.bl (!(Builtin.Str.occurrences j i 0 j.length 1).isEmpty)) H
theorem o_ins : OpR X (compareOp .In) rInT := op_in_str
def CPowW (i j : Int) : Prop := 0 < j ∧ 1 < i ∧ Builtin.Int.intTooBig (((Builtin.Int.intBits i : Nat) : Int) * j) = false
def rPowW : R2 := fun x y H Q => ∃ i j, x = .int i ∧ y = .int j ∧ CPowW i j ∧ Q (.int (i ^ j.toNat)) H
theorem op_powW : OpR X (binaryOp .Pow) rPowW := by
  intro pins s σ H x y v u Q I rx ry h
  obtain ⟨i, j, rfl, rfl, hc, q⟩ := h
  obtain ⟨t, rfl⟩ := rx
  obtain ⟨t', rfl⟩ := ry
  have h1 : ¬ (j == 0) = true := by have := hc.1; simp; omega
  have h2 : ¬ (i == 0 || i == 1) = true := by have := hc.2.1; simp; omega
  have h3 : ¬ (i == -1) = true := by have := hc.2.1; simp; omega
  refine AutoIntOps.pow_4 (by have := hc.1; omega) h1 h2 h3 (by rw [hc.2.2]; exact Bool.false_ne_true) ?_
  exact ⟨.int (i ^ j.toNat), H, I.tok _, ⟨_, rfl⟩, q⟩
/-- a text n times over -/
def repS (x : Str) (n : Nat) : Str := ⟨((List.replicate n x.cps.toList).flatten).toArray⟩
theorem repS_foldl (x : Str) : ∀ (n : Nat) (acc : Array Nat), (List.replicate n x.cps).foldl (· ++ ·) acc = acc ++ ((List.replicate n x.cps.toList).flatten).toArray
  | 0, acc => by simp
  | n + 1, acc => by
    rw [List.replicate_succ, List.foldl_cons, repS_foldl x n, List.replicate_succ, List.flatten_cons]
    apply Array.toList_inj.mp
    simp
def rRepS : R2 := fun x y H Q => ∃ z n, x = .str z ∧ y = .int n ∧ 0 ≤ n ∧ n ≤ 1000 ∧ z.length ≤ 1000 ∧ Q (.str (repS z n.toNat)) H
theorem op_rep_str : OpR X (binaryOp .Mult) rRepS := by
  intro pins s σ H x y v u Q I rx ry h
  obtain ⟨z, n, rfl, rfl, h0, h1, hz, q⟩ := h
  obtain ⟨t, rfl⟩ := rx
  obtain ⟨t', rfl⟩ := ry
  have hm : z.length * n.toNat ≤ 1000 * 1000 := Nat.mul_le_mul hz (by omega)
  refine PySem.P.mul_str ?_ (fun h2 h3 => ?_) (fun h2 h3 => ?_) ?_
  · have e1 : ¬ n < -(2 ^ 63 : Int) := by omega
    have e2 : ¬ n ≥ 2 ^ 63 := by omega
    rw [decide_eq_false e1, decide_eq_false e2]; rfl
  · have hle : (1000 : Int) ≤ (2 ^ 63 - 1) / n := by
      rw [Int.le_ediv_iff_mul_le (by omega)]
      omega
    omega
  · unfold Builtin.Str.tooLong
    rw [sizeLine_eq]
    simp; omega
  · split
    · rename_i hn
      have e : repS z n.toNat = Str.empty := by
        have : n.toNat = 0 := by omega
        rw [this]; rfl
      exact ⟨by decide, .str _, H, I.tok _, ⟨_, rfl⟩, by rw [← e]; exact q⟩
    · split
      · rename_i hn hc
        have e : repS z n.toNat = z := by
          rcases Bool.or_eq_true_iff.mp hc with h | h
          · have : n.toNat = 1 := by have := beq_iff_eq.mp h; omega
            rw [this]; unfold repS; simp
          · have hl : z.cps.toList = [] := by
              have := beq_iff_eq.mp h
              have : z.cps.size = 0 := this
              simpa using this
            have hz0 : z = ⟨#[]⟩ := by
              cases z with
              | mk c => congr; simpa using hl
            rw [hz0]
            unfold repS
            simp
        exact ⟨.str _, H, I, ⟨_, rfl⟩, by rw [← e]; exact q⟩
      · have e : (⟨(List.replicate n.toNat z.cps).foldl (· ++ ·) #[]⟩ : Str) = repS z n.toNat := by
          rw [repS_foldl]
          unfold repS
          simp
        rw [e]
        refine ⟨?_, .str _, H, I.tok _, ⟨_, rfl⟩, q⟩
        have : (repS z n.toNat).length = n.toNat * z.length := by
          show (((List.replicate n.toNat z.cps.toList).flatten).toArray).size = n.toNat * z.cps.size
          simp
        rw [this, sizeLine_eq, Nat.mul_comm]
        omega
/-- list(d.values()) -/
def tListVals (te : TE) : TE := fun σ H Q => te σ H fun x H1 => ∃ d kvs, x = .ref d ∧ H1 d = some (.dK kvs) ∧ ∀ q, H1 q = none → Q (.ref q) (upd H1 q (.lst (kvs.map (·.2))))
theorem pe_listValues {e : Expr} {te : TE} {p apos cpos pos : Pos} (hc : X.calm = true) (he : PE X e te) (hg : Gl X "list") (hm : X.mg "list" = none) (hv : bootBuiltins "list" = some (.type "list")) (hbase : attributeBase e "values" X.env (eval e X.env) = eval e X.env := by rfl) (hline : (apos.endLine == cpos.line) = true := by rfl)
    (hs : starEach [.Call (.Attribute e "values" apos) [] [] cpos] X.env = (false, eval (.Call (.Attribute e "values" apos) [] [] cpos) X.env) :: starEach [] X.env := by rfl) :
    PE X (.Call (.Name "list" p) [.Call (.Attribute e "values" apos) [] [] cpos] [] pos) (tListVals te) := by
  refine ⟨fun pins s σ H Q I hq => ?_⟩
  refine wpAny_Call_Name_kw (ld_blt I hg hm hv ?_)
  refine PyProof.Rows.callWith_type1 ?_ hs rfl
  rw [hs]
  show wpAny _ _ (spliced ((false, eval (.Call (.Attribute e "values" apos) [] [] cpos) X.env) :: backTo pos (starEach [] X.env))) _ _ s
  refine Calls.spliced_cons ?_
  refine wpAny_Call_method (T := "dict") (id := "dict.values") hbase rfl hline F.plainAttrs_dict F.slot_dict_values F.type_dict_values (thn (he.run pins s σ H _ I hq) fun u s1 ⟨x, H1, I1, rx, d, kvs, ex, hd, q⟩ => ?_)
  subst ex
  obtain rfl : u = Value.ref d := rx
  obtain ⟨hz, hs0, vs, kv, hdo⟩ := I1.hok d _ hd
  obtain ⟨ep, hat⟩ := hdo.dictAt
  have lk : kvs.length = vs.length := Paired.length kv
  have I2 : Inv X pins σ H1 { s1 with heap := s1.heap.push { cls := .type "dict_values", data := .fields #[.ref d] } } := I1.kept (t' := s1.toks) fun b ob q => Heap.get?_push_of_some _ q
  refine ⟨hdo.typeIs, hdo.mapOf.noDict, ?_⟩
  show wpAny _ _ (callWith cpos (.builtin "dict.values") [.ref d] [] []) _ X.xe s1
  refine method_meetsIn F.slot_dict_values F.entry_dict_values rfl (PySem.evalArgs_none ⟨rfl, hdo.typeIs, F.args_dict_values_1 _, _, meets_dict_values (mixKind X.prog X.w) d hs0, ⟨vs, hdo⟩, ?_⟩)
  refine Calls.spliced_nil ?_
  refine PySem.W.kdl_call (PySem.W.kdl_values (knd := mixKind X.prog X.w) (kvs := vs) (ep := ep) (r := s1.heap.objs.size) (d := d)) (I1.ok.hd hc) ⟨⟨_, Heap.get?_push_size _ rfl, rfl, rfl⟩, hat.push _⟩ (by rw [← lk]; exact hz) fun h' tk acc' c' hkeep hS hacc => ?_
  refine ⟨.ref _, upd H1 _ (.lst (kvs.map (·.2))), I2.laid hkeep (Nat.le_refl _) (show ObjOk X.prog X.w _ _ _ (.lst (kvs.map (·.2))) from ⟨?_, acc'.toList, c', ?_, ?_⟩), rfl, q _ (I2.hok.fresh (Nat.le_refl _))⟩
  · rw [List.length_map]; exact hz
  · have el : acc'.toList.length = acc'.size := by simp
    refine vals_of_at (by rw [List.length_map, el, hacc.1, lk]) fun j x w h1 h2 => ?_
    obtain ⟨k, hky⟩ := hacc.2 j w (by rw [← Array.getElem?_toList]; exact h2)
    rw [List.getElem?_map] at h1
    cases e1 : kvs[j]? with
    | none => rw [e1] at h1; cases h1
    | some kw =>
      rw [e1] at h1
      have e2 : kw.2 = x := Option.some.inj h1
      obtain ⟨y, hy, hr⟩ := LiI.paired_get kv e1
      rw [hky] at hy
      cases hy
      rw [← e2]
      exact hr.2
  · rw [Array.toArray_toList]; exact hS
end
end OA

namespace OA
open PySem PySem.Spec PyProof.Rows L2
/-! ### data for == -/
abbrev dS (xs : List Str) : PyData := .list (xs.map PyData.str)
abbrev dSS (xss : List (List Str)) : PyData := .list (xss.map dS)
abbrev dI (xs : List Int) : PyData := .list (xs.map PyData.int)
def Asc (x : Str) : Prop := ∀ c ∈ x.cps.toList, c < 1114112
theorem Asc.ok {x : Str} (h : Asc x) : PyData.strOk x = true := by
  unfold PyData.strOk
  rw [Array.all_eq_true']
  intro c hc
  have := h c (by simpa using hc)
  simpa using this
section
variable {K : PySem.W.Frag} {G H : Hp}
theorem dp_strs : ∀ xs : List Str, DpAll K H (xs.map V.str) (xs.map PyData.str)
  | [] => .nil
  | x :: xs => .cons (.str x) (dp_strs xs)
theorem dp_ints : ∀ xs : List Int, DpAll K H (xs.map V.int) (xs.map PyData.int)
  | [] => .nil
  | x :: xs => .cons (.int x) (dp_ints xs)
theorem dp_lists (s : Same G H) : ∀ {as : List Addr} {xss : List (List Str)}, Paired (fun p xs => G p = some (.lst (xs.map V.str))) as xss → DpAll K H (as.map V.ref) (xss.map dS)
  | _, _, .nil => .nil
  | _, _, .cons h t => .cons (.lst (SqL.of (s _ _ h)) (dp_strs _)) (dp_lists s t)
theorem Ss.dp {v : V} {xs : List Str} (s : Same G H) (h : Ss G v xs) : Dp K H v (dS xs) := by
  obtain ⟨a, rfl, h⟩ := h
  exact .lst (SqL.of (s _ _ h)) (dp_strs xs)
theorem Si.dp {v : V} {xs : List Int} (s : Same G H) (h : Si G v xs) : Dp K H v (dI xs) := by
  obtain ⟨a, rfl, h⟩ := h
  exact .lst (SqL.of (s _ _ h)) (dp_ints xs)
theorem Sss.dp {v : V} {xss : List (List Str)} (s : Same G H) (h : Sss G v xss) : Dp K H v (dSS xss) := by
  obtain ⟨a, as, rfl, h, p⟩ := h
  exact .lst (SqL.of (s _ _ h)) (dp_lists s p)
end
theorem lay_strs : ∀ {xs : List Str}, (∀ x ∈ xs, Asc x) → PyData.canLayAll0 (xs.map PyData.str) = true
  | [], _ => rfl
  | x :: xs, h => by
    show (PyData.strOk x && PyData.canLayAll0 (xs.map PyData.str)) = true
    rw [(h x List.mem_cons_self).ok, lay_strs fun y hy => h y (List.mem_cons_of_mem _ hy)]
    rfl
theorem lay_ints : ∀ {xs : List Int}, PyData.canLayAll0 (xs.map PyData.int) = true
  | [] => rfl
  | x :: xs => by
    show (true && PyData.canLayAll0 (xs.map PyData.int)) = true
    rw [lay_ints]
    rfl
theorem depth_strs : ∀ {xs : List Str}, PyData.depthAll (xs.map PyData.str) = 0
  | [] => rfl
  | x :: xs => by
    show max (PyData.depth (.str x)) (PyData.depthAll (xs.map PyData.str)) = 0
    rw [depth_strs]
    rfl
theorem depth_ints : ∀ {xs : List Int}, PyData.depthAll (xs.map PyData.int) = 0
  | [] => rfl
  | x :: xs => by
    show max (PyData.depth (.int x)) (PyData.depthAll (xs.map PyData.int)) = 0
    rw [depth_ints]
    rfl
theorem depth_lists : ∀ {xss : List (List Str)}, PyData.depthAll (xss.map dS) ≤ 1
  | [] => Nat.zero_le _
  | x :: xs => by
    show max (PyData.depthAll (x.map PyData.str) + 1) (PyData.depthAll (xs.map dS)) ≤ 1
    rw [depth_strs]
    have := depth_lists (xss := xs)
    omega
theorem lay_lists : ∀ {xss : List (List Str)}, (∀ xs ∈ xss, ∀ x ∈ xs, Asc x) → PyData.canLayAll0 (xss.map dS) = true
  | [], _ => rfl
  | x :: xs, h => by
    show (PyData.canLayAll0 (x.map PyData.str) && PyData.canLayAll0 (xs.map dS)) = true
    rw [lay_strs (h x List.mem_cons_self), lay_lists fun y hy => h y (List.mem_cons_of_mem _ hy)]
    rfl
theorem sh_strs {xs : List Str} (h : ∀ x ∈ xs, Asc x) : SeqAt.shaped (dS xs) = true := by
  unfold SeqAt.shaped
  have h1 : PyData.canLay0 (dS xs) = true := lay_strs h
  have h2 : PyData.depth (dS xs) = 1 := by show PyData.depthAll (xs.map PyData.str) + 1 = 1; rw [depth_strs]
  rw [h1, h2]; rfl
theorem sh_ints {xs : List Int} : SeqAt.shaped (dI xs) = true := by
  unfold SeqAt.shaped
  have h1 : PyData.canLay0 (dI xs) = true := lay_ints
  have h2 : PyData.depth (dI xs) = 1 := by show PyData.depthAll (xs.map PyData.int) + 1 = 1; rw [depth_ints]
  rw [h1, h2]; rfl
theorem sh_lists {xss : List (List Str)} (h : ∀ xs ∈ xss, ∀ x ∈ xs, Asc x) : SeqAt.shaped (dSS xss) = true := by
  unfold SeqAt.shaped
  have h1 : PyData.canLay0 (dSS xss) = true := lay_lists h
  have h2 : PyData.depth (dSS xss) ≤ 2 := by show PyData.depthAll (xss.map dS) + 1 ≤ 2; have := depth_lists (xss := xss); omega
  have h3 : decide (PyData.depth (dSS xss) ≤ 64) = true := decide_eq_true (by omega)
  rw [h1, h3]; rfl
theorem eqv_strs : ∀ (xs ys : List Str), PyData.eqvAll (xs.map PyData.str) (ys.map PyData.str) = decide (xs = ys)
  | [], [] => rfl
  | [], _ :: _ => rfl
  | _ :: _, [] => rfl
  | x :: xs, y :: ys => by
    show ((x == y) && PyData.eqvAll (xs.map PyData.str) (ys.map PyData.str)) = _
    rw [eqv_strs xs ys]
    by_cases h1 : x = y
    · subst h1
      by_cases h2 : xs = ys
      · subst h2; simp
      · simp [h2]
    · simp [h1]
theorem eqv_lists : ∀ (xs ys : List (List Str)), PyData.eqvAll (xs.map dS) (ys.map dS) = decide (xs = ys)
  | [], [] => rfl
  | [], _ :: _ => rfl
  | _ :: _, [] => rfl
  | x :: xs, y :: ys => by
    show (PyData.eqvAll (x.map PyData.str) (y.map PyData.str) && PyData.eqvAll (xs.map dS) (ys.map dS)) = _
    rw [eqv_lists xs ys, eqv_strs]
    by_cases h1 : x = y
    · subst h1
      by_cases h2 : xs = ys
      · subst h2; simp
      · simp [h2]
    · simp [h1]
theorem eqv_dS (xs ys : List Str) : PyData.eqv (dS xs) (dS ys) = decide (xs = ys) := eqv_strs xs ys
theorem eqv_dSS (xs ys : List (List Str)) : PyData.eqv (dSS xs) (dSS ys) = decide (xs = ys) := eqv_lists xs ys
theorem eqv_ints0 : ∀ (xs : List Int), PyData.eqv (dI xs) (.list []) = xs.isEmpty
  | [] => rfl
  | _ :: _ => rfl
/-! ### in, of lists of texts -/
theorem inV_str (x : Str) : ∀ xs : List Str, inV (.str x) (xs.map V.str) = decide (x ∈ xs)
  | [] => rfl
  | y :: ys => by
    show ((y == x) || inV (.str x) (ys.map V.str)) = _
    rw [inV_str x ys]
    by_cases h : y = x
    · subst h; simp
    · have h' : ¬ x = y := fun z => h z.symm
      simp [h, h']
theorem flat_strs : ∀ xs : List Str, (xs.map V.str).all flatV = true
  | [] => rfl
  | _ :: xs => by show (true && (xs.map V.str).all flatV) = true; rw [flat_strs xs]; rfl
theorem inV_int (x : Int) : ∀ xs : List Int, inV (.int x) (xs.map V.int) = decide (x ∈ xs)
  | [] => rfl
  | y :: ys => by
    show ((y == x) || inV (.int x) (ys.map V.int)) = _
    rw [inV_int x ys]
    by_cases h : y = x
    · subst h; simp
    · have h' : ¬ x = y := fun z => h z.symm
      simp [h, h']
theorem flat_ints : ∀ xs : List Int, (xs.map V.int).all flatV = true
  | [] => rfl
  | _ :: xs => by show (true && (xs.map V.int).all flatV) = true; rw [flat_ints xs]; rfl
theorem yes_of {σ : L2.St} {H : Hp} {A B : Hp → Prop} (h : A H) : tYes σ H (fun b H3 => if b = true then A H3 else B H3) := by
  show if true = true then A H else B H
  rw [if_pos rfl]
  exact h
/-! ### small lists -/
theorem take_more {α : Type} : ∀ {l : List α} {i : Nat} {x : α}, l[i]? = some x → l.take (i + 1) = l.take i ++ [x]
  | [], i, x, h => by simp at h
  | a :: l, 0, x, h => by
    have e : a = x := Option.some.inj h
    subst e
    rfl
  | a :: l, i + 1, x, h => by
    have ih := take_more (l := l) (i := i) (x := x) h
    show a :: l.take (i + 1) = a :: l.take i ++ [x]
    rw [ih]
    rfl
theorem map_get {α β : Type} {f : α → β} {l : List α} {i : Nat} {y : β} (h : (l.map f)[i]? = some y) : ∃ x, l[i]? = some x ∧ y = f x := by
  rw [List.getElem?_map] at h
  cases e : l[i]? with
  | none => rw [e] at h; cases h
  | some x => rw [e] at h; exact ⟨x, rfl, (Option.some.inj h).symm⟩
theorem get_lt {α : Type} {l : List α} {i : Nat} {x : α} (h : l[i]? = some x) : i < l.length := (List.getElem?_eq_some_iff.mp h).1
theorem sz_le {n : Nat} (h : n ≤ 1000000) : n ≤ sizeLine := by rw [sizeLine_eq]; omega
theorem sz_lt {n : Nat} (h : n ≤ 1000000) : n < sizeLine := by rw [sizeLine_eq]; omega
end OA

/-! ### words: the mathematics -/
namespace OA
open PySem L2
def sg (i : Nat) : Nat := if i < 26 then 97 + i else 22 + i
def wordL (f place size c : Nat) : List Nat := List.replicate place f ++ c :: List.replicate (size - place - 1) f
def mkS (l : List Nat) : Str := ⟨l.toArray⟩
def wordsOf (f place size some first n : Nat) : List Str := (List.range n).map fun k => mkS (wordL f place size (sg ((first + k) % some)))
def Low (c : Nat) : Prop := 97 ≤ c ∧ c ≤ 122
def Alnum (c : Nat) : Prop := Low c ∨ (48 ≤ c ∧ c ≤ 57)
/-- a name of at most m signs -/
structure Name (m : Nat) (w : Str) : Prop where
  first : ∃ c r, w.cps.toList = c :: r ∧ Low c
  all : ∀ c ∈ w.cps.toList, Alnum c
  len : w.length ≤ m
structure Words (m n : Nat) (ws : List Str) : Prop where
  len : ws.length = n
  nd : ws.Nodup
  all : ∀ w ∈ ws, Name m w
theorem sg_alnum {i : Nat} (h : i < 36) : Alnum (sg i) := by
  unfold sg Alnum Low
  split
  · left; omega
  · right; omega
theorem sg_low {i : Nat} (h : i < 26) : Low (sg i) := by
  unfold sg Low
  rw [if_pos h]; omega
theorem sg_inj {i j : Nat} (hi : i < 36) (hj : j < 36) (h : sg i = sg j) : i = j := by
  unfold sg at h
  split at h <;> split at h <;> omega
theorem mod_inj {a i j m : Nat} (hi : i < m) (hj : j < m) (h : (a + i) % m = (a + j) % m) : i = j := by
  have h1 := Nat.div_add_mod (a + i) m
  have h2 := Nat.div_add_mod (a + j) m
  rw [h] at h1
  have hm : (a + j) % m < m := Nat.mod_lt _ (by omega)
  have e1 : (a + i) / m = (a + j) / m ∨ (a + i) / m < (a + j) / m ∨ (a + j) / m < (a + i) / m := by omega
  rcases e1 with e | e | e
  · rw [e] at h1; omega
  · exfalso
    have : m * ((a + i) / m + 1) ≤ m * ((a + j) / m) := Nat.mul_le_mul_left _ e
    rw [Nat.mul_add] at this
    omega
  · exfalso
    have : m * ((a + j) / m + 1) ≤ m * ((a + i) / m) := Nat.mul_le_mul_left _ e
    rw [Nat.mul_add] at this
    omega
theorem wordL_inj {f p s c d : Nat} (h : wordL f p s c = wordL f p s d) : c = d := by
  unfold wordL at h
  have := List.append_cancel_left h
  injection this
theorem nodup_range_map {α : Type} {n : Nat} {f : Nat → α} (h : ∀ i j, i < n → j < n → f i = f j → i = j) : ((List.range n).map f).Nodup := by
  rw [List.nodup_iff_pairwise_ne, List.pairwise_map]
  refine List.Pairwise.imp_of_mem (fun {a b} ha hb hab => ?_) List.nodup_range
  intro e
  exact hab (h a b (List.mem_range.mp ha) (List.mem_range.mp hb) e)
theorem words_ok {f p s m first n sz : Nat} (hf : Low f) (hp : p < s) (hs : s ≤ sz) (hm : (p = 0 ∧ m = 26) ∨ (p ≠ 0 ∧ m = 36)) (hn : n ≤ 26) : Words sz n (wordsOf f p s m first n) := by
  have hm36 : m ≤ 36 ∧ 26 ≤ m := by omega
  refine ⟨by simp [wordsOf], nodup_range_map fun i j hi hj h => ?_, fun w hw => ?_⟩
  · have h1 : (wordL f p s (sg ((first + i) % m))) = (wordL f p s (sg ((first + j) % m))) := by
      have := congrArg (fun z : Str => z.cps.toList) h
      simpa [mkS] using this
    have h2 := wordL_inj h1
    have b1 : (first + i) % m < m := Nat.mod_lt _ (by omega)
    have b2 : (first + j) % m < m := Nat.mod_lt _ (by omega)
    have h3 := sg_inj (by omega) (by omega) h2
    exact mod_inj (by omega) (by omega) h3
  · obtain ⟨k, hk, rfl⟩ := List.mem_map.mp hw
    have b1 : (first + k) % m < m := Nat.mod_lt _ (by omega)
    refine ⟨?_, ?_, ?_⟩
    · show ∃ c r, (mkS (wordL f p s _)).cps.toList = c :: r ∧ Low c
      unfold mkS wordL
      rcases hm with ⟨h0, h1⟩ | ⟨h0, h1⟩
      · subst h0; subst h1
        exact ⟨_, _, rfl, sg_low b1⟩
      · cases p with
        | zero => exact absurd rfl h0
        | succ q => exact ⟨_, _, rfl, hf⟩
    · intro c hc
      have hc : c ∈ wordL f p s (sg ((first + k) % m)) := by simpa [mkS] using hc
      unfold wordL at hc
      rcases List.mem_append.mp hc with h | h
      · rw [(List.mem_replicate.mp h).2]; exact .inl hf
      · rcases List.mem_cons.mp h with h | h
        · rw [h]; exact sg_alnum (by omega)
        · rw [(List.mem_replicate.mp h).2]; exact .inl hf
    · show (wordL f p s _).toArray.size ≤ sz
      simp [wordL]
      omega
theorem Alnum.asc {c : Nat} (h : Alnum c) : c < 1114112 := by
  unfold Alnum Low at h
  omega
theorem Name.asc {m : Nat} {w : Str} (h : Name m w) : Asc w := fun c hc => (h.all c hc).asc
theorem str_ext {a b : Str} (h : a.cps.toList = b.cps.toList) : a = b := by
  cases a with
  | mk x =>
    cases b with
    | mk y =>
      have : x = y := Array.toList_inj.mp h
      rw [this]
theorem repS_one (f n : Nat) : (repS ⟨#[f]⟩ n).cps.toList = List.replicate n f := by
  unfold repS
  have : ∀ n : Nat, (List.replicate n [f]).flatten = List.replicate n f := fun n => by
    induction n with
    | zero => rfl
    | succ n ih => rw [List.replicate_succ, List.flatten_cons, ih, List.replicate_succ]; rfl
  simpa using this n
theorem app_list (a b : Str) : (a ++ b).cps.toList = a.cps.toList ++ b.cps.toList := by
  show (a.cps ++ b.cps).toList = _
  simp
theorem app_len (a b : Str) : (a ++ b).length = a.length + b.length := by
  show (a.cps ++ b.cps).size = _
  simp [Str.length]
theorem len_list (a : Str) : a.length = a.cps.toList.length := by simp [Str.length]
def SIGNS : Str := "abcdefghijklmnopqrstuvwxyz0123456789"
theorem signs_list : (Str.ofString "abcdefghijklmnopqrstuvwxyz0123456789").cps.toList = (List.range 36).map sg := by decide +kernel
theorem signs_len : (Str.ofString "abcdefghijklmnopqrstuvwxyz0123456789").length ≤ sizeLine := by decide +kernel
theorem sign_at {i : Int} (h0 : 0 ≤ i) (h1 : i < 36) : atI (Str.ofString "abcdefghijklmnopqrstuvwxyz0123456789").cps.toList i = some (sg i.toNat) := by
  rw [signs_list]
  obtain ⟨n, rfl⟩ : ∃ n : Nat, i = (n : Int) := ⟨i.toNat, by omega⟩
  refine atI_nat ?_
  rw [List.getElem?_map, List.getElem?_range (by omega)]
  rfl
theorem joinL_len {S : List Nat} : ∀ ps : List (List Nat), (TL.joinL S ps).length ≤ (ps.map (·.length)).sum + ps.length * S.length
  | [] => by simp [TL.joinL]
  | [p] => by simp [TL.joinL]
  | p :: q :: r => by
    have ih := joinL_len (S := S) (q :: r)
    show (p ++ (S ++ TL.joinL S (q :: r))).length ≤ _
    rw [List.length_append, List.length_append, List.map_cons, List.sum_cons, List.length_cons, Nat.add_mul]
    omega
theorem join_len (y : Str) (parts : List Str) : (Txt.join y parts).length ≤ (parts.map (·.length)).sum + parts.length * y.length := by
  rw [len_list, TL.join_eq]
  have h := TL.tl_join y parts
  have e : (Str.join y parts).cps.toList = TL.joinL (TL.tl y) (parts.map TL.tl) := h
  rw [e]
  refine Nat.le_trans (joinL_len _) ?_
  rw [List.map_map, List.length_map, len_list y]
  have e2 : (parts.map ((fun l : List Nat => l.length) ∘ TL.tl)) = parts.map (·.length) := List.map_congr_left fun x _ => (len_list x).symm
  rw [e2]
  exact Nat.le_refl _
theorem sum_le {B : Nat} : ∀ {l : List Nat}, (∀ x ∈ l, x ≤ B) → l.sum ≤ l.length * B
  | [], _ => Nat.zero_le _
  | x :: l, h => by
    have h1 := h x List.mem_cons_self
    have h2 := sum_le fun y hy => h y (List.mem_cons_of_mem _ hy)
    rw [List.sum_cons, List.length_cons, Nat.add_mul]
    omega
end OA

/-! ### operators of an own class: len, str, <=, ==, in, &, | -/
namespace OA
open PySem PySem.Spec PyProof.Rows L2
section
variable {X : Cx} {C : Addr} {m : Str} {ps : List Str} {sp : Sp} {k j : Nat}
/-- a def runs, called from within a built-in -/
theorem run_at {A : Around} {pins : List (Addr × Obj)} {σ : L2.St} {H : Hp} {s : Shared} {Q : VK} {f : Addr} {fd : FuncData} {us : List Value} {vs : List V} (F : FnOk X.prog X.w X.K X.mg X.base CX0 k f fd ps sp) (hr : Room k A)
    (he : Env0 X.prog X.w X.K X.mg X.base A X.stack s H) (hb : Binds X.K fd ps []) (I : Inv X pins σ H s) (r : Vals vs us) (h : sp vs H Q E0) : wpAny (model X.prog X.w) A (call (.ref f) us) (EP X pins σ Q) X.xe s := by
  have hl : us.length = ps.length := by rw [← r.length]; exact F.len _ _ _ _ h
  have hbs := hb s us I.kIn (by rw [List.append_nil]; exact hl)
  rw [List.append_nil] at hbs
  refine wpAny_call (codeAny_mono (F.run A X.stack s H ⟨us, []⟩ us vs Q E0 hr he hbs r h) fun r s' hq => ?_)
  cases r with
  | error e => exact hq.elim
  | ok fl =>
    cases fl with
    | ret u => exact I.after hq
    | next => exact hq.elim
    | brk => exact hq.elim
    | cont => exact hq.elim
def rLenO (C : Addr) (sp : Sp) : List V → Hp → VK → Prop := fun xs H Q => ∃ a dx fs, xs = [.ref a] ∧ H a = some (.ins C dx fs) ∧ sp [.ref a] H (fun v H' => ∃ n : Int, v = .int n ∧ 0 ≤ n ∧ n < 2 ^ 63 ∧ Q (.int n) H') E0
theorem c_len_own (c : Method X.prog X.w X.K X.mg X.base C "__len__" ps sp k) (hr : Room j X.A) (hk : k + 1 ≤ j) : CallR X (.builtin "len") (rLenO C sp) := by
  intro pins s σ H xs us Q I r h
  obtain ⟨f, fd, F, b, cl, M⟩ := c.ex
  obtain ⟨a, dx, fs, rfl, ha, q⟩ := h
  obtain ⟨u, rfl, ru⟩ := vals1 r
  cases (show u = Value.ref a from ru)
  obtain ⟨mA, J, _⟩ := ins_get I.hok ha
  obtain ⟨od, J, _⟩ := J.look
  obtain ⟨m', hF⟩ := I.fr
  refine PySem.W.len_K hF I.ok.mod.kin J M.at_ M.fn ?_
  refine wpAny_mono (run_at F (Room.in1 (hr.mono hk)) I.env0.in1 b I (vs := [.ref a]) (.cons rfl .nil) q) (fun v s' hv => ?_) fun _ _ z => z
  obtain ⟨v0, H', I', rv, n, rfl, h0, h1, q'⟩ := hv
  obtain ⟨t, rfl⟩ := rv
  exact ⟨⟨h0, h1⟩, .int n, H', I'.tok _, ⟨_, rfl⟩, q'⟩
def rStrO (C : Addr) (sp : Sp) : List V → Hp → VK → Prop := fun xs H Q => ∃ a dx fs, xs = [.ref a] ∧ H a = some (.ins C dx fs) ∧ sp [.ref a] H (fun v H' => ∃ z : Str, v = .str z ∧ Q (.str z) H') E0
theorem c_str_own (c : Method X.prog X.w X.K X.mg X.base C "__str__" ps sp k) (hr : Room j X.A) (hk : k + 2 ≤ j) : CallR X (.type "str") (rStrO C sp) := by
  intro pins s σ H xs us Q I r h
  obtain ⟨f, fd, F, b, cl, M⟩ := c.ex
  obtain ⟨a, dx, fs, rfl, ha, q⟩ := h
  obtain ⟨u, rfl, ru⟩ := vals1 r
  cases (show u = Value.ref a from ru)
  obtain ⟨mA, J, _⟩ := ins_get I.hok ha
  obtain ⟨od, J, _⟩ := J.look
  have r2 : Room k X.A.in1.in1 := Room.in1 (Room.in1 (hr.mono hk))
  refine PySem.W.kso_call r2.units0 I.kIn J M.at_ M.fn ?_
  refine wpAny_mono (run_at F r2 I.env0.in1.in1 b I (vs := [.ref a]) (.cons rfl .nil) q) (fun v s' hv => ?_) fun _ _ z => z
  obtain ⟨v0, H', I', rv, z, rfl, q'⟩ := hv
  obtain ⟨t, rfl⟩ := rv
  exact ⟨.str z, H', I', ⟨_, rfl⟩, q'⟩
theorem back_of {pins : List (Addr × Obj)} {σ : L2.St} {Q : VK} {v : Value} {s' : Shared} (h : EP X pins σ Q v s') : PySem.W.CmpBack (EP X pins σ Q) v s' := by
  obtain ⟨v0, H', I', rv, q⟩ := id h
  cases v0 with
  | non => cases (show v = Value.none from rv); exact h
  | bl b => cases (show v = Value.bool b from rv); exact h
  | int i => obtain ⟨t, rfl⟩ := rv; exact h
  | str z => obtain ⟨t, rfl⟩ := rv; exact h
  | byt z => obtain ⟨t, rfl⟩ := rv; exact h
  | flt z => obtain ⟨t, rfl⟩ := rv; exact h
  | ref a => cases (show v = Value.ref a from rv); exact h
  | ty n => cases (show v = Value.type n from rv); exact h
/-- x op y of two instances -/
def rOwn2 (C : Addr) (sp : Sp) : R2 := fun x y H Q => ∃ a b dx fs dy gs, x = .ref a ∧ y = .ref b ∧ H a = some (.ins C dx fs) ∧ H b = some (.ins C dy gs) ∧ sp [.ref a, .ref b] H Q E0
theorem cmp_own {op : CmpOp} (hop : ∀ v u, compareOp op v u = richCompare op v u) (hm : (cmpInfo op).2.1 = m) (c : Method X.prog X.w X.K X.mg X.base C m ps sp k) (hr : Room j X.A) (hk : k ≤ j) : OpR X (compareOp op) (rOwn2 C sp) := by
  intro pins s σ H x y v u Q I rx ry h
  obtain ⟨f, fd, F, b, cl, M⟩ := c.ex
  obtain ⟨a, b', dx, fs, dy, gs, rfl, rfl, ha, hb, q⟩ := h
  cases (show v = Value.ref a from rx)
  cases (show u = Value.ref b' from ry)
  obtain ⟨mA, J, _⟩ := ins_get I.hok ha
  obtain ⟨mB, J', _⟩ := ins_get I.hok hb
  obtain ⟨od, J, _⟩ := J.look
  obtain ⟨od', J', _⟩ := J'.look
  obtain ⟨m', hF⟩ := I.fr
  rw [hop]
  refine PySem.W.cmp_K (op := op) (tb := .ref C) hr.units0 hF I.ok.mod.kin J J'.type (by simp [PySem.W.notFirst]) (by rw [hm]; exact M.at_) M.fn ?_
  exact wpAny_mono (run_at F (hr.mono hk) I.env0 b I (vs := [.ref a, .ref b']) (.cons rfl (.cons rfl .nil)) q) (fun v s' hv => back_of hv) fun _ _ z => z
theorem o_le_own (c : Method X.prog X.w X.K X.mg X.base C "__le__" ps sp k) (hr : Room j X.A) (hk : k ≤ j) : OpR X (compareOp .LtE) (rOwn2 C sp) := cmp_own (fun _ _ => rfl) rfl c hr hk
theorem o_eq_own (c : Method X.prog X.w X.K X.mg X.base C "__eq__" ps sp k) (hr : Room j X.A) (hk : k ≤ j) : OpR X (compareOp .Eq) (rOwn2 C sp) := cmp_own (fun _ _ => rfl) rfl c hr hk
theorem bin_own {op : Operator} (hm : PySem.dunder op.info.2 = m) (c : Method X.prog X.w X.K X.mg X.base C m ps sp k) (hs : PySem.W.selfFirst X.K C = true) (hr : Room j X.A) (hk : k ≤ j) : OpR X (binaryOp op) (rOwn2 C sp) := by
  intro pins s σ H x y v u Q I rx ry h
  obtain ⟨f, fd, F, b, cl, M⟩ := c.ex
  obtain ⟨a, b', dx, fs, dy, gs, rfl, rfl, ha, hb, q⟩ := h
  cases (show v = Value.ref a from rx)
  cases (show u = Value.ref b' from ry)
  obtain ⟨mA, J, _⟩ := ins_get I.hok ha
  obtain ⟨mB, J', _⟩ := ins_get I.hok hb
  obtain ⟨od, J, _⟩ := J.look
  obtain ⟨od', J', _⟩ := J'.look
  obtain ⟨m', hF⟩ := I.fr
  refine PySem.W.binop_K hF I.ok.mod.kin J J'.type hs (by rw [hm]; exact M.at_) M.fn ?_
  exact wpAny_mono (run_at F (hr.mono hk) I.env0 b I (vs := [.ref a, .ref b']) (.cons rfl (.cons rfl .nil)) q) (fun v s' hv => back_of hv) fun _ _ z => z
theorem o_and_own (c : Method X.prog X.w X.K X.mg X.base C "__and__" ps sp k) (hs : PySem.W.selfFirst X.K C = true) (hr : Room j X.A) (hk : k ≤ j) : OpR X (binaryOp .BitAnd) (rOwn2 C sp) := bin_own (by decide +kernel) c hs hr hk
theorem o_or_own (c : Method X.prog X.w X.K X.mg X.base C "__or__" ps sp k) (hs : PySem.W.selfFirst X.K C = true) (hr : Room j X.A) (hk : k ≤ j) : OpR X (binaryOp .BitOr) (rOwn2 C sp) := bin_own (by decide +kernel) c hs hr hk
/-- y in x, y not in x: the method answers a bool -/
def rInO (C : Addr) (sp : Sp) (neg : Bool) : R2 := fun y x H Q => ∃ a dx fs, x = .ref a ∧ H a = some (.ins C dx fs) ∧ sp [.ref a, y] H (fun v H' => ∃ b : Bool, v = .bl b ∧ Q (.bl (if neg then !b else b)) H') E0
theorem o_in_own (c : Method X.prog X.w X.K X.mg X.base C "__contains__" ps sp k) (hr : Room j X.A) (hk : k ≤ j) : OpR X (compareOp .In) (rInO C sp false) := by
  intro pins s σ H x y v u Q I rx ry h
  obtain ⟨f, fd, F, b, cl, M⟩ := c.ex
  obtain ⟨a, dx, fs, rfl, ha, q⟩ := h
  cases (show u = Value.ref a from ry)
  obtain ⟨mA, J, _⟩ := ins_get I.hok ha
  obtain ⟨od, J, _⟩ := J.look
  obtain ⟨m', hF⟩ := I.fr
  refine PySem.W.in_K hF I.ok.mod.kin J M.at_ M.fn ?_
  refine wpAny_mono (run_at F (hr.mono hk) I.env0 b I (vs := [.ref a, x]) (.cons rfl (.cons rx .nil)) q) (fun v' s' hv => ?_) fun _ _ z => z
  obtain ⟨v0, H', I', rv, bb, rfl, q'⟩ := hv
  cases (show v' = Value.bool bb from rv)
  exact wpAny_truthy_bool ⟨.bl bb, H', I', rfl, q'⟩
theorem o_notin_own (c : Method X.prog X.w X.K X.mg X.base C "__contains__" ps sp k) (hr : Room j X.A) (hk : k ≤ j) : OpR X (compareOp .NotIn) (rInO C sp true) := by
  intro pins s σ H x y v u Q I rx ry h
  obtain ⟨f, fd, F, b, cl, M⟩ := c.ex
  obtain ⟨a, dx, fs, rfl, ha, q⟩ := h
  cases (show u = Value.ref a from ry)
  obtain ⟨mA, J, _⟩ := ins_get I.hok ha
  obtain ⟨od, J, _⟩ := J.look
  obtain ⟨m', hF⟩ := I.fr
  refine PySem.W.notIn_K hF I.ok.mod.kin J M.at_ M.fn ?_
  refine wpAny_mono (run_at F (hr.mono hk) I.env0 b I (vs := [.ref a, x]) (.cons rfl (.cons rx .nil)) q) (fun v' s' hv => ?_) fun _ _ z => z
  obtain ⟨v0, H', I', rv, bb, rfl, q'⟩ := hv
  cases (show v' = Value.bool bb from rv)
  exact wpAny_truthy_bool ⟨.bl (!bb), H', I', rfl, q'⟩
end
end OA

/-! ### methods with arguments and defaults, staticmethods, what is never reached -/
namespace OA
open PySem PySem.Spec PyProof.Rows L2
/-- a method, the values of its defaults behind the arguments -/
structure MethodD (P : Program) (w : World) (K : PySem.W.Frag) (mg : Str → Option Value) (base : Heap) (C : Addr) (m : Str) (ps : List Str) (sp : Sp) (k : Nat) (dvs : List V) : Prop where
  ex : ∃ f fd, FnOk P w K mg base CX0 k f fd ps sp ∧ (∃ ds, Vals dvs ds ∧ Binds K fd ps ds) ∧ Cls K C ∧ Meth K C m f
/-- a staticmethod of a class of the top -/
structure Static (P : Program) (w : World) (K : PySem.W.Frag) (mg : Str → Option Value) (base : Heap) (C : Addr) (m : Str) (ps : List Str) (sp : Sp) (k : Nat) : Prop where
  ex : ∃ g fd p mc rest, FnOk P w K mg base CX0 k g fd ps sp ∧ Binds K fd ps [] ∧ ClX.CRead K C mc ∧ PySem.W.findCls K (.ref C) mc m = some (.get (.builtin "staticmethod.__get__") (.ref p) .none (.ref C)) ∧ PySem.W.recIn K p "staticmethod" = some (.ref g :: rest) ∧ PySem.W.keepIn K (.ref g) = true
section
variable {X : Cx} {C : Addr} {m x : Str} {ps : List Str} {sp : Sp} {k j : Nat} {o e : Expr} {es : List Expr} {ta : TE} {t : TA} {apos pos : Pos} {dvs : List V} {pl : Sem Bool}
theorem o_notinsign : OpR X (compareOp .NotIn) (fun x y H Q => ∃ (c : Nat) (z : Str), x = .str ⟨#[c]⟩ ∧ y = .str z ∧ Q (.bl (!decide (c ∈ z.cps.toList))) H) := op_notIn_sign
theorem i_enum (K : PySem.W.Frag) {e : Expr} {ta : TA} {p pos tpos : Pos} {elts : List Expr} {kk : Nat} (hg : Gl X "enumerate") (hm : X.mg "enumerate" = none) (ha : PA X [e] ta) (hs : starEach [e] X.env = [(false, eval e X.env)] := by rfl) (h : X.K = K := by rfl) :
    PI X (.Tuple elts kk tpos) (.Call (.Name "enumerate" p) [e] [] pos) (iEnum K ta) := by subst h; exact pi_enum hg hm ha hs
theorem e_cval (K : PySem.W.Frag) {e : Expr} {ta : TE} {f : Str} {pos : Pos} (he : PE X e ta) (hb : attributeBase e f X.env (eval e X.env) = eval e X.env := by rfl) (h : X.K = K := by rfl) : PE X (.Attribute e f pos) (ClX.tCVal K ta f) := by subst h; exact ClX.pe_cval he hb
theorem pe_no {e : Expr} : PE X e (fun _ _ _ => False) := ⟨fun _ _ _ _ _ _ h => h.elim⟩
theorem pe_moD (c : MethodD X.prog X.w X.K X.mg X.base C m ps sp k dvs) (hr : Room j X.A) (hk : k ≤ j) (he : PE X o ta) (ha : PA X (e :: es) t)
    (hst : starEach (e :: es) X.env = (false, eval e X.env) :: starEach es X.env := by rfl) (hpl : (backTo pos (starEach es X.env)).any (·.1) = false := by rfl)
    (ht : eval (.Call (.Attribute o m apos) (e :: es) [] pos) X.env = (do
      let ov ← eval o X.env
      standAt apos.atName
      let (f, first) ← holding [ov] (getMethod ov m pl)
      callWith pos f first (backTo pos (starEach (e :: es) X.env)) (backToKw pos (keywordEach [] X.env))) := by rfl) :
    PE X (.Call (.Attribute o m apos) (e :: es) [] pos) (tMeth C m sp dvs E0 ta t) := by
  obtain ⟨f, fd, F, ⟨ds, hd, b⟩, cl, M⟩ := c.ex
  exact pe_meth he cl M F (hr.mono hk) b hd pass0 ha hst hpl ht
theorem pe_mo (c : Method X.prog X.w X.K X.mg X.base C m ps sp k) (hr : Room j X.A) (hk : k ≤ j) (he : PE X o ta) (ha : PA X (e :: es) t)
    (hst : starEach (e :: es) X.env = (false, eval e X.env) :: starEach es X.env := by rfl) (hpl : (backTo pos (starEach es X.env)).any (·.1) = false := by rfl)
    (ht : eval (.Call (.Attribute o m apos) (e :: es) [] pos) X.env = (do
      let ov ← eval o X.env
      standAt apos.atName
      let (f, first) ← holding [ov] (getMethod ov m pl)
      callWith pos f first (backTo pos (starEach (e :: es) X.env)) (backToKw pos (keywordEach [] X.env))) := by rfl) :
    PE X (.Call (.Attribute o m apos) (e :: es) [] pos) (tMeth C m sp [] E0 ta t) := by
  obtain ⟨f, fd, F, b, cl, M⟩ := c.ex
  exact pe_meth he cl M F (hr.mono hk) b .nil pass0 ha hst hpl ht
/-- C.m(e, ..), m a staticmethod -/
def tSt (C : Addr) (sp : Sp) (ta : TE) (t : TA) : TE := fun σ H Q => ta σ H fun x H1 => x = .ref C ∧ t σ H1 fun vs H2 => sp vs H2 Q E0
theorem pe_st (c : Static X.prog X.w X.K X.mg X.base C m ps sp k) (hr : Room j X.A) (hk : k ≤ j) (he : PE X o ta) (ha : PA X (e :: es) t)
    (hst : starEach (e :: es) X.env = (false, eval e X.env) :: starEach es X.env := by rfl) (hpl : (backTo pos (starEach es X.env)).any (·.1) = false := by rfl)
    (ht : eval (.Call (.Attribute o m apos) (e :: es) [] pos) X.env = (do
      let ov ← eval o X.env
      standAt apos.atName
      let (f, first) ← holding [ov] (getMethod ov m pl)
      callWith pos f first (backTo pos (starEach (e :: es) X.env)) (backToKw pos (keywordEach [] X.env))) := by rfl) :
    PE X (.Call (.Attribute o m apos) (e :: es) [] pos) (tSt C sp ta t) := by
  obtain ⟨g, fd, p, mc, rest, F, b, r, at_, hp, kp⟩ := c.ex
  refine ⟨fun pins s σ H Q I h => ?_⟩
  refine PySem.W.methodCall_KW (pl := pl) (thn (he.run pins s σ H _ I h) fun u s1 ⟨x, H1, I1, rx, ex, q⟩ => ?_) ht
  subst ex
  obtain rfl : u = Value.ref C := rx
  refine PySem.W.method_cls I1.kIn r.ga ?_
  refine PySem.W.cls_bind I1.kIn r.rd at_ ?_
  refine wpAny_call (PySem.W.sm_get (s := { s1 with toks := s1.toks + 1 }) I1.kIn hp (PySem.W.handed_on rfl ?_))
  refine PySem.W.callWith_K (h₀ := X.base) I1.ok.mod.kin kp (thn (ha.run pos pins _ σ H1 _ (I1.tok _) q) fun us s3 ⟨vs, H2, I3, rv, q2⟩ => ⟨I3.kIn, ?_⟩) hst hpl
  rw [← List.append_nil vs] at q2
  exact run_fn F (hr.mono hk) b .nil pass0 I3 rv q2
end
end OA

/-! ### [x for x in xs if test]: a filter; [e for x in xs]: a map -/
namespace OA
open PySem PySem.Spec PyProof.Rows L2
theorem at_seq {t u : TS} {D : Ends} {σ : L2.St} {H : Hp} (h : t { D with nx := u D } σ H) : tSeq t u D σ H := h
theorem at_asg {te : TE} {g : TG} {D : Ends} {σ : L2.St} {H : Hp} (h : te σ H fun x H1 => g x σ H1 D.nx) : tAsg te g D σ H := h
theorem at_op {r : R2} {ta tb : TE} {σ : L2.St} {H : Hp} {Q : VK} (h : ta σ H fun x H1 => tb σ H1 fun y H2 => r x y H2 Q) : tOp r ta tb σ H Q := h
theorem at_cut {t u : TS} {D : Ends} {σ : L2.St} {H : Hp} (Mid : L2.St → Hp → Prop) (h1 : t { D with nx := Mid } σ H) (h2 : ∀ σ' H', Mid σ' H' → u D σ' H') : C8.tCut t u D σ H := ⟨Mid, h1, h2⟩
theorem at_ret {te : TE} {D : Ends} {σ : L2.St} {H : Hp} (h : te σ H D.rt) : tRet te D σ H := h
theorem at_test {t : TE} {σ : L2.St} {H : Hp} {Q : Bool → Hp → Prop} (h : t σ H fun x H' => ∃ k, x = .bl k ∧ Q k H') : tTest t σ H Q := h
theorem at_if {c : TT} {t u : TS} {D : Ends} {σ : L2.St} {H : Hp} (h : c σ H fun b H1 => if b = true then t D σ H1 else u D σ H1) : tIfS c t u D σ H := h
theorem at_B {t : TE} {σ : L2.St} {H : Hp} {Q : Bool → Hp → Prop} (h : t σ H fun x H1 => ∃ c, x = .bl c ∧ Q c H1) : tB t σ H Q := h
theorem at_cb {r : List V → Hp → VK → Prop} {t : TA} {σ : L2.St} {H : Hp} {Q : VK} (h : t σ H fun vs H1 => r vs H1 Q) : tCB r t σ H Q := h
theorem at_cons {ta : TE} {tr : TA} {σ : L2.St} {H : Hp} {Q : List V → Hp → Prop} (h : ta σ H fun x H1 => tr σ H1 fun xs H2 => Q (x :: xs) H2) : tCons ta tr σ H Q := h
theorem set_wipe {σ : L2.St} {i : Nat} {v : Option V} : wipe ((wipe σ [i]).set i v) [i] = wipe σ [i] := by
  show ((σ.set i none).set i v).set i none = σ.set i none
  rw [List.set_set, List.set_set]
theorem lc_flt {K : PySem.W.Frag} {tl : TE} {tt : TT} {i : Nat} {σ : L2.St} {H : Hp} {Q : VK} {a : Addr} {xs : List V} (f : V → Bool) (hi : i < σ.length) (hl : ∀ R : VK, R (.ref a) H → tl σ H R) (ha : H a = some (.lst xs)) (hn : xs.length ≤ 1000000)
    (ht : ∀ x ∈ xs, ∀ H1, Same H H1 → ∀ R : Bool → Hp → Prop, (∀ H2, Same H1 H2 → R (f x) H2) → tt ((wipe σ [i]).set i (some x)) H1 R)
    (k : ∀ D H', Same H H' → H D = none → H' D = some (.lst (xs.filter f)) → Q (.ref D) H') : tLc (iList K tl) (gName i) tt (tVar i) [i] σ H Q := by
  refine hl _ ⟨a, rfl, ⟨_, SqL.of ha⟩, fun D hD => ?_⟩
  refine lc_list (K := K) (a := a) (xs := xs) (fun j H' => Same H H' ∧ H' D = some (.lst ((xs.take j).filter f))) ?_ ?_ ?_ ?_
  · exact ⟨same_loc (Same.refl H) hD _, upd_same⟩
  · rintro j H' _ ⟨s, _⟩
    exact SqL.of (s _ _ ha)
  · rintro j x H' hx ⟨s, h⟩
    have hxm := List.mem_of_getElem? hx
    have hjl := get_lt hx
    refine ⟨set_wipe, ht x hxm H' s _ fun H2 s2 => ?_⟩
    have h2 := s2 _ _ h
    by_cases hf : f x = true
    · rw [hf, if_pos rfl]
      refine ⟨x, ?_, _, h2, ?_, same_loc (s.trans s2) hD _, ?_⟩
      · rw [List.getElem?_set_self (by rw [wipe_length]; exact hi)]
      · have := List.length_filter_le f (xs.take j)
        rw [List.length_take] at this
        exact sz_lt (by omega)
      · rw [take_more hx, List.filter_append]
        have e : [x].filter f = [x] := by rw [List.filter_cons, if_pos hf]; rfl
        rw [e]
        exact upd_same
    · have hf' : f x = false := by simpa using hf
      rw [hf', if_neg Bool.false_ne_true]
      refine ⟨s.trans s2, ?_⟩
      rw [take_more hx, List.filter_append]
      have e : [x].filter f = [] := by rw [List.filter_cons, if_neg hf]; rfl
      rw [e, List.append_nil]
      exact h2
  · rintro H' ⟨s, h⟩
    rw [List.take_length] at h
    exact k D H' s hD h
/-- [e for x in xs]: a map -/
theorem lc_mp {K : PySem.W.Frag} {tl te : TE} {i : Nat} {σ : L2.St} {H : Hp} {Q : VK} {a : Addr} {xs : List V} (f : V → V) (hl : ∀ R : VK, R (.ref a) H → tl σ H R) (ha : H a = some (.lst xs)) (hn : xs.length ≤ 1000000)
    (he : ∀ x ∈ xs, ∀ H1, Same H H1 → ∀ R : VK, (∀ H2, Same H1 H2 → R (f x) H2) → te ((wipe σ [i]).set i (some x)) H1 R)
    (k : ∀ D H', Same H H' → H D = none → H' D = some (.lst (xs.map f)) → Q (.ref D) H') : tLc (iList K tl) (gName i) tYes te [i] σ H Q := by
  refine hl _ ⟨a, rfl, ⟨_, SqL.of ha⟩, fun D hD => ?_⟩
  refine lc_list (K := K) (a := a) (xs := xs) (fun j H' => Same H H' ∧ H' D = some (.lst ((xs.take j).map f))) ?_ ?_ ?_ ?_
  · exact ⟨same_loc (Same.refl H) hD _, upd_same⟩
  · rintro j H' _ ⟨s, _⟩
    exact SqL.of (s _ _ ha)
  · rintro j x H' hx ⟨s, h⟩
    have hxm := List.mem_of_getElem? hx
    have hjl := get_lt hx
    refine ⟨set_wipe, yes_of (he x hxm H' s _ fun H2 s2 => ⟨_, s2 _ _ h, ?_, same_loc (s.trans s2) hD _, ?_⟩)⟩
    · rw [List.length_map, List.length_take]
      exact sz_lt (by omega)
    · rw [take_more hx, List.map_append]
      exact upd_same
  · rintro H' ⟨s, h⟩
    rw [List.take_length] at h
    exact k D H' s hD h
/-- texts -/
theorem flt_str (f : Str → Bool) (g : V → Bool) (h : ∀ x, g (.str x) = f x) : ∀ xs : List Str, (xs.map V.str).filter g = (xs.filter f).map V.str
  | [] => rfl
  | x :: xs => by
    rw [List.map_cons, List.filter_cons, List.filter_cons, h x, flt_str f g h xs]
    split <;> rfl
def sB (f : Str → Bool) : V → Bool
  | .str x => f x
  | _ => false
theorem at_if2 {c : TT} {t u : TS} {D : Ends} {σ : L2.St} {H : Hp} (f : Bool) (hc : ∀ R : Bool → Hp → Prop, (∀ H2, Same H H2 → R f H2) → c σ H R) (h1 : f = true → ∀ H2, Same H H2 → t D σ H2) (h2 : f = false → ∀ H2, Same H H2 → u D σ H2) : tIfS c t u D σ H := by
  refine hc _ fun H2 t2 => ?_
  cases f with
  | true => exact h1 rfl H2 t2
  | false => exact h2 rfl H2 t2
theorem at_next {D : Ends} {σ : L2.St} {H : Hp} (h : D.nx σ H) : tNext D σ H := h
theorem lc_via {K : PySem.W.Frag} {tl te : TE} {g : TG} {tt : TT} {own : List Nat} {σ : L2.St} {H : Hp} {Q : VK} (h : tl σ H fun x H1 => tLc (iList K fun _ H R => R x H) g tt te own σ H1 Q) : tLc (iList K tl) g tt te own σ H Q := h
end OA

namespace OA
open PySem L2
def topS (i : Nat) : Stmt := PySem.Challenge.pw_ownersagree_k03_positions.main.body.getD i (.Pass ⟨0, 0, 0, 0⟩)
/-- what the top has left of the built-in names and the constants -/
structure Txt (K : PySem.W.Frag) (mg : Str → Option Value) : Prop where
  n_len : mg "len" = none
  n_abs : mg "abs" = none
  n_int : mg "int" = none
  n_str : mg "str" = none
  n_list : mg "list" = none
  n_tuple : mg "tuple" = none
  n_range : mg "range" = none
  n_isinstance : mg "isinstance" = none
  n_any : mg "any" = none
  n_all : mg "all" = none
  n_sorted : mg "sorted" = none
  n_bool : mg "bool" = none
  n_enumerate : mg "enumerate" = none
  c_LETTERS : ∃ t, mg "LETTERS" = some (.str "abcdefghijklmnopqrstuvwxyz" t)
  c_SIGNS : ∃ t, mg "SIGNS" = some (.str "abcdefghijklmnopqrstuvwxyz0123456789" t)
  c_LONGEST_NAME : ∃ t, mg "LONGEST_NAME" = some (.int 12 t)
end OA

/-! ### the drawing of a law: get_state, draw -/
namespace OA
open PySem PySem.Spec PyProof.Rows L2
/-- draw(st, limit): some number below the limit; only the state changes -/
def spDraw : Sp := fun vs H Q _ => ∃ (G : Hp) (st inn : Addr) (n : Int), vs = [.ref st, .int n] ∧ Same G H ∧ StAt G H st inn ∧ 0 < n ∧ n < 1073741824 ∧
  ∀ (r : Int) (H' : Hp), Stp (F2 st inn) G H G H' → StAt G H' st inn → 0 ≤ r → r < n → Q (.int r) H'
/-- get_state(script) -/
def spState (K : PySem.W.Frag) : Sp := fun vs H Q _ => ∃ (a : Addr) (ns : List Int), vs = [.ref a] ∧ SqL K H a (ns.map V.int) ∧ ns.length ≤ 1000 ∧
  ∀ (st inn : Addr) (H' : Hp), Same H H' → StAt H H' st inn → Q (.ref st) H'
theorem St4.ne {G H : Hp} {st inn : Addr} {cs : List Int} {a b c : Int} (h1 : Cell G H st (.lst [.ref inn, .int a, .int b, .int c])) (h2 : Cell G H inn (.lst (cs.map V.int))) : st ≠ inn := by
  refine ne_of h1.at_ h2.at_ fun z => ?_
  cases cs with
  | nil => cases z
  | cons x xs => cases z
theorem seq0 {α : Type} {x : α} (xs : List α) : seqIndex? 0 (x :: xs).length = some 0 := by
  unfold seqIndex?
  simp
section
variable {P : Program} {w : World} {K : PySem.W.Frag} {mg : Str → Option Value} {base : Heap}
theorem sc_draw : FnScope ["_law_st", "_law_limit", "_law_cell", "_law_digit"] ["_law_st", "_law_limit"] (defScope (topS 28)) := ⟨rfl, rfl, rfl, by decide +kernel, rfl, by decide +kernel, by decide +kernel⟩
set_option maxHeartbeats 8000000 in
theorem ok_draw {f : Addr} {fd : FuncData} (F : Fun K "_law_draw" "_law_draw" (topS 28) f fd) (T : Txt K mg) : FnOk P w K mg base CX0 1 f fd ["_law_st", "_law_limit"] spDraw := by
  refine F.ok sc_draw (fun vs H Q E h => ?_) (fun cdv A outer s H vs Q E hr h => ?_)
  · obtain ⟨G, st, inn, n, rfl, _⟩ := h
    rfl
  · obtain ⟨G, st, inn, n, rfl, gh, S, n0, n1, k⟩ := h
    refine ⟨_, (C8.pss_cut (ps_if (PW.pt (pw_and (pt_cmpR op_eq (pe_ix (ix_lst K) (pv 0) pe_int (fun _ _ => rfl)) pe_int (nomark _)) (pw_and1 (pt_cmpR (o_neD K hr.units) (pe_ix (ix_lst K) (pv 0) pe_int (fun _ _ => rfl)) (pe_lst pa_nil) (nomark _))))) (pss_cons (ps_set (i := 2) sc_draw.nd rfl (Or.inl rfl) (pe_op o_mod (pe_callTy c_int (by rfl) T.n_int (by decide +kernel) (pa_cons (e_bm K PySem.F.plainAttrs_list PySem.F.slot_list_pop PySem.F.type_list_pop mt_popAt (pe_ix (ix_lst K) (pv 0) pe_int (fun _ _ => rfl)) (pa_cons pe_int pa_nil)) pa_nil)) (pe_op op_powW (pe_op o_pow pe_int pe_int) pe_int)))
      (pss_one (ps_if (pt_cmpR o_ge (pv 2) (pe_op o_pow pe_int pe_int) (nomark _)) (pss_one (ps_asg (pv 2) (pg_sub (pv 0) pe_int set_list))) (pss_one (ps_asg (pe_op o_mod (pe_callTy c_int (by rfl) T.n_int (by decide +kernel) (pa_cons (pe_op o_add (pe_op o_add (pe_op o_mul (pe_ix (ix_lst K) (pv 0) pe_int (fun _ _ => rfl)) pe_int) (pe_op o_mul (pv 2) pe_int)) pe_int) pa_nil)) pe_int) (pg_sub (pv 0) pe_int set_list)))))) pss_nil)
      (pss_cons (ps_if (pt_cmpR o_gt (pe_ix (ix_lst K) (pv 0) pe_int (fun _ _ => rfl)) pe_int (nomark _)) (pss_cons (ps_set (i := 3) sc_draw.nd rfl (Or.inl rfl) (pe_op o_mod (pe_callTy c_int (by rfl) T.n_int (by decide +kernel) (pa_cons (pe_ix (ix_lst K) (pv 0) pe_int (fun _ _ => rfl)) pa_nil)) (pv 1)))
      (pss_cons (ps_asg (pe_op o_fdiv (pe_ix (ix_lst K) (pv 0) pe_int (fun _ _ => rfl)) (pv 1)) (pg_sub (pv 0) pe_int set_list))
      (pss_one (ps_ret (pv 3))))) pss_nil)
      (pss_cons (ps_asg (pe_op o_add (pe_ix (ix_lst K) (pv 0) pe_int (fun _ _ => rfl)) pe_int) (pg_sub (pv 0) pe_int set_list))
      (pss_cons (ps_asg (pe_op o_mod (pe_callTy c_int (by rfl) T.n_int (by decide +kernel) (pa_cons (pe_op o_add (pe_op o_mul (pe_ix (ix_lst K) (pv 0) pe_int (fun _ _ => rfl)) pe_int) (pe_op o_mul (pe_ix (ix_lst K) (pv 0) pe_int (fun _ _ => rfl)) pe_int)) pa_nil)) pe_int) (pg_sub (pv 0) pe_int set_list))
      (pss_one (ps_ret (pe_op o_mod (pe_op o_mod (pe_callTy c_int (by rfl) T.n_int (by decide +kernel) (pa_cons (pe_op o_add (pe_op o_mul (pe_ix (ix_lst K) (pv 0) pe_int (fun _ _ => rfl)) pe_int) (pe_ix (ix_lst K) (pv 0) pe_int (fun _ _ => rfl))) pa_nil)) pe_int) (pv 1)))))))), ?_⟩
    refine ⟨fun σ H1 => ∃ x, σ = [some (.ref st), some (.int n), x, none] ∧ Stp (F2 st inn) G H G H1 ∧ StAt G H1 st inn, ?_, ?_⟩
    · obtain ⟨cs, a, b, c, h1, h2, hc, ha, hb, hd⟩ := S
      have ne := St4.ne h1 h2
      refine ⟨_, rfl, _, _, _, _, rfl, rfl, SqL.of h1.at_, rfl, rfl, _, rfl, ?_⟩
      refine ite2 (fun _ => ?_) (fun _ => ⟨none, rfl, Stp.refl gh, ⟨cs, a, b, c, h1, h2, hc, ha, hb, hd⟩⟩)
      refine ⟨_, rfl, _, _, _, _, rfl, rfl, SqL.of h1.at_, rfl, (by decide), fun p hp => ?_⟩
      have sp : Stp (F2 st inn) G H G (upd H p (.lst [])) := Stp.put gh hp _
      have off := StAt.off ⟨cs, a, b, c, h1, h2, hc, ha, hb, hd⟩ hp
      have k1 := h1.off (q := p) (fun e => off (.inl e.symm)) (.lst [])
      have k2 := h2.off (q := p) (fun e => off (.inr e.symm)) (.lst [])
      refine ⟨dI cs, .list [], .lst (SqL.of k2.at_) (dp_ints cs), .lst (SqL.of upd_same) .nil, sh_ints, rfl, _, rfl, ?_⟩
      rw [eqv_ints0]
      cases cs with
      | nil => exact iteF ⟨none, rfl, sp, ⟨[], a, b, c, k1, k2, hc, ha, hb, hd⟩⟩
      | cons x cs =>
        refine iteT ?_
        have hx : 0 ≤ x := hc x List.mem_cons_self
        have hc' : ∀ y ∈ cs, 0 ≤ y := fun y hy => hc y (List.mem_cons_of_mem _ hy)
        refine ⟨_, rfl, _, _, _, _, rfl, rfl, SqL.of k1.at_, rfl, Or.inl ⟨rfl, _, SqL.of k2.at_⟩, inn, _, 0, 0, .int x, rfl, rfl, k2.at_, (by decide), (by decide), seq0 _, rfl, .inl ⟨_, rfl, _, _, rfl, rfl, ⟨by decide, by decide, by decide⟩, _, _, rfl, rfl, ⟨by decide, by decide +kernel, by decide +kernel⟩, _, _, rfl, rfl, (by show (0 : Int) < ((10 : Int) ^ (50 : Int).toNat) ^ (8 : Int).toNat; decide +kernel), ?_⟩⟩
        have hm : 0 ≤ x % ((10 : Int) ^ (50 : Int).toNat) ^ (8 : Int).toNat := Int.emod_nonneg _ (by decide +kernel)
        generalize x % ((10 : Int) ^ (50 : Int).toNat) ^ (8 : Int).toNat = y at hm
        generalize eH2 : upd (upd H p (.lst [])) inn (.lst (((x :: cs).map V.int).eraseIdx 0)) = H2
        have s2 : Stp (F2 st inn) G H G H2 := by rw [← eH2]; exact sp.trans (Stp.write sp.gh k2 (.inr rfl) _)
        have j1 : Cell G H2 st (.lst [.ref inn, .int a, .int b, .int c]) := by rw [← eH2]; exact k1.off ne _
        have j2 : Cell G H2 inn (.lst (cs.map V.int)) := by rw [← eH2]; exact k2.set _
        refine ⟨_, rfl, _, _, rfl, rfl, ⟨by decide, by decide, by decide⟩, _, _, rfl, rfl, _, rfl, ?_⟩
        refine ite2 (fun _ => ?_) (fun _ => ?_)
        · refine ⟨_, rfl, _, rfl, st, _, 1, 1, rfl, rfl, j1.at_, rfl, ?_⟩
          exact ⟨_, rfl, s2.trans (Stp.write s2.gh j1 (.inl rfl) _), ⟨cs, y, b, c, j1.set _, j2.off ne.symm _, hc', hm, hb, hd⟩⟩
        · refine ⟨_, rfl, _, _, _, _, rfl, rfl, SqL.of j1.at_, rfl, _, _, rfl, rfl, .inr ⟨by decide, by decide⟩, _, rfl, _, _, rfl, rfl, .inr ⟨by decide, by decide⟩, _, _, rfl, rfl, _, _, rfl, rfl, .inl ⟨_, rfl, _, _, rfl, rfl, (by show (0 : Int) < 2147483647; decide), ?_⟩⟩
          refine ⟨_, rfl, st, _, 2, 2, rfl, rfl, j1.at_, rfl, ?_⟩
          exact ⟨_, rfl, s2.trans (Stp.write s2.gh j1 (.inl rfl) _), ⟨cs, a, _, c, j1.set _, j2.off ne.symm _, hc', ha, Int.emod_nonneg _ (by decide), hd⟩⟩
    · rintro σ H1 ⟨x, rfl, s1, cs, a, b, c, h1, h2, hc, ha, hb, hd⟩
      have ne := St4.ne h1 h2
      refine ⟨_, rfl, _, _, _, _, rfl, rfl, SqL.of h1.at_, rfl, _, _, rfl, rfl, _, rfl, ?_⟩
      refine ite2 (fun _ => ?_) (fun _ => ?_)
      · refine ⟨_, rfl, _, _, _, _, rfl, rfl, SqL.of h1.at_, rfl, .inl ⟨_, rfl, _, rfl, _, _, rfl, rfl, n0, ?_⟩⟩
        refine ⟨_, rfl, _, _, _, _, rfl, rfl, SqL.of h1.at_, rfl, _, rfl, _, _, rfl, rfl, ⟨n0, n1⟩, _, rfl, st, _, 1, 1, rfl, rfl, h1.at_, rfl, ?_⟩
        refine ⟨_, rfl, ?_⟩
        exact k _ _ (s1.trans (Stp.write s1.gh h1 (.inl rfl) _)) ⟨cs, _, b, c, h1.set _, h2.off ne.symm _, hc, Int.ediv_nonneg ha (Int.le_of_lt n0), hb, hd⟩ (Int.emod_nonneg _ (by omega)) (Int.emod_lt_of_pos _ n0)
      · refine ⟨_, rfl, _, _, _, _, rfl, rfl, SqL.of h1.at_, rfl, _, _, rfl, rfl, _, rfl, st, _, 3, 3, rfl, rfl, h1.at_, rfl, ?_⟩
        generalize eH2 : upd H1 st (.lst (([.ref inn, .int a, .int b, .int c] : List V).set 3 (.int (c + 1)))) = H2
        have s2 : Stp (F2 st inn) G H G H2 := by rw [← eH2]; exact s1.trans (Stp.write s1.gh h1 (.inl rfl) _)
        have j1 : Cell G H2 st (.lst [.ref inn, .int a, .int b, .int (c + 1)]) := by rw [← eH2]; exact h1.set _
        have j2 : Cell G H2 inn (.lst (cs.map V.int)) := by rw [← eH2]; exact h2.off ne.symm _
        refine ⟨_, rfl, _, _, _, _, rfl, rfl, SqL.of j1.at_, rfl, _, _, rfl, rfl, .inr ⟨by decide, by decide⟩, _, rfl, _, _, _, _, rfl, rfl, SqL.of j1.at_, rfl, _, _, rfl, rfl, .inr ⟨by decide, by decide⟩, _, _, rfl, rfl, .inl ⟨_, rfl, _, _, rfl, rfl, (by show (0 : Int) < 2147483647; decide), ?_⟩⟩
        refine ⟨_, rfl, st, _, 2, 2, rfl, rfl, j1.at_, rfl, ?_⟩
        generalize hz : (b * 48271 + (c + 1) * 69621) % 2147483647 = z
        have z0 : 0 ≤ z := by rw [← hz]; exact Int.emod_nonneg _ (by decide)
        generalize eH3 : upd H2 st (.lst (([.ref inn, .int a, .int b, .int (c + 1)] : List V).set 2 (.int z))) = H3
        have s3 : Stp (F2 st inn) G H G H3 := by rw [← eH3]; exact s2.trans (Stp.write s2.gh j1 (.inl rfl) _)
        have l1 : Cell G H3 st (.lst [.ref inn, .int a, .int z, .int (c + 1)]) := by rw [← eH3]; exact j1.set _
        have l2 : Cell G H3 inn (.lst (cs.map V.int)) := by rw [← eH3]; exact j2.off ne.symm _
        refine ⟨_, rfl, _, _, _, _, rfl, rfl, SqL.of l1.at_, rfl, _, _, rfl, rfl, .inr ⟨by decide, by decide⟩, _, rfl, _, _, _, _, rfl, rfl, SqL.of l1.at_, rfl, _, _, rfl, rfl, .inl ⟨_, rfl, _, _, rfl, rfl, (by show (0 : Int) < 2147483629; decide), _, rfl, _, _, rfl, rfl, n0, ?_⟩⟩
        exact k _ _ s3 ⟨cs, a, z, c + 1, l1, l2, hc, ha, z0, by omega⟩ (Int.emod_nonneg _ (by omega)) (Int.emod_lt_of_pos _ n0)
end
end OA

namespace OA
open PySem PySem.Spec PyProof.Rows L2
section
variable {P : Program} {w : World} {K : PySem.W.Frag} {mg : Str → Option Value} {base : Heap}
theorem sc_get_state : FnScope ["_law_script", "_law_cell"] ["_law_script"] (defScope (topS 27)) := ⟨rfl, rfl, rfl, by decide +kernel, rfl, by decide +kernel, by decide +kernel⟩
theorem cutV_mem {xs : List V} {lo hi : Option Int} {x : V} (h : x ∈ cutV xs lo hi) : x ∈ xs := List.mem_of_mem_drop (List.mem_of_mem_take h)
theorem cutV_len {xs : List V} {lo hi : Option Int} : (cutV xs lo hi).length ≤ xs.length := by
  unfold cutV
  rw [List.length_take, List.length_drop]
  omega
set_option maxHeartbeats 8000000 in
theorem ok_get_state {f : Addr} {fd : FuncData} (F : Fun K "_law_get_state" "_law_get_state" (topS 27) f fd) (T : Txt K mg) : FnOk P w K mg base CX0 1 f fd ["_law_script"] (spState K) := by
  refine F.ok sc_get_state (fun vs H Q E h => ?_) (fun cdv A outer s H vs Q E hr h => ?_)
  · obtain ⟨a, ns, rfl, _⟩ := h
    rfl
  · obtain ⟨a, ns, rfl, hS, hlen, k⟩ := h
    refine ⟨_, (pss_one (ps_ret (pe_lst (pa_cons (pe_lc (own := [("_law_cell", 1)]) (by rfl) sc_get_state.nd (i_list K (pe_slice (sl_lst K) (pv 0) po_none (po_some pe_int))) (blkOk_by (own := [("_law_cell", 1)]) (N := ["_law_script", "_law_cell"]) (sc := defScope (topS 27)) (by decide +kernel)) (fun _ _ _ _ _ => (pg_name (i := 1) sc_get_state.nd rfl (Or.inl rfl))) (fun _ _ _ _ _ => pts_nil) (fun _ _ _ _ _ => (pe_op o_add (pe_op o_mul pe_int (pe_callB c_abs (by rfl) T.n_abs (by decide +kernel) (pa_cons (pv 1) pa_nil))) (pe_callTy c_int (by rfl) T.n_int (by decide +kernel) (pa_cons (pe_cmpR o_lt (pv 1) pe_int (nomark _)) pa_nil))))) (pa_cons pe_int (pa_cons pe_int (pa_cons pe_int pa_nil))))))), ?_⟩
    refine ⟨_, rfl, _, rfl, a, _, rfl, hS, fun p hp => ⟨p, rfl, ⟨_, SqL.of upd_same⟩, fun D hD => ?_⟩⟩
    generalize exs : cutV (ns.map V.int) none (some 63) = xs at hD
    have hl : xs.length ≤ 1000 := by
      rw [← exs]
      have := cutV_len (xs := ns.map V.int) (lo := none) (hi := some 63)
      rw [List.length_map] at this
      omega
    have hpD : p ≠ D := ne_of_none upd_same hD
    have nD : H D = none := by rw [upd_ne hpD.symm] at hD; exact hD
    refine lc_list (K := K) (a := p) (xs := xs) (fun i H' => ∃ cs : List Int, Same H H' ∧ H' p = some (.lst xs) ∧ H' D = some (.lst (cs.map V.int)) ∧ (∀ c ∈ cs, 0 ≤ c) ∧ cs.length = i) ?_ ?_ ?_ ?_
    · refine ⟨[], fun b o e => ?_, ?_, upd_same, fun c hc => (by cases hc), rfl⟩
      · rw [upd_ne (ne_of_none e nD), upd_ne (ne_of_none e hp)]; exact e
      · rw [upd_ne hpD]; exact upd_same
    · rintro i H' _ ⟨cs, _, h, _⟩
      exact SqL.of h
    · rintro i x H' hx ⟨cs, s1, h1, h2, h3, h4⟩
      obtain ⟨z, rfl⟩ : ∃ z, x = V.int z := by
        have hm := cutV_mem (xs := ns.map V.int) (lo := none) (hi := some 63) (x := x) (by rw [exs]; exact List.mem_of_getElem? hx)
        obtain ⟨z, _, e⟩ := List.mem_map.mp hm
        exact ⟨z, e.symm⟩
      refine ⟨rfl, yes_of ?_⟩
      refine ⟨_, rfl, _, rfl, _, _, rfl, rfl, .inl ⟨by decide, by decide⟩, _, rfl, _, _, rfl, rfl, .inr ⟨_, rfl, _, _, rfl, rfl, _, h2, ?_, ?_⟩⟩
      · rw [List.length_map]; exact sz_lt (by have := get_lt hx; omega)
      · have hv : 0 ≤ 2 * (if z < 0 then -z else z) + (if decide (z < 0) = true then 1 else 0) := by
          split <;> split <;> omega
        refine ⟨cs ++ [2 * (if z < 0 then -z else z) + (if decide (z < 0) = true then 1 else 0)], fun b o e => ?_, ?_, ?_, ?_, ?_⟩
        · rw [upd_ne (ne_of_none e nD)]; exact s1 b o e
        · rw [upd_ne hpD]; exact h1
        · rw [upd_same, List.map_append]; rfl
        · intro c hc
          rcases List.mem_append.mp hc with h | h
          · exact h3 c h
          · rw [List.mem_singleton.mp h]; exact hv
        · rw [List.length_append, h4]; rfl
    · rintro H' ⟨cs, s1, h1, h2, h3, h4⟩
      refine ⟨by show 4 ≤ sizeLine; decide, fun st hst => ?_⟩
      have n1 : H st = none := s1.free hst
      refine k st D _ (fun b o e => ?_) ⟨cs, 0, 1, 0, ⟨upd_same, n1⟩, ⟨?_, nD⟩, h3, by decide, by decide, by decide⟩
      · rw [upd_ne (ne_of_none e n1)]; exact s1 b o e
      · rw [upd_ne (ne_of_none h2 hst)]; exact h2
end
end OA

/-! ### words that a law draws -/
namespace OA
open PySem PySem.Spec PyProof.Rows L2
def spWords : Sp := fun vs H Q _ => ∃ (G : Hp) (st inn : Addr) (m n : Nat), vs = [.ref st, .int m, .int n] ∧ Same G H ∧ StAt G H st inn ∧ 1 ≤ m ∧ m ≤ 1000 ∧ n ≤ 26 ∧
  ∀ (v : V) (ws : List Str) (G' H' : Hp), Stp (F2 st inn) G H G' H' → StAt G' H' st inn → Ss G' v ws → Words m n ws → Q v H'
section
variable {P : Program} {w : World} {K : PySem.W.Frag} {mg : Str → Option Value} {base : Heap}
theorem sc_get_words : FnScope ["_law_st", "_law_most", "_law_count", "_law_signs", "_law_size", "_law_place", "_law_fill", "_law_some", "_law_first", "_law_tail", "_law_k"] ["_law_st", "_law_most", "_law_count"] (defScope (topS 29)) := ⟨rfl, rfl, rfl, by decide +kernel, rfl, by decide +kernel, by decide +kernel⟩
set_option maxHeartbeats 8000000 in
theorem ok_get_words {f : Addr} {fd : FuncData} (F : Fun K "_law_get_words" "_law_get_words" (topS 29) f fd) (T : Txt K mg) (c_draw : Callee P w K mg base "_law_draw" ["_law_st", "_law_limit"] spDraw 1) : FnOk P w K mg base CX0 2 f fd ["_law_st", "_law_most", "_law_count"] spWords := by
  refine F.ok sc_get_words (fun vs H Q E h => ?_) (fun cdv A outer s H vs Q E hr h => ?_)
  · obtain ⟨G, st, inn, m, n, rfl, _⟩ := h
    rfl
  · obtain ⟨G, st, inn, m, n, rfl, gh, S, m0, m1, hn, k⟩ := h
    refine ⟨_, (pss_cons (ps_set (i := 3) sc_get_words.nd rfl (Or.inr rfl) pe_str)
      (pss_cons (ps_set (i := 4) sc_get_words.nd rfl (Or.inl rfl) (pe_op o_add pe_int (pe_co c_draw hr (by decide) (by rfl) (pa_cons (pv 0) (pa_cons (pv 1) pa_nil)))))
      (pss_cons (ps_set (i := 5) sc_get_words.nd rfl (Or.inr rfl) (pe_co c_draw hr (by decide) (by rfl) (pa_cons (pv 0) (pa_cons (pv 4) pa_nil))))
      (pss_cons (ps_set (i := 6) sc_get_words.nd rfl (Or.inr rfl) (pe_ix ix_str (pv 3) (pe_co c_draw hr (by decide) (by rfl) (pa_cons (pv 0) (pa_cons pe_int pa_nil))) (fun _ _ => rfl)))
      (C8.pss_cut (ps_if (PW.pt (pw_and (pt_cmpR op_eq (pv 4) pe_int (nomark _)) (pw_and1 (pt_cmpR o_ins (pv 6) pe_str (by rfl))))) (pss_one (ps_set (i := 6) sc_get_words.nd rfl (Or.inr rfl) pe_str)) pss_nil)
      (C8.pss_cut (ps_set (i := 7) sc_get_words.nd rfl (Or.inr rfl) (pe_ifExp (pt_cmpR op_eq (pv 5) pe_int (nomark _)) pe_int pe_int))
      (pss_cons (ps_set (i := 8) sc_get_words.nd rfl (Or.inr rfl) (pe_co c_draw hr (by decide) (by rfl) (pa_cons (pv 0) (pa_cons (pv 7) pa_nil))))
      (pss_cons (ps_set (i := 9) sc_get_words.nd rfl (Or.inr rfl) (pe_op op_rep_str (pv 6) (pe_op o_sub (pe_op o_sub (pv 4) (pv 5)) pe_int)))
      (pss_one (ps_ret (pe_lc (own := [("_law_k", 10)]) (by rfl) sc_get_words.nd (pi_range1 (by rfl) T.n_range (pa_cons (pv 2) pa_nil)) (blkOk_by (own := [("_law_k", 10)]) (N := ["_law_st", "_law_most", "_law_count", "_law_signs", "_law_size", "_law_place", "_law_fill", "_law_some", "_law_first", "_law_tail", "_law_k"]) (sc := defScope (topS 29)) (by decide +kernel)) (fun _ _ _ _ _ => (pg_name (i := 10) sc_get_words.nd rfl (Or.inl rfl))) (fun _ _ _ _ _ => pts_nil) (fun _ _ _ _ _ => (pe_op o_adds (pe_op o_adds (pe_op op_rep_str (pv 6) (pv 5)) (pe_ix ix_str (pv 3) (pe_op o_mod (pe_callTy c_int (by rfl) T.n_int (by decide +kernel) (pa_cons (pe_op o_add (pv 8) (pv 10)) pa_nil)) (pv 7)) (fun _ _ => rfl))) (pv 9)))))))))))))), ?_⟩
    -- size, place, fill
    refine ⟨_, rfl, _, rfl, G, st, inn, _, rfl, gh, S, by omega, by omega, fun r1 H1 s1 S1 a0 a1 => ⟨_, _, rfl, rfl, ?_⟩⟩
    obtain ⟨z, rfl⟩ := Int.eq_ofNat_of_zero_le a0
    refine ⟨_, rfl, _, rfl, G, st, inn, _, rfl, s1.gh, S1, by omega, by omega, fun r2 H2 s2 S2 b0 b1 => ?_⟩
    obtain ⟨p, rfl⟩ := Int.eq_ofNat_of_zero_le b0
    refine ⟨_, rfl, _, rfl, G, st, inn, _, rfl, s2.gh, S2, by decide, by decide, fun r3 H3 s3 S3 c0 c1 => ⟨_, _, _, rfl, rfl, signs_len, sign_at c0 (by omega), ?_⟩⟩
    have s3' := (s1.trans s2).trans s3
    have hf0 : Low (sg r3.toNat) := sg_low (by omega)
    generalize sg r3.toNat = f0 at hf0
    -- if size == 2 and fill in 'me': fill = 'z'
    refine ⟨fun σ Hx => ∃ f : Nat, Low f ∧ Hx = H3 ∧ σ = [some (.ref st), some (.int m), some (.int n), some (.str (Str.ofString "abcdefghijklmnopqrstuvwxyz0123456789")), some (.int (1 + z)), some (.int p), some (.str ⟨#[f]⟩), none, none, none, none], ?_, ?_⟩
    · refine ⟨_, rfl, rfl, _, rfl, ?_⟩
      refine ite2 (fun _ => ?_) (fun _ => ⟨f0, hf0, rfl, rfl⟩)
      refine ⟨_, rfl, _, _, rfl, rfl, _, rfl, ?_⟩
      refine ite2 (fun _ => ?_) (fun _ => ⟨f0, hf0, rfl, rfl⟩)
      exact ⟨122, ⟨by decide, by decide⟩, rfl, rfl⟩
    rintro σ Hx ⟨f, hf, rfl, rfl⟩
    -- some = 26 if place == 0 else 36
    refine ⟨fun σ Hy => ∃ m' : Nat, ((p = 0 ∧ m' = 26) ∨ (p ≠ 0 ∧ m' = 36)) ∧ Hy = Hx ∧ σ = [some (.ref st), some (.int m), some (.int n), some (.str (Str.ofString "abcdefghijklmnopqrstuvwxyz0123456789")), some (.int (1 + z)), some (.int p), some (.str ⟨#[f]⟩), some (.int m'), none, none, none], ?_, ?_⟩
    · refine ⟨_, rfl, rfl, _, rfl, ?_⟩
      refine ite2 (fun e => ⟨26, .inl ⟨?_, rfl⟩, rfl, rfl⟩) (fun e => ⟨36, .inr ⟨?_, rfl⟩, rfl, rfl⟩)
      · have := of_decide_eq_true e
        injection this with this
        omega
      · intro h
        subst h
        exact e (decide_eq_true rfl)
    rintro σ Hy ⟨m', hm', rfl, rfl⟩
    -- first, tail
    refine ⟨_, rfl, _, rfl, G, st, inn, _, rfl, s3.gh, S3, by omega, by omega, fun r4 H4 s4 S4 d0 d1 => ?_⟩
    obtain ⟨q, rfl⟩ := Int.eq_ofNat_of_zero_le d0
    have s4' := s3'.trans s4
    refine ⟨_, rfl, _, rfl, _, rfl, _, _, rfl, rfl, _, _, rfl, rfl, _, _, rfl, rfl, by omega, by omega, by show 1 ≤ 1000; decide, ?_⟩
    -- the words
    refine ⟨_, rfl, _, rfl, by omega, by omega, fun D hD => ?_⟩
    have hD0 : H D = none := s4'.new hD
    have off : ¬ F2 st inn D := S.off hD0
    refine lc_range (lo := 0) (n := n) (fun i H' => Stp (F2 st inn) G H G H' ∧ StAt G H' st inn ∧ Cell G H' D (.lst ((wordsOf f p (1 + z) m' q i).map V.str))) ?_ ?_ ?_
    · exact ⟨s4'.trans (Stp.put s4.gh hD _), S4.new hD s4.gh _, Cell.new s4.gh hD _⟩
    · rintro i H' hi ⟨s5, S5, c5⟩
      refine ⟨rfl, yes_of ?_⟩
      have hmod : (↑q + (0 + (i : Int))) % (m' : Int) = (((q + i) % m' : Nat) : Int) := by
        rw [Int.zero_add]
        exact (Int.natCast_emod (q + i) m').symm
      have hlt : (q + i) % m' < 36 := Nat.lt_of_lt_of_le (Nat.mod_lt _ (by omega)) (by omega)
      refine ⟨_, rfl, _, rfl, _, _, rfl, rfl, by omega, by omega, (by show 1 ≤ 1000; decide), _, rfl, _, rfl, _, rfl, _, _, rfl, rfl, .inl ⟨_, rfl, _, rfl, _, _, rfl, rfl, by omega, _, _, sg ((q + i) % m'), rfl, rfl, signs_len, ?_, _, _, rfl, rfl, ?_, _, rfl, _, _, rfl, rfl, ?_, _, c5.at_, ?_, ?_⟩⟩
      · rw [hmod]
        exact sign_at (by omega) (by omega)
      · refine sz_le ?_
        rw [len_list, repS_one, List.length_replicate]
        show _ + 1 ≤ _
        omega
      · refine sz_le ?_
        rw [app_len, len_list, len_list (repS _ _), repS_one, repS_one, List.length_replicate, List.length_replicate]
        show _ + 1 + _ ≤ _
        omega
      · rw [List.length_map]
        refine sz_lt ?_
        simp [wordsOf]
        omega
      · refine ⟨s5.loc c5 hD0 _, S5.write off _, ?_⟩
        have e : ((wordsOf f p (1 + z) m' q i).map V.str) ++ [V.str (repS ⟨#[f]⟩ (p : Int).toNat ++ (⟨#[sg ((q + i) % m')]⟩ : Str) ++ repS ⟨#[f]⟩ (1 + (z : Int) - p - 1).toNat)] = ((wordsOf f p (1 + z) m' q (i + 1)).map V.str) := by
          unfold wordsOf
          rw [List.range_succ, List.map_append, List.map_append]
          congr 2
          simp only [List.map_cons, List.map_nil]
          congr 2
          refine str_ext ?_
          rw [app_list, app_list, repS_one, repS_one]
          show _ = wordL f p (1 + z) (sg ((q + i) % m'))
          unfold wordL
          have e1 : (1 + (z : Int) - p - 1).toNat = 1 + z - p - 1 := by omega
          rw [e1, List.append_assoc]
          rfl
        rw [e]
        exact c5.set _
    · rintro H' ⟨s5, S5, c5⟩
      exact k (.ref D) _ (upd G D (.lst ((wordsOf f p (1 + z) m' q n).map V.str))) H' (s5.freeze c5 hD0) (S5.frz off _) ⟨D, rfl, upd_same⟩ (words_ok hf (by omega) (by omega) hm' hn)
end
end OA

/-! ### is_name, split_words, all_names, is_path: the code -/
namespace OA
open PySem PySem.Spec PyProof.Rows L2
def letL : List Nat := (List.range 26).map fun i => 97 + i
def sgnL : List Nat := (List.range 36).map sg
def isNameB (z : Str) : Bool := decide (1 ≤ z.length) && decide (z.length ≤ 12) && (match z.cps.toList with | c :: _ => decide (c ∈ letL) | [] => false) && z.cps.toList.all fun c => decide (c ∈ sgnL)
def spc : Str := Str.ofString " "
def dotS : Str := Str.ofString "."
def nlS : Str := Str.ofString "\n"
def splitW (z : Str) : List Str := if Str.ofString "" ∈ Txt.split z spc then [] else Txt.split z spc
theorem let_list : (Str.ofString "abcdefghijklmnopqrstuvwxyz").cps.toList = letL := by decide +kernel
theorem sgn_list : (Str.ofString "abcdefghijklmnopqrstuvwxyz0123456789").cps.toList = sgnL := by decide +kernel
def spIsName : Sp := fun vs H Q _ => ∃ z : Str, vs = [.str z] ∧ z.length ≤ 1000 ∧ ∀ H', Same H H' → Q (.bl (isNameB z)) H'
def spSplitW : Sp := fun vs H Q _ => ∃ z : Str, vs = [.str z] ∧ z.length ≤ 100000 ∧ ∀ (p : Addr) (H' : Hp), Same H H' → H p = none → H' p = some (.lst ((splitW z).map V.str)) → Q (.ref p) H'
def spAllN : Sp := fun vs H Q _ => ∃ (a : Addr) (ws : List Str), vs = [.ref a] ∧ H a = some (.lst (ws.map V.str)) ∧ ws.length ≤ 10000 ∧ (∀ x ∈ ws, x.length ≤ 1000) ∧ ∀ H', Same H H' → Q (.bl (ws.all isNameB)) H'
def spIsPath : Sp := fun vs H Q _ => ∃ (z : Str) (n : Nat), vs = [.str z, .int n] ∧ z.length ≤ 1000 ∧ (Txt.split z dotS).length ≤ 10000 ∧ (∀ x ∈ Txt.split z dotS, x.length ≤ 1000) ∧ ∀ H', Same H H' → Q (.bl (decide (n ≤ (Txt.split z dotS).length) && (Txt.split z dotS).all isNameB)) H'
theorem in_eqS (c : Str) (xs : List Str) : (if false = true then !inV (.str c) (xs.map V.str) else inV (.str c) (xs.map V.str)) = decide (c ∈ xs) := by
  rw [if_neg Bool.false_ne_true, inV_str]
theorem notin_eqS (c : Str) (xs : List Str) : (if true = true then !inV (.str c) (xs.map V.str) else inV (.str c) (xs.map V.str)) = !decide (c ∈ xs) := by
  rw [if_pos rfl, inV_str]
def nmV : V → V
  | .str x => .bl (isNameB x)
  | v => v
theorem map_nmV : ∀ xs : List Str, (xs.map V.str).map nmV = (xs.map isNameB).map V.bl
  | [] => rfl
  | x :: xs => by rw [List.map_cons, List.map_cons, List.map_cons, List.map_cons, map_nmV xs]; rfl
section
variable {P : Program} {w : World} {K : PySem.W.Frag} {mg : Str → Option Value} {base : Heap}
theorem sc_is_name : FnScope ["word", "sign"] ["word"] (defScope (topS 11)) := ⟨rfl, rfl, rfl, by decide +kernel, rfl, by decide +kernel, by decide +kernel⟩
set_option maxHeartbeats 8000000 in
theorem ok_is_name {f : Addr} {fd : FuncData} (F : Fun K "is_name" "is_name" (topS 11) f fd) (T : Txt K mg) : FnOk P w K mg base CX0 1 f fd ["word"] spIsName := by
  refine F.ok sc_is_name (fun vs H Q E h => ?_) (fun cdv A outer s H vs Q E hr h => ?_)
  · obtain ⟨z, rfl, _⟩ := h
    rfl
  · obtain ⟨z, rfl, hz, k⟩ := h
    refine ⟨_, (pss_cons (ps_if (PW.pt (pw_or (pt_not (pt_chain o_le o_le pe_int (pe_callB c_lenS (by rfl) T.n_len (by decide +kernel) (pa_cons (pv 0) pa_nil)) (pe_gint T.c_LONGEST_NAME))) (pw_or1 (pt_cmpR o_notinsign (pe_ix ix_str (pv 0) pe_int (fun _ _ => rfl)) (pe_gstr T.c_LETTERS) (by rfl))))) (pss_one (ps_ret pe_bl)) pss_nil)
      (pss_one (ps_ret (pe_callB (c_all K) (by rfl) T.n_all (by decide +kernel) (pa_cons (pe_lc (own := [("sign", 1)]) (by rfl) sc_is_name.nd (pi_str (pv 0)) (blkOk_by (own := [("sign", 1)]) (N := ["word", "sign"]) (sc := defScope (topS 11)) (by decide +kernel)) (fun _ _ _ _ _ => (pg_name (i := 1) sc_is_name.nd rfl (Or.inl rfl))) (fun _ _ _ _ _ => pts_nil) (fun _ _ _ _ _ => (pe_cmpR o_insign (pv 1) (pe_gstr T.c_SIGNS) (by rfl)))) pa_nil))))), ?_⟩
    have hs : z.length ≤ sizeLine := sz_le (by omega)
    have no : isNameB z = false → Q (.bl false) H := fun e => by
      have := k H (Same.refl H)
      rw [e] at this
      exact this
    refine ⟨_, rfl, z, rfl, hs, _, _, rfl, rfl, _, rfl, ?_⟩
    refine ite2 (fun h1 => ?_) (fun h1 => ?_)
    · have h1' : 1 ≤ z.length := by have := of_decide_eq_true h1; omega
      refine ⟨_, _, rfl, rfl, _, rfl, ?_⟩
      by_cases h2 : z.length ≤ 12
      · have e2 : decide ((z.length : Int) ≤ 12) = true := decide_eq_true (by omega)
        rw [e2]
        refine iteF ?_
        obtain ⟨c, r, e1⟩ : ∃ c r, z.cps.toList = c :: r := by
          cases e : z.cps.toList with
          | nil => rw [len_list, e] at h1'; simp at h1'
          | cons c r => exact ⟨c, r, rfl⟩
        refine ⟨_, rfl, z, 0, c, rfl, rfl, hs, (by rw [e1]; exact atI_nat (j := 0) rfl), c, _, rfl, rfl, _, rfl, ?_⟩
        rw [let_list]
        refine ite2 (fun h3 => ?_) (fun h3 => ?_)
        · refine no ?_
          have h3' : decide (c ∈ letL) = false := by simpa using h3
          unfold isNameB
          rw [e1]
          show (_ && _ && decide (c ∈ letL) && _) = false
          rw [h3']
          simp
        · have h3' : decide (c ∈ letL) = true := by simpa using h3
          refine ⟨_, rfl, z, rfl, fun D hD => ?_⟩
          refine lc_it walk_str (fun i H' => Same H H' ∧ H' D = some (.lst (((z.cps.toList.take i).map fun c => decide (c ∈ sgnL)).map V.bl))) ?_ ?_ ?_ ?_
          · exact ⟨same_loc (Same.refl H) hD _, upd_same⟩
          · intro _ _ _ _
            trivial
          · rintro i x H1 H2 hi ⟨s1, g1⟩ ⟨rfl, c, hc, rfl⟩
            have hc' : z.cps.toList[i]? = some c := by rw [Array.getElem?_toList]; exact hc
            refine ⟨rfl, yes_of ?_⟩
            refine ⟨_, rfl, c, _, rfl, rfl, _, g1, sz_lt ?_, same_loc s1 hD _, ?_⟩
            · rw [List.length_map, List.length_map, List.length_take]
              rw [len_list] at hz
              omega
            · rw [take_more hc', List.map_append, List.map_append, sgn_list]
              exact upd_same
          · rintro H1 ⟨s1, g1⟩
            refine ⟨D, (z.cps.toList.map fun c => decide (c ∈ sgnL)), rfl, SqL.of ?_, ?_⟩
            · rw [g1]
              have e : z.cps.toList.take z.cps.size = z.cps.toList := by
                rw [List.take_of_length_le]
                simp
              rw [e]
            · have e : isNameB z = (z.cps.toList.map fun c => decide (c ∈ sgnL)).all id := by
                unfold isNameB
                rw [decide_eq_true h1', decide_eq_true h2, List.all_map]
                rw [e1]
                show (true && true && decide (c ∈ letL) && _) = _
                rw [h3']
                rfl
              rw [← e]
              exact k H1 s1
      · have e2 : decide ((z.length : Int) ≤ 12) = false := decide_eq_false (by omega)
        rw [e2]
        refine iteT ?_
        refine no ?_
        unfold isNameB
        rw [decide_eq_false h2]
        simp
    · have h1' : ¬ 1 ≤ z.length := fun q => h1 (decide_eq_true (by omega))
      refine ⟨_, rfl, ?_⟩
      refine iteT ?_
      refine no ?_
      unfold isNameB
      rw [decide_eq_false h1']
      rfl
theorem sc_split_words : FnScope ["line", "words"] ["line"] (defScope (topS 12)) := ⟨rfl, rfl, rfl, by decide +kernel, rfl, by decide +kernel, by decide +kernel⟩
theorem ok_split_words {f : Addr} {fd : FuncData} (F : Fun K "split_words" "split_words" (topS 12) f fd) (T : Txt K mg) : FnOk P w K mg base CX0 1 f fd ["line"] spSplitW := by
  refine F.ok sc_split_words (fun vs H Q E h => ?_) (fun cdv A outer s H vs Q E hr h => ?_)
  · obtain ⟨z, rfl, _⟩ := h
    rfl
  · obtain ⟨z, rfl, hz, k⟩ := h
    refine ⟨_, (pss_cons (ps_set (i := 1) sc_split_words.nd rfl (Or.inl rfl) (pe_split (pv 0) pe_str))
      (pss_cons (ps_if (pt_cmpR (o_in K) pe_str (pv 1) (by rfl)) (pss_one (ps_ret (pe_lst pa_nil))) pss_nil)
      (pss_one (ps_ret (pv 1))))), ?_⟩
    refine ⟨_, rfl, ⟨_, rfl⟩, _, _, rfl, rfl, by decide +kernel, sz_le (by omega), fun p np => ?_⟩
    have t1 : Same H (upd H p (.lst ((Txt.split z spc).map V.str))) := same_loc (Same.refl H) np _
    have hp : (upd H p (.lst ((Txt.split z spc).map V.str))) p = some (.lst ((Txt.split z spc).map V.str)) := upd_same
    have eH : upd H p (.lst ((Txt.split z (Str.ofString " ")).map V.str)) = upd H p (.lst ((Txt.split z spc).map V.str)) := rfl
    rw [eH]
    generalize upd H p (.lst ((Txt.split z spc).map V.str)) = H1 at t1 hp
    refine ⟨_, rfl, p, _, rfl, .inl (SqL.of hp), rfl, flat_strs _, _, rfl, ?_⟩
    rw [in_eqS]
    refine ite2 (fun h1 => ?_) (fun h1 => ?_)
    · refine ⟨by decide, fun q nq => ?_⟩
      refine k q _ (t1.trans (same_loc (Same.refl H1) nq _)) (t1.free nq) ?_
      unfold splitW
      rw [if_pos (of_decide_eq_true h1)]
      exact upd_same
    · refine ⟨_, rfl, ?_⟩
      refine k p H1 t1 np ?_
      unfold splitW
      rw [if_neg (fun z => h1 (decide_eq_true z))]
      exact hp
theorem sc_all_names : FnScope ["words", "word"] ["words"] (defScope (topS 13)) := ⟨rfl, rfl, rfl, by decide +kernel, rfl, by decide +kernel, by decide +kernel⟩
theorem ok_all_names {f : Addr} {fd : FuncData} (F : Fun K "all_names" "all_names" (topS 13) f fd) (T : Txt K mg) (c_is_name : Callee P w K mg base "is_name" ["word"] spIsName 1) : FnOk P w K mg base CX0 2 f fd ["words"] spAllN := by
  refine F.ok sc_all_names (fun vs H Q E h => ?_) (fun cdv A outer s H vs Q E hr h => ?_)
  · obtain ⟨a, ws, rfl, _⟩ := h
    rfl
  · obtain ⟨a, ws, rfl, ha, n1, n2, k⟩ := h
    refine ⟨_, (pss_one (ps_ret (pe_callB (c_all K) (by rfl) T.n_all (by decide +kernel) (pa_cons (pe_lc (own := [("word", 1)]) (by rfl) sc_all_names.nd (i_list K (pv 0)) (blkOk_by (own := [("word", 1)]) (N := ["words", "word"]) (sc := defScope (topS 13)) (by decide +kernel)) (fun _ _ _ _ _ => (pg_name (i := 1) sc_all_names.nd rfl (Or.inl rfl))) (fun _ _ _ _ _ => pts_nil) (fun _ _ _ _ _ => (pe_co c_is_name hr (by decide) (by rfl) (pa_cons (pv 1) pa_nil)))) pa_nil)))), ?_⟩
    refine at_ret (at_cb (at_cons (lc_mp (a := a) (xs := ws.map V.str) nmV (fun R r => ⟨_, rfl, r⟩) ha (by rw [List.length_map]; omega) (fun z hz H1 t1 R r => ?_) fun D H1 t1 nD hD => ?_)))
    · obtain ⟨z', hz', rfl⟩ := List.mem_map.mp hz
      exact ⟨_, rfl, z', rfl, n2 z' hz', fun H2 t2 => r H2 t2⟩
    · rw [map_nmV] at hD
      refine ⟨D, _, rfl, SqL.of hD, ?_⟩
      have e : ws.all isNameB = (ws.map isNameB).all id := by rw [List.all_map]; rfl
      rw [← e]
      exact k H1 t1
theorem sc_is_path : FnScope ["word", "least", "names"] ["word", "least"] (defScope (topS 14)) := ⟨rfl, rfl, rfl, by decide +kernel, rfl, by decide +kernel, by decide +kernel⟩
theorem ok_is_path {f : Addr} {fd : FuncData} (F : Fun K "is_path" "is_path" (topS 14) f fd) (T : Txt K mg) (c_all_names : Callee P w K mg base "all_names" ["words"] spAllN 2) : FnOk P w K mg base CX0 3 f fd ["word", "least"] spIsPath := by
  refine F.ok sc_is_path (fun vs H Q E h => ?_) (fun cdv A outer s H vs Q E hr h => ?_)
  · obtain ⟨z, n, rfl, _⟩ := h
    rfl
  · obtain ⟨z, n, rfl, hz, n1, n2, k⟩ := h
    refine ⟨_, (pss_cons (ps_set (i := 2) sc_is_path.nd rfl (Or.inl rfl) (pe_split (pv 0) pe_str))
      (pss_one (ps_ret (pe_and (pe_cmpR o_ge (pe_callB (c_len K) (by rfl) T.n_len (by decide +kernel) (pa_cons (pv 2) pa_nil)) (pv 1) (nomark _)) (pe_one (pe_co c_all_names hr (by decide) (by rfl) (pa_cons (pv 2) pa_nil))))))), ?_⟩
    refine ⟨_, rfl, ⟨_, rfl⟩, _, _, rfl, rfl, by decide +kernel, sz_le (by omega), fun p np => ?_⟩
    have t1 : Same H (upd H p (.lst ((Txt.split z dotS).map V.str))) := same_loc (Same.refl H) np _
    have hp : (upd H p (.lst ((Txt.split z dotS).map V.str))) p = some (.lst ((Txt.split z dotS).map V.str)) := upd_same
    have eH : upd H p (.lst ((Txt.split z (Str.ofString ".")).map V.str)) = upd H p (.lst ((Txt.split z dotS).map V.str)) := rfl
    rw [eH]
    generalize upd H p (.lst ((Txt.split z dotS).map V.str)) = H1 at t1 hp
    refine ⟨_, rfl, p, _, rfl, .inl (SqL.of hp), _, rfl, _, _, rfl, rfl, _, rfl, ?_⟩
    have e : decide ((n : Int) ≤ (((Txt.split z dotS).map V.str).length : Int)) = decide (n ≤ (Txt.split z dotS).length) := by
      rw [List.length_map]
      exact decide_eq_decide.mpr (by omega)
    rw [e]
    refine ite2 (fun h1 => ?_) (fun h1 => ?_)
    · refine ⟨_, rfl, p, _, rfl, hp, n1, n2, fun H2 t2 => ?_⟩
      have := k H2 (t1.trans t2)
      rw [h1, Bool.true_and] at this
      exact this
    · have h1' : decide (n ≤ (Txt.split z dotS).length) = false := by simpa using h1
      have := k H1 t1
      rw [h1', Bool.false_and] at this
      exact this
end
end OA

/-! ### schemas: plain data and how they stand in the heap -/
namespace OA
open PySem PySem.Spec PyProof.Rows L2
structure Tab where
  name : Str
  par : Option Str
  cols : List Str
structure Sch where
  tabs : List Tab
  owns : List (Str × Str)
  fols : List ((Str × Str) × Str)
def tabOf (ts : List Tab) (n : Str) : Option Tab := ts.find? fun t => decide (t.name = n)
inductive ChainOf (ts : List Tab) : Str → List Str → Prop
  | root {n : Str} {t : Tab} : tabOf ts n = some t → t.par = none → ChainOf ts n [n]
  | up {n p : Str} {t : Tab} {cs : List Str} : tabOf ts n = some t → t.par = some p → ChainOf ts p cs → ChainOf ts n (n :: cs)
/-- a position, name by name -/
inductive PosOk (ts : List Tab) : Str → List Str → Prop
  | last {n c : Str} {t : Tab} : tabOf ts n = some t → c ∈ t.cols → PosOk ts n [c]
  | up {n p : Str} {t : Tab} {r : List Str} : tabOf ts n = some t → t.par = some p → r ≠ [] → PosOk ts p r → PosOk ts n (p :: r)
def optV : Option Str → V
  | none => .non
  | some x => .str x
abbrev kn (n : Str) : Key := Sum.inr n
def parKV (ts : List Tab) : List (Key × V) := ts.map fun t => (kn t.name, optV t.par)
def colKV : List Tab → List Addr → List (Key × V)
  | t :: ts, a :: as => (kn t.name, .ref a) :: colKV ts as
  | _, _ => []
def ownKV (os : List (Str × Str)) : List (Key × V) := os.map fun o => (kn o.1, V.str o.2)
def folKV (fs : List ((Str × Str) × Str)) : List (List Key × V) := fs.map fun f => ([kn f.1.1, kn f.1.2], V.str f.2)
abbrev LC (H : Hp) (as : List Addr) (ts : List Tab) : Prop := Paired (fun a t => H a = some (.lst (t.cols.map V.str))) as ts
theorem kn_inj {a b : Str} : kn a = kn b ↔ a = b := ⟨fun h => Sum.inr.inj h, fun h => by rw [h]⟩
theorem valV_par (n : Str) : ∀ ts : List Tab, valV (parKV ts) (kn n) = (tabOf ts n).map fun t => optV t.par
  | [] => rfl
  | t :: ts => by
    unfold parKV tabOf
    rw [List.map_cons, List.find?_cons]
    by_cases h : t.name = n
    · rw [valV_pos (p := (kn t.name, optV t.par)) (by rw [h]), decide_eq_true h]
      rfl
    · rw [valV_neg (p := (kn t.name, optV t.par)) (fun z => h (kn_inj.mp z)), decide_eq_false h]
      exact valV_par n ts
theorem valV_col {H : Hp} (n : Str) : ∀ {as : List Addr} {ts : List Tab}, LC H as ts → (tabOf ts n = none ∧ valV (colKV ts as) (kn n) = none) ∨ ∃ t a, tabOf ts n = some t ∧ valV (colKV ts as) (kn n) = some (.ref a) ∧ H a = some (.lst (t.cols.map V.str))
  | _, _, .nil => .inl ⟨rfl, rfl⟩
  | a :: as, t :: ts, .cons h r => by
    unfold colKV tabOf
    rw [List.find?_cons]
    by_cases e : t.name = n
    · right
      refine ⟨t, a, ?_, valV_pos (p := (kn t.name, V.ref a)) (by rw [e]), h⟩
      rw [decide_eq_true e]
    · rw [valV_neg (p := (kn t.name, V.ref a)) (fun z => e (kn_inj.mp z)), decide_eq_false e]
      exact valV_col n r
theorem valV_own (n : Str) : ∀ os : List (Str × Str), valV (ownKV os) (kn n) = (os.find? fun o => decide (o.1 = n)).map fun o => V.str o.2
  | [] => rfl
  | o :: os => by
    unfold ownKV
    rw [List.map_cons, List.find?_cons]
    by_cases h : o.1 = n
    · rw [valV_pos (p := (kn o.1, V.str o.2)) (by rw [h]), decide_eq_true h]
      rfl
    · rw [valV_neg (p := (kn o.1, V.str o.2)) (fun z => h (kn_inj.mp z)), decide_eq_false h]
      exact valV_own n os
theorem valV_fol (t c : Str) : ∀ fs : List ((Str × Str) × Str), valV (folKV fs) [kn t, kn c] = (fs.find? fun f => decide (f.1 = (t, c))).map fun f => V.str f.2
  | [] => rfl
  | f :: fs => by
    unfold folKV
    rw [List.map_cons, List.find?_cons]
    by_cases h : f.1 = (t, c)
    · rw [valV_pos (p := ([kn f.1.1, kn f.1.2], V.str f.2)) (by rw [h]), decide_eq_true h]
      rfl
    · rw [valV_neg (p := ([kn f.1.1, kn f.1.2], V.str f.2)) (fun z => h ?_), decide_eq_false h]
      · exact valV_fol t c fs
      · obtain ⟨⟨a, b⟩, u⟩ := f
        have z : [kn a, kn b] = [kn t, kn c] := z
        injection z with z1 z2
        injection z2 with z2 _
        rw [kn_inj.mp z1, kn_inj.mp z2]
theorem colKV_snoc {t : Tab} {a : Addr} : ∀ {ts : List Tab} {as : List Addr}, ts.length = as.length → colKV (ts ++ [t]) (as ++ [a]) = colKV ts as ++ [(kn t.name, V.ref a)]
  | [], [], _ => rfl
  | [], _ :: _, h => by cases h
  | _ :: _, [], h => by cases h
  | x :: ts, y :: as, h => by
    show (kn x.name, V.ref y) :: colKV (ts ++ [t]) (as ++ [a]) = (kn x.name, V.ref y) :: (colKV ts as ++ _)
    rw [colKV_snoc (by simpa using h)]
theorem colKV_len : ∀ {ts : List Tab} {as : List Addr}, ts.length = as.length → (colKV ts as).length = ts.length
  | [], [], _ => rfl
  | [], _ :: _, h => by cases h
  | _ :: _, [], h => by cases h
  | _ :: ts, _ :: as, h => by
    show (colKV ts as).length + 1 = ts.length + 1
    rw [colKV_len (by simpa using h)]
theorem putN {κ : Type} [DecidableEq κ] {kvs : List (κ × V)} {k : κ} {v : V} (h : valV kvs k = none) : putK kvs k v = kvs ++ [(k, v)] := by
  unfold putK
  rw [valV_any, h]
  rfl
/-- the fields of a schema -/
def sflds (txt : Str) (cl pr ow fo : Addr) : List (Str × V) := putF "following" (.ref fo) (putF "owners" (.ref ow) (putF "parents" (.ref pr) (putF "column_lists" (.ref cl) (putF "text" (.str txt) []))))
section
variable (txt : Str) (cl pr ow fo : Addr)
theorem sf_col : (sflds txt cl pr ow fo).lookup ("column_lists" : Str) = some (.ref cl) := by
  unfold sflds
  rw [lookup_putF, if_neg (by decide +kernel), lookup_putF, if_neg (by decide +kernel), lookup_putF, if_neg (by decide +kernel), lookup_putF, if_pos rfl]
theorem sf_par : (sflds txt cl pr ow fo).lookup ("parents" : Str) = some (.ref pr) := by
  unfold sflds
  rw [lookup_putF, if_neg (by decide +kernel), lookup_putF, if_neg (by decide +kernel), lookup_putF, if_pos rfl]
theorem sf_own : (sflds txt cl pr ow fo).lookup ("owners" : Str) = some (.ref ow) := by
  unfold sflds
  rw [lookup_putF, if_neg (by decide +kernel), lookup_putF, if_pos rfl]
theorem sf_fol : (sflds txt cl pr ow fo).lookup ("following" : Str) = some (.ref fo) := by
  unfold sflds
  rw [lookup_putF, if_pos rfl]
theorem sf_txt : (sflds txt cl pr ow fo).lookup ("text" : Str) = some (.str txt) := by
  unfold sflds
  rw [lookup_putF, if_neg (by decide +kernel), lookup_putF, if_neg (by decide +kernel), lookup_putF, if_neg (by decide +kernel), lookup_putF, if_neg (by decide +kernel), lookup_putF, if_pos rfl]
theorem sf_no {m : Str} (h1 : ¬ m = "following") (h2 : ¬ m = "owners") (h3 : ¬ m = "parents") (h4 : ¬ m = "column_lists") (h5 : ¬ m = "text") : (sflds txt cl pr ow fo).lookup m = none := by
  unfold sflds
  rw [lookup_putF, if_neg h1, lookup_putF, if_neg h2, lookup_putF, if_neg h3, lookup_putF, if_neg h4, lookup_putF, if_neg h5]
  rfl
end
/-- what the top has left of the class -/
structure STxt (K : PySem.W.Frag) (mg : Str → Option Value) (C : Addr) : Prop where
  cl : Cls K C
  n_text : NoAttr K C "text"
  n_col : NoAttr K C "column_lists"
  n_par : NoAttr K C "parents"
  n_own : NoAttr K C "owners"
  n_fol : NoAttr K C "following"
  g : mg "Schema" = some (.ref C)
  cv : ∃ mc t1 t2 t3, ClX.CRead K C mc ∧ ClX.CVal K C mc "MOST_TABLES" (.int 6) (.int 6 t1) ∧ ClX.CVal K C mc "MOST_COLUMNS" (.int 4) (.int 4 t2) ∧ ClX.CVal K C mc "LONGEST_CHAIN" (.int 4) (.int 4 t3)
/-- the schema s stands at x -/
structure SchX (C : Addr) (H : Hp) (x : Addr) (txt : Str) (cl pr ow fo : Addr) (as : List Addr) (s : Sch) : Prop where
  obj : ∃ dx, H x = some (.ins C dx (sflds txt cl pr ow fo))
  col : H cl = some (.dK (colKV s.tabs as))
  lst : LC H as s.tabs
  par : H pr = some (.dK (parKV s.tabs))
  own : H ow = some (.dK (ownKV s.owns))
  fol : H fo = some (.dT (folKV s.fols))
  ne1 : cl ≠ pr
  ne2 : cl ≠ ow
  ne3 : pr ≠ ow
theorem SchX.mono {C : Addr} {H H' : Hp} {x : Addr} {txt : Str} {cl pr ow fo : Addr} {as : List Addr} {s : Sch} (t : Same H H') (h : SchX C H x txt cl pr ow fo as s) : SchX C H' x txt cl pr ow fo as s := by
  obtain ⟨dx, h1⟩ := h.obj
  exact ⟨⟨dx, t _ _ h1⟩, t _ _ h.col, Paired.mapP h.lst fun a b e => t _ _ e, t _ _ h.par, t _ _ h.own, t _ _ h.fol, h.ne1, h.ne2, h.ne3⟩
theorem ne_kind {H : Hp} {a b : Addr} {o u : HO} (h1 : H a = some o) (h2 : H b = some u) (h : o ≠ u) : a ≠ b := fun e => by
  rw [e, h2] at h1
  exact h (Option.some.inj h1).symm
/-- what changes while lines are read -/
def Rest (cl pr ow fo : Addr) (H H' : Hp) : Prop := ∀ b o, H b = some o → b ≠ cl → b ≠ pr → b ≠ ow → b ≠ fo → H' b = some o
theorem Rest.trans {cl pr ow fo : Addr} {H H1 H2 : Hp} (a : Rest cl pr ow fo H H1) (b : Rest cl pr ow fo H1 H2) : Rest cl pr ow fo H H2 := fun c o e h1 h2 h3 h4 => b c o (a c o e h1 h2 h3 h4) h1 h2 h3 h4
theorem Same.rest {cl pr ow fo : Addr} {H H' : Hp} (a : Same H H') : Rest cl pr ow fo H H' := fun c o e _ _ _ _ => a c o e
/-- a line that can be read -/
inductive ValidLine (s : Sch) : List Str → Sch → Prop
  | root {t : Str} {cols : List Str} : cols ≠ [] → (t :: cols).all isNameB = true → tabOf s.tabs t = none → cols.Nodup → cols.length ≤ 4 → s.tabs.length < 6 → ValidLine s (Str.ofString "root" :: t :: cols) { s with tabs := s.tabs ++ [⟨t, none, cols⟩] }
  | table {t p : Str} {cols cs : List Str} : cols ≠ [] → (t :: p :: cols).all isNameB = true → tabOf s.tabs t = none → ChainOf s.tabs p cs → cs.length < 4 → cols.Nodup → cols.length ≤ 4 → s.tabs.length < 6 → ValidLine s (Str.ofString "table" :: t :: p :: cols) { s with tabs := s.tabs ++ [⟨t, some p, cols⟩] }
  | owner {t z : Str} : isNameB t = true → (Txt.split z dotS).all isNameB = true → z.length ≤ 1000 → (Txt.split z dotS).length ≤ 100 → (∀ q ∈ Txt.split z dotS, q.length ≤ 1000) → (tabOf s.tabs t).isSome = true → (s.owns.find? fun o => decide (o.1 = t)) = none → PosOk s.tabs t (Txt.split z dotS) → ValidLine s [Str.ofString "owner", t, z] { s with owns := s.owns ++ [(t, z)] }
  | follow {t c u p : Str} {tb tp : Tab} : isNameB t = true → isNameB c = true → isNameB u = true → tabOf s.tabs t = some tb → c ∈ tb.cols → (s.fols.find? fun f => decide (f.1 = (t, c))) = none → tb.par = some p → tabOf s.tabs p = some tp → u ∈ tp.cols → ValidLine s [Str.ofString "follow", t, c, u] { s with fols := s.fols ++ [((t, c), u)] }
inductive ReadsL : Sch → List (List Str) → Sch → Prop
  | nil {s : Sch} : ReadsL s [] s
  | cons {s s1 s2 : Sch} {ws : List Str} {r : List (List Str)} : ValidLine s ws s1 → ReadsL s1 r s2 → ReadsL s (ws :: r) s2
end OA

/-! ### check_table, chain_of, check_position: the code, where nothing is raised -/
namespace OA
open PySem PySem.Spec PyProof.Rows L2
def spChkT (C : Addr) : Sp := fun vs H Q _ => ∃ (x : Addr) (t : Str) (v : V) (txt : Str) (cl pr ow fo : Addr) (as : List Addr) (s : Sch), vs = [.ref x, .str t, v] ∧ SchX C H x txt cl pr ow fo as s ∧ (tabOf s.tabs t).isSome = true ∧ Q .non H
def spChain (C : Addr) : Sp := fun vs H Q _ => ∃ (x : Addr) (t : Str) (txt : Str) (cl pr ow fo : Addr) (as : List Addr) (s : Sch) (cs : List Str), vs = [.ref x, .str t] ∧ SchX C H x txt cl pr ow fo as s ∧ ChainOf s.tabs t cs ∧ cs.length ≤ 1000 ∧
  ∀ (p : Addr) (H' : Hp), Same H H' → H p = none → H' p = some (.lst (cs.map V.str)) → Q (.ref p) H'
def spChkPos (C : Addr) : Sp := fun vs H Q _ => ∃ (x : Addr) (v : V) (t : Str) (a : Addr) (txt : Str) (cl pr ow fo : Addr) (as : List Addr) (s : Sch) (ns : List Str), vs = [.ref x, v, .str t, .ref a] ∧ SchX C H x txt cl pr ow fo as s ∧ H a = some (.lst (ns.map V.str)) ∧ PosOk s.tabs t ns ∧ ∀ H', Same H H' → Q .non H'
section
variable {P : Program} {w : World} {K : PySem.W.Frag} {mg : Str → Option Value} {base : Heap}
theorem sc_Schema_check_table : FnScope ["self", "table", "line"] ["self", "table", "line"] (defScope (inClass (topS 16) 7)) := ⟨rfl, rfl, rfl, by decide +kernel, rfl, by decide +kernel, by decide +kernel⟩
theorem ok_check_table {f C : Addr} {fd : FuncData} (F : FunD K "check_table" "Schema.check_table" (defArgs (inClass (topS 16) 7)) (defBody (inClass (topS 16) 7)) (defScope (inClass (topS 16) 7)) [.int 0] [] f fd) (T : Txt K mg) (TS : STxt K mg C) : FnOk P w K mg base CX0 1 f fd ["self", "table", "line"] (spChkT C) := by
  refine F.ok sc_Schema_check_table (fun vs H Q E h => ?_) (fun cdv A outer s H vs Q E hr h => ?_)
  · obtain ⟨x, t, v, txt, cl, pr, ow, fo, as, sc, rfl, _⟩ := h
    rfl
  · obtain ⟨x, t, v, txt, cl, pr, ow, fo, as, sc, rfl, X, ht, k⟩ := h
    refine ⟨_, (pss_one (ps_if (pt_cmp (pc_dnotin (hu_of hr) (pv 1) (e_fld K (pv 0) rfl))) (pss_one ps_never) pss_nil)), ?_⟩
    obtain ⟨dx, hx⟩ := X.obj
    rcases valV_col t X.lst with ⟨e, _⟩ | ⟨tb, a, e, e2, _⟩
    · rw [e] at ht
      cases ht
    · refine ⟨_, rfl, _, rfl, x, C, dx, _, _, rfl, hx, TS.cl, TS.n_col, sf_col txt cl pr ow fo, cl, _, rfl, DGet.k (k := kn t) X.col, _, rfl, ?_⟩
      rw [e2]
      refine iteF ?_
      exact k
theorem sc_Schema_chain_of : FnScope ["self", "table", "found"] ["self", "table"] (defScope (inClass (topS 16) 10)) := ⟨rfl, rfl, rfl, by decide +kernel, rfl, by decide +kernel, by decide +kernel⟩
set_option maxHeartbeats 8000000 in
theorem ok_chain_of {f C : Addr} {fd : FuncData} (F : Fun K "chain_of" "Schema.chain_of" (inClass (topS 16) 10) f fd) (T : Txt K mg) (TS : STxt K mg C) (c_Schema_check_table_1 : MethodD P w K mg base C "check_table" ["self", "table", "line"] (spChkT C) 1 [.int 0]) : FnOk P w K mg base CX0 2 f fd ["self", "table"] (spChain C) := by
  refine F.ok sc_Schema_chain_of (fun vs H Q E h => ?_) (fun cdv A outer s H vs Q E hr h => ?_)
  · obtain ⟨x, t, txt, cl, pr, ow, fo, as, sc, cs, rfl, _⟩ := h
    rfl
  · obtain ⟨x, t, txt, cl, pr, ow, fo, as, sc, cs, rfl, X, hc, hl, k⟩ := h
    refine ⟨_, (pss_cons (ps_expr (pe_moD c_Schema_check_table_1 hr (by decide) (pv 0) (pa_cons (pv 1) pa_nil)))
      (pss_cons (ps_set (i := 2) sc_Schema_chain_of.nd rfl (Or.inl rfl) (pe_lst pa_nil))
      (pss_cons (ps_while PassesOwn.never (pt_cmpR op_notN (pv 1) pe_non (nomark _)) (pss_cons (ps_expr (e_bm K PySem.F.plainAttrs_list PySem.F.slot_list_append PySem.F.type_list_append mt_append (pv 2) (pa_cons (pv 1) pa_nil)))
      (pss_one (ps_set (i := 1) sc_Schema_chain_of.nd rfl (Or.inl rfl) (pe_dget (hu_of hr) (e_fld K (pv 0) rfl) (pv 1) (fun _ _ => rfl))))))
      (pss_one (ps_ret (pv 2)))))), ?_⟩
    obtain ⟨dx, hx⟩ := X.obj
    have nom : (sflds txt cl pr ow fo).lookup ("check_table" : Str) = none := sf_no txt cl pr ow fo (by decide +kernel) (by decide +kernel) (by decide +kernel) (by decide +kernel) (by decide +kernel)
    have htab : (tabOf sc.tabs t).isSome = true := by
      cases hc with
      | root h1 _ => rw [h1]; rfl
      | up h1 _ _ => rw [h1]; rfl
    refine ⟨_, rfl, x, dx, _, rfl, hx, nom, _, rfl, x, t, _, txt, cl, pr, ow, fo, as, sc, rfl, X, htab, ?_⟩
    refine ⟨by decide, fun Fd hF => ?_⟩
    have t1 : Same H (upd H Fd (.lst [])) := same_loc (Same.refl H) hF _
    refine while_by (fun σ H' => ∃ (o : Option Str) (done rest : List Str), σ = [some (.ref x), some (optV o), some (.ref Fd)] ∧ Same H H' ∧ H' Fd = some (.lst (done.map V.str)) ∧ done ++ rest = cs ∧ (match o with | none => rest = [] | some n => ChainOf sc.tabs n rest)) (fun σ H' => match σ with | [_, some (.str n), _] => 1001 - (match H' Fd with | some (.lst xs) => xs.length | _ => 0) | _ => 0) ?_ ?_ ?_
    · exact ⟨some t, [], cs, rfl, t1, upd_same, rfl, hc⟩
    · rintro σ H' ⟨o, done, rest, rfl, t2, f2, e, m⟩
      cases o with
      | none =>
        refine ⟨_, rfl, rfl, _, rfl, ?_⟩
        rw [show (!decide (optV none = V.non)) = false from by rw [decide_eq_true (show optV none = V.non from rfl)]; rfl]
        refine iteF ?_
        have m : rest = [] := m
        rw [m, List.append_nil] at e
        refine ⟨_, rfl, ?_⟩
        rw [e] at f2
        exact k Fd H' t2 hF f2
      | some n =>
        have m : ChainOf sc.tabs n rest := m
        refine ⟨_, rfl, rfl, _, rfl, ?_⟩
        rw [show (!decide (optV (some n) = V.non)) = true from by rw [decide_eq_false (show ¬ optV (some n) = V.non from fun z => by cases z)]; rfl]
        refine iteT ?_
        have hdl : done.length < cs.length := by
          rw [← e, List.length_append]
          cases m with
          | root _ _ => show _ < _ + 1; omega
          | up _ _ _ => show _ < _ + (_ + 1); omega
        refine ⟨_, rfl, Or.inl ⟨rfl, _, SqL.of f2⟩, _, rfl, _, _, _, rfl, rfl, f2, sz_lt (by rw [List.length_map]; omega), ?_⟩
        have xF : x ≠ Fd := fun z => by rw [← z, hx] at hF; cases hF
        have prF : pr ≠ Fd := fun z => by rw [← z, X.par] at hF; cases hF
        have t3 : Same H (upd H' Fd (.lst (done.map V.str ++ [V.str n]))) := same_loc t2 hF _
        obtain ⟨tb, htb, o', r', eo, er, m'⟩ : ∃ tb, tabOf sc.tabs n = some tb ∧ ∃ (o' : Option Str) (r' : List Str), tb.par = o' ∧ rest = n :: r' ∧ (match o' with | none => r' = [] | some q => ChainOf sc.tabs q r') := by
          cases m with
          | root h1 h2 => exact ⟨_, h1, none, [], h2, rfl, rfl⟩
          | up h1 h2 h3 => exact ⟨_, h1, some _, _, h2, rfl, h3⟩
        have hv : valV (parKV sc.tabs) (kn n) = some (optV o') := by rw [valV_par, htb]; show some (optV tb.par) = _; rw [eo]
        refine ⟨_, rfl, x, C, dx, _, _, rfl, t3 _ _ hx, TS.cl, TS.n_par, sf_par txt cl pr ow fo, _, rfl, pr, optV o', rfl, ?_, ⟨o', done ++ [n], r', rfl, t3, ?_, ?_, m'⟩, ?_⟩
        · have := DGet.k (k := kn n) (t3 _ _ X.par)
          rw [hv] at this
          exact this
        · rw [upd_same, List.map_append]
          rfl
        · rw [List.append_assoc, ← e, er]
          rfl
        · show _ < 1001 - (match H' Fd with | some (.lst xs) => xs.length | _ => 0)
          rw [f2]
          show _ < 1001 - (done.map V.str).length
          rw [List.length_map]
          cases o' with
          | none => show 0 < _; omega
          | some q =>
            show 1001 - (match (upd H' Fd (.lst (done.map V.str ++ [V.str n]))) Fd with | some (.lst xs) => xs.length | _ => 0) < _
            rw [upd_same]
            show 1001 - (done.map V.str ++ [V.str n]).length < _
            rw [List.length_append, List.length_map]
            show 1001 - (_ + 1) < _
            omega
    · intro σ H' Q Q' hq h
      obtain ⟨v, e1, e2, b, e3, h⟩ := h
      exact ⟨v, e1, e2, b, e3, hq _ _ h⟩
end
end OA

/-! ### check_position, __init__: the code, where nothing is raised -/
namespace OA
open PySem PySem.Spec PyProof.Rows L2
theorem cut_last {α : Type} (f : α → V) (ini : List α) (c : α) : cutV ((ini ++ [c]).map f) none (some (-1)) = ini.map f := by
  unfold cutV
  have e : ((ini ++ [c]).map f).length = ini.length + 1 := by simp
  have e1 : HT.sIx ((ini ++ [c]).map f).length ((ini ++ [c]).map f).length (some (-1)) = ini.length := by rw [e]; simp [HT.sIx]; omega
  have e0 : HT.sIx ((ini ++ [c]).map f).length 0 none = 0 := rfl
  rw [e1, e0]
  simp
theorem at_last {α : Type} (f : α → V) (ini : List α) (c : α) : atI ((ini ++ [c]).map f) (-1) = some (f c) := by
  unfold atI ixN
  rw [if_neg (by decide)]
  have e : ((ini ++ [c]).map f).length = ini.length + 1 := by simp
  rw [e, if_pos (by omega)]
  show ((ini ++ [c]).map f)[((-1 : Int) + ((ini.length + 1 : Nat) : Int)).toNat]? = _
  have e2 : ((-1 : Int) + ((ini.length + 1 : Nat) : Int)).toNat = ini.length := by omega
  rw [e2]
  simp
def spSInit (C : Addr) : Sp := fun vs H Q _ => ∃ (x dx : Addr) (txt : Str), vs = [.ref x, .str txt] ∧ H x = some (.ins C dx []) ∧
  ∀ (cl pr ow fo : Addr) (H' : Hp), (∀ b o, H b = some o → b ≠ x → H' b = some o) → H cl = none → H pr = none → H ow = none → H fo = none → SchX C H' x txt cl pr ow fo [] ⟨[], [], []⟩ → Q .non H'
section
variable {P : Program} {w : World} {K : PySem.W.Frag} {mg : Str → Option Value} {base : Heap}
theorem sc_Schema_check_position : FnScope ["self", "line", "table", "names", "name", "parent"] ["self", "line", "table", "names"] (defScope (inClass (topS 16) 15)) := ⟨rfl, rfl, rfl, by decide +kernel, rfl, by decide +kernel, by decide +kernel⟩
set_option maxHeartbeats 8000000 in
theorem ok_check_position {f C : Addr} {fd : FuncData} (F : Fun K "check_position" "Schema.check_position" (inClass (topS 16) 15) f fd) (T : Txt K mg) (TS : STxt K mg C) : FnOk P w K mg base CX0 1 f fd ["self", "line", "table", "names"] (spChkPos C) := by
  refine F.ok sc_Schema_check_position (fun vs H Q E h => ?_) (fun cdv A outer s H vs Q E hr h => ?_)
  · obtain ⟨x, v, t, a, txt, cl, pr, ow, fo, as, sc, ns, rfl, _⟩ := h
    rfl
  · obtain ⟨x, v, t, a, txt, cl, pr, ow, fo, as, sc, ns, rfl, X, ha, hp, k⟩ := h
    refine ⟨_, (pss_cons (ps_for PassesOwn.never rfl (i_list K (pe_slice (sl_lst K) (pv 3) po_none (po_some (pe_un un_neg pe_int)))) (pg_name (i := 4) sc_Schema_check_position.nd rfl (Or.inl rfl))
      (pss_cons (ps_set (i := 5) sc_Schema_check_position.nd rfl (Or.inl rfl) (pe_dget (hu_of hr) (e_fld K (pv 0) rfl) (pv 2) (fun _ _ => rfl)))
      (pss_cons (ps_if (PW.pt (pw_or (pt_cmpR op_isN (pv 5) pe_non (nomark _)) (pw_or1 (pt_cmpR op_ne (pv 5) (pv 4) (nomark _))))) (pss_one ps_never) pss_nil)
      (pss_one (ps_set (i := 2) sc_Schema_check_position.nd rfl (Or.inl rfl) (pv 4))))))
      (pss_one (ps_if (pt_cmpR (o_notin K) (pe_ix (ix_lst K) (pv 3) (pe_un un_neg pe_int) (fun _ _ => rfl)) (pe_dget (hu_of hr) (e_fld K (pv 0) rfl) (pv 2) (fun _ _ => rfl)) (by rfl)) (pss_one ps_never) pss_nil))), ?_⟩
    obtain ⟨dx, hx⟩ := X.obj
    obtain ⟨ini, c, rfl⟩ : ∃ ini c, ns = ini ++ [c] := by
      have hne : ns ≠ [] := by cases hp <;> simp
      exact ⟨ns.dropLast, ns.getLast hne, (List.dropLast_concat_getLast hne).symm⟩
    refine ⟨_, rfl, _, rfl, _, rfl, a, _, rfl, SqL.of ha, fun p np => ?_⟩
    rw [cut_last V.str ini c]
    have t1 : Same H (upd H p (.lst (ini.map V.str))) := same_loc (Same.refl H) np _
    have hp1 : (upd H p (.lst (ini.map V.str))) p = some (.lst (ini.map V.str)) := upd_same
    generalize upd H p (.lst (ini.map V.str)) = H1 at t1 hp1
    refine ⟨p, rfl, ⟨_, SqL.of hp1⟩, for_list (K := K) (a := p) (xs := ini.map V.str) (fun i σ H' => ∃ (t' : Str) (x4 x5 : Option V), σ = [some (.ref x), some v, some (.str t'), some (.ref a), x4, x5] ∧ Same H1 H' ∧ PosOk sc.tabs t' ((ini ++ [c]).drop i)) ?_ ?_ ?_ ?_⟩
    · exact ⟨t, none, none, rfl, Same.refl H1, hp⟩
    · rintro i σ H' _ ⟨_, _, _, _, t2, _⟩
      exact SqL.of (t2 _ _ hp1)
    · rintro i y σ H' hi ⟨t', x4, x5, rfl, t2, hpo⟩
      obtain ⟨n, hn, rfl⟩ := map_get hi
      have hin := get_lt hn
      have e : (ini ++ [c]).drop i = n :: (ini ++ [c]).drop (i + 1) := by
        have h1 : (ini ++ [c])[i]? = some n := by rw [List.getElem?_append_left hin]; exact hn
        obtain ⟨h2, h3⟩ := List.getElem?_eq_some_iff.mp h1
        rw [List.drop_eq_getElem_cons h2, h3]
      have hrest : (ini ++ [c]).drop (i + 1) ≠ [] := fun z => by
        have := congrArg List.length z
        rw [List.length_drop, List.length_append] at this
        simp at this
        omega
      rw [e] at hpo
      obtain ⟨tb, htb, hpar, hpo'⟩ : ∃ tb, tabOf sc.tabs t' = some tb ∧ tb.par = some n ∧ PosOk sc.tabs n ((ini ++ [c]).drop (i + 1)) := by
        generalize (ini ++ [c]).drop (i + 1) = rr at hpo hrest
        cases hpo with
        | last _ _ => exact absurd rfl hrest
        | up h1 h2 _ h4 => exact ⟨_, h1, h2, h4⟩
      have t12 := t1.trans t2
      have hv : valV (parKV sc.tabs) (kn t') = some (.str n) := by rw [valV_par, htb]; show some (optV tb.par) = _; rw [hpar]; rfl
      have dg : DGet H' pr (.str t') (some (.str n)) := by
        have := DGet.k (k := kn t') (t12 _ _ X.par)
        rw [hv] at this
        exact this
      refine ⟨_, rfl, x, C, dx, _, _, rfl, t12 _ _ hx, TS.cl, TS.n_par, sf_par txt cl pr ow fo, _, rfl, pr, _, rfl, dg, ?_⟩
      refine ⟨_, rfl, rfl, _, rfl, ?_⟩
      rw [show decide (V.str n = V.non) = false from decide_eq_false (by intro h; cases h)]
      refine iteF ?_
      refine ⟨_, rfl, _, rfl, rfl, _, rfl, ?_⟩
      rw [show (!decide (V.str n = V.str n)) = false from by simp]
      refine iteF ?_
      exact ⟨_, rfl, n, _, _, rfl, t2, hpo'⟩
    · rintro σ H' ⟨t', x4, x5, rfl, t2, hpo⟩
      rw [List.length_map, List.drop_left] at hpo
      have t12 := t1.trans t2
      obtain ⟨tb, htb, hcm⟩ : ∃ tb, tabOf sc.tabs t' = some tb ∧ c ∈ tb.cols := by
        cases hpo with
        | last h1 h2 => exact ⟨_, h1, h2⟩
        | up _ _ h3 _ => exact absurd rfl h3
      rcases valV_col t' X.lst with ⟨e, _⟩ | ⟨tb2, ad, e, e2, e3⟩
      · rw [e] at htb; cases htb
      · rw [htb] at e
        cases e
        have dg : DGet H' cl (.str t') (some (.ref ad)) := by
          have := DGet.k (k := kn t') (t12 _ _ X.col)
          rw [e2] at this
          exact this
        refine ⟨_, rfl, _, rfl, a, _, _, .str c, rfl, rfl, SqL.of (t12 _ _ ha), at_last V.str ini c, _, rfl, x, C, dx, _, _, rfl, t12 _ _ hx, TS.cl, TS.n_col, sf_col txt cl pr ow fo, _, rfl, cl, _, rfl, dg, ad, _, rfl, .inl (SqL.of (t12 _ _ e3)), rfl, flat_strs _, _, rfl, ?_⟩
        rw [notin_eqS, decide_eq_true hcm]
        refine iteF ?_
        exact k H' t12
theorem sc_Schema___init__ : FnScope ["self", "text"] ["self", "text"] (defScope (inClass (topS 16) 3)) := ⟨rfl, rfl, rfl, by decide +kernel, rfl, by decide +kernel, by decide +kernel⟩
set_option maxHeartbeats 8000000 in
theorem ok_sinit {f C : Addr} {fd : FuncData} (F : Fun K "__init__" "Schema.__init__" (inClass (topS 16) 3) f fd) (T : Txt K mg) (TS : STxt K mg C) : FnOk P w K mg base CX0 1 f fd ["self", "text"] (spSInit C) := by
  refine F.ok sc_Schema___init__ (fun vs H Q E h => ?_) (fun cdv A outer s H vs Q E hr h => ?_)
  · obtain ⟨x, dx, txt, rfl, _⟩ := h
    rfl
  · obtain ⟨x, dx, txt, rfl, hx, k⟩ := h
    refine ⟨_, (pss_cons (ps_fld (pv 0) (pv 1) rfl)
      (pss_cons (ps_fld (pv 0) pe_dnewK rfl)
      (pss_cons (ps_fld (pv 0) pe_dnewK rfl)
      (pss_cons (ps_fld (pv 0) pe_dnewK rfl)
      (pss_one (ps_fld (pv 0) pe_dnewT rfl)))))), ?_⟩
    refine ⟨_, rfl, _, rfl, x, C, dx, _, rfl, hx, TS.cl, TS.n_text, (by show 0 < 1000; decide), ?_⟩
    have x1 : (upd H x (.ins C dx (putF "text" (.str txt) []))) x = some (.ins C dx (putF "text" (.str txt) [])) := upd_same
    have f1 : ∀ b o, H b = some o → b ≠ x → (upd H x (.ins C dx (putF "text" (.str txt) []))) b = some o := fun b o e hb => by rw [upd_ne hb]; exact e
    have z1 : ∀ b, (upd H x (.ins C dx (putF "text" (.str txt) []))) b = none → H b = none := fun b e => by
      by_cases hb : b = x
      · rw [hb, upd_same] at e; cases e
      · rw [upd_ne hb] at e; exact e
    generalize upd H x (.ins C dx (putF "text" (.str txt) [])) = H1 at x1 f1 z1
    -- one dict after another
    have one : ∀ (Ha : Hp) (fs : List (Str × V)) (nm : Str) (d : Addr) (o : HO), Ha x = some (.ins C dx fs) → Ha d = none → (∀ C' dx' fs', o ≠ .ins C' dx' fs') →
        (upd (upd Ha d o) x (.ins C dx (putF nm (.ref d) fs))) x = some (.ins C dx (putF nm (.ref d) fs)) ∧ (upd (upd Ha d o) x (.ins C dx (putF nm (.ref d) fs))) d = some o ∧ (∀ b u, Ha b = some u → b ≠ x → (upd (upd Ha d o) x (.ins C dx (putF nm (.ref d) fs))) b = some u) ∧ (∀ b, (upd (upd Ha d o) x (.ins C dx (putF nm (.ref d) fs))) b = none → Ha b = none) ∧ (upd Ha d o) x = some (.ins C dx fs) ∧ x ≠ d := fun Ha fs nm d o hxa hd _ => by
      have hxd : x ≠ d := ne_of_none hxa hd
      refine ⟨upd_same, by rw [upd_ne hxd.symm]; exact upd_same, fun b u e hb => ?_, fun b e => ?_, by rw [upd_ne hxd]; exact hxa, hxd⟩
      · rw [upd_ne hb, upd_ne (ne_of_none e hd)]
        exact e
      · by_cases hb : b = x
        · rw [hb, upd_same] at e; cases e
        · rw [upd_ne hb] at e
          by_cases hb2 : b = d
          · rw [hb2]; exact hd
          · rw [upd_ne hb2] at e; exact e
    refine fun cl ncl => ?_
    obtain ⟨x2, d2, f2, z2, x2', xcl⟩ := one H1 _ "column_lists" cl (.dK []) x1 ncl (fun _ _ _ z => by cases z)
    refine ⟨_, rfl, x, C, dx, _, rfl, x2', TS.cl, TS.n_col, (by show 1 < 1000; decide), ?_⟩
    generalize upd (upd H1 cl (.dK [])) x (.ins C dx (putF "column_lists" (.ref cl) (putF "text" (.str txt) []))) = H2 at x2 d2 f2 z2
    refine fun pr npr => ?_
    obtain ⟨x3, d3, f3, z3, x3', xpr⟩ := one H2 _ "parents" pr (.dK []) x2 npr (fun _ _ _ z => by cases z)
    refine ⟨_, rfl, x, C, dx, _, rfl, x3', TS.cl, TS.n_par, (by show 2 < 1000; decide), ?_⟩
    generalize upd (upd H2 pr (.dK [])) x (.ins C dx (putF "parents" (.ref pr) (putF "column_lists" (.ref cl) (putF "text" (.str txt) [])))) = H3 at x3 d3 f3 z3
    refine fun ow now => ?_
    obtain ⟨x4, d4, f4, z4, x4', xow⟩ := one H3 _ "owners" ow (.dK []) x3 now (fun _ _ _ z => by cases z)
    refine ⟨_, rfl, x, C, dx, _, rfl, x4', TS.cl, TS.n_own, (by show 3 < 1000; decide), ?_⟩
    generalize upd (upd H3 ow (.dK [])) x (.ins C dx (putF "owners" (.ref ow) (putF "parents" (.ref pr) (putF "column_lists" (.ref cl) (putF "text" (.str txt) []))))) = H4 at x4 d4 f4 z4
    refine fun fo nfo => ?_
    obtain ⟨x5, d5, f5, z5, x5', xfo⟩ := one H4 _ "following" fo (.dT []) x4 nfo (fun _ _ _ z => by cases z)
    refine ⟨_, rfl, x, C, dx, _, rfl, x5', TS.cl, TS.n_fol, (by show 4 < 1000; decide), ?_⟩
    generalize upd (upd H4 fo (.dT [])) x (.ins C dx (putF "following" (.ref fo) (putF "owners" (.ref ow) (putF "parents" (.ref pr) (putF "column_lists" (.ref cl) (putF "text" (.str txt) [])))))) = H5 at x5 d5 f5 z5
    have c3 := f3 _ _ d2 xcl.symm
    have c4 := f4 _ _ c3 xcl.symm
    have c5 := f5 _ _ c4 xcl.symm
    have p4 := f4 _ _ d3 xpr.symm
    have p5 := f5 _ _ p4 xpr.symm
    have o5 := f5 _ _ d4 xow.symm
    refine k cl pr ow fo H5 (fun b o e hb => f5 _ _ (f4 _ _ (f3 _ _ (f2 _ _ (f1 _ _ e hb) hb) hb) hb) hb) (z1 _ ncl) (z1 _ (z2 _ npr)) (z1 _ (z2 _ (z3 _ now))) (z1 _ (z2 _ (z3 _ (z4 _ nfo)))) ⟨⟨dx, x5⟩, c5, .nil, p5, o5, d5, ne_of_none d2 npr, ne_of_none c3 now, ne_of_none d3 now⟩
end
end OA

/-! ### read_table, read_owner, read_follow: the code, where nothing is raised -/
namespace OA
open PySem PySem.Spec PyProof.Rows L2
theorem cut_take {α : Type} (f : α → V) (l : List α) (i : Nat) (hi : i ≤ l.length) : cutV (l.map f) none (some (i : Int)) = (l.take i).map f := by
  unfold cutV
  have e1 : HT.sIx (l.map f).length (l.map f).length (some (i : Int)) = i := by rw [HT.sIx_nat, List.length_map]; omega
  have e0 : HT.sIx (l.map f).length 0 none = 0 := rfl
  rw [e1, e0]
  simp
theorem nd_take : ∀ {l : List Str} {i : Nat} {c : Str}, l.Nodup → l[i]? = some c → c ∉ l.take i
  | [], _, _, _, hc => by simp at hc
  | _ :: _, 0, _, _, _ => by simp
  | x :: l, i + 1, c, h, hc => by
    obtain ⟨h1, h2⟩ := List.nodup_cons.mp h
    have hc : l[i]? = some c := hc
    rw [List.take_succ_cons]
    intro hm
    rcases List.mem_cons.mp hm with e | e
    · exact h1 (by rw [← e]; exact List.mem_of_getElem? hc)
    · exact nd_take h2 hc e
def spRdTable (C : Addr) : Sp := fun vs H Q _ => ∃ (x : Addr) (v : V) (t : Str) (par : Option Str) (a : Addr) (txt : Str) (cl pr ow fo : Addr) (as : List Addr) (s : Sch) (cols : List Str), vs = [.ref x, v, .str t, optV par, .ref a] ∧ SchX C H x txt cl pr ow fo as s ∧ H a = some (.lst (cols.map V.str)) ∧
  tabOf s.tabs t = none ∧ (∀ p, par = some p → ∃ cs, ChainOf s.tabs p cs ∧ cs.length < 4) ∧ cols.Nodup ∧ cols.length ≤ 4 ∧ s.tabs.length < 6 ∧
  ∀ (as' : List Addr) (H' : Hp), Rest cl pr ow fo H H' → SchX C H' x txt cl pr ow fo as' { s with tabs := s.tabs ++ [⟨t, par, cols⟩] } → Q .non H'
def spRdOwner (C : Addr) : Sp := fun vs H Q _ => ∃ (x : Addr) (v : V) (t z : Str) (txt : Str) (cl pr ow fo : Addr) (as : List Addr) (s : Sch), vs = [.ref x, v, .str t, .str z] ∧ SchX C H x txt cl pr ow fo as s ∧ (tabOf s.tabs t).isSome = true ∧ (s.owns.find? fun o => decide (o.1 = t)) = none ∧ PosOk s.tabs t (Txt.split z dotS) ∧ z.length ≤ 1000 ∧ s.owns.length ≤ 1000 ∧
  ∀ (H' : Hp), Rest cl pr ow fo H H' → SchX C H' x txt cl pr ow fo as { s with owns := s.owns ++ [(t, z)] } → Q .non H'
def spRdFollow (C : Addr) : Sp := fun vs H Q _ => ∃ (x : Addr) (v : V) (t c u p : Str) (tb tp : Tab) (txt : Str) (cl pr ow fo : Addr) (as : List Addr) (s : Sch), vs = [.ref x, v, .str t, .str c, .str u] ∧ SchX C H x txt cl pr ow fo as s ∧ tabOf s.tabs t = some tb ∧ c ∈ tb.cols ∧ (s.fols.find? fun f => decide (f.1 = (t, c))) = none ∧ tb.par = some p ∧ tabOf s.tabs p = some tp ∧ u ∈ tp.cols ∧ s.fols.length ≤ 1000 ∧
  ∀ (H' : Hp), Rest cl pr ow fo H H' → SchX C H' x txt cl pr ow fo as { s with fols := s.fols ++ [((t, c), u)] } → Q .non H'
section
variable {P : Program} {w : World} {K : PySem.W.Frag} {mg : Str → Option Value} {base : Heap}
theorem sc_read_table : FnScope ["schema", "line", "table", "parent", "columns", "at", "column"] ["schema", "line", "table", "parent", "columns"] (defScope (topS 18)) := ⟨rfl, rfl, rfl, by decide +kernel, rfl, by decide +kernel, by decide +kernel⟩
set_option maxHeartbeats 8000000 in
theorem ok_read_table {f C : Addr} {fd : FuncData} (F : Fun K "read_table" "read_table" (topS 18) f fd) (T : Txt K mg) (TS : STxt K mg C) (c_Schema_check_table : MethodD P w K mg base C "check_table" ["self", "table", "line"] (spChkT C) 1 []) (c_Schema_chain_of : Method P w K mg base C "chain_of" ["self", "table"] (spChain C) 2) : FnOk P w K mg base CX0 3 f fd ["schema", "line", "table", "parent", "columns"] (spRdTable C) := by
  refine F.ok sc_read_table (fun vs H Q E h => ?_) (fun cdv A outer s H vs Q E hr h => ?_)
  · obtain ⟨x, v, t, par, a, txt, cl, pr, ow, fo, as, sc, cols, rfl, _⟩ := h
    rfl
  · obtain ⟨x, v, t, par, a, txt, cl, pr, ow, fo, as, sc, cols, rfl, X, ha, ht, hpar, hnd, hc4, h6, k⟩ := h
    refine ⟨_, (pss_cons (ps_if (pt_cmp (pc_din (hu_of hr) (pv 2) (e_fld K (pv 0) rfl))) (pss_one ps_never) pss_nil)
      (C8.pss_cut (ps_if (pt_cmpR op_notN (pv 3) pe_non (nomark _)) (pss_one (ps_expr (pe_moD c_Schema_check_table hr (by decide) (pv 0) (pa_cons (pv 3) (pa_cons (pv 1) pa_nil))))) pss_nil)
      (pss_cons (ps_for PassesOwn.never rfl (i_enum K (by rfl) T.n_enumerate (pa_cons (pv 4) pa_nil)) (g_tup K (n := 2) rfl (pgs_cons (pg_name (i := 5) sc_read_table.nd rfl (Or.inl rfl)) (pgs_cons (pg_name (i := 6) sc_read_table.nd rfl (Or.inl rfl)) pgs_nil)))
      (pss_one (ps_if (pt_cmpR (o_in K) (pv 6) (pe_slice (sl_lst K) (pv 4) po_none (po_some (pv 5))) (by rfl)) (pss_one ps_never) pss_nil)))
      (pss_cons (ps_if (PW.pt (pw_or (pt_cmpR o_gt (pe_callB (c_len K) (by rfl) T.n_len (by decide +kernel) (pa_cons (pv 4) pa_nil)) (e_cval K (pe_glob (v := .ref C) rfl TS.g rfl)) (nomark _)) (pw_or1 (pt_cmpR op_eq (pe_callB call_lenD (by rfl) T.n_len (by decide +kernel) (pa_cons (e_fld K (pv 0) rfl) pa_nil)) (e_cval K (pe_glob (v := .ref C) rfl TS.g rfl)) (nomark _))))) (pss_one ps_never) pss_nil)
      (pss_cons (ps_if (PW.pt (pw_and (pt_cmpR op_notN (pv 3) pe_non (nomark _)) (pw_and1 (pt_cmpR op_eq (pe_callB (c_len K) (by rfl) T.n_len (by decide +kernel) (pa_cons (pe_mo c_Schema_chain_of hr (by decide) (pv 0) (pa_cons (pv 3) pa_nil)) pa_nil)) (e_cval K (pe_glob (v := .ref C) rfl TS.g rfl)) (nomark _))))) (pss_one ps_never) pss_nil)
      (pss_cons (ps_dput (hu_of hr) (e_fld K (pv 0) rfl) (pv 2) (pe_callTy (c_list K) (by rfl) T.n_list (by decide +kernel) (pa_cons (pv 4) pa_nil)) rfl)
      (pss_one (ps_dput (hu_of hr) (e_fld K (pv 0) rfl) (pv 2) (pv 3) rfl)))))))), ?_⟩
    obtain ⟨dx, hx⟩ := X.obj
    obtain ⟨mc, k1, k2, k3, crd, cv1, cv2, cv3⟩ := TS.cv
    have hal : as.length = sc.tabs.length := Paired.length X.lst
    have hv0 : valV (colKV sc.tabs as) (kn t) = none := by
      rcases valV_col t X.lst with ⟨_, e⟩ | ⟨tb, ad, e, _⟩
      · exact e
      · rw [ht] at e; cases e
    refine ⟨_, rfl, _, rfl, x, C, dx, _, _, rfl, hx, TS.cl, TS.n_col, sf_col txt cl pr ow fo, cl, _, rfl, DGet.k (k := kn t) X.col, _, rfl, ?_⟩
    rw [hv0]
    refine iteF ?_
    -- the parent is known
    refine ⟨fun σ H' => H' = H ∧ σ = [some (.ref x), some v, some (.str t), some (optV par), some (.ref a), none, none], ?_, ?_⟩
    · refine ⟨_, rfl, rfl, _, rfl, ?_⟩
      cases par with
      | none =>
        rw [show (!decide (optV none = V.non)) = false from by rw [decide_eq_true (show optV none = V.non from rfl)]; rfl]
        refine iteF ?_
        exact ⟨rfl, rfl⟩
      | some p =>
        rw [show (!decide (optV (some p) = V.non)) = true from by rw [decide_eq_false (show ¬ optV (some p) = V.non from fun z => by cases z)]; rfl]
        refine iteT ?_
        obtain ⟨cs, hcs, _⟩ := hpar p rfl
        have htab : (tabOf sc.tabs p).isSome = true := by
          cases hcs with
          | root h1 _ => rw [h1]; rfl
          | up h1 _ _ => rw [h1]; rfl
        refine ⟨_, rfl, x, dx, _, rfl, hx, sf_no txt cl pr ow fo (by decide +kernel) (by decide +kernel) (by decide +kernel) (by decide +kernel) (by decide +kernel), _, rfl, _, rfl, x, p, v, txt, cl, pr, ow, fo, as, sc, rfl, X, htab, ?_⟩
        exact ⟨rfl, rfl⟩
    rintro σ H' ⟨rfl, rfl⟩
    -- no column twice
    refine ⟨_, rfl, a, _, rfl, SqL.of ha, for_it (walk_enum (K := K) (a := a) (xs := cols.map V.str)) (fun i σ H1 => ∃ (x5 x6 : Option V), σ = [some (.ref x), some v, some (.str t), some (optV par), some (.ref a), x5, x6] ∧ Same H' H1) ?_ ?_ ?_ ?_⟩
    · exact ⟨none, none, rfl, Same.refl H'⟩
    · rintro i σ H1 _ ⟨_, _, _, t1⟩
      exact SqL.of (t1 _ _ ha)
    · rintro i y σ H1 H2 hi ⟨x5, x6, rfl, t1⟩ ⟨T0, y1, y2, rfl, nT, rfl, e1, e2⟩
      cases e1
      obtain ⟨c, hc, rfl⟩ := map_get e2
      have hil := get_lt hc
      have t2 : Same H' (upd H1 T0 (.tup [.int (i : Nat), .str c])) := same_loc t1 (t1.free nT) _
      refine ⟨T0, _, rfl, SqT.of upd_same, rfl, _, _, rfl, _, _, rfl, rfl, ?_⟩
      refine ⟨_, rfl, _, rfl, _, rfl, _, rfl, a, _, rfl, SqL.of (t2 _ _ ha), fun q nq => ?_⟩
      rw [cut_take V.str cols i (by omega)]
      refine ⟨q, _, rfl, .inl (SqL.of upd_same), rfl, flat_strs _, _, rfl, ?_⟩
      rw [in_eqS, decide_eq_false (nd_take hnd hc)]
      refine iteF ?_
      exact ⟨_, _, rfl, same_loc t2 (t2.free nq) _⟩
    · rintro σ H1 ⟨x5, x6, rfl, t1⟩
      have X1 := X.mono t1
      obtain ⟨dx1, hx1⟩ := X1.obj
      have hcl : (colKV sc.tabs as).length = sc.tabs.length := colKV_len hal.symm
      -- the limits
      refine ⟨_, rfl, _, _, rfl, .inl (SqL.of (t1 _ _ ha)), C, mc, _, _, rfl, crd, cv2, _, _, rfl, rfl, _, rfl, ?_⟩
      rw [show decide ((4 : Int) < (((cols.map V.str).length : Nat) : Int)) = false from decide_eq_false (by rw [List.length_map]; omega)]
      refine iteF ?_
      refine ⟨_, rfl, x, C, dx1, _, _, rfl, hx1, TS.cl, TS.n_col, sf_col txt cl pr ow fo, cl, _, rfl, X1.col, C, mc, _, _, rfl, crd, cv1, rfl, _, rfl, ?_⟩
      rw [show decide (V.int (((colKV sc.tabs as).length : Nat) : Int) = V.int 6) = false from decide_eq_false (fun z => by have := V.int.inj z; rw [hcl] at this; omega)]
      refine iteF ?_
      refine at_next ?_
      dsimp only
      refine at_seq (at_if2 false (fun R r => ?_) (fun h => nomatch h) (fun _ H2 t2 => ?_))
      · refine ⟨_, rfl, rfl, _, rfl, ?_⟩
        cases par with
        | none =>
          rw [show (!decide (optV none = V.non)) = false from by rw [decide_eq_true (show optV none = V.non from rfl)]; rfl]
          refine iteF ?_
          exact r H1 (Same.refl H1)
        | some p =>
          rw [show (!decide (optV (some p) = V.non)) = true from by rw [decide_eq_false (show ¬ optV (some p) = V.non from fun z => by cases z)]; rfl]
          refine iteT ?_
          obtain ⟨cs, hcs, hl4⟩ := hpar p rfl
          refine ⟨_, rfl, x, dx1, _, rfl, hx1, sf_no txt cl pr ow fo (by decide +kernel) (by decide +kernel) (by decide +kernel) (by decide +kernel) (by decide +kernel), _, rfl, x, p, txt, cl, pr, ow, fo, as, sc, cs, rfl, X1, hcs, by omega, fun q H2 t2 nq hq => ?_⟩
          refine ⟨_, _, rfl, .inl (SqL.of hq), C, mc, _, _, rfl, crd, cv3, rfl, _, rfl, ?_⟩
          rw [show decide (V.int (((cs.map V.str).length : Nat) : Int) = V.int 4) = false from decide_eq_false (fun z => by have := V.int.inj z; rw [List.length_map] at this; omega)]
          exact r H2 t2
      · -- the table is written
        have t12 := t1.trans t2
        have X2 := X.mono t12
        obtain ⟨dx2, hx2⟩ := X2.obj
        refine at_next ?_
        dsimp only
        refine ⟨_, rfl, a, _, rfl, .inl (SqL.of (t12 _ _ ha)), fun L nL => ?_⟩
        have t3 : Same H2 (upd H2 L (.lst (cols.map V.str))) := same_loc (Same.refl H2) nL _
        have hL : (upd H2 L (.lst (cols.map V.str))) L = some (.lst (cols.map V.str)) := upd_same
        generalize upd H2 L (.lst (cols.map V.str)) = H3 at t3 hL
        have X3 := X2.mono t3
        obtain ⟨dx3, hx3⟩ := X3.obj
        have dp := DPut.k (k := kn t) (v := V.ref L) X3.col (sz_lt (by rw [hcl]; omega))
        rw [putN hv0] at dp
        refine ⟨_, rfl, x, C, dx3, _, _, rfl, hx3, TS.cl, TS.n_col, sf_col txt cl pr ow fo, _, rfl, cl, _, rfl, dp, ?_⟩
        have xcl : x ≠ cl := ne_kind hx3 X3.col (fun z => by cases z)
        have hx4 : (upd H3 cl (.dK (colKV sc.tabs as ++ [(kn t, V.ref L)]))) x = some (.ins C dx3 (sflds txt cl pr ow fo)) := by rw [upd_ne xcl]; exact hx3
        have hp4 : (upd H3 cl (.dK (colKV sc.tabs as ++ [(kn t, V.ref L)]))) pr = some (.dK (parKV sc.tabs)) := by rw [upd_ne X.ne1.symm]; exact X3.par
        have hvp : valV (parKV sc.tabs) (kn t) = none := by rw [valV_par, ht]; rfl
        have hpl : (parKV sc.tabs).length = sc.tabs.length := by unfold parKV; rw [List.length_map]
        have dp2 := DPut.k (k := kn t) (v := optV par) hp4 (sz_lt (by rw [hpl]; omega))
        rw [putN hvp] at dp2
        refine ⟨_, rfl, _, rfl, x, C, dx3, _, _, rfl, hx4, TS.cl, TS.n_par, sf_par txt cl pr ow fo, _, rfl, pr, _, rfl, dp2, ?_⟩
        have off : ∀ b o, H3 b = some o → b ≠ cl → b ≠ pr → (upd (upd H3 cl (.dK (colKV sc.tabs as ++ [(kn t, V.ref L)]))) pr (.dK (parKV sc.tabs ++ [(kn t, optV par)]))) b = some o := fun b o e h1 h2 => by
          rw [upd_ne h2, upd_ne h1]
          exact e
        refine k (as ++ [L]) _ (fun b o e h1 h2 _ _ => off b o (t3 _ _ (t12 _ _ e)) h1 h2) ⟨⟨dx3, off _ _ hx3 xcl (ne_kind hx3 X3.par (fun z => by cases z))⟩, ?_, ?_, ?_, off _ _ X3.own X.ne2.symm X.ne3.symm, off _ _ X3.fol (ne_kind X3.fol X3.col (fun z => by cases z)) (ne_kind X3.fol X3.par (fun z => by cases z)), X.ne1, X.ne2, X.ne3⟩
        · rw [upd_ne X.ne1, upd_same]
          show _ = some (HO.dK (colKV (sc.tabs ++ [⟨t, par, cols⟩]) (as ++ [L])))
          rw [colKV_snoc hal.symm]
        · refine Paired.snoc (Paired.mapP X3.lst fun b tb e => off b _ e (ne_kind e X3.col (fun z => by cases z)) (ne_kind e X3.par (fun z => by cases z))) ?_
          exact off _ _ hL (ne_kind hL X3.col (fun z => by cases z)) (ne_kind hL X3.par (fun z => by cases z))
        · rw [upd_same]
          show _ = some (HO.dK (parKV (sc.tabs ++ [⟨t, par, cols⟩])))
          unfold parKV
          rw [List.map_append]
          rfl
end
end OA

/-! ### read_owner, read_follow: the code, where nothing is raised -/
namespace OA
open PySem PySem.Spec PyProof.Rows L2
section
variable {P : Program} {w : World} {K : PySem.W.Frag} {mg : Str → Option Value} {base : Heap}
theorem sc_read_owner : FnScope ["schema", "line", "table", "position"] ["schema", "line", "table", "position"] (defScope (topS 19)) := ⟨rfl, rfl, rfl, by decide +kernel, rfl, by decide +kernel, by decide +kernel⟩
set_option maxHeartbeats 8000000 in
theorem ok_read_owner {f C : Addr} {fd : FuncData} (F : Fun K "read_owner" "read_owner" (topS 19) f fd) (T : Txt K mg) (TS : STxt K mg C) (c_Schema_check_table : MethodD P w K mg base C "check_table" ["self", "table", "line"] (spChkT C) 1 []) (c_Schema_check_position : Method P w K mg base C "check_position" ["self", "line", "table", "names"] (spChkPos C) 1) : FnOk P w K mg base CX0 2 f fd ["schema", "line", "table", "position"] (spRdOwner C) := by
  refine F.ok sc_read_owner (fun vs H Q E h => ?_) (fun cdv A outer s H vs Q E hr h => ?_)
  · obtain ⟨x, v, t, z, txt, cl, pr, ow, fo, as, sc, rfl, _⟩ := h
    rfl
  · obtain ⟨x, v, t, z, txt, cl, pr, ow, fo, as, sc, rfl, X, ht, hno, hpo, hz, hol, k⟩ := h
    refine ⟨_, (pss_cons (ps_expr (pe_moD c_Schema_check_table hr (by decide) (pv 0) (pa_cons (pv 2) (pa_cons (pv 1) pa_nil))))
      (pss_cons (ps_if (pt_cmp (pc_din (hu_of hr) (pv 2) (e_fld K (pv 0) rfl))) (pss_one ps_never) pss_nil)
      (pss_cons (ps_expr (pe_mo c_Schema_check_position hr (by decide) (pv 0) (pa_cons (pv 1) (pa_cons (pv 2) (pa_cons (pe_split (pv 3) pe_str) pa_nil)))))
      (pss_one (ps_dput (hu_of hr) (e_fld K (pv 0) rfl) (pv 2) (pv 3) rfl))))), ?_⟩
    obtain ⟨dx, hx⟩ := X.obj
    refine ⟨_, rfl, x, dx, _, rfl, hx, sf_no txt cl pr ow fo (by decide +kernel) (by decide +kernel) (by decide +kernel) (by decide +kernel) (by decide +kernel), _, rfl, _, rfl, x, t, v, txt, cl, pr, ow, fo, as, sc, rfl, X, ht, ?_⟩
    have hv0 : valV (ownKV sc.owns) (kn t) = none := by rw [valV_own, hno]; rfl
    refine ⟨_, rfl, _, rfl, x, C, dx, _, _, rfl, hx, TS.cl, TS.n_own, sf_own txt cl pr ow fo, ow, _, rfl, DGet.k (k := kn t) X.own, _, rfl, ?_⟩
    rw [hv0]
    refine iteF ?_
    refine ⟨_, rfl, x, dx, _, rfl, hx, sf_no txt cl pr ow fo (by decide +kernel) (by decide +kernel) (by decide +kernel) (by decide +kernel) (by decide +kernel), _, rfl, _, rfl, _, rfl, ⟨_, rfl⟩, _, _, rfl, rfl, by decide +kernel, sz_le (by omega), fun p np => ?_⟩
    have t1 : Same H (upd H p (.lst ((Txt.split z dotS).map V.str))) := same_loc (Same.refl H) np _
    have hp : (upd H p (.lst ((Txt.split z dotS).map V.str))) p = some (.lst ((Txt.split z dotS).map V.str)) := upd_same
    have eH : upd H p (.lst ((Txt.split z (Str.ofString ".")).map V.str)) = upd H p (.lst ((Txt.split z dotS).map V.str)) := rfl
    rw [eH]
    generalize upd H p (.lst ((Txt.split z dotS).map V.str)) = H1 at t1 hp
    refine ⟨x, v, t, p, txt, cl, pr, ow, fo, as, sc, _, rfl, X.mono t1, hp, hpo, fun H2 t2 => ?_⟩
    have t12 := t1.trans t2
    have X2 := X.mono t12
    obtain ⟨dx2, hx2⟩ := X2.obj
    have hol' : (ownKV sc.owns).length = sc.owns.length := by unfold ownKV; rw [List.length_map]
    have dp := DPut.k (k := kn t) (v := V.str z) X2.own (sz_lt (by rw [hol']; omega))
    rw [putN hv0] at dp
    refine ⟨_, rfl, _, rfl, x, C, dx2, _, _, rfl, hx2, TS.cl, TS.n_own, sf_own txt cl pr ow fo, _, rfl, ow, _, rfl, dp, ?_⟩
    have off : ∀ b o, H2 b = some o → b ≠ ow → (upd H2 ow (.dK (ownKV sc.owns ++ [(kn t, V.str z)]))) b = some o := fun b o e h1 => by
      rw [upd_ne h1]
      exact e
    refine k _ (fun b o e _ _ h3 _ => off b o (t12 _ _ e) h3) ⟨⟨dx2, off _ _ hx2 (ne_kind hx2 X2.own (fun z => by cases z))⟩, off _ _ X2.col X.ne2, Paired.mapP X2.lst fun b tb e => off b _ e (ne_kind e X2.own (fun z => by cases z)), off _ _ X2.par X.ne3, ?_, off _ _ X2.fol (ne_kind X2.fol X2.own (fun z => by cases z)), X.ne1, X.ne2, X.ne3⟩
    rw [upd_same]
    show _ = some (HO.dK (ownKV (sc.owns ++ [(t, z)])))
    unfold ownKV
    rw [List.map_append]
    rfl
theorem sc_read_follow : FnScope ["schema", "line", "table", "column", "upper", "parent"] ["schema", "line", "table", "column", "upper"] (defScope (topS 20)) := ⟨rfl, rfl, rfl, by decide +kernel, rfl, by decide +kernel, by decide +kernel⟩
set_option maxHeartbeats 8000000 in
theorem ok_read_follow {f C : Addr} {fd : FuncData} (F : Fun K "read_follow" "read_follow" (topS 20) f fd) (T : Txt K mg) (TS : STxt K mg C) (c_Schema_check_table : MethodD P w K mg base C "check_table" ["self", "table", "line"] (spChkT C) 1 []) : FnOk P w K mg base CX0 2 f fd ["schema", "line", "table", "column", "upper"] (spRdFollow C) := by
  refine F.ok sc_read_follow (fun vs H Q E h => ?_) (fun cdv A outer s H vs Q E hr h => ?_)
  · obtain ⟨x, v, t, c, u, p, tb, tp, txt, cl, pr, ow, fo, as, sc, rfl, _⟩ := h
    rfl
  · obtain ⟨x, v, t, c, u, p, tb, tp, txt, cl, pr, ow, fo, as, sc, rfl, X, htb, hc, hno, hpar, htp, hu, hfl, k⟩ := h
    refine ⟨_, (pss_cons (ps_expr (pe_moD c_Schema_check_table hr (by decide) (pv 0) (pa_cons (pv 2) (pa_cons (pv 1) pa_nil))))
      (pss_cons (ps_if (pt_cmpR (o_notin K) (pv 3) (pe_dget (hu_of hr) (e_fld K (pv 0) rfl) (pv 2) (fun _ _ => rfl)) (by rfl)) (pss_one ps_never) pss_nil)
      (pss_cons (ps_if (pt_cmp (pc_din (hu_of hr) (pe_tup (pa_cons (pv 2) (pa_cons (pv 3) pa_nil))) (e_fld K (pv 0) rfl))) (pss_one ps_never) pss_nil)
      (pss_cons (ps_set (i := 5) sc_read_follow.nd rfl (Or.inl rfl) (pe_dget (hu_of hr) (e_fld K (pv 0) rfl) (pv 2) (fun _ _ => rfl)))
      (pss_cons (ps_if (PW.pt (pw_or (pt_cmpR op_isN (pv 5) pe_non (nomark _)) (pw_or1 (pt_cmpR (o_notin K) (pv 4) (pe_dget (hu_of hr) (e_fld K (pv 0) rfl) (pv 5) (fun _ _ => rfl)) (by rfl))))) (pss_one ps_never) pss_nil)
      (pss_one (ps_dput (hu_of hr) (e_fld K (pv 0) rfl) (pe_tup (pa_cons (pv 2) (pa_cons (pv 3) pa_nil))) (pv 4) rfl))))))), ?_⟩
    obtain ⟨dx, hx⟩ := X.obj
    have get : ∀ {H' : Hp}, SchX C H' x txt cl pr ow fo as sc → ∀ {n : Str} {tt : Tab}, tabOf sc.tabs n = some tt → ∃ ad, DGet H' cl (.str n) (some (.ref ad)) ∧ H' ad = some (.lst (tt.cols.map V.str)) := fun {H'} X' {n tt} h => by
      rcases valV_col n X'.lst with ⟨e, _⟩ | ⟨tb2, ad, e, e2, e3⟩
      · rw [e] at h; cases h
      · rw [h] at e
        cases e
        have := DGet.k (k := kn n) X'.col
        rw [e2] at this
        exact ⟨ad, this, e3⟩
    refine ⟨_, rfl, x, dx, _, rfl, hx, sf_no txt cl pr ow fo (by decide +kernel) (by decide +kernel) (by decide +kernel) (by decide +kernel) (by decide +kernel), _, rfl, _, rfl, x, t, v, txt, cl, pr, ow, fo, as, sc, rfl, X, by rw [htb]; rfl, ?_⟩
    obtain ⟨ad, dg, had⟩ := get X htb
    refine ⟨_, rfl, _, rfl, x, C, dx, _, _, rfl, hx, TS.cl, TS.n_col, sf_col txt cl pr ow fo, _, rfl, cl, _, rfl, dg, ad, _, rfl, .inl (SqL.of had), rfl, flat_strs _, _, rfl, ?_⟩
    rw [notin_eqS, decide_eq_true hc]
    refine iteF ?_
    -- (table, column) in schema.following
    refine ⟨_, rfl, _, rfl, (by show 2 ≤ sizeLine; decide), fun T1 nT1 => ?_⟩
    have t1 : Same H (upd H T1 (.tup [.str t, .str c])) := same_loc (Same.refl H) nT1 _
    have hT1 : (upd H T1 (.tup [.str t, .str c])) T1 = some (.tup ([kn t, kn c].map kV)) := upd_same
    generalize upd H T1 (.tup [.str t, .str c]) = H1 at t1 hT1
    have X1 := X.mono t1
    obtain ⟨dx1, hx1⟩ := X1.obj
    have hv0 : valV (folKV sc.fols) [kn t, kn c] = none := by rw [valV_fol, hno]; rfl
    refine ⟨_, rfl, x, C, dx1, _, _, rfl, hx1, TS.cl, TS.n_fol, sf_fol txt cl pr ow fo, fo, _, rfl, DGet.t (k := [kn t, kn c]) X1.fol hT1, _, rfl, ?_⟩
    rw [hv0]
    refine iteF ?_
    -- parent
    have hvp : valV (parKV sc.tabs) (kn t) = some (.str p) := by rw [valV_par, htb]; show some (optV tb.par) = _; rw [hpar]; rfl
    have dgp : DGet H1 pr (.str t) (some (.str p)) := by
      have := DGet.k (k := kn t) X1.par
      rw [hvp] at this
      exact this
    refine ⟨_, rfl, x, C, dx1, _, _, rfl, hx1, TS.cl, TS.n_par, sf_par txt cl pr ow fo, _, rfl, pr, _, rfl, dgp, ?_⟩
    refine ⟨_, rfl, rfl, _, rfl, ?_⟩
    rw [show decide (V.str p = V.non) = false from decide_eq_false (by intro h; cases h)]
    refine iteF ?_
    obtain ⟨ad2, dg2, had2⟩ := get X1 htp
    refine ⟨_, rfl, _, rfl, x, C, dx1, _, _, rfl, hx1, TS.cl, TS.n_col, sf_col txt cl pr ow fo, _, rfl, cl, _, rfl, dg2, ad2, _, rfl, .inl (SqL.of had2), rfl, flat_strs _, _, rfl, ?_⟩
    rw [notin_eqS, decide_eq_true hu]
    refine iteF ?_
    -- the line is written
    refine ⟨_, rfl, _, rfl, x, C, dx1, _, _, rfl, hx1, TS.cl, TS.n_fol, sf_fol txt cl pr ow fo, _, rfl, _, rfl, (by show 2 ≤ sizeLine; decide), fun T2 nT2 => ?_⟩
    have t2 : Same H1 (upd H1 T2 (.tup [.str t, .str c])) := same_loc (Same.refl H1) nT2 _
    have hT2 : (upd H1 T2 (.tup [.str t, .str c])) T2 = some (.tup ([kn t, kn c].map kV)) := upd_same
    generalize upd H1 T2 (.tup [.str t, .str c]) = H2 at t2 hT2
    have X2 := X1.mono t2
    obtain ⟨dx2, hx2⟩ := X2.obj
    have hfl' : (folKV sc.fols).length = sc.fols.length := by unfold folKV; rw [List.length_map]
    have dp := DPut.t (k := [kn t, kn c]) (v := V.str u) X2.fol hT2 (sz_lt (by rw [hfl']; omega))
    rw [putN hv0] at dp
    refine ⟨fo, _, rfl, dp, ?_⟩
    have off : ∀ b o, H2 b = some o → b ≠ fo → (upd H2 fo (.dT (folKV sc.fols ++ [([kn t, kn c], V.str u)]))) b = some o := fun b o e h1 => by
      rw [upd_ne h1]
      exact e
    refine k _ (fun b o e _ _ _ h4 => off b o (t2 _ _ (t1 _ _ e)) h4) ⟨⟨dx2, off _ _ hx2 (ne_kind hx2 X2.fol (fun z => by cases z))⟩, off _ _ X2.col (ne_kind X2.col X2.fol (fun z => by cases z)), Paired.mapP X2.lst fun b tb e => off b _ e (ne_kind e X2.fol (fun z => by cases z)), off _ _ X2.par (ne_kind X2.par X2.fol (fun z => by cases z)), off _ _ X2.own (ne_kind X2.own X2.fol (fun z => by cases z)), ?_, X.ne1, X.ne2, X.ne3⟩
    rw [upd_same]
    show _ = some (HO.dT (folKV (sc.fols ++ [((t, c), u)])))
    unfold folKV
    rw [List.map_append]
    rfl
end
end OA

/-! ### read_line, Schema.read: the code, where nothing is raised -/
namespace OA
open PySem PySem.Spec PyProof.Rows L2
theorem cut_from {xs : List V} {k : Nat} (h : k ≤ xs.length) : cutV xs (some (k : Int)) none = xs.drop k := by
  unfold cutV
  have e1 : HT.sIx xs.length 0 (some (k : Int)) = k := by rw [HT.sIx_nat]; omega
  have e0 : HT.sIx xs.length xs.length none = xs.length := rfl
  rw [e1, e0]
  rw [List.take_of_length_le]
  rw [List.length_drop]
  exact Nat.le_refl _
theorem cut_12 {a b c : V} : cutV [a, b, c] (some 1) (some 2) = [b] := rfl
theorem eqT (a : Str) : decide (V.str a = V.str a) = true := decide_eq_true rfl
theorem eqF {a b : Str} (h : a ≠ b) : decide (V.str a = V.str b) = false := decide_eq_false fun z => h (V.str.inj z)
def spRdLine (C : Addr) : Sp := fun vs H Q _ => ∃ (x : Addr) (v : V) (a : Addr) (txt : Str) (cl pr ow fo : Addr) (as : List Addr) (s s' : Sch) (ws : List Str), vs = [.ref x, v, .ref a] ∧ SchX C H x txt cl pr ow fo as s ∧ H a = some (.lst (ws.map V.str)) ∧ ValidLine s ws s' ∧ ws.length ≤ 1000 ∧ (∀ q ∈ ws, q.length ≤ 1000) ∧ s.owns.length ≤ 1000 ∧ s.fols.length ≤ 1000 ∧
  ∀ (as' : List Addr) (H' : Hp), Rest cl pr ow fo H H' → SchX C H' x txt cl pr ow fo as' s' → Q .non H'
def spRead (C : Addr) : Sp := fun vs H Q _ => ∃ (txt : Str) (s' : Sch), vs = [.str txt] ∧ txt.length ≤ 400000 ∧ (Txt.split txt nlS).length ≤ 1000 ∧ (∀ l ∈ Txt.split txt nlS, l.length ≤ 100000 ∧ (splitW l).length ≤ 1000 ∧ ∀ q ∈ splitW l, q.length ≤ 1000) ∧ ReadsL ⟨[], [], []⟩ ((Txt.split txt nlS).map splitW) s' ∧
  ∀ (x cl pr ow fo : Addr) (as : List Addr) (H' : Hp), Same H H' → H x = none → SchX C H' x txt cl pr ow fo as s' → Q (.ref x) H'
theorem ValidLine.len {s s' : Sch} {ws : List Str} (h : ValidLine s ws s') : s'.owns.length ≤ s.owns.length + 1 ∧ s'.fols.length ≤ s.fols.length + 1 := by
  cases h with
  | root _ _ _ _ _ _ => exact ⟨Nat.le_succ _, Nat.le_succ _⟩
  | table _ _ _ _ _ _ _ _ => exact ⟨Nat.le_succ _, Nat.le_succ _⟩
  | owner _ _ _ _ _ _ _ _ => refine ⟨?_, Nat.le_succ _⟩; show (_ ++ [_]).length ≤ _; rw [List.length_append]; exact Nat.le_refl _
  | follow _ _ _ _ _ _ _ _ _ => refine ⟨Nat.le_succ _, ?_⟩; show (_ ++ [_]).length ≤ _; rw [List.length_append]; exact Nat.le_refl _
section
variable {P : Program} {w : World} {K : PySem.W.Frag} {mg : Str → Option Value} {base : Heap}
theorem sc_read_line : FnScope ["schema", "line", "words", "form"] ["schema", "line", "words"] (defScope (topS 17)) := ⟨rfl, rfl, rfl, by decide +kernel, rfl, by decide +kernel, by decide +kernel⟩
set_option maxHeartbeats 16000000 in
theorem ok_read_line {f C : Addr} {fd : FuncData} (F : Fun K "read_line" "read_line" (topS 17) f fd) (T : Txt K mg) (c_all_names : Callee P w K mg base "all_names" ["words"] spAllN 2) (c_is_path : Callee P w K mg base "is_path" ["word", "least"] spIsPath 3)
    (c_read_table : Callee P w K mg base "read_table" ["schema", "line", "table", "parent", "columns"] (spRdTable C) 3) (c_read_owner : Callee P w K mg base "read_owner" ["schema", "line", "table", "position"] (spRdOwner C) 2) (c_read_follow : Callee P w K mg base "read_follow" ["schema", "line", "table", "column", "upper"] (spRdFollow C) 2) : FnOk P w K mg base CX0 4 f fd ["schema", "line", "words"] (spRdLine C) := by
  refine F.ok sc_read_line (fun vs H Q E h => ?_) (fun cdv A outer s H vs Q E hr h => ?_)
  · obtain ⟨x, v, a, txt, cl, pr, ow, fo, as, sc, sc', ws, rfl, _⟩ := h
    rfl
  · obtain ⟨x, v, a, txt, cl, pr, ow, fo, as, sc, sc', ws, rfl, X, ha, hV, n1, n2, n3, n4, k⟩ := h
    refine ⟨_, (C8.pss_cut (ps_set (i := 3) sc_read_line.nd rfl (Or.inl rfl) (pe_ifExp (t_truth K (pv 2) (by intro _; rfl)) (pe_ix (ix_lst K) (pv 2) pe_int (fun _ _ => rfl)) pe_str))
      (pss_one (ps_if (PW.pt (pw_and (pt_cmpR op_eq (pv 3) pe_str (nomark _)) (pw_and (pt_cmpR o_gt (pe_callB (c_len K) (by rfl) T.n_len (by decide +kernel) (pa_cons (pv 2) pa_nil)) pe_int (nomark _)) (pw_and1 (pt_val (pe_co c_all_names hr (by decide) (by rfl) (pa_cons (pe_slice (sl_lst K) (pv 2) (po_some pe_int) po_none) pa_nil))))))) (pss_one (ps_expr (pe_co c_read_table hr (by decide) (by rfl) (pa_cons (pv 0) (pa_cons (pv 1) (pa_cons (pe_ix (ix_lst K) (pv 2) pe_int (fun _ _ => rfl)) (pa_cons pe_non (pa_cons (pe_slice (sl_lst K) (pv 2) (po_some pe_int) po_none) pa_nil)))))))) (pss_one (ps_if (PW.pt (pw_and (pt_cmpR op_eq (pv 3) pe_str (nomark _)) (pw_and (pt_cmpR o_gt (pe_callB (c_len K) (by rfl) T.n_len (by decide +kernel) (pa_cons (pv 2) pa_nil)) pe_int (nomark _)) (pw_and1 (pt_val (pe_co c_all_names hr (by decide) (by rfl) (pa_cons (pe_slice (sl_lst K) (pv 2) (po_some pe_int) po_none) pa_nil))))))) (pss_one (ps_expr (pe_co c_read_table hr (by decide) (by rfl) (pa_cons (pv 0) (pa_cons (pv 1) (pa_cons (pe_ix (ix_lst K) (pv 2) pe_int (fun _ _ => rfl)) (pa_cons (pe_ix (ix_lst K) (pv 2) pe_int (fun _ _ => rfl)) (pa_cons (pe_slice (sl_lst K) (pv 2) (po_some pe_int) po_none) pa_nil)))))))) (pss_one (ps_if (PW.pt (pw_and (pt_cmpR op_eq (pv 3) pe_str (nomark _)) (pw_and (pt_cmpR op_eq (pe_callB (c_len K) (by rfl) T.n_len (by decide +kernel) (pa_cons (pv 2) pa_nil)) pe_int (nomark _)) (pw_and (pt_val (pe_co c_all_names hr (by decide) (by rfl) (pa_cons (pe_slice (sl_lst K) (pv 2) (po_some pe_int) (po_some pe_int)) pa_nil))) (pw_and1 (pt_val (pe_co c_is_path hr (by decide) (by rfl) (pa_cons (pe_ix (ix_lst K) (pv 2) pe_int (fun _ _ => rfl)) (pa_cons pe_int pa_nil))))))))) (pss_one (ps_expr (pe_co c_read_owner hr (by decide) (by rfl) (pa_cons (pv 0) (pa_cons (pv 1) (pa_cons (pe_ix (ix_lst K) (pv 2) pe_int (fun _ _ => rfl)) (pa_cons (pe_ix (ix_lst K) (pv 2) pe_int (fun _ _ => rfl)) pa_nil))))))) (pss_one (ps_if (PW.pt (pw_and (pt_cmpR op_eq (pv 3) pe_str (nomark _)) (pw_and (pt_cmpR op_eq (pe_callB (c_len K) (by rfl) T.n_len (by decide +kernel) (pa_cons (pv 2) pa_nil)) pe_int (nomark _)) (pw_and1 (pt_val (pe_co c_all_names hr (by decide) (by rfl) (pa_cons (pe_slice (sl_lst K) (pv 2) (po_some pe_int) po_none) pa_nil))))))) (pss_one (ps_expr (pe_co c_read_follow hr (by decide) (by rfl) (pa_cons (pv 0) (pa_cons (pv 1) (pa_cons (pe_ix (ix_lst K) (pv 2) pe_int (fun _ _ => rfl)) (pa_cons (pe_ix (ix_lst K) (pv 2) pe_int (fun _ _ => rfl)) (pa_cons (pe_ix (ix_lst K) (pv 2) pe_int (fun _ _ => rfl)) pa_nil)))))))) (pss_one ps_never)))))))))), ?_⟩
    obtain ⟨w0, wr, rfl⟩ : ∃ w0 wr, ws = w0 :: wr := by cases hV <;> exact ⟨_, _, rfl⟩
    refine ⟨fun σ H' => H' = H ∧ σ = [some (.ref x), some v, some (.ref a), some (.str w0)], ?_, ?_⟩
    · refine ⟨_, rfl, true, .inl ⟨_, SqL.of ha, rfl⟩, ?_⟩
      refine iteT ?_
      exact ⟨_, rfl, a, _, _, .str w0, rfl, rfl, SqL.of ha, at_of (j := 0) rfl rfl, rfl, rfl⟩
    rintro σ H' ⟨rfl, rfl⟩
    cases hV with
    | @root t cols h1 h2 h3 h4 h5 h6 =>
      refine ⟨_, rfl, rfl, _, rfl, ?_⟩
      rw [eqT]
      refine iteT ?_
      have hcl : 1 ≤ cols.length := by cases cols with | nil => exact absurd rfl h1 | cons _ _ => exact Nat.le_add_left _ _
      refine ⟨_, rfl, _, _, rfl, .inl (SqL.of ha), _, _, rfl, rfl, _, rfl, ?_⟩
      rw [show decide ((2 : Int) < ((((Str.ofString "root" :: t :: cols).map V.str).length : Nat) : Int)) = true from decide_eq_true (by rw [List.length_map]; show (2 : Int) < ((cols.length + 1 + 1 : Nat) : Int); omega)]
      refine iteT ?_
      refine ⟨_, rfl, _, rfl, a, _, rfl, SqL.of ha, fun q nq => ?_⟩
      have ec : cutV ((Str.ofString "root" :: t :: cols).map V.str) (some 1) none = (t :: cols).map V.str := cut_from (k := 1) (by rw [List.length_map]; exact Nat.le_add_left _ _)
      rw [ec]
      have t1 : Same H' (upd H' q (.lst ((t :: cols).map V.str))) := same_loc (Same.refl H') nq _
      refine ⟨q, t :: cols, rfl, upd_same, by have := n1; simp at this ⊢; omega, fun y hy => n2 y (List.mem_cons_of_mem _ hy), fun H2 t2 => ⟨_, rfl, ?_⟩⟩
      rw [h2]
      refine iteT ?_
      have t12 := t1.trans t2
      have ha2 := t12 _ _ ha
      refine ⟨_, rfl, _, rfl, _, rfl, a, _, _, .str t, rfl, rfl, SqL.of ha2, at_of (j := 1) rfl rfl, _, rfl, _, rfl, a, _, rfl, SqL.of ha2, fun q2 nq2 => ?_⟩
      have ec2 : cutV ((Str.ofString "root" :: t :: cols).map V.str) (some 2) none = cols.map V.str := cut_from (k := 2) (by rw [List.length_map]; exact Nat.le_add_left _ _)
      rw [ec2]
      have t3 : Same H2 (upd H2 q2 (.lst (cols.map V.str))) := same_loc (Same.refl H2) nq2 _
      refine ⟨x, v, t, none, q2, txt, cl, pr, ow, fo, as, sc, cols, rfl, X.mono (t12.trans t3), upd_same, h3, (fun _ z => by cases z), h4, h5, h6, fun as' H4 r4 X4 => ?_⟩
      exact k as' H4 ((Same.rest (t12.trans t3)).trans r4) X4
    | @table t p cols cs h1 h2 h3 h4 h5 h6 h7 h8 =>
      refine ⟨_, rfl, rfl, _, rfl, ?_⟩
      rw [eqF (by decide +kernel)]
      refine iteF ?_
      refine ⟨_, rfl, rfl, _, rfl, ?_⟩
      rw [eqT]
      refine iteT ?_
      have hcl : 1 ≤ cols.length := by cases cols with | nil => exact absurd rfl h1 | cons _ _ => exact Nat.le_add_left _ _
      refine ⟨_, rfl, _, _, rfl, .inl (SqL.of ha), _, _, rfl, rfl, _, rfl, ?_⟩
      rw [show decide ((3 : Int) < ((((Str.ofString "table" :: t :: p :: cols).map V.str).length : Nat) : Int)) = true from decide_eq_true (by rw [List.length_map]; show (3 : Int) < ((cols.length + 1 + 1 + 1 : Nat) : Int); omega)]
      refine iteT ?_
      refine ⟨_, rfl, _, rfl, a, _, rfl, SqL.of ha, fun q nq => ?_⟩
      have ec : cutV ((Str.ofString "table" :: t :: p :: cols).map V.str) (some 1) none = (t :: p :: cols).map V.str := cut_from (k := 1) (by rw [List.length_map]; exact Nat.le_add_left _ _)
      rw [ec]
      have t1 : Same H' (upd H' q (.lst ((t :: p :: cols).map V.str))) := same_loc (Same.refl H') nq _
      refine ⟨q, t :: p :: cols, rfl, upd_same, by have := n1; simp at this ⊢; omega, fun y hy => n2 y (List.mem_cons_of_mem _ hy), fun H2 t2 => ⟨_, rfl, ?_⟩⟩
      rw [h2]
      refine iteT ?_
      have t12 := t1.trans t2
      have ha2 := t12 _ _ ha
      refine ⟨_, rfl, _, rfl, _, rfl, a, _, _, .str t, rfl, rfl, SqL.of ha2, at_of (j := 1) rfl rfl, _, rfl, a, _, _, .str p, rfl, rfl, SqL.of ha2, at_of (j := 2) rfl rfl, _, rfl, _, rfl, a, _, rfl, SqL.of ha2, fun q2 nq2 => ?_⟩
      have ec2 : cutV ((Str.ofString "table" :: t :: p :: cols).map V.str) (some 3) none = cols.map V.str := cut_from (k := 3) (by rw [List.length_map]; exact Nat.le_add_left _ _)
      rw [ec2]
      have t3 : Same H2 (upd H2 q2 (.lst (cols.map V.str))) := same_loc (Same.refl H2) nq2 _
      refine ⟨x, v, t, some p, q2, txt, cl, pr, ow, fo, as, sc, cols, rfl, X.mono (t12.trans t3), upd_same, h3, (fun p' z => by cases z; exact ⟨cs, h4, h5⟩), h6, h7, h8, fun as' H4 r4 X4 => ?_⟩
      exact k as' H4 ((Same.rest (t12.trans t3)).trans r4) X4
    | @owner t z h1 h2 h3 h4 h5 h6 h7 h8 =>
      refine ⟨_, rfl, rfl, _, rfl, ?_⟩
      rw [eqF (by decide +kernel)]
      refine iteF ?_
      refine ⟨_, rfl, rfl, _, rfl, ?_⟩
      rw [eqF (by decide +kernel)]
      refine iteF ?_
      refine ⟨_, rfl, rfl, _, rfl, ?_⟩
      rw [eqT]
      refine iteT ?_
      refine ⟨_, rfl, _, _, rfl, .inl (SqL.of ha), rfl, _, rfl, ?_⟩
      rw [show decide (V.int ((([Str.ofString "owner", t, z].map V.str).length : Nat) : Int) = V.int 3) = true from decide_eq_true rfl]
      refine iteT ?_
      refine ⟨_, rfl, _, rfl, _, rfl, a, _, rfl, SqL.of ha, fun q nq => ?_⟩
      have ec : cutV ([Str.ofString "owner", t, z].map V.str) (some 1) (some 2) = [t].map V.str := cut_12
      rw [ec]
      have t1 : Same H' (upd H' q (.lst ([t].map V.str))) := same_loc (Same.refl H') nq _
      refine ⟨q, [t], rfl, upd_same, (by show 1 ≤ 10000; decide), fun y hy => n2 y (by rw [List.mem_singleton.mp hy]; simp), fun H2 t2 => ⟨_, rfl, ?_⟩⟩
      rw [show [t].all isNameB = true from by rw [List.all_cons, h1]; rfl]
      refine iteT ?_
      have t12 := t1.trans t2
      have ha2 := t12 _ _ ha
      refine ⟨_, rfl, a, _, _, .str z, rfl, rfl, SqL.of ha2, at_of (j := 2) rfl rfl, z, 1, rfl, h3, by omega, h5, fun H3 t3 => ⟨_, rfl, ?_⟩⟩
      have hl1 : 1 ≤ (Txt.split z dotS).length := by
        cases hh : Txt.split z dotS with
        | nil => rw [hh] at h8; cases h8
        | cons _ _ => exact Nat.le_add_left _ _
      rw [decide_eq_true hl1, h2]
      refine iteT ?_
      have t13 := t12.trans t3
      have ha3 := t13 _ _ ha
      refine ⟨_, rfl, _, rfl, _, rfl, a, _, _, .str t, rfl, rfl, SqL.of ha3, at_of (j := 1) rfl rfl, _, rfl, a, _, _, .str z, rfl, rfl, SqL.of ha3, at_of (j := 2) rfl rfl, x, v, t, z, txt, cl, pr, ow, fo, as, sc, rfl, X.mono t13, h6, h7, h8, h3, n3, fun H4 r4 X4 => ?_⟩
      exact k as H4 ((Same.rest t13).trans r4) X4
    | @follow t c u p tb tp h1 h2 h3 h4 h5 h6 h7 h8 h9 =>
      refine ⟨_, rfl, rfl, _, rfl, ?_⟩
      rw [eqF (by decide +kernel)]
      refine iteF ?_
      refine ⟨_, rfl, rfl, _, rfl, ?_⟩
      rw [eqF (by decide +kernel)]
      refine iteF ?_
      refine ⟨_, rfl, rfl, _, rfl, ?_⟩
      rw [eqF (by decide +kernel)]
      refine iteF ?_
      refine ⟨_, rfl, rfl, _, rfl, ?_⟩
      rw [eqT]
      refine iteT ?_
      refine ⟨_, rfl, _, _, rfl, .inl (SqL.of ha), rfl, _, rfl, ?_⟩
      rw [show decide (V.int ((([Str.ofString "follow", t, c, u].map V.str).length : Nat) : Int) = V.int 4) = true from decide_eq_true rfl]
      refine iteT ?_
      refine ⟨_, rfl, _, rfl, a, _, rfl, SqL.of ha, fun q nq => ?_⟩
      have ec : cutV ([Str.ofString "follow", t, c, u].map V.str) (some 1) none = [t, c, u].map V.str := rfl
      rw [ec]
      have t1 : Same H' (upd H' q (.lst ([t, c, u].map V.str))) := same_loc (Same.refl H') nq _
      refine ⟨q, [t, c, u], rfl, upd_same, (by show 3 ≤ 10000; decide), fun y hy => n2 y (List.mem_cons_of_mem _ hy), fun H2 t2 => ⟨_, rfl, ?_⟩⟩
      rw [show [t, c, u].all isNameB = true from by rw [List.all_cons, List.all_cons, List.all_cons, h1, h2, h3]; rfl]
      refine iteT ?_
      have t12 := t1.trans t2
      have ha2 := t12 _ _ ha
      refine ⟨_, rfl, _, rfl, _, rfl, a, _, _, .str t, rfl, rfl, SqL.of ha2, at_of (j := 1) rfl rfl, _, rfl, a, _, _, .str c, rfl, rfl, SqL.of ha2, at_of (j := 2) rfl rfl, _, rfl, a, _, _, .str u, rfl, rfl, SqL.of ha2, at_of (j := 3) rfl rfl, x, v, t, c, u, p, tb, tp, txt, cl, pr, ow, fo, as, sc, rfl, X.mono t12, h4, h5, h6, h7, h8, h9, n4, fun H4 r4 X4 => ?_⟩
      exact k as H4 ((Same.rest t12).trans r4) X4
theorem sc_Schema_read : FnScope ["text", "schema", "at", "line"] ["text"] (defScope (inClass (topS 16) 4)) := ⟨rfl, rfl, rfl, by decide +kernel, rfl, by decide +kernel, by decide +kernel⟩
set_option maxHeartbeats 8000000 in
theorem ok_read {f C : Addr} {fd : FuncData} (F : Fun K "read" "Schema.read" (inClass (topS 16) 4) f fd) (T : Txt K mg) (c_Schema : Maker P w K mg base "Schema" C ["self", "text"] (spSInit C) 1) (c_split_words : Callee P w K mg base "split_words" ["line"] spSplitW 1) (c_read_line : Callee P w K mg base "read_line" ["schema", "line", "words"] (spRdLine C) 4) : FnOk P w K mg base CX0 5 f fd ["text"] (spRead C) := by
  refine F.ok sc_Schema_read (fun vs H Q E h => ?_) (fun cdv A outer s H vs Q E hr h => ?_)
  · obtain ⟨txt, sc', rfl, _⟩ := h
    rfl
  · obtain ⟨txt, sc', rfl, hz, hl, hw, hR, k⟩ := h
    refine ⟨_, (pss_cons (ps_set (i := 1) sc_Schema_read.nd rfl (Or.inl rfl) (pe_mk c_Schema hr (by decide) (by rfl) (pa_cons (pv 0) pa_nil)))
      (pss_cons (ps_for PassesOwn.never rfl (i_enum K (by rfl) T.n_enumerate (pa_cons (pe_split (pv 0) pe_str) pa_nil)) (g_tup K (n := 2) rfl (pgs_cons (pg_name (i := 2) sc_Schema_read.nd rfl (Or.inl rfl)) (pgs_cons (pg_name (i := 3) sc_Schema_read.nd rfl (Or.inl rfl)) pgs_nil)))
      (pss_one (ps_expr (pe_co c_read_line hr (by decide) (by rfl) (pa_cons (pv 1) (pa_cons (pe_op o_add (pv 2) pe_int) (pa_cons (pe_co c_split_words hr (by decide) (by rfl) (pa_cons (pv 3) pa_nil)) pa_nil)))))))
      (pss_one (ps_ret (pv 1))))), ?_⟩
    refine ⟨_, rfl, ?_⟩
    intro x dx nx ndx nex
    refine ⟨x, dx, txt, rfl, upd_same, fun cl pr ow fo H1 f1 ncl npr now nfo X1 => ⟨rfl, ?_⟩⟩
    have zz : ∀ {b : Addr}, (upd (upd H dx (.own x)) x (.ins C dx [])) b = none → H b = none := fun {b} e => by
      by_cases hb : b = x
      · rw [hb, upd_same] at e; cases e
      · rw [upd_ne hb] at e
        by_cases hb2 : b = dx
        · rw [hb2]; exact ndx
        · rw [upd_ne hb2] at e; exact e
    have t1 : Same H H1 := fun b o e => by
      refine f1 b o ?_ (ne_of_none e nx)
      rw [upd_ne (ne_of_none e nx), upd_ne (ne_of_none e ndx)]
      exact e
    have ncl := zz ncl
    have npr := zz npr
    have now := zz now
    have nfo := zz nfo
    refine ⟨_, rfl, ⟨_, rfl⟩, _, _, rfl, rfl, by decide +kernel, sz_le (by omega), fun p np => ?_⟩
    have eH : upd H1 p (.lst ((Txt.split txt (Str.ofString "\n")).map V.str)) = upd H1 p (.lst ((Txt.split txt nlS).map V.str)) := rfl
    rw [eH]
    have t2 : Same H1 (upd H1 p (.lst ((Txt.split txt nlS).map V.str))) := same_loc (Same.refl H1) np _
    have hp : (upd H1 p (.lst ((Txt.split txt nlS).map V.str))) p = some (.lst ((Txt.split txt nlS).map V.str)) := upd_same
    have X2 := X1.mono t2
    have t12 := t1.trans t2
    generalize upd H1 p (.lst ((Txt.split txt nlS).map V.str)) = H2 at t2 hp X2 t12
    have kp : ∀ {H' : Hp} {as : List Addr} {sc : Sch}, SchX C H' x txt cl pr ow fo as sc → ∀ {xs : List V}, H' p = some (.lst xs) → p ≠ cl ∧ p ≠ pr ∧ p ≠ ow ∧ p ≠ fo := @fun H' as sc X' xs e => ⟨ne_kind e X'.col (fun z => by cases z), ne_kind e X'.par (fun z => by cases z), ne_kind e X'.own (fun z => by cases z), ne_kind e X'.fol (fun z => by cases z)⟩
    refine ⟨p, _, rfl, SqL.of hp, for_it (walk_enum (K := K) (a := p) (xs := (Txt.split txt nlS).map V.str)) (fun i σ H' => ∃ (x2 x3 : Option V) (as : List Addr) (sc : Sch), σ = [some (.str txt), some (.ref x), x2, x3] ∧ Same H H' ∧ H' p = some (.lst ((Txt.split txt nlS).map V.str)) ∧ SchX C H' x txt cl pr ow fo as sc ∧ ReadsL sc (((Txt.split txt nlS).map splitW).drop i) sc' ∧ sc.owns.length ≤ i ∧ sc.fols.length ≤ i) ?_ ?_ ?_ ?_⟩
    · exact ⟨none, none, [], ⟨[], [], []⟩, rfl, t12, hp, X2, hR, Nat.le_refl _, Nat.le_refl _⟩
    · rintro i σ H' _ ⟨_, _, _, _, _, _, h, _⟩
      exact SqL.of h
    · rintro i y σ H3 H4 hi ⟨x2, x3, as, sc, rfl, t3, hp3, X3, hR3, o3, f3⟩ ⟨T0, y1, y2, rfl, nT, rfl, e1, e2⟩
      cases e1
      obtain ⟨l, hlm, rfl⟩ := map_get e2
      have hil := get_lt hlm
      obtain ⟨w1, w2, w3⟩ := hw l (List.mem_of_getElem? hlm)
      have t4 : Same H3 (upd H3 T0 (.tup [.int (i : Nat), .str l])) := same_loc (Same.refl H3) nT _
      refine ⟨T0, _, rfl, SqT.of upd_same, rfl, _, _, rfl, _, _, rfl, rfl, ?_⟩
      have ed : ((Txt.split txt nlS).map splitW).drop i = splitW l :: ((Txt.split txt nlS).map splitW).drop (i + 1) := by
        have h1 : ((Txt.split txt nlS).map splitW)[i]? = some (splitW l) := by rw [List.getElem?_map, hlm]; rfl
        obtain ⟨h2, h3⟩ := List.getElem?_eq_some_iff.mp h1
        rw [List.drop_eq_getElem_cons h2, h3]
      rw [ed] at hR3
      cases hR3 with
      | @cons _ s1 _ _ _ hV hR4 =>
        refine ⟨_, rfl, _, rfl, _, _, rfl, rfl, _, rfl, l, rfl, w1, fun q H5 t5 nq hq => ?_⟩
        have t35 := t4.trans t5
        refine ⟨x, _, q, txt, cl, pr, ow, fo, as, sc, s1, splitW l, rfl, X3.mono t35, hq, hV, w2, w3, by omega, by omega, fun as' H6 r6 X6 => ?_⟩
        obtain ⟨ol, fl⟩ := hV.len
        obtain ⟨k1, k2, k3, k4⟩ := kp X3 hp3
        refine ⟨_, _, as', s1, rfl, fun b o e => r6 b o (t35 _ _ (t3 _ _ e)) (ne_of_none e ncl) (ne_of_none e npr) (ne_of_none e now) (ne_of_none e nfo), r6 p _ (t35 _ _ hp3) k1 k2 k3 k4, X6, hR4, by omega, by omega⟩
    · rintro σ H3 ⟨x2, x3, as, sc, rfl, t3, hp3, X3, hR3, _, _⟩
      rw [List.length_map] at hR3
      rw [List.drop_of_length_le (by rw [List.length_map]; exact Nat.le_refl _)] at hR3
      cases hR3
      exact ⟨_, rfl, k x cl pr ow fo as H3 t3 nx X3⟩
end
end OA

/-! ### chains and positions: plain data -/
namespace OA
open PySem PySem.Spec PyProof.Rows L2
theorem ChainOf.uniq {ts : List Tab} {n : Str} {cs ds : List Str} (h : ChainOf ts n cs) (g : ChainOf ts n ds) : cs = ds := by
  induction h generalizing ds with
  | root h1 h2 =>
    cases g with
    | root _ _ => rfl
    | up g1 g2 _ => rw [h1] at g1; cases g1; rw [h2] at g2; cases g2
  | up h1 h2 h3 ih =>
    cases g with
    | root g1 g2 => rw [h1] at g1; cases g1; rw [h2] at g2; cases g2
    | up g1 g2 g3 =>
      rw [h1] at g1
      cases g1
      rw [h2] at g2
      cases g2
      rw [ih g3]
theorem ChainOf.head {ts : List Tab} {n : Str} {cs : List Str} (h : ChainOf ts n cs) : ∃ r, cs = n :: r := by
  cases h with
  | root _ _ => exact ⟨[], rfl⟩
  | up _ _ _ => exact ⟨_, rfl⟩
theorem ChainOf.drop {ts : List Tab} {n m : Str} {cs : List Str} (h : ChainOf ts n cs) : ∀ {i : Nat}, cs[i]? = some m → ChainOf ts m (cs.drop i) := by
  induction h with
  | root h1 h2 =>
    intro i hi
    cases i with
    | zero => have := Option.some.inj hi; rw [← this]; exact .root h1 h2
    | succ i => simp at hi
  | up h1 h2 h3 ih =>
    intro i hi
    cases i with
    | zero => have := Option.some.inj hi; rw [← this]; exact .up h1 h2 h3
    | succ i => exact ih (show _ from hi)
theorem ChainOf.nd {ts : List Tab} {n : Str} {cs : List Str} (h : ChainOf ts n cs) : cs.Nodup := by
  induction h with
  | root _ _ => simp
  | @up n p t cs h1 h2 h3 ih =>
    refine List.nodup_cons.mpr ⟨fun hm => ?_, ih⟩
    obtain ⟨i, hi⟩ := List.getElem?_of_mem hm
    have g := h3.drop hi
    have e := (ChainOf.up h1 h2 h3).uniq g
    have := congrArg List.length e
    rw [List.length_cons, List.length_drop] at this
    omega
def colsOf (ts : List Tab) (n : Str) : List Str := ((tabOf ts n).map Tab.cols).getD []
/-- the names of cs, each with a dot behind it -/
def dots (cs : List Str) : Str := Txt.join (Str.ofString "") (cs.map fun c => c ++ dotS)
/-- the positions by the chain -/
def posP (ts : List Tab) (cs : List Str) (i : Nat) : List Str := (List.range i).flatMap fun j => (colsOf ts (cs.getD j Str.empty)).map fun c => dots ((cs.drop 1).take j) ++ c
theorem posP_succ {ts : List Tab} {cs : List Str} {i : Nat} {n : Str} (h : cs[i]? = some n) : posP ts cs (i + 1) = posP ts cs i ++ (colsOf ts n).map fun c => dots ((cs.drop 1).take i) ++ c := by
  unfold posP
  rw [List.range_succ, List.flatMap_append]
  simp [h]
end OA

/-! ### prefix, positions, owner_of: the code -/
namespace OA
open PySem PySem.Spec PyProof.Rows L2
theorem cut_mid {α : Type} (f : α → V) (l : List α) (i : Nat) (hi : i + 1 ≤ l.length) : cutV (l.map f) (some 1) (some ((i : Int) + 1)) = ((l.drop 1).take i).map f := by
  unfold cutV
  have e1 : HT.sIx (l.map f).length (l.map f).length (some ((i : Int) + 1)) = i + 1 := by
    have : ((i : Int) + 1) = ((i + 1 : Nat) : Int) := by omega
    rw [this, HT.sIx_nat, List.length_map]; omega
  have e0 : HT.sIx (l.map f).length 0 (some 1) = 1 := by
    have : (1 : Int) = ((1 : Nat) : Int) := rfl
    rw [this, HT.sIx_nat, List.length_map]; omega
  rw [e1, e0, Nat.add_sub_cancel, List.map_take, List.map_drop]
def dotV : V → V
  | .str x => .str (x ++ dotS)
  | v => v
theorem map_dotV : ∀ xs : List Str, (xs.map V.str).map dotV = (xs.map fun c => c ++ dotS).map V.str
  | [] => rfl
  | x :: xs => by rw [List.map_cons, List.map_cons, List.map_cons, List.map_cons, map_dotV xs]; rfl
def preV (z : Str) : V → V
  | .str x => .str (z ++ x)
  | v => v
theorem map_preV (z : Str) : ∀ xs : List Str, (xs.map V.str).map (preV z) = (xs.map fun c => z ++ c).map V.str
  | [] => rfl
  | x :: xs => by rw [List.map_cons, List.map_cons, List.map_cons, List.map_cons, map_preV z xs]; rfl
theorem eqV_str (a b : Str) : eqV (.str a) (.str b) = decide (b = a) := by
  have h := inV_str b [a]
  have h1 : inV (.str b) ([a].map V.str) = (eqV (.str a) (.str b) || false) := rfl
  rw [h1, Bool.or_false] at h
  rw [h]
  simp
theorem len_empty_join (ps : List Str) : (Txt.join (Str.ofString "") ps).length ≤ (ps.map (·.length)).sum := by
  have := join_len (Str.ofString "") ps
  have e : (Str.ofString "").length = 0 := by decide +kernel
  rw [e] at this
  omega
structure ShortC (ts : List Tab) (cs : List Str) : Prop where
  few : cs.length ≤ 100
  nm : ∀ n ∈ cs, n.length ≤ 100
  tb : ∀ n ∈ cs, ∃ t, tabOf ts n = some t ∧ t.cols.length ≤ 100 ∧ ∀ c ∈ t.cols, c.length ≤ 100
def spPrefix (C : Addr) : Sp := fun vs H Q _ => ∃ (x : Addr) (t n : Str) (i : Nat) (txt : Str) (cl pr ow fo : Addr) (as : List Addr) (s : Sch) (cs : List Str), vs = [.ref x, .str t, .str n] ∧ SchX C H x txt cl pr ow fo as s ∧ ChainOf s.tabs t cs ∧ cs[i]? = some n ∧ ShortC s.tabs cs ∧ ∀ H', Same H H' → Q (.str (dots ((cs.drop 1).take i))) H'
def spPos (C : Addr) : Sp := fun vs H Q _ => ∃ (x : Addr) (t : Str) (txt : Str) (cl pr ow fo : Addr) (as : List Addr) (s : Sch) (cs : List Str), vs = [.ref x, .str t] ∧ SchX C H x txt cl pr ow fo as s ∧ ChainOf s.tabs t cs ∧ ShortC s.tabs cs ∧
  ∀ (p : Addr) (H' : Hp), Same H H' → H p = none → H' p = some (.lst ((posP s.tabs cs cs.length).map V.str)) → Q (.ref p) H'
def spOwnerOf (C : Addr) : Sp := fun vs H Q _ => ∃ (x : Addr) (t : Str) (txt : Str) (cl pr ow fo : Addr) (as : List Addr) (s : Sch), vs = [.ref x, .str t] ∧ SchX C H x txt cl pr ow fo as s ∧ (tabOf s.tabs t).isSome = true ∧ Q (optV ((s.owns.find? fun o => decide (o.1 = t)).map (·.2))) H
section
variable {P : Program} {w : World} {K : PySem.W.Frag} {mg : Str → Option Value} {base : Heap}
theorem sc_Schema_owner_of : FnScope ["self", "table"] ["self", "table"] (defScope (inClass (topS 16) 13)) := ⟨rfl, rfl, rfl, by decide +kernel, rfl, by decide +kernel, by decide +kernel⟩
theorem ok_owner_of {f C : Addr} {fd : FuncData} (F : Fun K "owner_of" "Schema.owner_of" (inClass (topS 16) 13) f fd) (T : Txt K mg) (TS : STxt K mg C) (c_Schema_check_table_1 : MethodD P w K mg base C "check_table" ["self", "table", "line"] (spChkT C) 1 [.int 0]) : FnOk P w K mg base CX0 2 f fd ["self", "table"] (spOwnerOf C) := by
  refine F.ok sc_Schema_owner_of (fun vs H Q E h => ?_) (fun cdv A outer s H vs Q E hr h => ?_)
  · obtain ⟨x, t, txt, cl, pr, ow, fo, as, sc, rfl, _⟩ := h
    rfl
  · obtain ⟨x, t, txt, cl, pr, ow, fo, as, sc, rfl, X, ht, k⟩ := h
    refine ⟨_, (pss_cons (ps_expr (pe_moD c_Schema_check_table_1 hr (by decide) (pv 0) (pa_cons (pv 1) pa_nil)))
      (pss_one (ps_ret (pe_dget1 (hu_of hr) (e_fld K (pv 0) rfl) (pv 1) ⟨rfl, rfl, rfl, rfl⟩)))), ?_⟩
    obtain ⟨dx, hx⟩ := X.obj
    refine ⟨_, rfl, x, dx, _, rfl, hx, sf_no txt cl pr ow fo (by decide +kernel) (by decide +kernel) (by decide +kernel) (by decide +kernel) (by decide +kernel), _, rfl, x, t, _, txt, cl, pr, ow, fo, as, sc, rfl, X, ht, ?_⟩
    have dg := DGet.k (k := kn t) X.own
    rw [valV_own] at dg
    refine ⟨_, rfl, x, C, dx, _, _, rfl, hx, TS.cl, TS.n_own, sf_own txt cl pr ow fo, ow, rfl, ?_, _, rfl, _, dg, ?_⟩
    · exact .inl ⟨_, .inl X.own⟩
    · have e : ((sc.owns.find? fun o => decide (o.1 = t)).map fun o => V.str o.2).getD .non = optV ((sc.owns.find? fun o => decide (o.1 = t)).map (·.2)) := by
        cases (sc.owns.find? fun o => decide (o.1 = t)) <;> rfl
      rw [e]
      exact k
theorem sc_Schema_prefix : FnScope ["self", "low", "high", "chain", "name"] ["self", "low", "high"] (defScope (inClass (topS 16) 11)) := ⟨rfl, rfl, rfl, by decide +kernel, rfl, by decide +kernel, by decide +kernel⟩
set_option maxHeartbeats 8000000 in
theorem ok_prefix {f C : Addr} {fd : FuncData} (F : Fun K "prefix" "Schema.prefix" (inClass (topS 16) 11) f fd) (T : Txt K mg) (TS : STxt K mg C) (c_Schema_chain_of : Method P w K mg base C "chain_of" ["self", "table"] (spChain C) 2) : FnOk P w K mg base CX0 3 f fd ["self", "low", "high"] (spPrefix C) := by
  refine F.ok sc_Schema_prefix (fun vs H Q E h => ?_) (fun cdv A outer s H vs Q E hr h => ?_)
  · obtain ⟨x, t, n, i, txt, cl, pr, ow, fo, as, sc, cs, rfl, _⟩ := h
    rfl
  · obtain ⟨x, t, n, i, txt, cl, pr, ow, fo, as, sc, cs, rfl, X, hc, hi, sh, k⟩ := h
    refine ⟨_, (pss_cons (ps_set (i := 3) sc_Schema_prefix.nd rfl (Or.inl rfl) (pe_mo c_Schema_chain_of hr (by decide) (pv 0) (pa_cons (pv 1) pa_nil)))
      (pss_one (ps_ret (e_join K pe_str (pe_lc (own := [("name", 4)]) (by rfl) sc_Schema_prefix.nd (i_list K (pe_slice (sl_lst K) (pv 3) (po_some pe_int) (po_some (pe_op o_add (e_bm K PySem.F.plainAttrs_list PySem.F.slot_list_index PySem.F.type_list_index (m_index K) (pv 3) (pa_cons (pv 2) pa_nil)) pe_int)))) (blkOk_by (own := [("name", 4)]) (N := ["self", "low", "high", "chain", "name"]) (sc := defScope (inClass (topS 16) 11)) (by decide +kernel)) (fun _ _ _ _ _ => (pg_name (i := 4) sc_Schema_prefix.nd rfl (Or.inl rfl))) (fun _ _ _ _ _ => pts_nil) (fun _ _ _ _ _ => (pe_op o_adds (pv 4) pe_str))))))), ?_⟩
    obtain ⟨dx, hx⟩ := X.obj
    have hil := get_lt hi
    refine ⟨_, rfl, x, dx, _, rfl, hx, sf_no txt cl pr ow fo (by decide +kernel) (by decide +kernel) (by decide +kernel) (by decide +kernel) (by decide +kernel), _, rfl, x, t, txt, cl, pr, ow, fo, as, sc, cs, rfl, X, hc, by have := sh.few; omega, fun p H1 t1 np hp => ?_⟩
    dsimp only [gName]
    have ix : ∀ (m : Nat) (z' : V), m < i → (cs.map V.str)[m]? = some z' → eqV z' (.str n) = false := fun m z' hm hz => by
      obtain ⟨c, hcm, rfl⟩ := map_get hz
      rw [eqV_str]
      refine decide_eq_false fun e => ?_
      subst e
      have h1 := get_lt hcm
      have nd := hc.nd
      have := nd_take (l := cs) (i := i) nd hi
      exact this (List.mem_of_getElem? (by rw [List.getElem?_take_of_lt hm]; exact hcm))
    have tl : ((cs.drop 1).take i).length ≤ 100 := by
      have := sh.few
      rw [List.length_take, List.length_drop]
      omega
    have mm : ∀ c ∈ (cs.drop 1).take i, c ∈ cs := fun c h => List.mem_of_mem_drop (List.mem_of_mem_take h)
    refine at_ret ⟨⟨_, rfl⟩, lc_via ?_⟩
    refine ⟨_, rfl, _, rfl, _, rfl, Or.inl ⟨rfl, _, SqL.of hp⟩, _, rfl, p, _, _, i, .str n, rfl, rfl, SqL.of hp, rfl, flat_strs _, (by rw [List.getElem?_map, hi]; rfl), by rw [eqV_str]; simp, ix, _, _, rfl, rfl, _, rfl, p, _, rfl, SqL.of hp, fun q nq => ?_⟩
    rw [cut_mid V.str cs i (by omega)]
    have t2 : Same H1 (upd H1 q (.lst (((cs.drop 1).take i).map V.str))) := same_loc (Same.refl H1) nq _
    have hq : (upd H1 q (.lst (((cs.drop 1).take i).map V.str))) q = some (.lst (((cs.drop 1).take i).map V.str)) := upd_same
    generalize upd H1 q (.lst (((cs.drop 1).take i).map V.str)) = H2 at t2 hq
    refine lc_mp (a := q) (xs := ((cs.drop 1).take i).map V.str) dotV (fun R r => r) hq (by rw [List.length_map]; omega) (fun z hz H3 t3 R r => ?_) fun D H3 t3 nD hD => ?_
    · obtain ⟨z', hz', rfl⟩ := List.mem_map.mp hz
      exact ⟨_, rfl, _, _, rfl, rfl, sz_le (by have := sh.nm z' (mm z' hz'); show z'.length + 1 ≤ 1000000; omega), r H3 (Same.refl H3)⟩
    · rw [map_dotV] at hD
      refine ⟨_, D, _, rfl, rfl, .inl (SqL.of hD), ?_, ?_⟩
      · have e0 : (Str.ofString "").length = 0 := by decide +kernel
        have h1 : ((((cs.drop 1).take i).map fun c => c ++ dotS).map (·.length)).sum ≤ ((((cs.drop 1).take i).map fun c => c ++ dotS).map (·.length)).length * 200 := sum_le (B := 200) (fun y hy => by
          obtain ⟨z1, hz1, e1⟩ := List.mem_map.mp hy
          obtain ⟨c, hcm, e2⟩ := List.mem_map.mp hz1
          rw [← e1, ← e2, app_len]
          have := sh.nm c (mm c hcm)
          have e3 : dotS.length = 1 := by decide +kernel
          omega)
        rw [List.length_map, List.length_map] at h1
        rw [e0, Nat.mul_zero]
        omega
      · exact k H3 ((t1.trans t2).trans t3)
end
end OA

/-! ### positions: the code -/
namespace OA
open PySem PySem.Spec PyProof.Rows L2
theorem dots_len {cs : List Str} (h1 : cs.length ≤ 100) (h2 : ∀ c ∈ cs, c.length ≤ 100) : (dots cs).length ≤ 20000 := by
  unfold dots
  have h3 := len_empty_join (cs.map fun c => c ++ dotS)
  have h4 : ((cs.map fun c => c ++ dotS).map (·.length)).sum ≤ ((cs.map fun c => c ++ dotS).map (·.length)).length * 200 := sum_le (B := 200) (fun y hy => by
    obtain ⟨z1, hz1, e1⟩ := List.mem_map.mp hy
    obtain ⟨c, hcm, e2⟩ := List.mem_map.mp hz1
    rw [← e1, ← e2, app_len]
    have := h2 c hcm
    have e3 : dotS.length = 1 := by decide +kernel
    omega)
  rw [List.length_map, List.length_map] at h4
  omega
theorem posP_len {ts : List Tab} {cs : List Str} (sh : ShortC ts cs) : ∀ i, i ≤ cs.length → (posP ts cs i).length ≤ i * 100
  | 0, _ => Nat.le_refl _
  | i + 1, hi => by
    have e : cs[i]? = some cs[i] := List.getElem?_eq_getElem hi
    rw [posP_succ e, List.length_append, List.length_map]
    have ih := posP_len sh i (by omega)
    obtain ⟨t, h1, h2, _⟩ := sh.tb cs[i] (List.mem_of_getElem? e)
    have e2 : colsOf ts cs[i] = t.cols := by unfold colsOf; rw [h1]; rfl
    rw [e2]
    omega
section
variable {P : Program} {w : World} {K : PySem.W.Frag} {mg : Str → Option Value} {base : Heap}
theorem sc_Schema_positions : FnScope ["self", "table", "found", "name", "start", "column"] ["self", "table"] (defScope (inClass (topS 16) 12)) := ⟨rfl, rfl, rfl, by decide +kernel, rfl, by decide +kernel, by decide +kernel⟩
set_option maxHeartbeats 8000000 in
theorem ok_positions {f C : Addr} {fd : FuncData} (F : Fun K "positions" "Schema.positions" (inClass (topS 16) 12) f fd) (T : Txt K mg) (TS : STxt K mg C) (c_Schema_chain_of : Method P w K mg base C "chain_of" ["self", "table"] (spChain C) 2) (c_Schema_prefix : Method P w K mg base C "prefix" ["self", "low", "high"] (spPrefix C) 3) : FnOk P w K mg base CX0 4 f fd ["self", "table"] (spPos C) := by
  refine F.ok sc_Schema_positions (fun vs H Q E h => ?_) (fun cdv A outer s H vs Q E hr h => ?_)
  · obtain ⟨x, t, txt, cl, pr, ow, fo, as, sc, cs, rfl, _⟩ := h
    rfl
  · obtain ⟨x, t, txt, cl, pr, ow, fo, as, sc, cs, rfl, X, hc, sh, k⟩ := h
    refine ⟨_, (pss_cons (ps_set (i := 2) sc_Schema_positions.nd rfl (Or.inl rfl) (pe_lst pa_nil))
      (pss_cons (ps_for PassesOwn.never rfl (i_list K (pe_mo c_Schema_chain_of hr (by decide) (pv 0) (pa_cons (pv 1) pa_nil))) (pg_name (i := 3) sc_Schema_positions.nd rfl (Or.inl rfl))
      (pss_cons (ps_set (i := 4) sc_Schema_positions.nd rfl (Or.inr rfl) (pe_mo c_Schema_prefix hr (by decide) (pv 0) (pa_cons (pv 1) (pa_cons (pv 3) pa_nil))))
      (pss_one (ps_expr (e_bm K PySem.F.plainAttrs_list PySem.F.slot_list_extend PySem.F.type_list_extend mt_extend (pv 2) (pa_cons (pe_lc (own := [("column", 5)]) (by rfl) sc_Schema_positions.nd (i_list K (pe_dget (hu_of hr) (e_fld K (pv 0) rfl) (pv 3) (fun _ _ => rfl))) (blkOk_by (own := [("column", 5)]) (N := ["self", "table", "found", "name", "start", "column"]) (sc := defScope (inClass (topS 16) 12)) (by decide +kernel)) (fun _ _ _ _ _ => (pg_name (i := 5) sc_Schema_positions.nd rfl (Or.inl rfl))) (fun _ _ _ _ _ => pts_nil) (fun _ _ _ _ _ => (pe_op o_adds (pv 4) (pv 5)))) pa_nil))))))
      (pss_one (ps_ret (pv 2))))), ?_⟩
    have few := sh.few
    refine ⟨by decide, fun Fd hF => ?_⟩
    have t1 : Same H (upd H Fd (.lst [])) := same_loc (Same.refl H) hF _
    have hF1 : (upd H Fd (.lst [])) Fd = some (.lst ((posP sc.tabs cs 0).map V.str)) := upd_same
    generalize upd H Fd (.lst []) = H1 at t1 hF1
    have X1 := X.mono t1
    obtain ⟨dx1, hx1⟩ := X1.obj
    have nom : ∀ m : Str, ¬ m = "following" → ¬ m = "owners" → ¬ m = "parents" → ¬ m = "column_lists" → ¬ m = "text" → (sflds txt cl pr ow fo).lookup m = none := fun m h1 h2 h3 h4 h5 => sf_no txt cl pr ow fo h1 h2 h3 h4 h5
    refine ⟨_, rfl, x, dx1, _, rfl, hx1, nom _ (by decide +kernel) (by decide +kernel) (by decide +kernel) (by decide +kernel) (by decide +kernel), _, rfl, x, t, txt, cl, pr, ow, fo, as, sc, cs, rfl, X1, hc, by omega, fun p H2 t2 np hp => ?_⟩
    refine ⟨p, rfl, ⟨_, SqL.of hp⟩, for_list (K := K) (a := p) (xs := cs.map V.str) (fun i σ H' => ∃ (x3 x4 : Option V), σ = [some (.ref x), some (.str t), some (.ref Fd), x3, x4, none] ∧ Same H H' ∧ H' p = some (.lst (cs.map V.str)) ∧ H' Fd = some (.lst ((posP sc.tabs cs i).map V.str))) ?_ ?_ ?_ ?_⟩
    · exact ⟨none, none, rfl, t1.trans t2, hp, t2 _ _ hF1⟩
    · rintro i σ H' _ ⟨_, _, _, _, h, _⟩
      exact SqL.of h
    · rintro i y σ H3 hi ⟨x3, x4, rfl, t3, hp3, hF3⟩
      obtain ⟨n, hn, rfl⟩ := map_get hi
      have hil := get_lt hn
      have hnm := List.mem_of_getElem? hn
      have X3 := X.mono t3
      obtain ⟨dx3, hx3⟩ := X3.obj
      refine ⟨_, rfl, x, dx3, _, rfl, hx3, nom _ (by decide +kernel) (by decide +kernel) (by decide +kernel) (by decide +kernel) (by decide +kernel), _, rfl, _, rfl, x, t, n, i, txt, cl, pr, ow, fo, as, sc, cs, rfl, X3, hc, hn, sh, fun H4 t4 => ?_⟩
      have X4 := X3.mono t4
      obtain ⟨dx4, hx4⟩ := X4.obj
      obtain ⟨tb, htb, tl, tc⟩ := sh.tb n hnm
      have ecol : colsOf sc.tabs n = tb.cols := by unfold colsOf; rw [htb]; rfl
      obtain ⟨ad, dg, had⟩ : ∃ ad, DGet H4 cl (.str n) (some (.ref ad)) ∧ H4 ad = some (.lst (tb.cols.map V.str)) := by
        rcases valV_col n X4.lst with ⟨e, _⟩ | ⟨tb2, ad, e, e2, e3⟩
        · rw [e] at htb; cases htb
        · rw [htb] at e
          cases e
          have := DGet.k (k := kn n) X4.col
          rw [e2] at this
          exact ⟨ad, this, e3⟩
      have dl : (dots ((cs.drop 1).take i)).length ≤ 20000 := dots_len (by rw [List.length_take, List.length_drop]; omega) fun c h => sh.nm c (List.mem_of_mem_drop (List.mem_of_mem_take h))
      have pl := posP_len sh i (by omega)
      generalize hz : dots ((cs.drop 1).take i) = z at dl
      dsimp only [gName]
      refine ⟨_, rfl, Or.inl ⟨rfl, _, SqL.of (t4 _ _ hF3)⟩, at_cons (lc_via ?_)⟩
      refine ⟨_, rfl, x, C, dx4, _, _, rfl, hx4, TS.cl, TS.n_col, sf_col txt cl pr ow fo, _, rfl, cl, _, rfl, dg, ?_⟩
      refine lc_mp (a := ad) (xs := tb.cols.map V.str) (preV z) (fun R r => r) had (by rw [List.length_map]; omega) (fun y hy H5 t5 R r => ?_) fun D H5 t5 nD hD => ?_
      · obtain ⟨c, hcm, rfl⟩ := List.mem_map.mp hy
        exact ⟨_, rfl, _, rfl, _, _, rfl, rfl, sz_le (by have := tc c hcm; omega), r H5 (Same.refl H5)⟩
      · rw [map_preV] at hD
        refine ⟨_, _, _, _, rfl, rfl, t5 _ _ (t4 _ _ hF3), hD, sz_le (by rw [List.length_map, List.length_map, List.length_map]; omega), ?_⟩
        have pF : p ≠ Fd := fun e => by rw [e] at np; rw [hF1] at np; cases np
        refine ⟨_, _, rfl, same_loc ((t3.trans t4).trans t5) hF _, ?_, ?_⟩
        · rw [upd_ne pF]
          exact t5 _ _ (t4 _ _ hp3)
        · rw [upd_same, posP_succ hn, List.map_append, ecol, hz]
    · rintro σ H3 ⟨x3, x4, rfl, t3, hp3, hF3⟩
      rw [List.length_map] at hF3
      exact ⟨_, rfl, k Fd H3 t3 hF hF3⟩
end
end OA

/-! ### drawn forests: plain data -/
namespace OA
open PySem PySem.Spec PyProof.Rows L2
structure TB where
  nm : Str
  par : Int
  cols : List Str
inductive ChI (tb : List TB) : Nat → List Nat → Prop
  | root {t : Nat} {x : TB} : tb[t]? = some x → x.par < 0 → ChI tb t [t]
  | up {t p : Nat} {x : TB} {cs : List Nat} : tb[t]? = some x → x.par = (p : Int) → ChI tb p cs → ChI tb t (t :: cs)
theorem get_app {α : Type} {l r : List α} {i : Nat} {a : α} (h : l[i]? = some a) : (l ++ r)[i]? = some a := by
  rw [List.getElem?_append_left (get_lt h)]
  exact h
theorem ChI.mono {tb : List TB} {t : Nat} {cs : List Nat} (h : ChI tb t cs) (r : List TB) : ChI (tb ++ r) t cs := by
  induction h with
  | root h1 h2 => exact .root (get_app h1) h2
  | up h1 h2 _ ih => exact .up (get_app h1) h2 ih
theorem ChI.uniq {tb : List TB} {t : Nat} {cs ds : List Nat} (h : ChI tb t cs) (g : ChI tb t ds) : cs = ds := by
  induction h generalizing ds with
  | root h1 h2 =>
    cases g with
    | root _ _ => rfl
    | up g1 g2 _ => rw [h1] at g1; cases g1; omega
  | up h1 h2 h3 ih =>
    cases g with
    | root g1 g2 => rw [h1] at g1; cases g1; omega
    | up g1 g2 g3 =>
      rw [h1] at g1
      cases g1
      rw [h2] at g2
      have := Int.ofNat.inj g2
      subst this
      rw [ih g3]
theorem ChI.head {tb : List TB} {t : Nat} {cs : List Nat} (h : ChI tb t cs) : ∃ r, cs = t :: r := by
  cases h with
  | root _ _ => exact ⟨[], rfl⟩
  | up _ _ _ => exact ⟨_, rfl⟩
theorem ChI.lt {tb : List TB} {t : Nat} {cs : List Nat} (h : ChI tb t cs) : t < tb.length := by
  cases h with
  | root h1 _ => exact get_lt h1
  | up h1 _ _ => exact get_lt h1
theorem ChI.allLt {tb : List TB} {t : Nat} {cs : List Nat} (h : ChI tb t cs) : ∀ c ∈ cs, c < tb.length := by
  induction h with
  | root h1 _ => intro c hc; rw [List.mem_singleton.mp hc]; exact get_lt h1
  | up h1 _ _ ih =>
    intro c hc
    rcases List.mem_cons.mp hc with e | e
    · rw [e]; exact get_lt h1
    · exact ih c e
structure For (names : List Str) (tb : List TB) : Prop where
  nm : ∀ (t : Nat) (x : TB), tb[t]? = some x → names[t]? = some x.nm
  cols : ∀ (t : Nat) (x : TB), tb[t]? = some x → 1 ≤ x.cols.length ∧ x.cols.length ≤ 4 ∧ x.cols.Nodup ∧ ∀ c ∈ x.cols, c ∈ names
  par : ∀ (t : Nat) (x : TB), tb[t]? = some x → x.par < t ∧ -1 ≤ x.par
  ch : ∀ t, t < tb.length → ∃ cs, ChI tb t cs ∧ cs.length ≤ 4
theorem For.nil (names : List Str) : For names [] := ⟨fun t x h => by simp at h, fun t x h => by simp at h, fun t x h => by simp at h, fun t h => by simp at h⟩
theorem snoc_get {α : Type} {l : List α} {y x : α} {t : Nat} (h : (l ++ [y])[t]? = some x) : l[t]? = some x ∨ (t = l.length ∧ x = y) := by
  rcases Nat.lt_or_ge t l.length with g | g
  · rw [List.getElem?_append_left g] at h; exact .inl h
  · rw [List.getElem?_append_right g] at h
    obtain ⟨i, hi⟩ : ∃ i, t - l.length = i := ⟨_, rfl⟩
    rw [hi] at h
    cases i with
    | zero => right; exact ⟨by omega, (Option.some.inj h).symm⟩
    | succ i => simp at h
theorem For.snoc {names : List Str} {tb : List TB} (h : For names tb) {y : TB} (h1 : names[tb.length]? = some y.nm) (h2 : 1 ≤ y.cols.length ∧ y.cols.length ≤ 4 ∧ y.cols.Nodup ∧ ∀ c ∈ y.cols, c ∈ names) (h3 : y.par = -1 ∨ ∃ (p : Nat) (cs : List Nat), y.par = (p : Int) ∧ ChI tb p cs ∧ cs.length < 4) : For names (tb ++ [y]) := by
  have hp : y.par < tb.length ∧ -1 ≤ y.par := by
    rcases h3 with e | ⟨p, cs, e, hc, _⟩
    · omega
    · have := hc.lt; omega
  refine ⟨fun t x e => ?_, fun t x e => ?_, fun t x e => ?_, fun t ht => ?_⟩
  · rcases snoc_get e with g | ⟨g1, g2⟩
    · exact h.nm t x g
    · rw [g1, g2]; exact h1
  · rcases snoc_get e with g | ⟨g1, g2⟩
    · exact h.cols t x g
    · rw [g2]; exact h2
  · rcases snoc_get e with g | ⟨g1, g2⟩
    · exact h.par t x g
    · rw [g1, g2]; exact hp
  · rw [List.length_append] at ht
    have ht : t < tb.length + 1 := ht
    by_cases g : t < tb.length
    · obtain ⟨cs, hc, hl⟩ := h.ch t g
      exact ⟨cs, hc.mono _, hl⟩
    · have e : t = tb.length := by omega
      subst e
      have e1 : (tb ++ [y])[tb.length]? = some y := by simp
      rcases h3 with e | ⟨p, cs, e, hc, hl⟩
      · exact ⟨_, .root e1 (by omega), by show 1 ≤ 4; decide⟩
      · exact ⟨_, .up e1 e (hc.mono _), by show cs.length + 1 ≤ 4; omega⟩
def nmI (tb : List TB) (t : Nat) : Str := ((tb[t]?).map TB.nm).getD Str.empty
def colI (tb : List TB) (t : Nat) : List Str := ((tb[t]?).map TB.cols).getD []
theorem nmI_of {tb : List TB} {t : Nat} {x : TB} (h : tb[t]? = some x) : nmI tb t = x.nm := by unfold nmI; rw [h]; rfl
theorem colI_of {tb : List TB} {t : Nat} {x : TB} (h : tb[t]? = some x) : colI tb t = x.cols := by unfold colI; rw [h]; rfl
def toTab (tb : List TB) (x : TB) : Tab := ⟨x.nm, if x.par < 0 then none else some (nmI tb x.par.toNat), x.cols⟩
def tabsK (tb : List TB) (k : Nat) : List Tab := (tb.take k).map (toTab tb)
theorem nd_get {α : Type} {l : List α} (h : l.Nodup) {i j : Nat} {a : α} (h1 : l[i]? = some a) (h2 : l[j]? = some a) : i = j := by
  obtain ⟨a1, b1⟩ := List.getElem?_eq_some_iff.mp h1
  obtain ⟨a2, b2⟩ := List.getElem?_eq_some_iff.mp h2
  exact (List.getElem_inj h).mp (b1.trans b2.symm)
theorem nmI_inj {names : List Str} {tb : List TB} (h : For names tb) (nd : names.Nodup) {i j : Nat} (hi : i < tb.length) (hj : j < tb.length) (e : nmI tb i = nmI tb j) : i = j := by
  have h1 : tb[i]? = some tb[i] := List.getElem?_eq_getElem hi
  have h2 : tb[j]? = some tb[j] := List.getElem?_eq_getElem hj
  rw [nmI_of h1, nmI_of h2] at e
  have g1 := h.nm i _ h1
  have g2 := h.nm j _ h2
  rw [e] at g1
  exact nd_get nd g1 g2
theorem tabOf_mem : ∀ {ts : List Tab} {t : Tab}, t ∈ ts → (∀ u ∈ ts, u.name = t.name → u = t) → tabOf ts t.name = some t
  | [], _, h, _ => by cases h
  | u :: ts, t, h, g => by
    unfold tabOf
    rw [List.find?_cons]
    by_cases e : u.name = t.name
    · rw [decide_eq_true e, g u List.mem_cons_self e]
    · rw [decide_eq_false e]
      rcases List.mem_cons.mp h with h | h
      · rw [h] at e; exact absurd rfl e
      · exact tabOf_mem h fun v hv => g v (List.mem_cons_of_mem _ hv)
theorem tabsK_mem {tb : List TB} {k : Nat} {u : Tab} (h : u ∈ tabsK tb k) : ∃ (j : Nat) (x : TB), j < k ∧ tb[j]? = some x ∧ u = toTab tb x := by
  obtain ⟨x, hx, rfl⟩ := List.mem_map.mp h
  obtain ⟨j, hj⟩ := List.getElem?_of_mem hx
  have hlt := get_lt hj
  rw [List.length_take] at hlt
  rw [List.getElem?_take_of_lt (by omega)] at hj
  exact ⟨j, x, by omega, hj, rfl⟩
theorem tabOf_K {names : List Str} {tb : List TB} (h : For names tb) (nd : names.Nodup) {t k : Nat} {x : TB} (hx : tb[t]? = some x) (ht : t < k) : tabOf (tabsK tb k) x.nm = some (toTab tb x) := by
  refine tabOf_mem (t := toTab tb x) (List.mem_map.mpr ⟨x, List.mem_of_getElem? (i := t) (by rw [List.getElem?_take_of_lt ht]; exact hx), rfl⟩) fun u hu e => ?_
  obtain ⟨j, y, hj, hy, rfl⟩ := tabsK_mem hu
  have g1 := h.nm j _ hy
  have g2 := h.nm t _ hx
  have e : y.nm = x.nm := e
  rw [e] at g1
  have := nd_get nd g1 g2
  subst this
  rw [hx] at hy
  cases hy
  rfl
theorem tabOf_no {names : List Str} {tb : List TB} (h : For names tb) (nd : names.Nodup) {t k : Nat} {x : TB} (hx : tb[t]? = some x) (ht : k ≤ t) : tabOf (tabsK tb k) x.nm = none := by
  unfold tabOf
  rw [List.find?_eq_none]
  intro u hu e
  obtain ⟨j, y, hj, hy, rfl⟩ := tabsK_mem hu
  have e : y.nm = x.nm := of_decide_eq_true e
  have g1 := h.nm j _ hy
  have g2 := h.nm t _ hx
  rw [e] at g1
  have := nd_get nd g1 g2
  omega
theorem chainK {names : List Str} {tb : List TB} (h : For names tb) (nd : names.Nodup) {t : Nat} {cs : List Nat} (hc : ChI tb t cs) : ∀ {k : Nat}, t < k → ChainOf (tabsK tb k) (nmI tb t) (cs.map (nmI tb)) := by
  induction hc with
  | @root t x h1 h2 =>
    intro k hk
    rw [nmI_of h1]
    show ChainOf _ _ [nmI tb t]
    rw [nmI_of h1]
    refine .root (tabOf_K h nd h1 hk) ?_
    show (if x.par < 0 then none else _) = none
    rw [if_pos h2]
  | @up t p x cs h1 h2 h3 ih =>
    intro k hk
    have hp := (h.par t x h1).1
    rw [List.map_cons, nmI_of h1]
    refine .up (p := nmI tb p) (tabOf_K h nd h1 hk) ?_ (ih (by omega))
    show (if x.par < 0 then none else some (nmI tb x.par.toNat)) = _
    rw [if_neg (by omega), h2]
    rfl
/-- the positions of a chain, name by name -/
def pths (tb : List TB) : List Nat → List (List Str)
  | [] => []
  | [t] => (colI tb t).map fun c => [c]
  | t :: p :: r => ((colI tb t).map fun c => [c]) ++ (pths tb (p :: r)).map (nmI tb p :: ·)
def plc (tb : List TB) (cs : List Nat) : List Str := (pths tb cs).map (Txt.join dotS)
theorem pths_ne (tb : List TB) : ∀ (cs : List Nat), ∀ q ∈ pths tb cs, q ≠ []
  | [], q, h => by cases h
  | [t], q, h => by
    obtain ⟨c, _, rfl⟩ := List.mem_map.mp h
    simp
  | t :: p :: r, q, h => by
    rcases List.mem_append.mp h with h | h
    · obtain ⟨c, _, rfl⟩ := List.mem_map.mp h
      simp
    · obtain ⟨c, _, rfl⟩ := List.mem_map.mp h
      simp
theorem join_one (y a : Str) : Txt.join y [a] = a := by rw [TL.join_eq]; rfl
theorem join_two {y a : Str} {r : List Str} (h : r ≠ []) : Txt.join y (a :: r) = a ++ y ++ Txt.join y r := by
  rw [TL.join_eq, TL.join_eq]
  cases r with
  | nil => exact absurd rfl h
  | cons b r => rfl
theorem plc_one (tb : List TB) (t : Nat) : plc tb [t] = colI tb t := by
  show ((colI tb t).map fun c => [c]).map (Txt.join dotS) = _
  rw [List.map_map]
  have : (Txt.join dotS ∘ fun c : Str => [c]) = id := funext fun c => join_one dotS c
  rw [this, List.map_id]
theorem plc_two (tb : List TB) (t p : Nat) (r : List Nat) : plc tb (t :: p :: r) = colI tb t ++ (plc tb (p :: r)).map fun z => nmI tb p ++ dotS ++ z := by
  show (((colI tb t).map fun c => [c]) ++ (pths tb (p :: r)).map (nmI tb p :: ·)).map (Txt.join dotS) = _
  have e0 : ((colI tb t).map fun c => [c]).map (Txt.join dotS) = colI tb t := plc_one tb t
  rw [List.map_append, e0]
  congr 1
  unfold plc
  rw [List.map_map, List.map_map]
  refine List.map_congr_left fun q hq => ?_
  exact join_two (pths_ne tb _ q hq)
theorem posK {names : List Str} {tb : List TB} (h : For names tb) (nd : names.Nodup) {t : Nat} {cs : List Nat} (hc : ChI tb t cs) : ∀ {k : Nat}, t < k → ∀ q ∈ pths tb cs, PosOk (tabsK tb k) (nmI tb t) q := by
  induction hc with
  | @root t x h1 h2 =>
    intro k hk q hq
    obtain ⟨c, hcm, rfl⟩ := List.mem_map.mp hq
    rw [colI_of h1] at hcm
    rw [nmI_of h1]
    exact .last (tabOf_K h nd h1 hk) hcm
  | @up t p x cs h1 h2 h3 ih =>
    intro k hk q hq
    have hp := (h.par t x h1).1
    obtain ⟨r, rfl⟩ := h3.head
    rw [nmI_of h1]
    rcases List.mem_append.mp hq with hq | hq
    · obtain ⟨c, hcm, rfl⟩ := List.mem_map.mp hq
      rw [colI_of h1] at hcm
      exact .last (tabOf_K h nd h1 hk) hcm
    · obtain ⟨q', hq', rfl⟩ := List.mem_map.mp hq
      refine .up (tabOf_K h nd h1 hk) ?_ (pths_ne tb _ q' hq') (ih (by omega) q' hq')
      show (if x.par < 0 then none else some (nmI tb x.par.toNat)) = _
      rw [if_neg (by omega), h2]
      rfl
theorem dots_nil : dots [] = Str.ofString "" := by unfold dots; rw [TL.join_eq]; rfl
theorem dots_cons (a : Str) (r : List Str) : dots (a :: r) = a ++ dotS ++ dots r := by
  unfold dots
  cases r with
  | nil =>
    rw [List.map_cons, List.map_nil, join_one, TL.join_eq]
    refine str_ext ?_
    rw [app_list (a ++ dotS)]
    show _ = _ ++ (Str.ofString "").cps.toList
    have : (Str.ofString "").cps.toList = [] := by decide +kernel
    rw [this, List.append_nil]
  | cons b r =>
    rw [List.map_cons, join_two (by simp)]
    refine str_ext ?_
    rw [app_list, app_list (a ++ dotS), app_list (a ++ dotS)]
    have : (Str.ofString "").cps.toList = [] := by decide +kernel
    rw [this, List.append_nil]
theorem empty_app (c : Str) : Str.ofString "" ++ c = c := by
  refine str_ext ?_
  rw [app_list]
  have : (Str.ofString "").cps.toList = [] := by decide +kernel
  rw [this]
  rfl
theorem app_assoc (a b c : Str) : a ++ b ++ c = a ++ (b ++ c) := by
  refine str_ext ?_
  rw [app_list, app_list, app_list, app_list, List.append_assoc]
theorem colsOf_K {names : List Str} {tb : List TB} (h : For names tb) (nd : names.Nodup) {t k : Nat} (ht : t < tb.length) (hk : t < k) : colsOf (tabsK tb k) (nmI tb t) = colI tb t := by
  have h1 : tb[t]? = some tb[t] := List.getElem?_eq_getElem ht
  unfold colsOf
  rw [nmI_of h1, tabOf_K h nd h1 hk, colI_of h1]
  rfl
theorem flatMap_cg {α β : Type} {f g : α → List β} : ∀ {l : List α}, (∀ a ∈ l, f a = g a) → l.flatMap f = l.flatMap g
  | [], _ => rfl
  | a :: l, h => by rw [List.flatMap_cons, List.flatMap_cons, h a List.mem_cons_self, flatMap_cg fun b hb => h b (List.mem_cons_of_mem _ hb)]
theorem posP_plc {names : List Str} {tb : List TB} (h : For names tb) (nd : names.Nodup) {k : Nat} : ∀ (cs : List Nat), (∀ c ∈ cs, c < tb.length ∧ c < k) → posP (tabsK tb k) (cs.map (nmI tb)) cs.length = plc tb cs
  | [], _ => rfl
  | [t], hh => by
    have := hh t (List.mem_singleton.mpr rfl)
    rw [plc_one]
    show ((colsOf (tabsK tb k) (nmI tb t)).map fun c => dots [] ++ c) ++ [] = _
    rw [List.append_nil, colsOf_K h nd this.1 this.2]
    have e : (fun c : Str => dots [] ++ c) = id := funext fun c => by rw [dots_nil, empty_app]; rfl
    rw [e, List.map_id]
  | t :: p :: r, hh => by
    have h1 := hh t List.mem_cons_self
    have ih := posP_plc h nd (p :: r) fun c hc => hh c (List.mem_cons_of_mem _ hc)
    rw [plc_two, ← ih]
    unfold posP
    rw [show (t :: p :: r).length = (p :: r).length + 1 from rfl, List.range_succ_eq_map, List.flatMap_cons, List.flatMap_map]
    have e1 : ((colsOf (tabsK tb k) (((t :: p :: r).map (nmI tb)).getD 0 Str.empty)).map fun c => dots ((((t :: p :: r).map (nmI tb)).drop 1).take 0) ++ c) = colI tb t := by
      show ((colsOf (tabsK tb k) (nmI tb t)).map fun c => dots [] ++ c) = _
      rw [colsOf_K h nd h1.1 h1.2]
      have e : (fun c : Str => dots [] ++ c) = id := funext fun c => by rw [dots_nil, empty_app]; rfl
      rw [e, List.map_id]
    rw [e1, List.map_flatMap]
    congr 1
    refine flatMap_cg fun j hj => ?_
    rw [List.map_map]
    show (colsOf (tabsK tb k) (((p :: r).map (nmI tb)).getD j Str.empty)).map _ = _
    refine List.map_congr_left fun c _ => ?_
    show dots (((p :: r).map (nmI tb)).take (j + 1)) ++ c = nmI tb p ++ dotS ++ (dots ((((p :: r).map (nmI tb)).drop 1).take j) ++ c)
    rw [List.map_cons, List.take_succ_cons, dots_cons]
    show nmI tb p ++ dotS ++ dots ((r.map (nmI tb)).take j) ++ c = nmI tb p ++ dotS ++ (dots ((r.map (nmI tb)).take j) ++ c)
    rw [app_assoc]
end OA

/-! ### the lines of a drawn schema can be read -/
namespace OA
open PySem PySem.Spec PyProof.Rows L2
theorem Name.isName {w : Str} (h : Name 12 w) : isNameB w = true := by
  obtain ⟨c, r, e, hc⟩ := h.first
  have hl := h.len
  have h1 : 1 ≤ w.length := by rw [len_list, e]; exact Nat.le_add_left _ _
  unfold isNameB
  rw [decide_eq_true h1, decide_eq_true hl]
  have h2 : w.cps.toList.all (fun c => decide (c ∈ sgnL)) = true := by
    rw [List.all_eq_true]
    intro d hd
    refine decide_eq_true ?_
    rcases h.all d hd with g | g
    · unfold Low at g
      exact List.mem_map.mpr ⟨d - 97, List.mem_range.mpr (by omega), by unfold sg; rw [if_pos (by omega)]; omega⟩
    · exact List.mem_map.mpr ⟨d - 22, List.mem_range.mpr (by omega), by unfold sg; rw [if_neg (by omega)]; omega⟩
  rw [h2, e]
  show (true && true && decide (c ∈ letL) && true) = true
  unfold Low at hc
  rw [decide_eq_true (show c ∈ letL from List.mem_map.mpr ⟨c - 97, List.mem_range.mpr (by omega), by omega⟩)]
  rfl
theorem Name.no {m : Nat} {w : Str} (h : Name m w) {c : Nat} (hc : ¬ Alnum c) : c ∉ w.cps.toList := fun hm => hc (h.all c hm)
theorem Name.ne0 {m : Nat} {w : Str} (h : Name m w) : w ≠ Str.ofString "" := fun e => by
  obtain ⟨c, r, e1, _⟩ := h.first
  rw [e] at e1
  have : (Str.ofString "").cps.toList = [] := by decide +kernel
  rw [this] at e1
  cases e1
/-- a word of a line: no blank, no newline, not empty, short -/
structure Wd (w : Str) : Prop where
  sp : 32 ∉ w.cps.toList
  nl : 10 ∉ w.cps.toList
  ne : w ≠ Str.ofString ""
  len : w.length ≤ 60
theorem Name.wd {w : Str} (h : Name 12 w) : Wd w := ⟨h.no (by unfold Alnum Low; omega), h.no (by unfold Alnum Low; omega), h.ne0, by have := h.len; omega⟩
theorem wd_root : Wd (Str.ofString "root") := ⟨by decide +kernel, by decide +kernel, by decide +kernel, by decide +kernel⟩
theorem wd_table : Wd (Str.ofString "table") := ⟨by decide +kernel, by decide +kernel, by decide +kernel, by decide +kernel⟩
theorem wd_owner : Wd (Str.ofString "owner") := ⟨by decide +kernel, by decide +kernel, by decide +kernel, by decide +kernel⟩
theorem wd_follow : Wd (Str.ofString "follow") := ⟨by decide +kernel, by decide +kernel, by decide +kernel, by decide +kernel⟩
theorem split_spc {ws : List Str} (ne : ws ≠ []) (h : ∀ w ∈ ws, 32 ∉ w.cps.toList) : Txt.split (Txt.join spc ws) spc = ws := TL.split_join (s := 32) (S := []) (by decide +kernel) (by decide +kernel) ne h
theorem split_dot {ws : List Str} (ne : ws ≠ []) (h : ∀ w ∈ ws, 46 ∉ w.cps.toList) : Txt.split (Txt.join dotS ws) dotS = ws := TL.split_join (s := 46) (S := []) (by decide +kernel) (by decide +kernel) ne h
theorem split_nl {ws : List Str} (ne : ws ≠ []) (h : ∀ w ∈ ws, 10 ∉ w.cps.toList) : Txt.split (Txt.join nlS ws) nlS = ws := TL.split_join (s := 10) (S := []) (by decide +kernel) (by decide +kernel) ne h
theorem splitW_join {ws : List Str} (ne : ws ≠ []) (h : ∀ w ∈ ws, Wd w) : splitW (Txt.join spc ws) = ws := by
  unfold splitW
  rw [split_spc ne fun w hw => (h w hw).sp, if_neg fun hm => (h _ hm).ne rfl]
theorem join_mem {y : Str} {c : Nat} : ∀ {ws : List Str}, c ∈ (Txt.join y ws).cps.toList → c ∈ y.cps.toList ∨ ∃ w ∈ ws, c ∈ w.cps.toList
  | [], h => by rw [TL.join_eq] at h; cases h
  | [a], h => by rw [join_one] at h; exact .inr ⟨a, List.mem_singleton.mpr rfl, h⟩
  | a :: b :: r, h => by
    rw [join_two (by simp), app_list, app_list] at h
    rcases List.mem_append.mp h with h | h
    · rcases List.mem_append.mp h with h | h
      · exact .inr ⟨a, List.mem_cons_self, h⟩
      · exact .inl h
    · rcases join_mem h with h | ⟨w, hw, h⟩
      · exact .inl h
      · exact .inr ⟨w, List.mem_cons_of_mem _ hw, h⟩
theorem joinW_nl {ws : List Str} (h : ∀ w ∈ ws, Wd w) : 10 ∉ (Txt.join spc ws).cps.toList := fun hm => by
  rcases join_mem hm with g | ⟨w, hw, g⟩
  · revert g; decide +kernel
  · exact (h w hw).nl g
theorem joinW_len {ws : List Str} {n : Nat} (h : ∀ w ∈ ws, Wd w) (hn : ws.length ≤ n) : (Txt.join spc ws).length ≤ n * 61 := by
  have h1 := join_len spc ws
  have h2 : (ws.map (·.length)).sum ≤ (ws.map (·.length)).length * 60 := sum_le (B := 60) fun x hx => by
    obtain ⟨w, hw, rfl⟩ := List.mem_map.mp hx
    exact (h w hw).len
  rw [List.length_map] at h2
  have e : spc.length = 1 := by decide +kernel
  rw [e] at h1
  omega
/-- what the law draws of owners and follows -/
structure OwOk (tb : List TB) (ow : List (Nat × Str)) : Prop where
  nd : (ow.map (·.1)).Nodup
  ok : ∀ e ∈ ow, ∃ cs, ChI tb e.1 cs ∧ e.2 ∈ plc tb cs
structure FoOk (tb : List TB) (fo : List (Nat × Str × Str)) : Prop where
  nd : (fo.map fun e => (e.1, e.2.1)).Nodup
  ok : ∀ e ∈ fo, ∃ (x y : TB) (p : Nat), tb[e.1]? = some x ∧ x.par = (p : Int) ∧ e.2.1 ∈ x.cols ∧ tb[p]? = some y ∧ e.2.2 ∈ y.cols
def tlW (tb : List TB) (t : Nat) (x : TB) : List Str := if x.par < 0 then Str.ofString "root" :: x.nm :: x.cols else Str.ofString "table" :: x.nm :: nmI tb x.par.toNat :: x.cols
def ownW (tb : List TB) (e : Nat × Str) : List Str := [Str.ofString "owner", nmI tb e.1, e.2]
def folW (tb : List TB) (e : Nat × Str × Str) : List Str := [Str.ofString "follow", nmI tb e.1, e.2.1, e.2.2]
def ofT {β : Type} (l : List (Nat × β)) (t : Nat) : List (Nat × β) := l.filter fun e => decide (e.1 = t)
def extW (tb : List TB) (ow : List (Nat × Str)) (fo : List (Nat × Str × Str)) (t : Nat) : List (List Str) := (ofT ow t).map (ownW tb) ++ (ofT fo t).map (folW tb)
inductive Blk (tb : List TB) (ow : List (Nat × Str)) (fo : List (Nat × Str × Str)) : Nat → List Nat → List (List Str) → Prop
  | nil : Blk tb ow fo 0 [] []
  | tab {k : Nat} {D : List Nat} {ls : List (List Str)} {x : TB} : Blk tb ow fo k D ls → tb[k]? = some x → Blk tb ow fo (k + 1) D (ls ++ [tlW tb k x])
  | ext {k t : Nat} {D : List Nat} {ls : List (List Str)} : Blk tb ow fo k D ls → t < k → t ∉ D → Blk tb ow fo k (D ++ [t]) (ls ++ extW tb ow fo t)
def ownN (tb : List TB) (e : Nat × Str) : Str × Str := (nmI tb e.1, e.2)
def folN (tb : List TB) (e : Nat × Str × Str) : (Str × Str) × Str := ((nmI tb e.1, e.2.1), e.2.2)
def schK (tb : List TB) (ow : List (Nat × Str)) (fo : List (Nat × Str × Str)) (k : Nat) (D : List Nat) : Sch := ⟨tabsK tb k, (D.flatMap (ofT ow)).map (ownN tb), (D.flatMap (ofT fo)).map (folN tb)⟩
theorem ReadsL.app {s s1 s2 : Sch} {a b : List (List Str)} (h : ReadsL s a s1) (g : ReadsL s1 b s2) : ReadsL s (a ++ b) s2 := by
  induction h with
  | nil => exact g
  | cons h1 _ ih => exact .cons h1 (ih g)
theorem ofT_mem {β : Type} {l : List (Nat × β)} {t : Nat} {e : Nat × β} (h : e ∈ ofT l t) : e ∈ l ∧ e.1 = t := by
  obtain ⟨h1, h2⟩ := List.mem_filter.mp h
  exact ⟨h1, of_decide_eq_true h2⟩
theorem find_no {α : Type} {p : α → Bool} {l : List α} (h : ∀ a ∈ l, p a = false) : l.find? p = none := by
  rw [List.find?_eq_none]
  intro a ha
  rw [h a ha]
  exact Bool.false_ne_true
section
variable {names : List Str} {tb : List TB} (F : For names tb) (W : Words 12 12 names)
include F W
theorem nameAt {t : Nat} {x : TB} (h : tb[t]? = some x) : Name 12 x.nm := W.all _ (List.mem_of_getElem? (F.nm t x h))
theorem nameC {t : Nat} {x : TB} (h : tb[t]? = some x) {c : Str} (hc : c ∈ x.cols) : Name 12 c := W.all _ ((F.cols t x h).2.2.2 c hc)
theorem nameI {t : Nat} (h : t < tb.length) : Name 12 (nmI tb t) := by
  have h1 : tb[t]? = some tb[t] := List.getElem?_eq_getElem h
  rw [nmI_of h1]
  exact nameAt F W h1
theorem lenTB : tb.length ≤ 12 := by
  rcases Nat.lt_or_ge 12 tb.length with h | h
  · have h1 := F.nm 12 _ (List.getElem?_eq_getElem h)
    have := get_lt h1
    rw [W.len] at this
    omega
  · exact h
theorem pathNames {t : Nat} {cs : List Nat} (hc : ChI tb t cs) : ∀ q ∈ pths tb cs, q.length ≤ cs.length ∧ ∀ z ∈ q, Name 12 z := by
  induction hc with
  | @root t x h1 h2 =>
    intro q hq
    obtain ⟨c, hcm, rfl⟩ := List.mem_map.mp hq
    rw [colI_of h1] at hcm
    refine ⟨Nat.le_refl _, fun z hz => ?_⟩
    rw [List.mem_singleton.mp hz]
    exact nameC F W h1 hcm
  | @up t p x cs h1 h2 h3 ih =>
    intro q hq
    obtain ⟨r, rfl⟩ := h3.head
    rcases List.mem_append.mp hq with hq | hq
    · obtain ⟨c, hcm, rfl⟩ := List.mem_map.mp hq
      rw [colI_of h1] at hcm
      refine ⟨by show 1 ≤ _ + 1; omega, fun z hz => ?_⟩
      rw [List.mem_singleton.mp hz]
      exact nameC F W h1 hcm
    · obtain ⟨q', hq', rfl⟩ := List.mem_map.mp hq
      obtain ⟨g1, g2⟩ := ih q' hq'
      refine ⟨by show q'.length + 1 ≤ _ + 1; omega, fun z hz => ?_⟩
      rcases List.mem_cons.mp hz with e | e
      · rw [e]; exact nameI F W h3.lt
      · exact g2 z e
theorem plcW {t : Nat} {cs : List Nat} (hc : ChI tb t cs) {z : Str} (hz : z ∈ plc tb cs) : ∃ q ∈ pths tb cs, z = Txt.join dotS q ∧ Txt.split z dotS = q ∧ q.length ≤ 4 ∧ (∀ y ∈ q, Name 12 y) ∧ Wd z := by
  obtain ⟨q, hq, rfl⟩ := List.mem_map.mp hz
  obtain ⟨g1, g2⟩ := pathNames F W hc q hq
  obtain ⟨cs', hc', hl'⟩ := F.ch t hc.lt
  have e := hc.uniq hc'
  subst e
  have ne := pths_ne tb cs q hq
  have nl : ∀ c, ¬ Alnum c → c ≠ 46 → c ∉ (Txt.join dotS q).cps.toList := fun c h1 h2 hm => by
    rcases join_mem hm with g | ⟨w, hw, g⟩
    · have e : dotS.cps.toList = [46] := by decide +kernel
      rw [e] at g
      exact h2 (List.mem_singleton.mp g)
    · exact (g2 w hw).no h1 g
  refine ⟨q, hq, rfl, split_dot ne fun w hw => (g2 w hw).no (by unfold Alnum Low; omega), by omega, g2, nl 32 (by unfold Alnum Low; omega) (by decide), nl 10 (by unfold Alnum Low; omega) (by decide), ?_, ?_⟩
  · intro e0
    cases q with
    | nil => exact absurd rfl ne
    | cons a r =>
      obtain ⟨c, r', e1, _⟩ := (g2 a List.mem_cons_self).first
      have : (Txt.join dotS (a :: r)).cps.toList = [] := by rw [e0]; decide +kernel
      cases r with
      | nil => rw [join_one, e1] at this; cases this
      | cons b r => rw [join_two (by simp), app_list, app_list, e1] at this; cases this
  · have h1 := join_len dotS q
    have h2 : (q.map (·.length)).sum ≤ (q.map (·.length)).length * 12 := sum_le (B := 12) fun x hx => by
      obtain ⟨w, hw, rfl⟩ := List.mem_map.mp hx
      exact (g2 w hw).len
    rw [List.length_map] at h2
    have e : dotS.length = 1 := by decide +kernel
    rw [e] at h1
    omega
theorem reads_own {k : Nat} {fols : List ((Str × Str) × Str)} : ∀ (l pre : List (Nat × Str)), (∀ e ∈ l, e.1 < k ∧ ∃ cs, ChI tb e.1 cs ∧ e.2 ∈ plc tb cs) → (∀ e ∈ pre, e.1 < tb.length) → ((pre ++ l).map (·.1)).Nodup → ReadsL ⟨tabsK tb k, pre.map (ownN tb), fols⟩ (l.map (ownW tb)) ⟨tabsK tb k, (pre ++ l).map (ownN tb), fols⟩
  | [], pre, _, _, _ => by rw [List.append_nil]; exact .nil
  | e :: l, pre, h, hp, nd => by
    obtain ⟨hk, cs, hc, hm⟩ := h e List.mem_cons_self
    obtain ⟨q, hq, e1, e2, q4, qn, wz⟩ := plcW F W hc hm
    obtain ⟨x, hx⟩ : ∃ x, tb[e.1]? = some x := ⟨_, List.getElem?_eq_getElem hc.lt⟩
    have nn := nameI F W hc.lt
    have ih := reads_own (k := k) (fols := fols) l (pre ++ [e]) (fun e he => h e (List.mem_cons_of_mem _ he)) (fun a ha => by
      rcases List.mem_append.mp ha with ha | ha
      · exact hp a ha
      · rw [List.mem_singleton.mp ha]; exact hc.lt) (by rw [List.append_assoc]; exact nd)
    rw [List.append_assoc, List.singleton_append] at ih
    refine .cons ?_ ih
    have v := ValidLine.owner (s := ⟨tabsK tb k, pre.map (ownN tb), fols⟩) (t := nmI tb e.1) (z := e.2) nn.isName (by rw [e2, List.all_eq_true]; exact fun y hy => (qn y hy).isName) (by have := wz.len; omega) (by rw [e2]; omega) (by rw [e2]; exact fun y hy => by have := (qn y hy).len; omega) (by
      show (tabOf (tabsK tb k) (nmI tb e.1)).isSome = true
      rw [nmI_of hx, tabOf_K F W.nd hx hk]
      rfl) (by
      refine find_no fun a ha => ?_
      obtain ⟨b, hb, rfl⟩ := List.mem_map.mp ha
      refine decide_eq_false fun ee => ?_
      have := nmI_inj F W.nd (hp b hb) hc.lt ee
      rw [List.map_append, List.nodup_append] at nd
      exact nd.2.2 b.1 (List.mem_map.mpr ⟨b, hb, rfl⟩) e.1 (List.mem_map.mpr ⟨e, List.mem_cons_self, rfl⟩) this) (by rw [e2]; exact posK F W.nd hc hk q hq)
    rw [List.map_append]
    exact v
theorem reads_fol {k : Nat} {owns : List (Str × Str)} : ∀ (l pre : List (Nat × Str × Str)), (∀ e ∈ l, e.1 < k ∧ ∃ (x y : TB) (p : Nat), tb[e.1]? = some x ∧ x.par = (p : Int) ∧ e.2.1 ∈ x.cols ∧ tb[p]? = some y ∧ e.2.2 ∈ y.cols) → (∀ e ∈ pre, e.1 < tb.length) → ((pre ++ l).map fun e => (e.1, e.2.1)).Nodup → ReadsL ⟨tabsK tb k, owns, pre.map (folN tb)⟩ (l.map (folW tb)) ⟨tabsK tb k, owns, (pre ++ l).map (folN tb)⟩
  | [], pre, _, _, _ => by rw [List.append_nil]; exact .nil
  | e :: l, pre, h, hp, nd => by
    obtain ⟨hk, x, y, p, hx, hpar, hc, hy, hu⟩ := h e List.mem_cons_self
    have hlt := get_lt hx
    have hpl := (F.par _ _ hx).1
    have ih := reads_fol (k := k) (owns := owns) l (pre ++ [e]) (fun e he => h e (List.mem_cons_of_mem _ he)) (fun a ha => by
      rcases List.mem_append.mp ha with ha | ha
      · exact hp a ha
      · rw [List.mem_singleton.mp ha]; exact hlt) (by rw [List.append_assoc]; exact nd)
    rw [List.append_assoc, List.singleton_append] at ih
    refine .cons ?_ ih
    have v := ValidLine.follow (s := ⟨tabsK tb k, owns, pre.map (folN tb)⟩) (t := nmI tb e.1) (c := e.2.1) (u := e.2.2) (p := nmI tb p) (tb := toTab tb x) (tp := toTab tb y) (nameI F W hlt).isName (nameC F W hx hc).isName (nameC F W hy hu).isName (by
      show tabOf (tabsK tb k) (nmI tb e.1) = _
      rw [nmI_of hx, tabOf_K F W.nd hx hk]) hc (by
      refine find_no fun a ha => ?_
      obtain ⟨b, hb, rfl⟩ := List.mem_map.mp ha
      refine decide_eq_false fun ee => ?_
      have ee : (nmI tb b.1, b.2.1) = (nmI tb e.1, e.2.1) := ee
      injection ee with ee1 ee2
      have := nmI_inj F W.nd (hp b hb) hlt ee1
      rw [List.map_append, List.nodup_append] at nd
      exact nd.2.2 (b.1, b.2.1) (List.mem_map.mpr ⟨b, hb, rfl⟩) (e.1, e.2.1) (List.mem_map.mpr ⟨e, List.mem_cons_self, rfl⟩) (by rw [this, ee2])) (by
      show (if x.par < 0 then none else some (nmI tb x.par.toNat)) = _
      rw [if_neg (by omega), hpar]
      rfl) (by
      show tabOf (tabsK tb k) (nmI tb p) = _
      rw [nmI_of hy, tabOf_K F W.nd hy (by omega)]) hu
    rw [List.map_append]
    exact v
theorem Blk.reads {ow : List (Nat × Str)} {fo : List (Nat × Str × Str)} (O : OwOk tb ow) (Fo : FoOk tb fo) (six : tb.length ≤ 6) {k : Nat} {D : List Nat} {ls : List (List Str)} (h : Blk tb ow fo k D ls) : k ≤ tb.length ∧ (∀ t ∈ D, t < k) ∧ ((D.flatMap (ofT ow)).map (·.1)).Nodup ∧ ((D.flatMap (ofT fo)).map fun e => (e.1, e.2.1)).Nodup ∧ ReadsL ⟨[], [], []⟩ ls (schK tb ow fo k D) := by
  induction h with
  | nil => exact ⟨Nat.zero_le _, (fun t h => nomatch h), List.nodup_nil, List.nodup_nil, ReadsL.nil⟩
  | @tab k D ls x _ hx ih =>
    obtain ⟨h1, h2, h3, h4, h5⟩ := ih
    have hk := get_lt hx
    refine ⟨hk, fun t ht => Nat.lt_succ_of_lt (h2 t ht), h3, h4, h5.app (.cons ?_ .nil)⟩
    obtain ⟨c1, c2, c3, c4⟩ := F.cols k x hx
    have cne : x.cols ≠ [] := fun e => by rw [e] at c1; exact absurd c1 (by decide)
    have tl : (tabsK tb k).length < 6 := by unfold tabsK; rw [List.length_map, List.length_take]; omega
    have tk : tabsK tb (k + 1) = tabsK tb k ++ [toTab tb x] := by
      unfold tabsK
      rw [take_more hx, List.map_append]
      rfl
    unfold tlW schK
    rw [tk]
    by_cases hp : x.par < 0
    · rw [if_pos hp]
      have v := ValidLine.root (s := schK tb ow fo k D) (t := x.nm) (cols := x.cols) cne (by
        rw [List.all_eq_true]
        intro z hz
        rcases List.mem_cons.mp hz with e | e
        · rw [e]; exact (nameAt F W hx).isName
        · exact (nameC F W hx e).isName) (tabOf_no F W.nd hx (Nat.le_refl _)) c3 c2 tl
      have e : toTab tb x = ⟨x.nm, none, x.cols⟩ := by unfold toTab; rw [if_pos hp]
      rw [e]
      exact v
    · rw [if_neg hp]
      have hpp := F.par k x hx
      obtain ⟨p, hpe⟩ : ∃ p : Nat, x.par = (p : Int) := ⟨x.par.toNat, by omega⟩
      have ep : x.par.toNat = p := by omega
      rw [ep]
      obtain ⟨cs, hcs, hl4⟩ := F.ch k hk
      obtain ⟨ds, hds, hd4⟩ : ∃ ds, ChI tb p ds ∧ ds.length < 4 := by
        cases hcs with
        | root g1 g2 => rw [hx] at g1; cases g1; exact absurd g2 hp
        | @up _ p' x' ds g1 g2 g3 =>
          rw [hx] at g1
          cases g1
          have : p = p' := by omega
          subst this
          have hl4 : ds.length + 1 ≤ 4 := hl4
          exact ⟨ds, g3, by omega⟩
      have v := ValidLine.table (s := schK tb ow fo k D) (t := x.nm) (p := nmI tb p) (cols := x.cols) (cs := ds.map (nmI tb)) cne (by
        rw [List.all_eq_true]
        intro z hz
        rcases List.mem_cons.mp hz with e | e
        · rw [e]; exact (nameAt F W hx).isName
        · rcases List.mem_cons.mp e with e | e
          · rw [e]; exact (nameI F W (by omega)).isName
          · exact (nameC F W hx e).isName) (tabOf_no F W.nd hx (Nat.le_refl _)) (chainK F W.nd hds (by omega)) (by rw [List.length_map]; exact hd4) c3 c2 tl
      have e : toTab tb x = ⟨x.nm, some (nmI tb p), x.cols⟩ := by unfold toTab; rw [if_neg hp, ep]
      rw [e]
      exact v
  | @ext k t D ls _ ht hn ih =>
    obtain ⟨h1, h2, h3, h4, h5⟩ := ih
    have fl : ∀ {β : Type} (l : List (Nat × β)), (D ++ [t]).flatMap (ofT l) = D.flatMap (ofT l) ++ ofT l t := fun l => by rw [List.flatMap_append, List.flatMap_cons, List.flatMap_nil, List.append_nil]
    have inD : ∀ {β : Type} (l : List (Nat × β)), ∀ e ∈ D.flatMap (ofT l), e.1 ∈ D := fun l e he => by
      obtain ⟨d, hd, he⟩ := List.mem_flatMap.mp he
      rw [(ofT_mem he).2]
      exact hd
    have n3 : ((D.flatMap (ofT ow) ++ ofT ow t).map (·.1)).Nodup := by
      rw [List.map_append, List.nodup_append]
      refine ⟨h3, O.nd.sublist (List.filter_sublist.map _), fun a ha b hb e => ?_⟩
      obtain ⟨u, hu, rfl⟩ := List.mem_map.mp ha
      obtain ⟨v, hv, rfl⟩ := List.mem_map.mp hb
      have := inD ow u hu
      rw [e, (ofT_mem hv).2] at this
      exact hn this
    have n4 : ((D.flatMap (ofT fo) ++ ofT fo t).map fun e => (e.1, e.2.1)).Nodup := by
      rw [List.map_append, List.nodup_append]
      refine ⟨h4, Fo.nd.sublist (List.filter_sublist.map _), fun a ha b hb e => ?_⟩
      obtain ⟨u, hu, rfl⟩ := List.mem_map.mp ha
      obtain ⟨v, hv, rfl⟩ := List.mem_map.mp hb
      have := inD fo u hu
      injection e with e1 e2
      rw [e1, (ofT_mem hv).2] at this
      exact hn this
    refine ⟨h1, fun d hd => ?_, by rw [fl]; exact n3, by rw [fl]; exact n4, h5.app ?_⟩
    · rcases List.mem_append.mp hd with hd | hd
      · exact h2 d hd
      · rw [List.mem_singleton.mp hd]; exact ht
    · unfold extW schK
      rw [fl, fl]
      refine ReadsL.app (reads_own F W (ofT ow t) (D.flatMap (ofT ow)) (fun e he => ?_) (fun e he => ?_) n3) (reads_fol F W (ofT fo t) (D.flatMap (ofT fo)) (fun e he => ?_) (fun e he => ?_) n4)
      · obtain ⟨g1, g2⟩ := ofT_mem he
        exact ⟨by omega, O.ok e g1⟩
      · have := h2 _ (inD ow e he)
        omega
      · obtain ⟨g1, g2⟩ := ofT_mem he
        exact ⟨by omega, Fo.ok e g1⟩
      · have := h2 _ (inD fo e he)
        omega
theorem Blk.wd {ow : List (Nat × Str)} {fo : List (Nat × Str × Str)} (O : OwOk tb ow) (Fo : FoOk tb fo) {k : Nat} {D : List Nat} {ls : List (List Str)} (h : Blk tb ow fo k D ls) : ∀ l ∈ ls, l ≠ [] ∧ l.length ≤ 7 ∧ ∀ w ∈ l, Wd w := by
  induction h with
  | nil => intro l hl; cases hl
  | @tab k D ls x _ hx ih =>
    intro l hl
    rcases List.mem_append.mp hl with hl | hl
    · exact ih l hl
    · rw [List.mem_singleton.mp hl]
      obtain ⟨c1, c2, c3, c4⟩ := F.cols k x hx
      have hpp := F.par k x hx
      have hk := get_lt hx
      unfold tlW
      by_cases hp : x.par < 0
      · rw [if_pos hp]
        refine ⟨by simp, by simp; omega, fun w hw => ?_⟩
        rcases List.mem_cons.mp hw with e | hw
        · rw [e]; exact wd_root
        · rcases List.mem_cons.mp hw with e | hw
          · rw [e]; exact (nameAt F W hx).wd
          · exact (nameC F W hx hw).wd
      · rw [if_neg hp]
        refine ⟨by simp, by simp; omega, fun w hw => ?_⟩
        rcases List.mem_cons.mp hw with e | hw
        · rw [e]; exact wd_table
        · rcases List.mem_cons.mp hw with e | hw
          · rw [e]; exact (nameAt F W hx).wd
          · rcases List.mem_cons.mp hw with e | hw
            · rw [e]; exact (nameI F W (by omega)).wd
            · exact (nameC F W hx hw).wd
  | @ext k t D ls _ ht hn ih =>
    intro l hl
    rcases List.mem_append.mp hl with hl | hl
    · exact ih l hl
    · rcases List.mem_append.mp hl with hl | hl
      · obtain ⟨e, he, rfl⟩ := List.mem_map.mp hl
        obtain ⟨cs, hc, hz⟩ := O.ok e (ofT_mem he).1
        obtain ⟨_, _, _, _, _, _, wz⟩ := plcW F W hc hz
        refine ⟨by simp [ownW], by simp [ownW], fun w hw => ?_⟩
        rcases List.mem_cons.mp hw with e | hw
        · rw [e]; exact wd_owner
        · rcases List.mem_cons.mp hw with e | hw
          · rw [e]; exact (nameI F W hc.lt).wd
          · rw [List.mem_singleton.mp hw]; exact wz
      · obtain ⟨e, he, rfl⟩ := List.mem_map.mp hl
        obtain ⟨x, y, p, hx, _, hc, hy, hu⟩ := Fo.ok e (ofT_mem he).1
        refine ⟨by simp [folW], by simp [folW], fun w hw => ?_⟩
        rcases List.mem_cons.mp hw with e | hw
        · rw [e]; exact wd_follow
        · rcases List.mem_cons.mp hw with e | hw
          · rw [e]; exact (nameI F W (get_lt hx)).wd
          · rcases List.mem_cons.mp hw with e | hw
            · rw [e]; exact (nameC F W hx hc).wd
            · rw [List.mem_singleton.mp hw]; exact (nameC F W hy hu).wd
end
end OA

/-! ### a drawn forest in the heap; get_chain, get_places, table_line -/
namespace OA
open PySem PySem.Spec PyProof.Rows L2
def TBr (H : Hp) (a : Addr) (x : TB) : Prop := ∃ c, H a = some (.tup [.str x.nm, .int x.par, .ref c]) ∧ H c = some (.lst (x.cols.map V.str))
abbrev TBx (H : Hp) (as : List Addr) (tb : List TB) : Prop := Paired (TBr H) as tb
def TBs (H : Hp) (v : V) (tb : List TB) : Prop := ∃ D as, v = .ref D ∧ H D = some (.lst (as.map V.ref)) ∧ TBx H as tb
theorem TBr.mono {H H' : Hp} {a : Addr} {x : TB} (s : Same H H') (h : TBr H a x) : TBr H' a x := by
  obtain ⟨c, h1, h2⟩ := h
  exact ⟨c, s _ _ h1, s _ _ h2⟩
theorem TBs.mono {H H' : Hp} {v : V} {tb : List TB} (s : Same H H') (h : TBs H v tb) : TBs H' v tb := by
  obtain ⟨D, as, e, h1, h2⟩ := h
  exact ⟨D, as, e, s _ _ h1, Paired.mapP h2 fun a x => TBr.mono s⟩
theorem paired_get2 {α β : Type} {F : α → β → Prop} : ∀ {as : List α} {bs : List β}, Paired F as bs → ∀ {i : Nat} {b : β}, bs[i]? = some b → ∃ a, as[i]? = some a ∧ F a b
  | _, _, .nil, i, b, h => by simp at h
  | _, _, .cons (a := a) h r, 0, b', e => by
    have := Option.some.inj e
    subst this
    exact ⟨a, rfl, h⟩
  | _, _, .cons h r, i + 1, b', e => by
    obtain ⟨a, h1, h2⟩ := paired_get2 r (i := i) (b := b') e
    exact ⟨a, h1, h2⟩
theorem TBs.at {H : Hp} {v : V} {tb : List TB} (h : TBs H v tb) : ∃ (D : Addr) (as : List Addr), v = .ref D ∧ H D = some (.lst (as.map V.ref)) ∧ as.length = tb.length ∧ ∀ (t : Nat) (x : TB), tb[t]? = some x → ∃ a c, (as.map V.ref)[t]? = some (.ref a) ∧ H a = some (.tup [.str x.nm, .int x.par, .ref c]) ∧ H c = some (.lst (x.cols.map V.str)) := by
  obtain ⟨D, as, e, h1, h2⟩ := h
  refine ⟨D, as, e, h1, Paired.length h2, fun t x hx => ?_⟩
  obtain ⟨a, ha, c, g1, g2⟩ := paired_get2 h2 hx
  exact ⟨a, c, by rw [List.getElem?_map, ha]; rfl, g1, g2⟩
abbrev natV (n : Nat) : V := .int (n : Int)
def spGC (d : Nat) : Sp := fun vs H Q _ => ∃ (v : V) (t : Nat) (tb : List TB) (cs : List Nat), vs = [v, .int (t : Int)] ∧ TBs H v tb ∧ ChI tb t cs ∧ cs.length ≤ d ∧ d ≤ 1000 ∧ ∀ (p : Addr) (H' : Hp), Same H H' → H p = none → H' p = some (.lst (cs.map natV)) → Q (.ref p) H'
/-- short texts -/
structure Shrt (tb : List TB) : Prop where
  nm : ∀ x ∈ tb, x.nm.length ≤ 100
  cl : ∀ x ∈ tb, x.cols.length ≤ 100
  cn : ∀ x ∈ tb, ∀ c ∈ x.cols, c.length ≤ 100
theorem plc_short {tb : List TB} (S : Shrt tb) {t : Nat} {cs : List Nat} (h : ChI tb t cs) : (plc tb cs).length ≤ cs.length * 100 ∧ ∀ z ∈ plc tb cs, z.length ≤ cs.length * 200 := by
  induction h with
  | @root t x h1 h2 =>
    have hm := List.mem_of_getElem? h1
    rw [plc_one, colI_of h1]
    exact ⟨by have := S.cl x hm; simpa using this, fun z hz => by have := S.cn x hm z hz; show _ ≤ 1 * 200; omega⟩
  | @up t p x cs h1 h2 h3 ih =>
    have hm := List.mem_of_getElem? h1
    obtain ⟨r, rfl⟩ := h3.head
    obtain ⟨i1, i2⟩ := ih
    obtain ⟨y, hy⟩ : ∃ y, tb[p]? = some y := ⟨_, List.getElem?_eq_getElem h3.lt⟩
    rw [plc_two, colI_of h1]
    have hc := S.cl x hm
    refine ⟨?_, fun z hz => ?_⟩
    · rw [List.length_append, List.length_map]
      simp only [List.length_cons] at *
      omega
    · rcases List.mem_append.mp hz with hz | hz
      · have := S.cn x hm z hz
        simp only [List.length_cons]
        omega
      · obtain ⟨u, hu, rfl⟩ := List.mem_map.mp hz
        have g1 := i2 u hu
        have g2 := S.nm y (List.mem_of_getElem? hy)
        have g3 : dotS.length = 1 := by decide +kernel
        rw [app_len, app_len, nmI_of hy]
        simp only [List.length_cons] at *
        omega
def spGP (d : Nat) : Sp := fun vs H Q _ => ∃ (v : V) (t : Nat) (tb : List TB) (cs : List Nat), vs = [v, .int (t : Int)] ∧ TBs H v tb ∧ ChI tb t cs ∧ cs.length ≤ d ∧ d ≤ 100 ∧ Shrt tb ∧ ∀ (p : Addr) (H' : Hp), Same H H' → H p = none → H' p = some (.lst ((plc tb cs).map V.str)) → Q (.ref p) H'
def spTL : Sp := fun vs H Q _ => ∃ (v : V) (t : Nat) (tb : List TB) (x : TB), vs = [v, .int (t : Int)] ∧ TBs H v tb ∧ tb[t]? = some x ∧ Shrt tb ∧ (x.par < 0 ∨ x.par < tb.length) ∧ ∀ H', Same H H' → Q (.str (Txt.join spc (tlW tb t x))) H'
def pre2 (z : Str) : V → V
  | .str x => .str (z ++ x)
  | v => v
theorem map_pre2 (z : Str) : ∀ xs : List Str, (xs.map V.str).map (pre2 z) = (xs.map fun c => z ++ c).map V.str
  | [] => rfl
  | x :: xs => by rw [List.map_cons, List.map_cons, List.map_cons, List.map_cons, map_pre2 z xs]; rfl
section
variable {P : Program} {w : World} {K : PySem.W.Frag} {mg : Str → Option Value} {base : Heap}
theorem sc_get_chain : FnScope ["_law_tb", "_law_t"] ["_law_tb", "_law_t"] (defScope (topS 30)) := ⟨rfl, rfl, rfl, by decide +kernel, rfl, by decide +kernel, by decide +kernel⟩
theorem ok_get_chain1 {f : Addr} {fd : FuncData} {d k : Nat} (F : Fun K "_law_get_chain" "_law_get_chain" (topS 30) f fd) (T : Txt K mg) (c_get_chain : Callee P w K mg base "_law_get_chain" ["_law_tb", "_law_t"] (spGC d) k) : FnOk P w K mg base CX0 (k + 1) f fd ["_law_tb", "_law_t"] (spGC (d + 1)) := by
  refine F.ok sc_get_chain (fun vs H Q E h => ?_) (fun cdv A outer s H vs Q E hr h => ?_)
  · obtain ⟨v, t, tb, cs, rfl, _⟩ := h
    rfl
  · obtain ⟨v, t, tb, cs, rfl, B, hc, hd, hd2, k⟩ := h
    refine ⟨_, (pss_one (ps_ret (pe_op op_cat (pe_lst (pa_cons (pv 1) pa_nil)) (pe_ifExp (pt_cmpR o_ge (pe_ix (ix_tpl K) (pe_ix (ix_lst K) (pv 0) (pv 1) (fun _ _ => rfl)) pe_int (fun _ _ => rfl)) pe_int (nomark _)) (pe_co c_get_chain hr (Nat.le_refl _) (by rfl) (pa_cons (pv 0) (pa_cons (pe_ix (ix_tpl K) (pe_ix (ix_lst K) (pv 0) (pv 1) (fun _ _ => rfl)) pe_int (fun _ _ => rfl)) pa_nil))) (pe_lst pa_nil))))), ?_⟩
    obtain ⟨D, as, rfl, hD, el, hat⟩ := B.at
    refine ⟨_, rfl, by show 1 ≤ sizeLine; decide, fun l nl => ?_⟩
    have t1 : Same H (upd H l (.lst [.int (t : Int)])) := same_loc (Same.refl H) nl _
    have hl : (upd H l (.lst [.int (t : Int)])) l = some (.lst [.int (t : Int)]) := upd_same
    generalize upd H l (.lst [.int (t : Int)]) = H1 at t1 hl
    obtain ⟨x, hx⟩ : ∃ x, tb[t]? = some x := ⟨_, List.getElem?_eq_getElem hc.lt⟩
    obtain ⟨a, c, ga, hta, hcl⟩ := hat t x hx
    refine ⟨_, rfl, _, rfl, D, _, _, .ref a, rfl, rfl, SqL.of (t1 _ _ hD), atI_nat ga, a, _, _, .int x.par, rfl, rfl, SqT.of (t1 _ _ hta), rfl, _, _, rfl, rfl, _, rfl, ?_⟩
    cases hc with
    | root h1 h2 =>
      rw [hx] at h1
      cases h1
      rw [show decide ((0 : Int) ≤ x.par) = false from decide_eq_false (by omega)]
      refine iteF ?_
      refine ⟨by decide, fun q nq => ?_⟩
      have lq : l ≠ q := ne_of_none hl nq
      refine ⟨l, q, _, _, rfl, rfl, by rw [upd_ne lq]; exact hl, upd_same, by show 1 ≤ sizeLine; decide, fun p np => ?_⟩
      have nq' : H q = none := t1.free nq
      have np1 : H1 p = none := by
        by_cases e : p = q
        · rw [e, upd_same] at np; cases np
        · rw [upd_ne e] at np; exact np
      exact k p _ ((t1.trans (same_loc (Same.refl H1) nq _)).trans (same_loc (Same.refl _) np _)) (t1.free np1) upd_same
    | @up _ p x' cs h1 h2 h3 =>
      rw [hx] at h1
      cases h1
      rw [show decide ((0 : Int) ≤ x.par) = true from decide_eq_true (by omega)]
      refine iteT ?_
      refine ⟨_, rfl, _, rfl, _, rfl, D, _, _, .ref a, rfl, rfl, SqL.of (t1 _ _ hD), atI_nat ga, a, _, _, .int x.par, rfl, rfl, SqT.of (t1 _ _ hta), rfl, .ref D, p, tb, cs, by rw [h2]; rfl, B.mono t1, h3, Nat.le_of_succ_le_succ hd, by omega, fun q H2 t2 nq hq => ?_⟩
      refine ⟨l, q, _, _, rfl, rfl, t2 _ _ hl, hq, ?_, fun r nr => ?_⟩
      · refine sz_le ?_
        have hd : cs.length + 1 ≤ d + 1 := hd
        rw [List.length_map]
        show 1 + cs.length ≤ _
        omega
      · have t12 := t1.trans t2
        exact k r _ (t12.trans (same_loc (Same.refl _) nr _)) (t12.free nr) upd_same
theorem FnOk.none {f : Addr} {fd : FuncData} {ps : List Str} {sp : Sp} {k : Nat} (h : ∀ vs H Q E, ¬ sp vs H Q E) : FnOk P w K mg base CX0 k f fd ps sp := ⟨fun vs H Q E q => (h vs H Q E q).elim, fun A outer s H args us vs Q E _ _ _ _ q => (h vs H Q E q).elim⟩
theorem ok_get_chain {f : Addr} {fd : FuncData} (F : Fun K "_law_get_chain" "_law_get_chain" (topS 30) f fd) (T : Txt K mg) (c : ∀ sp k, FnOk P w K mg base CX0 k f fd ["_law_tb", "_law_t"] sp → Callee P w K mg base "_law_get_chain" ["_law_tb", "_law_t"] sp k) : ∀ d, FnOk P w K mg base CX0 d f fd ["_law_tb", "_law_t"] (spGC d)
  | 0 => FnOk.none fun vs H Q E ⟨v, t, tb, cs, _, _, hc, hl, _⟩ => by
    obtain ⟨r, rfl⟩ := hc.head
    exact absurd hl (by simp)
  | d + 1 => ok_get_chain1 F T (c _ _ (ok_get_chain F T c d))
theorem sc_get_places : FnScope ["_law_tb", "_law_t", "_law_name", "_law_parent", "_law_columns", "_law_place"] ["_law_tb", "_law_t"] (defScope (topS 31)) := ⟨rfl, rfl, rfl, by decide +kernel, rfl, by decide +kernel, by decide +kernel⟩
set_option maxHeartbeats 1000000 in
theorem ok_get_places1 {f : Addr} {fd : FuncData} {d k : Nat} (F : Fun K "_law_get_places" "_law_get_places" (topS 31) f fd) (T : Txt K mg) (c_get_places : Callee P w K mg base "_law_get_places" ["_law_tb", "_law_t"] (spGP d) k) : FnOk P w K mg base CX0 (k + 1) f fd ["_law_tb", "_law_t"] (spGP (d + 1)) := by
  refine F.ok sc_get_places (fun vs H Q E h => ?_) (fun cdv A outer s H vs Q E hr h => ?_)
  · obtain ⟨v, t, tb, cs, rfl, _⟩ := h
    rfl
  · obtain ⟨v, t, tb, cs, rfl, B, hc, hd, hd2, S, k⟩ := h
    refine ⟨_, (pss_cons (ps_asg (pe_ix (ix_lst K) (pv 0) (pv 1) (fun _ _ => rfl)) (g_tup K (n := 3) rfl (pgs_cons (pg_name (i := 2) sc_get_places.nd rfl (Or.inl rfl)) (pgs_cons (pg_name (i := 3) sc_get_places.nd rfl (Or.inr rfl)) (pgs_cons (pg_name (i := 4) sc_get_places.nd rfl (Or.inl rfl)) pgs_nil)))))
      (pss_cons (ps_if (pt_cmpR o_lt (pv 3) pe_int (nomark _)) (pss_one (ps_ret (pe_callTy (c_list K) (by rfl) T.n_list (by decide +kernel) (pa_cons (pv 4) pa_nil)))) pss_nil)
      (pss_one (ps_ret (pe_op op_cat (pv 4) (pe_lc (own := [("_law_place", 5)]) (by rfl) sc_get_places.nd (i_list K (pe_co c_get_places hr (Nat.le_refl _) (by rfl) (pa_cons (pv 0) (pa_cons (pv 3) pa_nil)))) (blkOk_by (own := [("_law_place", 5)]) (N := ["_law_tb", "_law_t", "_law_name", "_law_parent", "_law_columns", "_law_place"]) (sc := defScope (topS 31)) (by decide +kernel)) (fun _ _ _ _ _ => (pg_name (i := 5) sc_get_places.nd rfl (Or.inl rfl))) (fun _ _ _ _ _ => pts_nil) (fun _ _ _ _ _ => (pe_op o_adds (pe_op o_adds (pe_ix (ix_tpl K) (pe_ix (ix_lst K) (pv 0) (pv 3) (fun _ _ => rfl)) pe_int (fun _ _ => rfl)) pe_str) (pv 5))))))))), ?_⟩
    obtain ⟨D, as, rfl, hD, el, hat⟩ := B.at
    obtain ⟨x, hx⟩ : ∃ x, tb[t]? = some x := ⟨_, List.getElem?_eq_getElem hc.lt⟩
    obtain ⟨a, c, ga, hta, hcl⟩ := hat t x hx
    refine ⟨_, rfl, _, rfl, D, _, _, .ref a, rfl, rfl, SqL.of hD, atI_nat ga, ?_⟩
    refine ⟨a, _, rfl, SqT.of hta, rfl, _, _, rfl, _, _, rfl, _, _, rfl, rfl, ?_⟩
    refine ⟨_, rfl, _, _, rfl, rfl, _, rfl, ?_⟩
    have short := plc_short S hc
    cases hc with
    | root h1 h2 =>
      rw [hx] at h1
      cases h1
      rw [show decide (x.par < (0 : Int)) = true from decide_eq_true h2]
      refine iteT ?_
      refine ⟨_, rfl, c, _, rfl, .inl (SqL.of hcl), fun p np => ?_⟩
      refine k p _ (same_loc (Same.refl H) np _) np ?_
      rw [plc_one, colI_of hx]
      exact upd_same
    | @up _ p x' cs h1 h2 h3 =>
      rw [hx] at h1
      cases h1
      rw [show decide (x.par < (0 : Int)) = false from decide_eq_false (by omega)]
      refine iteF ?_
      obtain ⟨y, hy⟩ : ∃ y, tb[p]? = some y := ⟨_, List.getElem?_eq_getElem h3.lt⟩
      obtain ⟨a2, c2, ga2, hta2, _⟩ := hat p y hy
      obtain ⟨r, rfl⟩ := h3.head
      have hd' : (p :: r).length ≤ d := Nat.le_of_succ_le_succ hd
      obtain ⟨sh1, sh2⟩ := plc_short S h3
      refine at_next ?_
      dsimp only [gName]
      refine at_ret (at_op ?_)
      refine ⟨_, rfl, lc_via ?_⟩
      refine ⟨_, rfl, _, rfl, .ref D, p, tb, p :: r, by rw [h2]; rfl, B, h3, hd', by omega, S, fun q H1 t1 nq hq => ?_⟩
      refine lc_mp (a := q) (xs := (plc tb (p :: r)).map V.str) (pre2 (nmI tb p ++ dotS)) (fun R r => r) hq (by rw [List.length_map]; omega) (fun z hz H2 t2 R r => ?_) fun E2 H2 t2 nE hE => ?_
      · obtain ⟨u, hu, rfl⟩ := List.mem_map.mp hz
        have t12 := t1.trans t2
        have g1 := sh2 u hu
        have g2 := S.nm y (List.mem_of_getElem? hy)
        have g3 : dotS.length = 1 := by decide +kernel
        refine ⟨_, rfl, _, rfl, D, _, _, .ref a2, rfl, rfl, SqL.of (t12 _ _ hD), by rw [h2]; exact atI_nat ga2, a2, _, _, .str y.nm, rfl, rfl, SqT.of (t12 _ _ hta2), rfl, _, _, rfl, rfl, sz_le (by show _ + 1 ≤ _; omega), _, rfl, _, _, rfl, rfl, sz_le (by rw [app_len]; show _ + 1 + _ ≤ _; omega), ?_⟩
        have := r H2 (Same.refl H2)
        unfold pre2 at this
        rw [nmI_of hy] at this
        exact this
      · rw [map_pre2] at hE
        have t12 := t1.trans t2
        refine ⟨c, E2, _, _, rfl, rfl, t12 _ _ hcl, hE, sz_le (by rw [List.length_map, List.length_map, List.length_map]; have := S.cl x (List.mem_of_getElem? hx); omega), fun q2 nq2 => ?_⟩
        refine k q2 _ (t12.trans (same_loc (Same.refl _) nq2 _)) (t12.free nq2) ?_
        rw [plc_two, colI_of hx, List.map_append]
        exact upd_same
theorem ok_get_places {f : Addr} {fd : FuncData} (F : Fun K "_law_get_places" "_law_get_places" (topS 31) f fd) (T : Txt K mg) (c : ∀ sp k, FnOk P w K mg base CX0 k f fd ["_law_tb", "_law_t"] sp → Callee P w K mg base "_law_get_places" ["_law_tb", "_law_t"] sp k) : ∀ d, FnOk P w K mg base CX0 d f fd ["_law_tb", "_law_t"] (spGP d)
  | 0 => FnOk.none fun vs H Q E ⟨v, t, tb, cs, _, _, hc, hl, _⟩ => by
    obtain ⟨r, rfl⟩ := hc.head
    exact absurd hl (by simp)
  | d + 1 => ok_get_places1 F T (c _ _ (ok_get_places F T c d))
theorem sc_table_line : FnScope ["_law_tb", "_law_t", "_law_name", "_law_parent", "_law_columns"] ["_law_tb", "_law_t"] (defScope (topS 32)) := ⟨rfl, rfl, rfl, by decide +kernel, rfl, by decide +kernel, by decide +kernel⟩
set_option maxHeartbeats 1000000 in
theorem ok_table_line {f : Addr} {fd : FuncData} (F : Fun K "_law_table_line" "_law_table_line" (topS 32) f fd) (T : Txt K mg) : FnOk P w K mg base CX0 1 f fd ["_law_tb", "_law_t"] spTL := by
  refine F.ok sc_table_line (fun vs H Q E h => ?_) (fun cdv A outer s H vs Q E hr h => ?_)
  · obtain ⟨v, t, tb, x, rfl, _⟩ := h
    rfl
  · obtain ⟨v, t, tb, x, rfl, B, hx, S, hp, k⟩ := h
    refine ⟨_, (pss_cons (ps_asg (pe_ix (ix_lst K) (pv 0) (pv 1) (fun _ _ => rfl)) (g_tup K (n := 3) rfl (pgs_cons (pg_name (i := 2) sc_table_line.nd rfl (Or.inl rfl)) (pgs_cons (pg_name (i := 3) sc_table_line.nd rfl (Or.inl rfl)) (pgs_cons (pg_name (i := 4) sc_table_line.nd rfl (Or.inl rfl)) pgs_nil)))))
      (pss_one (ps_ret (e_join K pe_str (pe_op op_cat (pe_ifExp (pt_cmpR o_lt (pv 3) pe_int (nomark _)) (pe_lst (pa_cons pe_str (pa_cons (pv 2) pa_nil))) (pe_lst (pa_cons pe_str (pa_cons (pv 2) (pa_cons (pe_ix (ix_tpl K) (pe_ix (ix_lst K) (pv 0) (pv 3) (fun _ _ => rfl)) pe_int (fun _ _ => rfl)) pa_nil))))) (pv 4)))))), ?_⟩
    obtain ⟨D, as, rfl, hD, el, hat⟩ := B.at
    obtain ⟨a, c, ga, hta, hcl⟩ := hat t x hx
    have hm := List.mem_of_getElem? hx
    have c1 := S.cl x hm
    refine ⟨_, rfl, _, rfl, D, _, _, .ref a, rfl, rfl, SqL.of hD, atI_nat ga, ?_⟩
    refine ⟨a, _, rfl, SqT.of hta, rfl, _, _, rfl, _, _, rfl, _, _, rfl, rfl, ?_⟩
    have key : ∀ (ws : List Str) (l : Addr) (H1 : Hp), Same H H1 → H1 l = some (.lst (ws.map V.str)) → ws.length ≤ 3 → (∀ z ∈ ws, z.length ≤ 100) → tlW tb t x = ws ++ x.cols → tOp rCat (fun _ _ R => R (.ref l) H1) (tVar 4) [some (.ref D), some (.int (t : Int)), some (.str x.nm), some (.int x.par), some (.ref c)] H1 (fun y H' => rJoin K (.str (Str.ofString " ")) [y] H' Q) := fun ws l H1 t1 hl wl wz ew => by
      refine ⟨_, rfl, l, c, _, _, rfl, rfl, hl, t1 _ _ hcl, sz_le (by rw [List.length_map, List.length_map]; omega), fun p np => ?_⟩
      rw [← List.map_append, ← ew]
      refine ⟨_, p, _, rfl, rfl, .inl (SqL.of upd_same), ?_, ?_⟩
      · have e0 : (Str.ofString " ").length = 1 := by decide +kernel
        have h1 : (((ws ++ x.cols)).map (·.length)).sum ≤ (((ws ++ x.cols)).map (·.length)).length * 100 := sum_le (B := 100) fun y hy => by
          obtain ⟨z, hz, rfl⟩ := List.mem_map.mp hy
          rcases List.mem_append.mp hz with hz | hz
          · exact wz z hz
          · exact S.cn x hm z hz
        rw [List.length_map, List.length_append] at h1
        rw [e0, ew, List.length_append]
        omega
      · exact k _ (t1.trans (same_loc (Same.refl H1) np _))
    refine ⟨⟨_, rfl⟩, _, rfl, _, _, rfl, rfl, _, rfl, ?_⟩
    by_cases h0 : x.par < 0
    · rw [decide_eq_true h0]
      refine iteT ?_
      refine ⟨_, rfl, by show 2 ≤ sizeLine; decide, fun l nl => ?_⟩
      refine key [Str.ofString "root", x.nm] l _ (same_loc (Same.refl H) nl _) upd_same (by simp) (fun z hz => ?_) (by unfold tlW; rw [if_pos h0]; rfl)
      rcases List.mem_cons.mp hz with e | e
      · rw [e]; decide +kernel
      · rw [List.mem_singleton.mp e]; exact S.nm x hm
    · rw [decide_eq_false h0]
      refine iteF ?_
      obtain ⟨p, ep⟩ : ∃ p : Nat, x.par = (p : Int) := ⟨x.par.toNat, by omega⟩
      obtain ⟨y, hy⟩ : ∃ y, tb[p]? = some y := ⟨_, List.getElem?_eq_getElem (by omega)⟩
      obtain ⟨a2, c2, ga2, hta2, _⟩ := hat p y hy
      refine ⟨_, rfl, _, rfl, _, rfl, D, _, _, .ref a2, rfl, rfl, SqL.of hD, by rw [ep]; exact atI_nat ga2, a2, _, _, .str y.nm, rfl, rfl, SqT.of hta2, rfl, by show 3 ≤ sizeLine; decide, fun l nl => ?_⟩
      refine key [Str.ofString "table", x.nm, y.nm] l _ (same_loc (Same.refl H) nl _) upd_same (by simp) (fun z hz => ?_) (by
        unfold tlW
        rw [if_neg h0, ep]
        show Str.ofString "table" :: x.nm :: nmI tb p :: x.cols = _
        rw [nmI_of hy]
        rfl)
      rcases List.mem_cons.mp hz with e | e
      · rw [e]; decide +kernel
      · rcases List.mem_cons.mp e with e | e
        · rw [e]; exact S.nm x hm
        · rw [List.mem_singleton.mp e]; exact S.nm y (List.mem_of_getElem? hy)
end
end OA

/-! ### forest -/
namespace OA
open PySem PySem.Spec PyProof.Rows L2
def spForest : Sp := fun vs H Q _ => ∃ (G : Hp) (st inn : Addr) (v : V) (names : List Str) (m : Nat), vs = [.ref st, v, .int m] ∧ Same G H ∧ StAt G H st inn ∧ Ss G v names ∧ Words 12 12 names ∧ 1 ≤ m ∧ m ≤ 12 ∧
  ∀ (v' : V) (tb : List TB) (G' H' : Hp), Stp (F2 st inn) G H G' H' → StAt G' H' st inn → TBs G' v' tb → For names tb → 1 ≤ tb.length → tb.length ≤ m → Q v' H'
theorem colsDrawn {names : List Str} (W : Words 12 12 names) {f n : Nat} (h1 : 1 ≤ n) (h2 : n ≤ 4) {cs : List Str} (e : cs = (List.range n).map fun c => names.getD ((f + c) % 12) Str.empty) : 1 ≤ cs.length ∧ cs.length ≤ 4 ∧ cs.Nodup ∧ ∀ c ∈ cs, c ∈ names := by
  subst e
  have gd : ∀ i, i < 12 → names[i]? = some (names.getD i Str.empty) := fun i hi => by
    have : i < names.length := by rw [W.len]; exact hi
    rw [List.getD_eq_getElem?_getD, List.getElem?_eq_getElem this]
    rfl
  refine ⟨by simpa using h1, by simpa using h2, nodup_range_map fun i j hi hj e => ?_, fun c hc => ?_⟩
  · have g1 := gd ((f + i) % 12) (Nat.mod_lt _ (by decide))
    have g2 := gd ((f + j) % 12) (Nat.mod_lt _ (by decide))
    rw [e] at g1
    have := nd_get W.nd g1 g2
    exact mod_inj (by omega) (by omega) this
  · obtain ⟨i, _, rfl⟩ := List.mem_map.mp hc
    exact List.mem_of_getElem? (gd _ (Nat.mod_lt _ (by decide)))
theorem TBx.snoc {H : Hp} {as : List Addr} {tb : List TB} {a : Addr} {x : TB} (h : TBx H as tb) (g : TBr H a x) : TBx H (as ++ [a]) (tb ++ [x]) := by
  induction h with
  | nil => exact .cons g .nil
  | cons h1 _ ih => exact .cons h1 ih
section
variable {P : Program} {w : World} {K : PySem.W.Frag} {mg : Str → Option Value} {base : Heap}
theorem sc_forest : FnScope ["_law_state", "_law_names", "_law_most", "_law_tables", "_law_k", "_law_parents", "_law_first", "_law_columns", "_law_c", "_law_t"] ["_law_state", "_law_names", "_law_most"] (defScope (topS 22)) := ⟨rfl, rfl, rfl, by decide +kernel, rfl, by decide +kernel, by decide +kernel⟩
set_option maxHeartbeats 8000000 in
theorem ok_forest {f : Addr} {fd : FuncData} (F : Fun K "_law_forest" "_law_forest" (topS 22) f fd) (T : Txt K mg) (c_draw : Callee P w K mg base "_law_draw" ["_law_st", "_law_limit"] spDraw 1) (c_get_chain : Callee P w K mg base "_law_get_chain" ["_law_tb", "_law_t"] (spGC 4) 4) : FnOk P w K mg base CX0 5 f fd ["_law_state", "_law_names", "_law_most"] spForest := by
  refine F.ok sc_forest (fun vs H Q E h => ?_) (fun cdv A outer s H vs Q E hr h => ?_)
  · obtain ⟨G, st, inn, v, names, m, rfl, _⟩ := h
    rfl
  · obtain ⟨G, st, inn, v, names, m, rfl, gh, S, ⟨nA, rfl, hn⟩, W, m1, m2, k⟩ := h
    refine ⟨_, (pss_cons (ps_set (i := 3) sc_forest.nd rfl (Or.inr rfl) (pe_lst pa_nil))
      (pss_cons (ps_for PassesOwn.never rfl (pi_range1 (by rfl) T.n_range (pa_cons (pe_op o_add pe_int (pe_co c_draw hr (by decide) (by rfl) (pa_cons (pv 0) (pa_cons (pv 2) pa_nil)))) pa_nil)) (pg_name (i := 4) sc_forest.nd rfl (Or.inl rfl))
      (pss_cons (ps_set (i := 5) sc_forest.nd rfl (Or.inl rfl) (pe_op op_cat (pe_lst (pa_cons (pe_un un_neg pe_int) pa_nil)) (pe_lc (own := [("_law_t", 9)]) (by rfl) sc_forest.nd (pi_range1 (by rfl) T.n_range (pa_cons (pv 4) pa_nil)) (blkOk_by (own := [("_law_t", 9)]) (N := ["_law_state", "_law_names", "_law_most", "_law_tables", "_law_k", "_law_parents", "_law_first", "_law_columns", "_law_c", "_law_t"]) (sc := defScope (topS 22)) (by decide +kernel)) (fun _ _ _ _ _ => (pg_name (i := 9) sc_forest.nd rfl (Or.inl rfl))) (fun _ _ _ _ _ => (pts_one (pt_cmpR o_lt (pe_callB (c_len K) (by rfl) T.n_len (by decide +kernel) (pa_cons (pe_co c_get_chain hr (by decide) (by rfl) (pa_cons (pv 3) (pa_cons (pv 9) pa_nil))) pa_nil)) pe_int (nomark _)))) (fun _ _ _ _ _ => (pv 9)))))
      (pss_cons (ps_set (i := 6) sc_forest.nd rfl (Or.inr rfl) (pe_co c_draw hr (by decide) (by rfl) (pa_cons (pv 0) (pa_cons pe_int pa_nil))))
      (pss_cons (ps_setLc (i := 7) (own := [("_law_c", 8)]) (by rfl) sc_forest.nd rfl rfl (sw_true rfl rfl rfl (by decide +kernel)) (pi_range1 (by rfl) T.n_range (pa_cons (pe_op o_add pe_int (pe_co c_draw hr (by decide) (by rfl) (pa_cons (pv 0) (pa_cons pe_int pa_nil)))) pa_nil)) (blkOk_by (own := [("_law_c", 8)]) (N := ["_law_state", "_law_names", "_law_most", "_law_tables", "_law_k", "_law_parents", "_law_first", "_law_columns", "_law_c", "_law_t"]) (sc := defScope (topS 22)) (by decide +kernel)) (fun _ _ _ _ _ => (pg_name (i := 8) sc_forest.nd rfl (Or.inl rfl))) (fun _ _ _ _ _ => pts_nil) (fun _ _ _ _ _ => (pe_ix (ix_lst K) (pv 1) (pe_op o_mod (pe_callTy c_int (by rfl) T.n_int (by decide +kernel) (pa_cons (pe_op o_add (pv 6) (pv 8)) pa_nil)) pe_int) (fun _ _ => rfl))))
      (pss_one (ps_expr (e_bm K PySem.F.plainAttrs_list PySem.F.slot_list_append PySem.F.type_list_append mt_append (pv 3) (pa_cons (pe_tup (pa_cons (pe_ix (ix_lst K) (pv 1) (pv 4) (fun _ _ => rfl)) (pa_cons (pe_ix (ix_lst K) (pv 5) (pe_co c_draw hr (by decide) (by rfl) (pa_cons (pv 0) (pa_cons (pe_callB (c_len K) (by rfl) T.n_len (by decide +kernel) (pa_cons (pv 5) pa_nil)) pa_nil))) (fun _ _ => rfl)) (pa_cons (pv 7) pa_nil)))) pa_nil))))))))
      (pss_one (ps_ret (pv 3))))), ?_⟩
    refine ⟨by decide, fun D nD => ?_⟩
    have off : ¬ F2 st inn D := S.off nD
    refine ⟨_, rfl, _, rfl, G, st, inn, _, rfl, gh.trans (same_loc (Same.refl H) nD _), S.new nD gh _, by omega, by omega, fun r0 H1 s1 S1 r00 r01 => ?_⟩
    obtain ⟨z, rfl⟩ := Int.eq_ofNat_of_zero_le r00
    have hz : (1 : Int) + (z : Int) = ((1 + z : Nat) : Int) := by omega
    have s1' : Stp (F2 st inn) G H G H1 := (Stp.put gh nD _).trans s1
    have cD1 : Cell G H1 D (.lst []) := s1.cell (Cell.new gh nD _) off
    refine ⟨_, _, rfl, rfl, (1 + z : Nat), by rw [hz], by omega, by omega, for_range (lo := 0) (n := 1 + z) (fun i σ H' => ∃ (x4 x5 x6 x7 x8 : Option V) (G' : Hp) (as : List Addr) (tb : List TB), σ = [some (.ref st), some (.ref nA), some (.int m), some (.ref D), x4, x5, x6, x7, x8, none] ∧ Stp (F2 st inn) G H G' H' ∧ StAt G' H' st inn ∧ Cell G' H' D (.lst (as.map V.ref)) ∧ TBx G' as tb ∧ For names tb ∧ tb.length = i) ?_ ?_ ?_⟩
    · exact ⟨none, none, none, none, none, G, [], [], rfl, s1', S1, cD1, .nil, For.nil names, rfl⟩
    · rintro i σ H2 hi ⟨x4, x5, x6, x7, x8, G2, as, tb, rfl, s2, S2, c2, B2, FF, el⟩
      have hB : TBs H2 (.ref D) tb := ⟨D, as, rfl, c2.at_, Paired.mapP B2 fun a x => TBr.mono s2.gh⟩
      have all : as.length = tb.length := Paired.length B2
      -- parents
      refine ⟨_, rfl, by show 1 ≤ sizeLine; decide, fun l nl => ?_⟩
      have t3 : Same H2 (upd H2 l (.lst [.int (-1)])) := same_loc (Same.refl H2) nl _
      have hl : (upd H2 l (.lst [.int (-1)])) l = some (.lst [.int (-1)]) := upd_same
      have eL : upd H2 l (.lst [V.int (-(1 : Int))]) = upd H2 l (.lst [.int (-1)]) := rfl
      rw [eL]
      generalize upd H2 l (.lst [.int (-1)]) = H3 at t3 hl
      refine ⟨_, rfl, (i : Nat), by show [V.int (0 + (i : Int))] = [V.int ((i : Nat) : Int)]; rw [Int.zero_add], by omega, by omega, fun E1 nE => ?_⟩
      refine lc_range (lo := 0) (n := i) (fun j H' => ∃ ps : List Nat, Same H3 H' ∧ H' E1 = some (.lst (ps.map natV)) ∧ ps.length ≤ j ∧ ∀ p ∈ ps, ∃ cs, ChI tb p cs ∧ cs.length < 4) ?_ ?_ ?_
      · exact ⟨[], same_loc (Same.refl H3) nE _, upd_same, Nat.le_refl _, fun p h => by cases h⟩
      · rintro j H4 hj ⟨ps, t4, h4, pl, pc⟩
        obtain ⟨cs, hc, hc4⟩ := FF.ch j (by omega)
        have t34 := t3.trans t4
        refine ⟨rfl, ?_⟩
        refine ⟨_, rfl, _, rfl, .ref D, j, tb, cs, by show [V.ref D, V.int (0 + (j : Int))] = _; rw [Int.zero_add], hB.mono t34, hc, hc4, by decide, fun q H5 t5 nq hq => ?_⟩
        refine ⟨q, _, rfl, .inl (SqL.of hq), _, _, rfl, rfl, _, rfl, ?_⟩
        rw [List.length_map]
        refine ite2 (fun h1 => ?_) (fun h1 => ?_)
        · have h1' : cs.length < 4 := by have := of_decide_eq_true h1; omega
          refine ⟨_, rfl, _, t5 _ _ h4, sz_lt (by rw [List.length_map]; omega), ps ++ [j], same_loc (t4.trans t5) nE _, ?_, ?_, ?_⟩
          · rw [upd_same, List.map_append]
            show some (HO.lst (ps.map natV ++ [V.int (0 + (j : Int))])) = _
            rw [Int.zero_add]
            rfl
          · rw [List.length_append]
            exact Nat.succ_le_succ pl
          · intro p hp
            rcases List.mem_append.mp hp with hp | hp
            · exact pc p hp
            · rw [List.mem_singleton.mp hp]
              exact ⟨cs, hc, h1'⟩
        · exact ⟨ps, t4.trans t5, t5 _ _ h4, by omega, pc⟩
      rintro H4 ⟨ps, t4, h4, pl, pc⟩
      refine ⟨l, E1, _, _, rfl, rfl, t4 _ _ hl, h4, sz_le (by rw [List.length_map]; show 1 + _ ≤ _; omega), fun pp np => ?_⟩
      have t24 : Same H2 H4 := t3.trans t4
      have np2 : H2 pp = none := t24.free np
      have s4 : Stp (F2 st inn) G H G2 (upd H4 pp (.lst ([V.int (-1)] ++ ps.map natV))) := (s2.trans (Stp.same s2.gh t24)).trans (Stp.put (s2.gh.trans t24) np _)
      have S4 : StAt G2 (upd H4 pp (.lst ([V.int (-1)] ++ ps.map natV))) st inn := (S2.keep0 (Stp.same s2.gh t24)).new np (s2.gh.trans t24) _
      have c4 : Cell G2 (upd H4 pp (.lst ([V.int (-1)] ++ ps.map natV))) D (.lst (as.map V.ref)) := ((Stp.same (F := F0) s2.gh t24).cell c2 id).off (ne_of_none (t24 _ _ c2.at_) np) _
      have cp4 : Cell G2 (upd H4 pp (.lst ([V.int (-1)] ++ ps.map natV))) pp (.lst ([V.int (-1)] ++ ps.map natV)) := Cell.new (s2.gh.trans t24) np _
      have offp : ¬ F2 st inn pp := S2.off np2
      have np0 : H pp = none := s2.new np2
      generalize upd H4 pp (.lst ([V.int (-1)] ++ ps.map natV)) = H5 at s4 S4 c4 cp4
      -- first
      refine ⟨_, rfl, G2, st, inn, _, rfl, s4.gh, S4, by decide, by decide, fun r1 H6 s6 S6 r10 r11 => ?_⟩
      obtain ⟨ff, rfl⟩ := Int.eq_ofNat_of_zero_le r10
      have s6' := s4.trans s6
      have c6 := s6.cell c4 off
      have cp6 := s6.cell cp4 offp
      -- columns
      refine ⟨_, rfl, G2, st, inn, _, rfl, s6.gh, S6, by decide, by decide, fun r2 H7 s7 S7 r20 r21 => ?_⟩
      obtain ⟨nn, rfl⟩ := Int.eq_ofNat_of_zero_le r20
      have s7' := s6'.trans s7
      have c7 := s7.cell c6 off
      have cp7 := s7.cell cp6 offp
      have hnn : (1 : Int) + (nn : Int) = ((1 + nn : Nat) : Int) := by omega
      refine ⟨_, _, rfl, rfl, (1 + nn : Nat), by rw [hnn], by omega, by omega, fun C nC => ?_⟩
      have nC0 : H C = none := s7'.new nC
      have offC : ¬ F2 st inn C := S.off nC0
      have gd : ∀ j, j < 12 → names[j]? = some (names.getD j Str.empty) := fun j hj => by
        have : j < names.length := by rw [W.len]; exact hj
        rw [List.getD_eq_getElem?_getD, List.getElem?_eq_getElem this]
        rfl
      refine lc_range (lo := 0) (n := 1 + nn) (fun j H' => Same (upd H7 C (.lst [])) (upd H' C (.lst [])) ∧ H' C = some (.lst (((List.range j).map fun c => names.getD ((ff + c) % 12) Str.empty).map V.str))) ?_ ?_ ?_
      · exact ⟨fun b o e => by by_cases hb : b = C; (· rw [hb, upd_same] at e ⊢; exact e); (· rw [upd_ne hb, upd_ne hb]; rw [upd_ne hb] at e; exact e), upd_same⟩
      · rintro j H8 hj ⟨t8, h8⟩
        have hnA : H8 nA = some (.lst (names.map V.str)) := by
          have e1 : H7 nA = some (.lst (names.map V.str)) := s7'.gh _ _ (s7'.gg _ _ hn)
          have e2 : nA ≠ C := ne_of_none e1 nC
          have := t8 nA _ (by rw [upd_ne e2]; exact e1)
          rw [upd_ne e2] at this
          exact this
        have hmod : (↑ff + (0 + (j : Int))) % (12 : Int) = (((ff + j) % 12 : Nat) : Int) := by
          rw [Int.zero_add]
          exact (Int.natCast_emod (ff + j) 12).symm
        refine ⟨rfl, yes_of ?_⟩
        refine ⟨_, rfl, _, rfl, _, rfl, _, _, rfl, rfl, .inl ⟨_, rfl, _, _, rfl, rfl, by decide, nA, _, _, .str (names.getD ((ff + j) % 12) Str.empty), rfl, rfl, SqL.of hnA, ?_, _, h8, ?_, ?_, ?_⟩⟩
        · exact at_of hmod (by rw [List.getElem?_map, gd _ (Nat.mod_lt _ (by decide))]; rfl)
        · rw [List.length_map, List.length_map, List.length_range]
          exact sz_lt (by omega)
        · intro b o e
          have := t8 b o e
          by_cases hb : b = C
          · rw [hb, upd_same]; rw [hb, upd_same] at this; exact this
          · rw [upd_ne hb, upd_ne hb]; rw [upd_ne hb] at this; exact this
        · rw [upd_same, List.range_succ, List.map_append, List.map_append]
          rfl
      rintro H8 ⟨t8, h8⟩
      -- H8 is H7 and the columns
      have s8 : Stp (F2 st inn) G2 H7 G2 H8 := by
        refine Stp.same s7.gh fun b o e => ?_
        have hb : b ≠ C := ne_of_none e nC
        have := t8 b o (by rw [upd_ne hb]; exact e)
        rw [upd_ne hb] at this
        exact this
      have s8' := s7'.trans s8
      have S8 : StAt G2 H8 st inn := S7.keep0 ⟨s8.gg, s8.gh, s8.nw, fun b o e _ => by
        have hb : b ≠ C := ne_of_none e nC
        have := t8 b o (by rw [upd_ne hb]; exact e)
        rw [upd_ne hb] at this
        exact this, s8.al⟩
      have c8 := s8.cell c7 off
      have cp8 := s8.cell cp7 offp
      have cC8 : Cell G2 H8 C (.lst (((List.range (1 + nn)).map fun c => names.getD ((ff + c) % 12) Str.empty).map V.str)) := ⟨h8, (s7.gh).free nC⟩
      have hcols := colsDrawn W (f := ff) (n := 1 + nn) (by omega) (by omega) rfl
      generalize ((List.range (1 + nn)).map fun c => names.getD ((ff + c) % 12) Str.empty) = cols at cC8 hcols h8
      have hnA8 : H8 nA = some (.lst (names.map V.str)) := s8'.gh _ _ (s8'.gg _ _ hn)
      -- the row
      refine ⟨_, rfl, Or.inl ⟨rfl, _, SqL.of c8.at_⟩, ?_⟩
      refine ⟨_, rfl, _, rfl, nA, _, _, .str (names.getD i Str.empty), rfl, rfl, SqL.of hnA8, at_of (j := i) (by omega) (by rw [List.getElem?_map, gd i (by omega)]; rfl), ?_⟩
      refine ⟨_, rfl, _, rfl, _, rfl, pp, _, rfl, .inl (SqL.of cp8.at_), G2, st, inn, _, rfl, s8.gh, S8, ?_, ?_, fun r3 H9 s9 S9 r30 r31 => ?_⟩
      · rw [List.length_append, List.length_map]; show (0 : Int) < ((1 + ps.length : Nat) : Int); omega
      · rw [List.length_append, List.length_map]; show ((1 + ps.length : Nat) : Int) < 1073741824; omega
      have s9' := s8'.trans s9
      have c9 := s9.cell c8 off
      have cp9 := s9.cell cp8 offp
      have cC9 := s9.cell cC8 offC
      obtain ⟨q, rfl⟩ := Int.eq_ofNat_of_zero_le r30
      rw [List.length_append, List.length_map] at r31
      have r31 : (q : Int) < ((1 + ps.length : Nat) : Int) := r31
      obtain ⟨par, hpar, parOk⟩ : ∃ par : Int, ([V.int (-1)] ++ ps.map natV)[q]? = some (.int par) ∧ (par = -1 ∨ ∃ (p : Nat) (cs : List Nat), par = (p : Int) ∧ ChI tb p cs ∧ cs.length < 4) := by
        cases q with
        | zero => exact ⟨-1, rfl, .inl rfl⟩
        | succ q =>
          have hq : q < ps.length := by omega
          have e : ps[q]? = some ps[q] := List.getElem?_eq_getElem hq
          refine ⟨(ps[q] : Nat), ?_, .inr ⟨ps[q], ?_⟩⟩
          · show (ps.map natV)[q]? = _
            rw [List.getElem?_map, e]
            rfl
          · obtain ⟨cs, h1, h2⟩ := pc _ (List.mem_of_getElem? e)
            exact ⟨cs, rfl, h1, h2⟩
      refine ⟨pp, _, _, .int par, rfl, rfl, SqL.of cp9.at_, at_of rfl hpar, _, rfl, by show 3 ≤ sizeLine; decide, fun R nR => ?_⟩
      have nR0 : H R = none := s9'.new nR
      have offR : ¬ F2 st inn R := S.off nR0
      refine ⟨D, as.map V.ref, _, rfl, rfl, ?_, sz_lt (by rw [List.length_map]; omega), ?_⟩
      · rw [upd_ne (ne_of_none c9.at_ nR)]
        exact c9.at_
      -- the row and its columns stand still
      have CR : C ≠ R := ne_of_none cC9.at_ nR
      have DR : D ≠ R := ne_of_none c9.at_ nR
      have DC : D ≠ C := ne_of_none c7.at_ nC
      have s10 := s9'.trans (Stp.put (F := F2 st inn) s9.gh nR (HO.tup [.str (names.getD i Str.empty), .int par, .ref C]))
      have cR := Cell.new s9.gh nR (HO.tup [.str (names.getD i Str.empty), .int par, .ref C])
      have s11 := s10.freeze cR nR0
      have cC := (cC9.off CR (HO.tup [.str (names.getD i Str.empty), .int par, .ref C])).lay CR (HO.tup [.str (names.getD i Str.empty), .int par, .ref C])
      have s12 := s11.freeze cC nC0
      have cD := ((c9.off DR (HO.tup [.str (names.getD i Str.empty), .int par, .ref C])).lay DR (HO.tup [.str (names.getD i Str.empty), .int par, .ref C])).lay DC (.lst (cols.map V.str))
      have s13 := s12.loc cD nD (.lst (as.map V.ref ++ [V.ref R]))
      refine ⟨_, _, _, _, _, _, as ++ [R], tb ++ [⟨names.getD i Str.empty, par, cols⟩], rfl, s13, ((((S9.new nR s9.gh _).frz offR _).frz offC _).write off _), ?_, ?_, ?_, ?_⟩
      · rw [List.map_append]
        exact cD.set _
      · refine TBx.snoc (Paired.mapP B2 fun a x => TBr.mono (Same.trans (Same.lay (s9.gh.free nR) _) (Same.lay cC.no _))) ⟨C, ?_, upd_same⟩
        rw [upd_ne CR.symm]
        exact upd_same
      · refine FF.snoc ?_ hcols parOk
        rw [el]
        exact gd i (by omega)
      · rw [List.length_append, el]
        rfl
    · rintro σ H2 ⟨x4, x5, x6, x7, x8, G2, as, tb, rfl, s2, S2, c2, B2, FF, el⟩
      refine ⟨_, rfl, ?_⟩
      exact k (.ref D) tb _ H2 (s2.freeze c2 nD) (S2.frz off _) ⟨D, as, rfl, upd_same, Paired.mapP B2 fun a x => TBr.mono (Same.lay c2.no _)⟩ FF (by omega) (by omega)
end
end OA

/-! ### get_owners, all_follows -/
namespace OA
open PySem PySem.Spec PyProof.Rows L2
abbrev Rwx {β : Type} (f : β → List V) (H : Hp) (as : List Addr) (l : List β) : Prop := Paired (fun a e => H a = some (.tup (f e))) as l
def Rws {β : Type} (f : β → List V) (H : Hp) (v : V) (l : List β) : Prop := ∃ D as, v = .ref D ∧ H D = some (.lst (as.map V.ref)) ∧ Rwx f H as l
def owF (e : Nat × Str) : List V := [.int (e.1 : Int), .str e.2]
def foF (e : Nat × Str × Str) : List V := [.int (e.1 : Int), .str e.2.1, .str e.2.2]
theorem Rwx.mono {β : Type} {f : β → List V} {H H' : Hp} {as : List Addr} {l : List β} (s : Same H H') (h : Rwx f H as l) : Rwx f H' as l := Paired.mapP h fun a e q => s _ _ q
theorem Rws.mono {β : Type} {f : β → List V} {H H' : Hp} {v : V} {l : List β} (s : Same H H') (h : Rws f H v l) : Rws f H' v l := by
  obtain ⟨D, as, e, h1, h2⟩ := h
  exact ⟨D, as, e, s _ _ h1, Rwx.mono s h2⟩
theorem Rwx.snoc {β : Type} {f : β → List V} {H : Hp} {as : List Addr} {l : List β} {a : Addr} {x : β} (h : Rwx f H as l) (g : H a = some (.tup (f x))) : Rwx f H (as ++ [a]) (l ++ [x]) := by
  induction h with
  | nil => exact .cons g .nil
  | cons h1 _ ih => exact .cons h1 ih
/-- a new row that stands still, and a list that grows by it -/
theorem row_add {F : Addr → Prop} {G H G1 H1 : Hp} {st inn D R : Addr} {xs ys : List V} {o : HO} (s : Stp F G H G1 H1) (S : StAt G1 H1 st inn) (c : Cell G1 H1 D (.lst xs)) (nD : H D = none) (off : ¬ F2 st inn D) (nR : H1 R = none) :
    Stp F G H (upd G1 R o) (upd (upd H1 R o) D (.lst ys)) ∧ StAt (upd G1 R o) (upd (upd H1 R o) D (.lst ys)) st inn ∧ Cell (upd G1 R o) (upd (upd H1 R o) D (.lst ys)) D (.lst ys) ∧ (upd G1 R o) R = some o ∧ Same G1 (upd G1 R o) := by
  have DR : D ≠ R := ne_of_none c.at_ nR
  have nR0 : H R = none := s.new nR
  have s10 := s.trans (Stp.put (F := F) s.gh nR o)
  have s11 := s10.freeze (Cell.new s.gh nR o) nR0
  have cD := (c.off DR o).lay DR o
  exact ⟨s11.loc cD nD _, ((S.new nR s.gh o).frz (S.off nR) o).write off _, cD.set _, upd_same, Same.lay (s.gh.free nR) o⟩
theorem For.shrt {names : List Str} {tb : List TB} (F : For names tb) (W : Words 12 12 names) : Shrt tb := by
  refine ⟨fun x hx => ?_, fun x hx => ?_, fun x hx c hc => ?_⟩
  · obtain ⟨t, ht⟩ := List.getElem?_of_mem hx
    have := (nameAt F W ht).len
    omega
  · obtain ⟨t, ht⟩ := List.getElem?_of_mem hx
    have := (F.cols t x ht).2.1
    omega
  · obtain ⟨t, ht⟩ := List.getElem?_of_mem hx
    have := (nameC F W ht hc).len
    omega
theorem plc_pos {names : List Str} {tb : List TB} (F : For names tb) {t : Nat} {cs : List Nat} (h : ChI tb t cs) : 1 ≤ (plc tb cs).length := by
  obtain ⟨x, hx⟩ : ∃ x, tb[t]? = some x := ⟨_, List.getElem?_eq_getElem h.lt⟩
  have := (F.cols t x hx).1
  cases h with
  | root _ _ => rw [plc_one, colI_of hx]; exact this
  | up _ _ h3 =>
    obtain ⟨r, rfl⟩ := h3.head
    rw [plc_two, colI_of hx, List.length_append]
    omega
def spOwners : Sp := fun vs H Q _ => ∃ (G : Hp) (st inn : Addr) (v : V) (names : List Str) (tb : List TB), vs = [.ref st, v] ∧ Same G H ∧ StAt G H st inn ∧ TBs G v tb ∧ For names tb ∧ Words 12 12 names ∧
  ∀ (v' : V) (ow : List (Nat × Str)) (G' H' : Hp), Stp (F2 st inn) G H G' H' → StAt G' H' st inn → Rws owF G' v' ow → OwOk tb ow → ow.length ≤ tb.length → Q v' H'
def spFollows : Sp := fun vs H Q _ => ∃ (G : Hp) (st inn : Addr) (v : V) (names : List Str) (tb : List TB) (m : Nat), vs = [.ref st, v, .int m] ∧ Same G H ∧ StAt G H st inn ∧ TBs G v tb ∧ For names tb ∧ Words 12 12 names ∧ 1 ≤ m ∧ m ≤ 1000 ∧
  ∀ (v' : V) (fo : List (Nat × Str × Str)) (G' H' : Hp), Stp (F2 st inn) G H G' H' → StAt G' H' st inn → Rws foF G' v' fo → FoOk tb fo → fo.length ≤ 4 * tb.length → Q v' H'
theorem nodup_snoc {α : Type} {l : List α} {a : α} (h : l.Nodup) (g : a ∉ l) : (l ++ [a]).Nodup := by
  rw [List.nodup_append]
  refine ⟨h, by simp, fun x hx y hy e => ?_⟩
  rw [List.mem_singleton.mp hy] at e
  rw [e] at hx
  exact g hx
section
variable {P : Program} {w : World} {K : PySem.W.Frag} {mg : Str → Option Value} {base : Heap}
theorem sc_get_owners : FnScope ["_law_st", "_law_tb", "_law_owners", "_law_t", "_law_places", "_law_place"] ["_law_st", "_law_tb"] (defScope (topS 33)) := ⟨rfl, rfl, rfl, by decide +kernel, rfl, by decide +kernel, by decide +kernel⟩
set_option maxHeartbeats 8000000 in
theorem ok_get_owners {f : Addr} {fd : FuncData} (F : Fun K "_law_get_owners" "_law_get_owners" (topS 33) f fd) (T : Txt K mg) (c_draw : Callee P w K mg base "_law_draw" ["_law_st", "_law_limit"] spDraw 1) (c_get_places : Callee P w K mg base "_law_get_places" ["_law_tb", "_law_t"] (spGP 4) 4) : FnOk P w K mg base CX0 5 f fd ["_law_st", "_law_tb"] spOwners := by
  refine F.ok sc_get_owners (fun vs H Q E h => ?_) (fun cdv A outer s H vs Q E hr h => ?_)
  · obtain ⟨G, st, inn, v, names, tb, rfl, _⟩ := h
    rfl
  · obtain ⟨G, st, inn, v, names, tb, rfl, gh, S, B, FF, W, k⟩ := h
    refine ⟨_, (pss_cons (ps_set (i := 2) sc_get_owners.nd rfl (Or.inl rfl) (pe_lst pa_nil))
      (pss_cons (ps_for PassesOwn.never rfl (pi_range1 (by rfl) T.n_range (pa_cons (pe_callB (c_len K) (by rfl) T.n_len (by decide +kernel) (pa_cons (pv 1) pa_nil)) pa_nil)) (pg_name (i := 3) sc_get_owners.nd rfl (Or.inl rfl))
      (pss_cons (ps_set (i := 4) sc_get_owners.nd rfl (Or.inl rfl) (pe_co c_get_places hr (by decide) (by rfl) (pa_cons (pv 1) (pa_cons (pv 3) pa_nil))))
      (pss_cons (ps_set (i := 5) sc_get_owners.nd rfl (Or.inl rfl) (pe_ix (ix_lst K) (pv 4) (pe_co c_draw hr (by decide) (by rfl) (pa_cons (pv 0) (pa_cons (pe_callB (c_len K) (by rfl) T.n_len (by decide +kernel) (pa_cons (pv 4) pa_nil)) pa_nil))) (fun _ _ => rfl)))
      (pss_one (ps_if (pt_cmpR o_gt (pe_co c_draw hr (by decide) (by rfl) (pa_cons (pv 0) (pa_cons pe_int pa_nil))) pe_int (nomark _)) (pss_one (ps_expr (e_bm K PySem.F.plainAttrs_list PySem.F.slot_list_append PySem.F.type_list_append mt_append (pv 2) (pa_cons (pe_tup (pa_cons (pv 3) (pa_cons (pv 5) pa_nil))) pa_nil)))) pss_nil)))))
      (pss_one (ps_ret (pv 2))))), ?_⟩
    have l12 := lenTB FF W
    obtain ⟨tA, as0, rfl, htA, el, _⟩ := B.at
    refine ⟨by decide, fun D nD => ?_⟩
    have off : ¬ F2 st inn D := S.off nD
    have s1 : Stp (F2 st inn) G H G (upd H D (.lst [])) := Stp.put gh nD _
    have S1 : StAt G (upd H D (.lst [])) st inn := S.new nD gh _
    have c1 : Cell G (upd H D (.lst [])) D (.lst []) := Cell.new gh nD _
    generalize upd H D (.lst []) = H1 at s1 S1 c1
    refine ⟨_, rfl, tA, _, rfl, .inl (SqL.of (s1.gh _ _ htA)), tb.length, by rw [List.length_map, el], by omega, by omega, for_range (lo := 0) (n := tb.length) (fun i σ H' => ∃ (x3 x4 x5 : Option V) (G' : Hp) (as : List Addr) (ow : List (Nat × Str)), σ = [some (.ref st), some (.ref tA), some (.ref D), x3, x4, x5] ∧ Stp (F2 st inn) G H G' H' ∧ StAt G' H' st inn ∧ Cell G' H' D (.lst (as.map V.ref)) ∧ Rwx owF G' as ow ∧ OwOk tb ow ∧ (∀ e ∈ ow, e.1 < i) ∧ ow.length ≤ i) ?_ ?_ ?_⟩
    · exact ⟨none, none, none, G, [], [], rfl, s1, S1, c1, .nil, ⟨List.nodup_nil, fun e h => by cases h⟩, fun e h => (by cases h), Nat.le_refl _⟩
    · rintro i σ H2 hi ⟨x3, x4, x5, G2, as, ow, rfl, s2, S2, c2, R2, O2, o2, ol⟩
      obtain ⟨cs, hc, hc4⟩ := FF.ch i hi
      have sh := plc_short (FF.shrt W) hc
      have pos := plc_pos FF hc
      refine ⟨_, rfl, _, rfl, .ref tA, i, tb, cs, by show [V.ref tA, V.int (0 + (i : Int))] = _; rw [Int.zero_add], B.mono (s2.gg.trans s2.gh), hc, hc4, by decide, FF.shrt W, fun p H3 t3 np hp => ?_⟩
      have s3 : Stp (F2 st inn) G2 H2 G2 H3 := Stp.same s2.gh t3
      have s3' := s2.trans s3
      have S3 : StAt G2 H3 st inn := S2.keep0 (Stp.same s2.gh t3)
      have c3 := s3.cell c2 off
      have cp : Cell G2 H3 p (.lst ((plc tb cs).map V.str)) := ⟨hp, s2.gh.free np⟩
      have offp : ¬ F2 st inn p := S2.off np
      refine ⟨_, rfl, _, rfl, _, rfl, p, _, rfl, .inl (SqL.of hp), G2, st, inn, _, rfl, s3.gh, S3, by rw [List.length_map]; omega, by rw [List.length_map]; omega, fun r1 H4 s4 S4 r10 r11 => ?_⟩
      obtain ⟨q, rfl⟩ := Int.eq_ofNat_of_zero_le r10
      rw [List.length_map] at r11
      have s4' := s3'.trans s4
      have c4 := s4.cell c3 off
      have cp4 := s4.cell cp offp
      obtain ⟨z, hz⟩ : ∃ z, (plc tb cs)[q]? = some z := ⟨_, List.getElem?_eq_getElem (by omega)⟩
      refine ⟨p, _, _, .str z, rfl, rfl, SqL.of cp4.at_, at_of rfl (by rw [List.getElem?_map, hz]; rfl), ?_⟩
      refine ⟨_, rfl, G2, st, inn, _, rfl, s4.gh, S4, by decide, by decide, fun r2 H5 s5 S5 r20 r21 => ?_⟩
      have s5' := s4'.trans s5
      have c5 := s5.cell c4 off
      refine ⟨_, _, rfl, rfl, _, rfl, ?_⟩
      refine ite2 (fun h1 => ?_) (fun h1 => ?_)
      · refine ⟨_, rfl, Or.inl ⟨rfl, _, SqL.of c5.at_⟩, _, rfl, _, rfl, by show 2 ≤ sizeLine; decide, fun R nR => ?_⟩
        obtain ⟨a1, a2, a3, a4, a5⟩ := row_add (o := .tup (owF (i, z))) (ys := as.map V.ref ++ [V.ref R]) s5' S5 c5 nD off nR
        have al : as.length = ow.length := Paired.length R2
        have ei : V.int (0 + (i : Int)) = V.int (i : Int) := by rw [Int.zero_add]
        have eR : (HO.tup [V.int (0 + (i : Int)), V.str z]) = .tup (owF (i, z)) := by rw [ei]; rfl
        rw [eR]
        refine ⟨D, as.map V.ref, _, rfl, rfl, by rw [upd_ne (ne_of_none c5.at_ nR)]; exact c5.at_, sz_lt (by rw [List.length_map]; omega), ?_⟩
        refine ⟨_, _, _, _, as ++ [R], ow ++ [(i, z)], rfl, a1, a2, by rw [List.map_append]; exact a3, Rwx.snoc (Rwx.mono a5 R2) a4, ⟨?_, ?_⟩, ?_, ?_⟩
        · rw [List.map_append]
          refine nodup_snoc O2.nd fun hm => ?_
          obtain ⟨e, he, e1⟩ := List.mem_map.mp hm
          have := o2 e he
          have e1 : e.1 = i := e1
          omega
        · intro e he
          rcases List.mem_append.mp he with he | he
          · exact O2.ok e he
          · rw [List.mem_singleton.mp he]
            exact ⟨cs, hc, List.mem_of_getElem? hz⟩
        · intro e he
          rcases List.mem_append.mp he with he | he
          · have := o2 e he; omega
          · rw [List.mem_singleton.mp he]; exact Nat.lt_succ_self i
        · rw [List.length_append]; exact Nat.succ_le_succ ol
      · exact ⟨_, _, _, _, as, ow, rfl, s5', S5, c5, R2, O2, fun e he => Nat.lt_succ_of_lt (o2 e he), by omega⟩
    · rintro σ H2 ⟨x3, x4, x5, G2, as, ow, rfl, s2, S2, c2, R2, O2, o2, ol⟩
      exact ⟨_, rfl, k (.ref D) ow _ H2 (s2.freeze c2 nD) (S2.frz off _) ⟨D, as, rfl, upd_same, Rwx.mono (Same.lay c2.no _) R2⟩ O2 ol⟩
theorem sc_all_follows : FnScope ["_law_state", "_law_tables", "_law_chance", "_law_follows", "_law_t", "_law_uppers", "_law_column"] ["_law_state", "_law_tables", "_law_chance"] (defScope (topS 25)) := ⟨rfl, rfl, rfl, by decide +kernel, rfl, by decide +kernel, by decide +kernel⟩
set_option maxHeartbeats 8000000 in
theorem ok_all_follows {f : Addr} {fd : FuncData} (F : Fun K "_law_all_follows" "_law_all_follows" (topS 25) f fd) (T : Txt K mg) (c_draw : Callee P w K mg base "_law_draw" ["_law_st", "_law_limit"] spDraw 1) : FnOk P w K mg base CX0 2 f fd ["_law_state", "_law_tables", "_law_chance"] spFollows := by
  refine F.ok sc_all_follows (fun vs H Q E h => ?_) (fun cdv A outer s H vs Q E hr h => ?_)
  · obtain ⟨G, st, inn, v, names, tb, m, rfl, _⟩ := h
    rfl
  · obtain ⟨G, st, inn, v, names, tb, m, rfl, gh, S, B, FF, W, m1, m2, k⟩ := h
    refine ⟨_, (pss_cons (ps_set (i := 3) sc_all_follows.nd rfl (Or.inl rfl) (pe_lst pa_nil))
      (pss_cons (ps_for PassesOwn.never rfl (pi_range1 (by rfl) T.n_range (pa_cons (pe_callB (c_len K) (by rfl) T.n_len (by decide +kernel) (pa_cons (pv 1) pa_nil)) pa_nil)) (pg_name (i := 4) sc_all_follows.nd rfl (Or.inl rfl))
      (pss_one (ps_if (pt_cmpR o_ge (pe_ix (ix_tpl K) (pe_ix (ix_lst K) (pv 1) (pv 4) (fun _ _ => rfl)) pe_int (fun _ _ => rfl)) pe_int (nomark _)) (pss_cons (ps_set (i := 5) sc_all_follows.nd rfl (Or.inl rfl) (pe_ix (ix_tpl K) (pe_ix (ix_lst K) (pv 1) (pe_ix (ix_tpl K) (pe_ix (ix_lst K) (pv 1) (pv 4) (fun _ _ => rfl)) pe_int (fun _ _ => rfl)) (fun _ _ => rfl)) pe_int (fun _ _ => rfl)))
      (pss_one (ps_for PassesOwn.never rfl (i_list K (pe_ix (ix_tpl K) (pe_ix (ix_lst K) (pv 1) (pv 4) (fun _ _ => rfl)) pe_int (fun _ _ => rfl))) (pg_name (i := 6) sc_all_follows.nd rfl (Or.inl rfl))
      (pss_one (ps_if (pt_cmpR op_eq (pe_co c_draw hr (by decide) (by rfl) (pa_cons (pv 0) (pa_cons (pv 2) pa_nil))) pe_int (nomark _)) (pss_one (ps_expr (e_bm K PySem.F.plainAttrs_list PySem.F.slot_list_append PySem.F.type_list_append mt_append (pv 3) (pa_cons (pe_tup (pa_cons (pv 4) (pa_cons (pv 6) (pa_cons (pe_ix (ix_lst K) (pv 5) (pe_co c_draw hr (by decide) (by rfl) (pa_cons (pv 0) (pa_cons (pe_callB (c_len K) (by rfl) T.n_len (by decide +kernel) (pa_cons (pv 5) pa_nil)) pa_nil))) (fun _ _ => rfl)) pa_nil)))) pa_nil)))) pss_nil))))) pss_nil)))
      (pss_one (ps_ret (pv 3))))), ?_⟩
    have l12 := lenTB FF W
    obtain ⟨tA, as0, rfl, htA, el, hat⟩ := B.at
    refine ⟨by decide, fun D nD => ?_⟩
    have off : ¬ F2 st inn D := S.off nD
    have s1 : Stp (F2 st inn) G H G (upd H D (.lst [])) := Stp.put gh nD _
    have S1 : StAt G (upd H D (.lst [])) st inn := S.new nD gh _
    have c1 : Cell G (upd H D (.lst [])) D (.lst []) := Cell.new gh nD _
    generalize upd H D (.lst []) = H1 at s1 S1 c1
    refine ⟨_, rfl, tA, _, rfl, .inl (SqL.of (s1.gh _ _ htA)), tb.length, by rw [List.length_map, el], by omega, by omega, for_range (lo := 0) (n := tb.length) (fun i σ H' => ∃ (x4 x5 x6 : Option V) (G' : Hp) (as : List Addr) (fo : List (Nat × Str × Str)), σ = [some (.ref st), some (.ref tA), some (.int m), some (.ref D), x4, x5, x6] ∧ Stp (F2 st inn) G H G' H' ∧ StAt G' H' st inn ∧ Cell G' H' D (.lst (as.map V.ref)) ∧ Rwx foF G' as fo ∧ FoOk tb fo ∧ (∀ e ∈ fo, e.1 < i) ∧ fo.length ≤ 4 * i) ?_ ?_ ?_⟩
    · exact ⟨none, none, none, G, [], [], rfl, s1, S1, c1, .nil, ⟨List.nodup_nil, fun e h => by cases h⟩, fun e h => (by cases h), Nat.le_refl _⟩
    · rintro i σ H2 hi ⟨x4, x5, x6, G2, as, fo, rfl, s2, S2, c2, R2, O2, o2, ol⟩
      obtain ⟨x, hx⟩ : ∃ x, tb[i]? = some x := ⟨_, List.getElem?_eq_getElem hi⟩
      obtain ⟨a, c, ga, hta, hcl⟩ := hat i x hx
      have g2 := s2.gg.trans s2.gh
      have i0 : (0 : Int) + (i : Int) = ((i : Nat) : Int) := Int.zero_add _
      refine ⟨_, rfl, _, rfl, tA, _, _, .ref a, rfl, rfl, SqL.of (g2 _ _ htA), at_of i0 ga, a, _, _, .int x.par, rfl, rfl, SqT.of (g2 _ _ hta), rfl, _, _, rfl, rfl, _, rfl, ?_⟩
      refine ite2 (fun h1 => ?_) (fun h1 => ?_)
      · have hp0 : 0 ≤ x.par := of_decide_eq_true h1
        have hp1 := (FF.par i x hx).1
        obtain ⟨p, ep⟩ : ∃ p : Nat, x.par = (p : Int) := ⟨x.par.toNat, by omega⟩
        obtain ⟨y, hy⟩ : ∃ y, tb[p]? = some y := ⟨_, List.getElem?_eq_getElem (by omega)⟩
        obtain ⟨a2, c2', ga2, hta2, hcl2⟩ := hat p y hy
        have yc := FF.cols p y hy
        have xc := FF.cols i x hx
        refine ⟨_, rfl, _, rfl, _, rfl, tA, _, _, .ref a, rfl, rfl, SqL.of (g2 _ _ htA), at_of i0 ga, a, _, _, .int x.par, rfl, rfl, SqT.of (g2 _ _ hta), rfl, tA, _, _, .ref a2, rfl, rfl, SqL.of (g2 _ _ htA), at_of ep ga2, a2, _, _, .ref c2', rfl, rfl, SqT.of (g2 _ _ hta2), rfl, ?_⟩
        refine ⟨_, rfl, _, rfl, tA, _, _, .ref a, rfl, rfl, SqL.of (g2 _ _ htA), at_of i0 ga, a, _, _, .ref c, rfl, rfl, SqT.of (g2 _ _ hta), rfl, c, rfl, ⟨_, SqL.of (g2 _ _ hcl)⟩, ?_⟩
        refine for_list (K := K) (a := c) (xs := x.cols.map V.str) (fun j σ H' => ∃ (x6 : Option V) (G' : Hp) (as : List Addr) (fo : List (Nat × Str × Str)), σ = [some (.ref st), some (.ref tA), some (.int m), some (.ref D), some (.int (0 + (i : Int))), some (.ref c2'), x6] ∧ Stp (F2 st inn) G H G' H' ∧ StAt G' H' st inn ∧ Cell G' H' D (.lst (as.map V.ref)) ∧ Rwx foF G' as fo ∧ FoOk tb fo ∧ (∀ e ∈ fo, e.1 < i ∨ (e.1 = i ∧ e.2.1 ∈ x.cols.take j)) ∧ fo.length ≤ 4 * i + j) ?_ ?_ ?_ ?_
        · exact ⟨_, G2, as, fo, rfl, s2, S2, c2, R2, O2, fun e he => .inl (o2 e he), ol⟩
        · rintro j σ H3 _ ⟨x6, G3, as, fo, _, s3, _⟩
          exact SqL.of (s3.gh _ _ (s3.gg _ _ hcl))
        · rintro j v σ H3 hj ⟨x6, G3, as, fo, rfl, s3, S3, c3, R3, O3, o3, ol3⟩
          obtain ⟨u, hu, rfl⟩ := map_get hj
          have hjl := get_lt hu
          refine ⟨_, rfl, _, rfl, G3, st, inn, _, rfl, s3.gh, S3, by omega, by omega, fun r1 H4 s4 S4 r10 r11 => ?_⟩
          have s4' := s3.trans s4
          have c4 := s4.cell c3 off
          refine ⟨rfl, _, rfl, ?_⟩
          refine ite2 (fun h2 => ?_) (fun h2 => ?_)
          · refine ⟨_, rfl, Or.inl ⟨rfl, _, SqL.of c4.at_⟩, _, rfl, _, rfl, _, rfl, _, rfl, _, rfl, c2', _, rfl, .inl (SqL.of (s4'.gh _ _ (s4'.gg _ _ hcl2))), G3, st, inn, _, rfl, s4.gh, S4, by rw [List.length_map]; omega, by rw [List.length_map]; omega, fun r2 H5 s5 S5 r20 r21 => ?_⟩
            rw [List.length_map] at r21
            obtain ⟨q, rfl⟩ := Int.eq_ofNat_of_zero_le r20
            have s5' := s4'.trans s5
            have c5 := s5.cell c4 off
            obtain ⟨z, hz⟩ : ∃ z, y.cols[q]? = some z := ⟨_, List.getElem?_eq_getElem (by omega)⟩
            refine ⟨c2', _, _, .str z, rfl, rfl, SqL.of (s5'.gh _ _ (s5'.gg _ _ hcl2)), at_of rfl (by rw [List.getElem?_map, hz]; rfl), by show 3 ≤ sizeLine; decide, fun R nR => ?_⟩
            obtain ⟨a1, a2, a3, a4, a5⟩ := row_add (o := .tup (foF (i, u, z))) (ys := as.map V.ref ++ [V.ref R]) s5' S5 c5 nD off nR
            have al : as.length = fo.length := Paired.length R3
            have eR : (HO.tup [V.int (0 + (i : Int)), V.str u, V.str z]) = .tup (foF (i, u, z)) := by rw [Int.zero_add]; rfl
            rw [eR]
            refine ⟨D, as.map V.ref, _, rfl, rfl, by rw [upd_ne (ne_of_none c5.at_ nR)]; exact c5.at_, sz_lt (by rw [List.length_map]; omega), ?_⟩
            refine ⟨_, _, as ++ [R], fo ++ [(i, u, z)], rfl, a1, a2, by rw [List.map_append]; exact a3, Rwx.snoc (Rwx.mono a5 R3) a4, ⟨?_, ?_⟩, ?_, ?_⟩
            · rw [List.map_append]
              refine nodup_snoc O3.nd fun hm => ?_
              obtain ⟨e, he, e1⟩ := List.mem_map.mp hm
              have e1 : (e.1, e.2.1) = (i, u) := e1
              injection e1 with e1 e2
              rcases o3 e he with h | ⟨_, h⟩
              · omega
              · rw [e2] at h
                exact nd_take xc.2.2.1 hu h
            · intro e he
              rcases List.mem_append.mp he with he | he
              · exact O3.ok e he
              · rw [List.mem_singleton.mp he]
                exact ⟨x, y, p, hx, ep, List.mem_of_getElem? hu, hy, List.mem_of_getElem? hz⟩
            · intro e he
              rw [take_more hu]
              rcases List.mem_append.mp he with he | he
              · rcases o3 e he with h | ⟨h, h'⟩
                · exact .inl h
                · exact .inr ⟨h, List.mem_append_left _ h'⟩
              · rw [List.mem_singleton.mp he]
                exact .inr ⟨rfl, List.mem_append_right _ (List.mem_singleton.mpr rfl)⟩
            · rw [List.length_append]; show _ + 1 ≤ _; omega
          · refine ⟨_, _, as, fo, rfl, s4', S4, c4, R3, O3, fun e he => ?_, by omega⟩
            rcases o3 e he with h | ⟨h, h'⟩
            · exact .inl h
            · exact .inr ⟨h, by rw [take_more hu]; exact List.mem_append_left _ h'⟩
        · rintro σ H3 ⟨x6, G3, as, fo, rfl, s3, S3, c3, R3, O3, o3, ol3⟩
          rw [List.length_map] at ol3
          refine ⟨_, _, _, G3, as, fo, rfl, s3, S3, c3, R3, O3, fun e he => ?_, by omega⟩
          rcases o3 e he with h | ⟨h, _⟩ <;> omega
      · exact ⟨_, _, _, G2, as, fo, rfl, s2, S2, c2, R2, O2, fun e he => Nat.lt_succ_of_lt (o2 e he), by omega⟩
    · rintro σ H2 ⟨x4, x5, x6, G2, as, fo, rfl, s2, S2, c2, R2, O2, o2, ol⟩
      exact ⟨_, rfl, k (.ref D) fo _ H2 (s2.freeze c2 nD) (S2.frz off _) ⟨D, as, rfl, upd_same, Rwx.mono (Same.lay c2.no _) R2⟩ O2 ol⟩
end
end OA

/-! ### extra_lines, schema_lines, are_words -/
namespace OA
open PySem PySem.Spec PyProof.Rows L2
theorem own_line (a b : Str) : Str.ofString "owner " ++ a ++ Str.ofString " " ++ b = Txt.join spc [Str.ofString "owner", a, b] := by
  rw [join_two (by simp), join_two (by simp), join_one]
  refine str_ext ?_
  rw [app_list, app_list, app_list, app_list, app_list, app_list, app_list]
  have e : (Str.ofString "owner ").cps.toList = (Str.ofString "owner").cps.toList ++ spc.cps.toList := by decide +kernel
  have e2 : (Str.ofString " ").cps.toList = spc.cps.toList := rfl
  rw [e, e2]
  simp only [List.append_assoc]
theorem fol_line (a b c : Str) : Str.ofString "follow " ++ a ++ Str.ofString " " ++ b ++ Str.ofString " " ++ c = Txt.join spc [Str.ofString "follow", a, b, c] := by
  rw [join_two (by simp), join_two (by simp), join_two (by simp), join_one]
  refine str_ext ?_
  rw [app_list, app_list, app_list, app_list, app_list, app_list, app_list, app_list, app_list, app_list, app_list]
  have e : (Str.ofString "follow ").cps.toList = (Str.ofString "follow").cps.toList ++ spc.cps.toList := by decide +kernel
  have e2 : (Str.ofString " ").cps.toList = spc.cps.toList := rfl
  rw [e, e2]
  simp only [List.append_assoc]
def spExtra : Sp := fun vs H Q _ => ∃ (v vo vf : V) (t : Nat) (tb : List TB) (ow : List (Nat × Str)) (fo : List (Nat × Str × Str)), vs = [v, vo, vf, .int (t : Int)] ∧ TBs H v tb ∧ Rws owF H vo ow ∧ Rws foF H vf fo ∧ Shrt tb ∧ t < tb.length ∧ ow.length ≤ 1000 ∧ fo.length ≤ 1000 ∧ (∀ e ∈ ow, e.2.length ≤ 100) ∧ (∀ e ∈ fo, e.2.1.length ≤ 100 ∧ e.2.2.length ≤ 100) ∧
  ∀ (p : Addr) (H' : Hp), Same H H' → H p = none → H' p = some (.lst (((extW tb ow fo t).map (Txt.join spc)).map V.str)) → Q (.ref p) H'
theorem rw_get {β : Type} {f : β → List V} {H : Hp} {as : List Addr} {l : List β} (h : Rwx f H as l) {i : Nat} {v : V} (e : (as.map V.ref)[i]? = some v) : ∃ a x, v = .ref a ∧ l[i]? = some x ∧ H a = some (.tup (f x)) := by
  obtain ⟨a, ha, rfl⟩ := map_get e
  obtain ⟨x, hx, hf⟩ := LiI.paired_get h ha
  exact ⟨a, x, rfl, hx, hf⟩
theorem ofT_more {β : Type} {l : List (Nat × β)} {i t : Nat} {e : Nat × β} (h : l[i]? = some e) : ofT (l.take (i + 1)) t = if e.1 = t then ofT (l.take i) t ++ [e] else ofT (l.take i) t := by
  unfold ofT
  rw [take_more h, List.filter_append]
  by_cases g : e.1 = t
  · rw [if_pos g, List.filter_cons, if_pos (decide_eq_true g)]; rfl
  · rw [if_neg g, List.filter_cons, if_neg (by simpa using g)]; simp
theorem ofT_len {β : Type} (l : List (Nat × β)) (t : Nat) : (ofT l t).length ≤ l.length := List.length_filter_le _ _
section
variable {P : Program} {w : World} {K : PySem.W.Frag} {mg : Str → Option Value} {base : Heap}
theorem sc_extra_lines : FnScope ["_law_tables", "_law_owners", "_law_follows", "_law_t", "_law_lines", "_law_k", "_law_column", "_law_upper", "_law_place"] ["_law_tables", "_law_owners", "_law_follows", "_law_t"] (defScope (topS 24)) := ⟨rfl, rfl, rfl, by decide +kernel, rfl, by decide +kernel, by decide +kernel⟩
set_option maxHeartbeats 8000000 in
theorem ok_extra_lines {f : Addr} {fd : FuncData} (F : Fun K "_law_extra_lines" "_law_extra_lines" (topS 24) f fd) (T : Txt K mg) : FnOk P w K mg base CX0 1 f fd ["_law_tables", "_law_owners", "_law_follows", "_law_t"] spExtra := by
  refine F.ok sc_extra_lines (fun vs H Q E h => ?_) (fun cdv A outer s H vs Q E hr h => ?_)
  · obtain ⟨v, vo, vf, t, tb, ow, fo, rfl, _⟩ := h
    rfl
  · obtain ⟨v, vo, vf, t, tb, ow, fo, rfl, B, ⟨oA, os, rfl, hoA, RO⟩, ⟨fA, fs, rfl, hfA, RF⟩, Sh, ht, ol, fl, os1, fs1, k⟩ := h
    refine ⟨_, (pss_cons (ps_setLc (i := 4) (own := [("_law_k", 5), ("_law_place", 8)]) (by rfl) sc_extra_lines.nd rfl rfl (sw_true rfl rfl rfl (by decide +kernel)) (i_list K (pv 1)) (blkOk_by (own := [("_law_k", 5), ("_law_place", 8)]) (N := ["_law_tables", "_law_owners", "_law_follows", "_law_t", "_law_lines", "_law_k", "_law_column", "_law_upper", "_law_place"]) (sc := defScope (topS 24)) (by decide +kernel)) (fun _ _ _ _ _ => (g_tup K (n := 2) rfl (pgs_cons (pg_name (i := 5) sc_extra_lines.nd rfl (Or.inl rfl)) (pgs_cons (pg_name (i := 8) sc_extra_lines.nd rfl (Or.inl rfl)) pgs_nil)))) (fun _ _ _ _ _ => (pts_one (pt_cmpR op_eq (pv 5) (pv 3) (nomark _)))) (fun _ _ _ _ _ => (pe_op o_adds (pe_op o_adds (pe_op o_adds pe_str (pe_ix (ix_tpl K) (pe_ix (ix_lst K) (pv 0) (pv 5) (fun _ _ => rfl)) pe_int (fun _ _ => rfl))) pe_str) (pv 8))))
      (pss_cons (ps_for PassesOwn.never rfl (i_list K (pv 2)) (g_tup K (n := 3) rfl (pgs_cons (pg_name (i := 5) sc_extra_lines.nd rfl (Or.inl rfl)) (pgs_cons (pg_name (i := 6) sc_extra_lines.nd rfl (Or.inl rfl)) (pgs_cons (pg_name (i := 7) sc_extra_lines.nd rfl (Or.inl rfl)) pgs_nil))))
      (pss_one (ps_if (pt_cmpR op_eq (pv 5) (pv 3) (nomark _)) (pss_one (ps_expr (e_bm K PySem.F.plainAttrs_list PySem.F.slot_list_append PySem.F.type_list_append mt_append (pv 4) (pa_cons (pe_op o_adds (pe_op o_adds (pe_op o_adds (pe_op o_adds (pe_op o_adds pe_str (pe_ix (ix_tpl K) (pe_ix (ix_lst K) (pv 0) (pv 5) (fun _ _ => rfl)) pe_int (fun _ _ => rfl))) pe_str) (pv 6)) pe_str) (pv 7)) pa_nil)))) pss_nil)))
      (pss_one (ps_ret (pv 4))))), ?_⟩
    obtain ⟨tA, as0, rfl, htA, el, hat⟩ := B.at
    obtain ⟨x, hx⟩ : ∃ x, tb[t]? = some x := ⟨_, List.getElem?_eq_getElem ht⟩
    obtain ⟨a, c, ga, hta, hcl⟩ := hat t x hx
    have hnm := Sh.nm x (List.mem_of_getElem? hx)
    have osl : os.length = ow.length := Paired.length RO
    have fsl : fs.length = fo.length := Paired.length RF
    refine ⟨_, rfl, oA, rfl, ⟨_, SqL.of hoA⟩, fun D nD => ?_⟩
    refine lc_list (K := K) (a := oA) (xs := os.map V.ref) (fun j H' => Same H H' ∧ H' D = some (.lst ((((ofT (ow.take j) t).map (ownW tb)).map (Txt.join spc)).map V.str))) ?_ ?_ ?_ ?_
    · exact ⟨same_loc (Same.refl H) nD _, upd_same⟩
    · rintro j H' _ ⟨s, _⟩
      exact SqL.of (s _ _ hoA)
    · rintro j y H1 hj ⟨t1, h1⟩
      obtain ⟨ra, e, rfl, he, hra⟩ := rw_get RO hj
      have hjl := get_lt he
      have hem := List.mem_of_getElem? he
      refine ⟨ra, _, rfl, SqT.of (t1 _ _ hra), rfl, _, _, rfl, _, _, rfl, rfl, rfl, ?_⟩
      refine ⟨_, rfl, _, rfl, rfl, _, rfl, ?_⟩
      rw [show ofT (ow.take (j + 1)) t = _ from ofT_more he]
      refine ite2 (fun h2 => ?_) (fun h2 => ?_)
      · have e2 : e.1 = t := by
          have := V.int.inj (of_decide_eq_true h2)
          omega
        rw [if_pos e2]
        have l6 : (Str.ofString "owner ").length = 6 := by decide +kernel
        have l1 : (Str.ofString " ").length = 1 := by decide +kernel
        have l3 := os1 e hem
        refine ⟨_, rfl, _, rfl, tA, _, _, .ref a, rfl, rfl, SqL.of (t1 _ _ htA), at_of (j := t) (by rw [← e2]) ga, a, _, _, .str x.nm, rfl, rfl, SqT.of (t1 _ _ hta), rfl, _, _, rfl, rfl, sz_le (by omega), _, _, rfl, rfl, sz_le (by rw [app_len]; omega), _, rfl, _, _, rfl, rfl, sz_le (by rw [app_len, app_len]; omega), _, h1, sz_lt ?_, same_loc t1 nD _, ?_⟩
        · have := ofT_len (ow.take j) t
          rw [List.length_take] at this
          simp only [List.length_map]
          omega
        · rw [upd_same, List.map_append, List.map_append, List.map_append, own_line]
          show _ = some (HO.lst (_ ++ [V.str (Txt.join spc (ownW tb e))]))
          unfold ownW
          rw [e2, nmI_of hx]
      · have e2 : ¬ e.1 = t := fun z => h2 (decide_eq_true (by rw [z]))
        rw [if_neg e2]
        exact ⟨t1, h1⟩
    rintro H1 ⟨t1, h1⟩
    rw [List.length_map, osl, List.take_length] at h1
    -- the follow lines
    refine ⟨_, rfl, fA, rfl, ⟨_, SqL.of (t1 _ _ hfA)⟩, ?_⟩
    refine for_list (K := K) (a := fA) (xs := fs.map V.ref) (fun j σ H' => ∃ (x5 x6 x7 : Option V), σ = [some (.ref tA), some (.ref oA), some (.ref fA), some (.int (t : Int)), some (.ref D), x5, x6, x7, none] ∧ Same H H' ∧ H' D = some (.lst ((((ofT ow t).map (ownW tb) ++ (ofT (fo.take j) t).map (folW tb)).map (Txt.join spc)).map V.str))) ?_ ?_ ?_ ?_
    · refine ⟨_, _, _, rfl, t1, ?_⟩
      rw [h1]
      show _ = some (HO.lst ((((ofT ow t).map (ownW tb) ++ []).map _).map _))
      rw [List.append_nil]
    · rintro j σ H' _ ⟨_, _, _, _, s, _⟩
      exact SqL.of (s _ _ hfA)
    · rintro j y σ H2 hj ⟨x5, x6, x7, rfl, t2, h2⟩
      obtain ⟨ra, e, rfl, he, hra⟩ := rw_get RF hj
      have hjl := get_lt he
      have hem := List.mem_of_getElem? he
      refine ⟨ra, _, rfl, SqT.of (t2 _ _ hra), rfl, _, _, rfl, _, _, rfl, _, _, rfl, rfl, ?_⟩
      refine ⟨_, rfl, _, rfl, rfl, _, rfl, ?_⟩
      refine ite2 (fun h3 => ?_) (fun h3 => ?_)
      · have e2 : e.1 = t := by
          have := V.int.inj (of_decide_eq_true h3)
          omega
        have l6 : (Str.ofString "follow ").length = 7 := by decide +kernel
        have l1 : (Str.ofString " ").length = 1 := by decide +kernel
        have l3 := fs1 e hem
        refine ⟨_, rfl, Or.inl ⟨rfl, _, SqL.of h2⟩, _, rfl, _, rfl, tA, _, _, .ref a, rfl, rfl, SqL.of (t2 _ _ htA), at_of (j := t) (by rw [← e2]) ga, a, _, _, .str x.nm, rfl, rfl, SqT.of (t2 _ _ hta), rfl, _, _, rfl, rfl, sz_le (by omega), _, _, rfl, rfl, sz_le (by rw [app_len]; omega), _, rfl, _, _, rfl, rfl, sz_le (by rw [app_len, app_len]; omega), _, _, rfl, rfl, sz_le (by rw [app_len, app_len, app_len]; omega), _, rfl, _, _, rfl, rfl, sz_le (by rw [app_len, app_len, app_len, app_len]; omega), D, _, _, rfl, rfl, h2, sz_lt ?_, ?_⟩
        · have g1 := ofT_len (fo.take j) t
          have g2 := ofT_len ow t
          rw [List.length_take] at g1
          simp only [List.length_map, List.length_append]
          omega
        · refine ⟨_, _, _, rfl, same_loc t2 nD _, ?_⟩
          rw [upd_same, ofT_more he, if_pos e2, List.map_append (l₁ := ofT (fo.take j) t), ← List.append_assoc, List.map_append (l₂ := [e].map (folW tb)), List.map_append (l₂ := ([e].map (folW tb)).map (Txt.join spc)), fol_line]
          show _ = some (HO.lst (_ ++ [V.str (Txt.join spc (folW tb e))]))
          unfold folW
          rw [e2, nmI_of hx]
      · have e2 : ¬ e.1 = t := fun z => h3 (decide_eq_true (by rw [z]))
        refine ⟨_, _, _, rfl, t2, ?_⟩
        rw [ofT_more he, if_neg e2]
        exact h2
    · rintro σ H2 ⟨x5, x6, x7, rfl, t2, h2⟩
      rw [List.length_map, fsl, List.take_length] at h2
      exact ⟨_, rfl, k D H2 t2 nD h2⟩
end
end OA

/-! ### schema_lines, are_words -/
namespace OA
open PySem PySem.Spec PyProof.Rows L2
def rem {β : Type} (l : List (Nat × β)) (D : List Nat) : List (Nat × β) := l.filter fun e => decide (e.1 ∉ D)
theorem rem_nil {β : Type} (l : List (Nat × β)) : rem l [] = l := by
  unfold rem
  rw [List.filter_eq_self]
  intro a _
  exact decide_eq_true (by simp)
theorem rem_step {β : Type} (l : List (Nat × β)) (D : List Nat) (t : Nat) : (rem l D).filter (fun e => !decide (e.1 = t)) = rem l (D ++ [t]) := by
  unfold rem
  rw [List.filter_filter]
  refine List.filter_congr fun e _ => ?_
  by_cases h1 : e.1 = t <;> by_cases h2 : e.1 ∈ D <;> simp [h1, h2]
theorem ofT_rem {β : Type} (l : List (Nat × β)) (D : List Nat) (t : Nat) : ofT (rem l D) t = if t ∈ D then [] else ofT l t := by
  unfold ofT rem
  rw [List.filter_filter]
  by_cases h : t ∈ D
  · rw [if_pos h, List.filter_eq_nil_iff]
    intro e _ g
    rw [Bool.and_eq_true] at g
    have g1 := of_decide_eq_true g.1
    have g2 := of_decide_eq_true g.2
    rw [g1] at g2
    exact g2 h
  · rw [if_neg h]
    refine List.filter_congr fun e _ => ?_
    by_cases h1 : e.1 = t
    · rw [decide_eq_true h1, h1, decide_eq_true h]; rfl
    · rw [decide_eq_false h1]; rfl
theorem extW_rem (tb : List TB) (ow : List (Nat × Str)) (fo : List (Nat × Str × Str)) (D : List Nat) (t : Nat) : extW tb (rem ow D) (rem fo D) t = if t ∈ D then [] else extW tb ow fo t := by
  unfold extW
  rw [ofT_rem, ofT_rem]
  by_cases h : t ∈ D
  · rw [if_pos h, if_pos h, if_pos h]; rfl
  · rw [if_neg h, if_neg h, if_neg h]
theorem rem_mem {β : Type} {l : List (Nat × β)} {D : List Nat} {e : Nat × β} (h : e ∈ rem l D) : e ∈ l := (List.mem_filter.mp h).1
theorem rem_len {β : Type} (l : List (Nat × β)) (D : List Nat) : (rem l D).length ≤ l.length := List.length_filter_le _ _
theorem extW_len (tb : List TB) (ow : List (Nat × Str)) (fo : List (Nat × Str × Str)) (t : Nat) : (extW tb ow fo t).length ≤ ow.length + fo.length := by
  unfold extW
  rw [List.length_append, List.length_map, List.length_map]
  have := ofT_len ow t
  have := ofT_len fo t
  omega
/-- [row for row in rows if row[0] != t] -/
theorem filt_rows {β : Type} {f : Nat × β → List V} {H : Hp} (g : V → Bool) : ∀ {as : List Addr} {l : List (Nat × β)}, Rwx f H as l → (∀ a e, a ∈ as → H a = some (.tup (f e)) → e ∈ l → ∀ t : Nat, True) → ∀ (q : Nat × β → Bool), (∀ a e, H a = some (.tup (f e)) → e ∈ l → g (.ref a) = q e) → ∃ as', (as.map V.ref).filter g = as'.map V.ref ∧ Rwx f H as' (l.filter q)
  | _, _, .nil, _, _, _ => ⟨[], rfl, .nil⟩
  | a :: as, e :: l, .cons h r, hh, q, hq => by
    obtain ⟨as', e1, e2⟩ := filt_rows g r (fun _ _ _ _ _ _ => trivial) q fun a e h1 h2 => hq a e h1 (List.mem_cons_of_mem _ h2)
    have := hq a e h List.mem_cons_self
    rw [List.map_cons, List.filter_cons, List.filter_cons, this]
    cases q e with
    | true => exact ⟨a :: as', by rw [if_pos rfl, e1]; rfl, by rw [if_pos rfl]; exact .cons h e2⟩
    | false => exact ⟨as', by rw [if_neg Bool.false_ne_true, e1], by rw [if_neg Bool.false_ne_true]; exact e2⟩
def spSLines : Sp := fun vs H Q _ => ∃ (G : Hp) (st inn : Addr) (v vo vf : V) (names : List Str) (tb : List TB) (ow : List (Nat × Str)) (fo : List (Nat × Str × Str)), vs = [.ref st, v, vo, vf] ∧ Same G H ∧ StAt G H st inn ∧ TBs G v tb ∧ Rws owF G vo ow ∧ Rws foF G vf fo ∧ For names tb ∧ Words 12 12 names ∧ OwOk tb ow ∧ FoOk tb fo ∧ ow.length ≤ 12 ∧ fo.length ≤ 48 ∧
  ∀ (p : Addr) (D : List Nat) (wss : List (List Str)) (G' H' : Hp), Stp (F2 st inn) G H G' H' → StAt G' H' st inn → H p = none → Cell G' H' p (.lst ((wss.map (Txt.join spc)).map V.str)) → Blk tb ow fo tb.length D wss → (∀ t, t < tb.length → t ∈ D) → wss.length ≤ tb.length * (1 + 2 * (ow.length + fo.length)) → Q (.ref p) H'
def spAreW : Sp := fun vs H Q _ => ∃ (a b : Addr) (xs : List Str), vs = [.ref a, .ref b] ∧ H a = some (.lst (xs.map V.str)) ∧ H b = some (.lst (xs.map V.str)) ∧ xs.length ≤ 100000 ∧ Q (.bl true) H
def ne0 (H : Hp) (t : Nat) : V → Bool
  | .ref a => match H a with
    | some (.tup (x :: _)) => !decide (x = V.int (t : Int))
    | _ => false
  | _ => false
theorem ne0_at {H : Hp} {t : Nat} {a : Addr} {x : V} {r : List V} (h : H a = some (.tup (x :: r))) : ne0 H t (.ref a) = !decide (x = V.int (t : Int)) := by
  show (match H a with | some (.tup (x :: _)) => !decide (x = V.int (t : Int)) | _ => false) = _
  rw [h]
section
variable {P : Program} {w : World} {K : PySem.W.Frag} {mg : Str → Option Value} {base : Heap}
theorem sc_are_words : FnScope ["_law_told", "_law_due", "_law_k"] ["_law_told", "_law_due"] (defScope (topS 26)) := ⟨rfl, rfl, rfl, by decide +kernel, rfl, by decide +kernel, by decide +kernel⟩
theorem ok_are_words {f : Addr} {fd : FuncData} (F : Fun K "_law_are_words" "_law_are_words" (topS 26) f fd) (T : Txt K mg) : FnOk P w K mg base CX0 1 f fd ["_law_told", "_law_due"] spAreW := by
  refine F.ok sc_are_words (fun vs H Q E h => ?_) (fun cdv A outer s H vs Q E hr h => ?_)
  · obtain ⟨a, b, xs, rfl, _⟩ := h
    rfl
  · obtain ⟨a, b, xs, rfl, ha, hb, hl, k⟩ := h
    refine ⟨_, (pss_cons (ps_if (PW.pt (pw_or (pt_not (pt_val (pe_callB (c_isi K) (by rfl) T.n_isinstance (by decide +kernel) (pa_cons (pv 0) (pa_cons (pe_bltn (v := .ty "list") rfl T.n_list (by decide +kernel) rfl) pa_nil))))) (pw_or1 (pt_cmpR op_ne (pe_callB (c_len K) (by rfl) T.n_len (by decide +kernel) (pa_cons (pv 0) pa_nil)) (pe_callB (c_len K) (by rfl) T.n_len (by decide +kernel) (pa_cons (pv 1) pa_nil)) (nomark _))))) (pss_one (ps_ret pe_bl)) pss_nil)
      (pss_cons (ps_for PassesOwn.never rfl (pi_range1 (by rfl) T.n_range (pa_cons (pe_callB (c_len K) (by rfl) T.n_len (by decide +kernel) (pa_cons (pv 1) pa_nil)) pa_nil)) (pg_name (i := 2) sc_are_words.nd rfl (Or.inl rfl))
      (pss_one (ps_if (PW.pt (pw_or (pt_not (pt_val (pe_callB (c_isi K) (by rfl) T.n_isinstance (by decide +kernel) (pa_cons (pe_ix (ix_lst K) (pv 0) (pv 2) (fun _ _ => rfl)) (pa_cons (pe_bltn (v := .ty "str") rfl T.n_str (by decide +kernel) rfl) pa_nil))))) (pw_or1 (pt_cmpR op_ne (pe_ix (ix_lst K) (pv 0) (pv 2) (fun _ _ => rfl)) (pe_ix (ix_lst K) (pv 1) (pv 2) (fun _ _ => rfl)) (nomark _))))) (pss_one (ps_ret pe_bl)) pss_nil)))
      (pss_one (ps_ret pe_bl)))), ?_⟩
    refine ⟨_, rfl, _, _, _, _, true, rfl, .ty "list", .base (.lst ha), kit_ty (by decide +kernel), true, rfl, ?_⟩
    refine iteF ?_
    refine ⟨_, rfl, _, _, rfl, .inl (SqL.of ha), _, rfl, _, _, rfl, .inl (SqL.of hb), rfl, _, rfl, ?_⟩
    rw [decide_eq_true rfl]
    refine iteF ?_
    refine ⟨_, rfl, b, _, rfl, .inl (SqL.of hb), xs.length, by rw [List.length_map], by omega, by omega, for_range (lo := 0) (n := xs.length) (fun i σ H' => ∃ x2, σ = [some (.ref a), some (.ref b), x2] ∧ H' = H) ?_ ?_ ?_⟩
    · exact ⟨none, rfl, rfl⟩
    · rintro i σ H' hi ⟨x2, rfl, rfl⟩
      obtain ⟨x, hx⟩ : ∃ x, xs[i]? = some x := ⟨_, List.getElem?_eq_getElem hi⟩
      have e : (xs.map V.str)[i]? = some (.str x) := by rw [List.getElem?_map, hx]; rfl
      have i0 : (0 : Int) + (i : Int) = ((i : Nat) : Int) := Int.zero_add _
      refine ⟨_, rfl, _, rfl, a, _, _, .str x, rfl, rfl, SqL.of ha, at_of i0 e, _, _, _, _, true, rfl, .ty "str", .base (.str _), kit_ty (by decide +kernel), true, rfl, ?_⟩
      refine iteF ?_
      refine ⟨_, rfl, _, rfl, a, _, _, .str x, rfl, rfl, SqL.of ha, at_of i0 e, _, rfl, _, rfl, b, _, _, .str x, rfl, rfl, SqL.of hb, at_of i0 e, rfl, _, rfl, ?_⟩
      rw [decide_eq_true rfl]
      refine iteF ?_
      exact ⟨_, rfl, rfl⟩
    · rintro σ H' ⟨x2, rfl, rfl⟩
      exact k
theorem sc_schema_lines : FnScope ["_law_state", "_law_tables", "_law_owners", "_law_follows", "_law_lines", "_law_t", "_law_row"] ["_law_state", "_law_tables", "_law_owners", "_law_follows"] (defScope (topS 23)) := ⟨rfl, rfl, rfl, by decide +kernel, rfl, by decide +kernel, by decide +kernel⟩
set_option maxHeartbeats 8000000 in
theorem ok_schema_lines {f : Addr} {fd : FuncData} (F : Fun K "_law_schema_lines" "_law_schema_lines" (topS 23) f fd) (T : Txt K mg) (c_draw : Callee P w K mg base "_law_draw" ["_law_st", "_law_limit"] spDraw 1) (c_table_line : Callee P w K mg base "_law_table_line" ["_law_tb", "_law_t"] spTL 1) (c_extra_lines : Callee P w K mg base "_law_extra_lines" ["_law_tables", "_law_owners", "_law_follows", "_law_t"] spExtra 1) : FnOk P w K mg base CX0 2 f fd ["_law_state", "_law_tables", "_law_owners", "_law_follows"] spSLines := by
  refine F.ok sc_schema_lines (fun vs H Q E h => ?_) (fun cdv A outer s H vs Q E hr h => ?_)
  · obtain ⟨G, st, inn, v, vo, vf, names, tb, ow, fo, rfl, _⟩ := h
    rfl
  · obtain ⟨G, st, inn, v, vo, vf, names, tb, ow, fo, rfl, gh, S, B, RO, RF, FF, W, OO, FO, ol, fl, k⟩ := h
    refine ⟨_, (pss_cons (ps_set (i := 4) sc_schema_lines.nd rfl (Or.inl rfl) (pe_lst pa_nil))
      (pss_cons (ps_for PassesOwn.never rfl (pi_range1 (by rfl) T.n_range (pa_cons (pe_callB (c_len K) (by rfl) T.n_len (by decide +kernel) (pa_cons (pv 1) pa_nil)) pa_nil)) (pg_name (i := 5) sc_schema_lines.nd rfl (Or.inr rfl))
      (pss_cons (ps_expr (e_bm K PySem.F.plainAttrs_list PySem.F.slot_list_append PySem.F.type_list_append mt_append (pv 4) (pa_cons (pe_co c_table_line hr (by decide) (by rfl) (pa_cons (pv 1) (pa_cons (pv 5) pa_nil))) pa_nil)))
      (pss_one (ps_if (pt_cmpR op_eq (pe_co c_draw hr (by decide) (by rfl) (pa_cons (pv 0) (pa_cons pe_int pa_nil))) pe_int (nomark _)) (pss_cons (ps_set (i := 4) sc_schema_lines.nd rfl (Or.inl rfl) (pe_op op_cat (pv 4) (pe_co c_extra_lines hr (by decide) (by rfl) (pa_cons (pv 1) (pa_cons (pv 2) (pa_cons (pv 3) (pa_cons (pv 5) pa_nil)))))))
      (pss_cons (ps_setLc (i := 2) (own := [("_law_row", 6)]) (by rfl) sc_schema_lines.nd rfl rfl (sw_true rfl rfl rfl (by decide +kernel)) (i_list K (pv 2)) (blkOk_by (own := [("_law_row", 6)]) (N := ["_law_state", "_law_tables", "_law_owners", "_law_follows", "_law_lines", "_law_t", "_law_row"]) (sc := defScope (topS 23)) (by decide +kernel)) (fun _ _ _ _ _ => (pg_name (i := 6) sc_schema_lines.nd rfl (Or.inl rfl))) (fun _ _ _ _ _ => (pts_one (pt_cmpR op_ne (pe_ix (ix_tpl K) (pv 6) pe_int (fun _ _ => rfl)) (pv 5) (nomark _)))) (fun _ _ _ _ _ => (pv 6)))
      (pss_one (ps_setLc (i := 3) (own := [("_law_row", 6)]) (by rfl) sc_schema_lines.nd rfl rfl (sw_true rfl rfl rfl (by decide +kernel)) (i_list K (pv 3)) (blkOk_by (own := [("_law_row", 6)]) (N := ["_law_state", "_law_tables", "_law_owners", "_law_follows", "_law_lines", "_law_t", "_law_row"]) (sc := defScope (topS 23)) (by decide +kernel)) (fun _ _ _ _ _ => (pg_name (i := 6) sc_schema_lines.nd rfl (Or.inl rfl))) (fun _ _ _ _ _ => (pts_one (pt_cmpR op_ne (pe_ix (ix_tpl K) (pv 6) pe_int (fun _ _ => rfl)) (pv 5) (nomark _)))) (fun _ _ _ _ _ => (pv 6)))))) pss_nil))))
      (pss_cons (ps_for PassesOwn.never rfl (pi_range1 (by rfl) T.n_range (pa_cons (pe_callB (c_len K) (by rfl) T.n_len (by decide +kernel) (pa_cons (pv 1) pa_nil)) pa_nil)) (pg_name (i := 5) sc_schema_lines.nd rfl (Or.inr rfl))
      (pss_one (ps_set (i := 4) sc_schema_lines.nd rfl (Or.inl rfl) (pe_op op_cat (pv 4) (pe_co c_extra_lines hr (by decide) (by rfl) (pa_cons (pv 1) (pa_cons (pv 2) (pa_cons (pv 3) (pa_cons (pv 5) pa_nil)))))))))
      (pss_one (ps_ret (pv 4)))))), ?_⟩
    have l12 := lenTB FF W
    have Sh := FF.shrt W
    obtain ⟨tA, as0, rfl, htA, el, hat⟩ := B.at
    have os1 : ∀ e ∈ ow, e.2.length ≤ 100 := fun e he => by
      obtain ⟨cs, hc, hz⟩ := OO.ok e he
      obtain ⟨_, _, _, _, _, _, wz⟩ := plcW FF W hc hz
      have := wz.len
      omega
    have fs1 : ∀ e ∈ fo, e.2.1.length ≤ 100 ∧ e.2.2.length ≤ 100 := fun e he => by
      obtain ⟨x, y, p, hx, _, hc, hy, hu⟩ := FO.ok e he
      have := (nameC FF W hx hc).len
      have := (nameC FF W hy hu).len
      omega
    have mulB : ∀ j : Nat, (j + 1) * (1 + (ow.length + fo.length)) = j * (1 + (ow.length + fo.length)) + 1 + (ow.length + fo.length) := fun j => by rw [Nat.add_mul]; omega
    have mul2 : ∀ j : Nat, (j + 1) * (ow.length + fo.length) = j * (ow.length + fo.length) + (ow.length + fo.length) := fun j => by rw [Nat.add_mul]; omega
    have mulM : ∀ j : Nat, j ≤ 12 → j * (1 + (ow.length + fo.length)) ≤ 12 * 61 := fun j hj => Nat.mul_le_mul hj (by omega)
    have mulN : ∀ j : Nat, j ≤ 12 → j * (ow.length + fo.length) ≤ 12 * 60 := fun j hj => Nat.mul_le_mul hj (by omega)
    refine ⟨by decide, fun L0 nL0 => ?_⟩
    have s1 : Stp (F2 st inn) G H G (upd H L0 (.lst [])) := Stp.put gh nL0 _
    have S1 : StAt G (upd H L0 (.lst [])) st inn := S.new nL0 gh _
    have c1 : Cell G (upd H L0 (.lst [])) L0 (.lst []) := Cell.new gh nL0 _
    generalize upd H L0 (.lst []) = H1 at s1 S1 c1
    refine ⟨_, rfl, tA, _, rfl, .inl (SqL.of (s1.gh _ _ htA)), tb.length, by rw [List.length_map, el], by omega, by omega, for_range (lo := 0) (n := tb.length) (fun i σ H' => ∃ (x5 : Option V) (G' : Hp) (L : Addr) (vo' vf' : V) (D : List Nat) (wss : List (List Str)), σ = [some (.ref st), some (.ref tA), some vo', some vf', some (.ref L), x5, none] ∧ Stp (F2 st inn) G H G' H' ∧ StAt G' H' st inn ∧ H L = none ∧ Cell G' H' L (.lst ((wss.map (Txt.join spc)).map V.str)) ∧ Rws owF G' vo' (rem ow D) ∧ Rws foF G' vf' (rem fo D) ∧ Blk tb ow fo i D wss ∧ (∀ t ∈ D, t < i) ∧ wss.length ≤ i * (1 + (ow.length + fo.length))) ?_ ?_ ?_⟩
    · exact ⟨none, G, L0, vo, vf, [], [], rfl, s1, S1, nL0, c1, by rw [rem_nil]; exact RO, by rw [rem_nil]; exact RF, .nil, fun t h => (by cases h), Nat.zero_le _⟩
    · rintro i σ H2 hi ⟨x5, G2, L, vo', vf', D, wss, rfl, s2, S2, nL, c2, RO2, RF2, B2, d2, wl⟩
      obtain ⟨x, hx⟩ : ∃ x, tb[i]? = some x := ⟨_, List.getElem?_eq_getElem hi⟩
      have i0 : (0 : Int) + (i : Int) = ((i : Nat) : Int) := Int.zero_add _
      have offL : ¬ F2 st inn L := S.off nL
      have mB := mulB i
      have mM := mulM (i + 1) (by omega)
      have hpx := FF.par i x hx
      -- the table's line
      refine ⟨_, rfl, Or.inl ⟨rfl, _, SqL.of c2.at_⟩, _, rfl, _, rfl, .ref tA, i, tb, x, by rw [i0]; rfl, B.mono (s2.gg.trans s2.gh), hx, Sh, .inr (by omega), fun H3 t3 => ?_⟩
      have s3 : Stp (F2 st inn) G2 H2 G2 H3 := Stp.same s2.gh t3
      have s3' := s2.trans s3
      have S3 : StAt G2 H3 st inn := S2.keep0 (Stp.same s2.gh t3)
      have c3 := s3.cell c2 offL
      refine ⟨L, _, _, rfl, rfl, c3.at_, sz_lt (by simp only [List.length_map]; omega), ?_⟩
      have s4 := s3'.loc c3 nL (.lst ((wss.map (Txt.join spc)).map V.str ++ [V.str (Txt.join spc (tlW tb i x))]))
      have S4 := S3.write offL (.lst ((wss.map (Txt.join spc)).map V.str ++ [V.str (Txt.join spc (tlW tb i x))]))
      have c4 := c3.set (.lst ((wss.map (Txt.join spc)).map V.str ++ [V.str (Txt.join spc (tlW tb i x))]))
      generalize upd H3 L (.lst ((wss.map (Txt.join spc)).map V.str ++ [V.str (Txt.join spc (tlW tb i x))])) = H4 at s4 S4 c4
      have e4 : (wss.map (Txt.join spc)).map V.str ++ [V.str (Txt.join spc (tlW tb i x))] = ((wss ++ [tlW tb i x]).map (Txt.join spc)).map V.str := by rw [List.map_append, List.map_append]; rfl
      rw [e4] at c4
      have B4 := B2.tab hx
      have w4 : (wss ++ [tlW tb i x]).length ≤ i * (1 + (ow.length + fo.length)) + 1 := by rw [List.length_append]; exact Nat.succ_le_succ wl
      generalize wss ++ [tlW tb i x] = wss4 at c4 B4 w4
      refine ⟨_, rfl, G2, st, inn, _, rfl, s4.gh, S4, by decide, by decide, fun r1 H5 s5 S5 r10 r11 => ?_⟩
      have s5' := s4.trans s5
      have c5 := s5.cell c4 offL
      refine ⟨rfl, _, rfl, ?_⟩
      refine ite2 (fun h1 => ?_) (fun h1 => ?_)
      · have hiD : i ∉ D := fun hm => absurd (d2 i hm) (Nat.lt_irrefl _)
        refine ⟨_, rfl, _, rfl, _, rfl, _, rfl, _, rfl, .ref tA, vo', vf', i, tb, rem ow D, rem fo D, by rw [i0]; rfl, B.mono (s5'.gg.trans s5'.gh), RO2.mono s5'.gh, RF2.mono s5'.gh, Sh, hi, by have := rem_len ow D; omega, by have := rem_len fo D; omega, fun e he => os1 e (rem_mem he), fun e he => fs1 e (rem_mem he), fun p H6 t6 np hp => ?_⟩
        rw [extW_rem, if_neg hiD] at hp
        have xl := extW_len tb ow fo i
        refine ⟨L, p, _, _, rfl, rfl, t6 _ _ c5.at_, hp, sz_le (by simp only [List.length_map]; omega), fun L2 nL2 => ?_⟩
        have s6 : Stp (F2 st inn) G2 H5 G2 H6 := Stp.same s5.gh t6
        have s6' := s5'.trans s6
        have S6 : StAt G2 H6 st inn := S5.keep0 (Stp.same s5.gh t6)
        rw [← List.map_append, ← List.map_append]
        have B7 := B4.ext (t := i) (Nat.lt_succ_self i) hiD
        have w7 : (wss4 ++ extW tb ow fo i).length ≤ (i + 1) * (1 + (ow.length + fo.length)) := by rw [List.length_append]; omega
        generalize wss4 ++ extW tb ow fo i = wss7 at B7 w7
        have nL20 : H L2 = none := s6'.new nL2
        have s7 := s6'.trans (Stp.put (F := F2 st inn) s6.gh nL2 (.lst ((wss7.map (Txt.join spc)).map V.str)))
        have S7 := S6.new nL2 s6.gh (.lst ((wss7.map (Txt.join spc)).map V.str))
        have c7 := Cell.new s6.gh nL2 (.lst ((wss7.map (Txt.join spc)).map V.str))
        generalize upd H6 L2 (.lst ((wss7.map (Txt.join spc)).map V.str)) = H7 at s7 S7 c7
        have offL2 : ¬ F2 st inn L2 := S.off nL20
        -- what is left of the owners
        obtain ⟨oA, os, rfl, hoA, RO3⟩ := RO2
        obtain ⟨fA, fs, rfl, hfA, RF3⟩ := RF2
        have osl : os.length = (rem ow D).length := Paired.length RO3
        have fsl : fs.length = (rem fo D).length := Paired.length RF3
        have rl1 := rem_len ow D
        have rl2 := rem_len fo D
        obtain ⟨os', eo1, eo2⟩ := filt_rows (ne0 G2 i) RO3 (fun _ _ _ _ _ _ => trivial) (fun e => !decide (e.1 = i)) (fun a e h1 _ => by
          show (match G2 a with | some (.tup (x :: _)) => !decide (x = V.int (i : Int)) | _ => false) = _
          rw [h1]
          show (!decide (V.int (e.1 : Int) = V.int (i : Int))) = _
          congr 1
          exact decide_eq_decide.mpr ⟨fun z => by have := V.int.inj z; omega, fun z => by rw [z]⟩)
        obtain ⟨fs', ef1, ef2⟩ := filt_rows (ne0 G2 i) RF3 (fun _ _ _ _ _ _ => trivial) (fun e => !decide (e.1 = i)) (fun a e h1 _ => by
          show (match G2 a with | some (.tup (x :: _)) => !decide (x = V.int (i : Int)) | _ => false) = _
          rw [h1]
          show (!decide (V.int (e.1 : Int) = V.int (i : Int))) = _
          congr 1
          exact decide_eq_decide.mpr ⟨fun z => by have := V.int.inj z; omega, fun z => by rw [z]⟩)
        rw [rem_step] at eo2 ef2
        dsimp only [gName]
        refine at_seq (at_asg (lc_flt (a := oA) (xs := os.map V.ref) (ne0 G2 i) (by show 6 < 7; decide) (fun R r => ⟨_, rfl, r⟩) (s7.gh _ _ hoA) (by rw [List.length_map]; omega) (fun y hy H8 t8 R r => ?_) fun O2 H8 t8 nO2 hO2 => ?_))
        · obtain ⟨a, ha, rfl⟩ := List.mem_map.mp hy
          obtain ⟨j, hj⟩ := List.getElem?_of_mem ha
          obtain ⟨e, he, hra⟩ := LiI.paired_get RO3 hj
          refine ⟨_, rfl, a, _, _, .int (e.1 : Int), rfl, rfl, SqT.of (t8 _ _ (s7.gh _ _ hra)), rfl, _, rfl, rfl, _, rfl, ?_⟩
          have := r H8 (Same.refl H8)
          rw [ne0_at (show G2 a = some (.tup (owF e)) from hra)] at this
          rw [i0]
          exact this
        have s8 : Stp (F2 st inn) G2 H7 G2 H8 := Stp.same s7.gh t8
        have s8' := s7.trans s8
        have S8 : StAt G2 H8 st inn := S7.keep0 (Stp.same s7.gh t8)
        have c8 := s8.cell c7 offL2
        have nO20 : H O2 = none := s7.new nO2
        have cO : Cell G2 H8 O2 (.lst ((os.map V.ref).filter (ne0 G2 i))) := ⟨hO2, s7.gh.free nO2⟩
        have offO : ¬ F2 st inn O2 := S.off nO20
        dsimp only [gName]
        refine at_asg (lc_flt (a := fA) (xs := fs.map V.ref) (ne0 G2 i) (by show 6 < 7; decide) (fun R r => ⟨_, rfl, r⟩) (s8'.gh _ _ hfA) (by rw [List.length_map]; omega) (fun y hy H9 t9 R r => ?_) fun F2' H9 t9 nF2 hF2 => ?_)
        · obtain ⟨a, ha, rfl⟩ := List.mem_map.mp hy
          obtain ⟨j, hj⟩ := List.getElem?_of_mem ha
          obtain ⟨e, he, hra⟩ := LiI.paired_get RF3 hj
          refine ⟨_, rfl, a, _, _, .int (e.1 : Int), rfl, rfl, SqT.of (t9 _ _ (s8'.gh _ _ hra)), rfl, _, rfl, rfl, _, rfl, ?_⟩
          have := r H9 (Same.refl H9)
          rw [ne0_at (show G2 a = some (.tup (foF e)) from hra)] at this
          rw [i0]
          exact this
        have s9 : Stp (F2 st inn) G2 H8 G2 H9 := Stp.same s8'.gh t9
        have s9' := s8'.trans s9
        have S9 : StAt G2 H9 st inn := S8.keep0 (Stp.same s8'.gh t9)
        have c9 := s9.cell c8 offL2
        have cO9 := s9.cell cO offO
        have nF20 : H F2' = none := s8'.new nF2
        have cF : Cell G2 H9 F2' (.lst ((fs.map V.ref).filter (ne0 G2 i))) := ⟨hF2, s8'.gh.free nF2⟩
        have offF : ¬ F2 st inn F2' := S.off nF20
        have OF : O2 ≠ F2' := ne_of_none cO.at_ nF2
        have LO : L2 ≠ O2 := ne_of_none c7.at_ nO2
        have LF : L2 ≠ F2' := ne_of_none c8.at_ nF2
        have s10 := (s9'.freeze cO9 nO20).freeze (cF.lay OF.symm _) nF20
        have g10 : Same G2 (upd (upd G2 O2 (.lst ((os.map V.ref).filter (ne0 G2 i)))) F2' (.lst ((fs.map V.ref).filter (ne0 G2 i)))) := (Same.lay cO9.no _).trans (Same.lay (cF.lay OF.symm _).no _)
        refine ⟨_, _, L2, .ref O2, .ref F2', D ++ [i], wss7, rfl, s10, (S9.frz offO _).frz offF _, nL20, (c9.lay LO _).lay LF _, ⟨O2, os', rfl, ?_, Rwx.mono g10 eo2⟩, ⟨F2', fs', rfl, ?_, Rwx.mono g10 ef2⟩, B7, ?_, w7⟩
        · rw [upd_ne OF, upd_same, eo1]
        · rw [upd_same, ef1]
        · intro t ht
          rcases List.mem_append.mp ht with ht | ht
          · exact Nat.lt_succ_of_lt (d2 t ht)
          · rw [List.mem_singleton.mp ht]; exact Nat.lt_succ_self i
      · exact ⟨_, G2, L, vo', vf', D, wss4, rfl, s5', S5, nL, c5, RO2, RF2, B4, fun t ht => Nat.lt_succ_of_lt (d2 t ht), by omega⟩
    · -- the second loop
      rintro σ H2 ⟨x5, G2, L, vo', vf', D, wss, rfl, s2, S2, nL, c2, RO2, RF2, B2, d2, wl⟩
      have mM := mulM tb.length l12
      refine ⟨_, rfl, tA, _, rfl, .inl (SqL.of (s2.gh _ _ (s2.gg _ _ htA))), tb.length, by rw [List.length_map, el], by omega, by omega, for_range (lo := 0) (n := tb.length) (fun i σ H' => ∃ (x5 : Option V) (L : Addr) (D2 : List Nat) (wss : List (List Str)), σ = [some (.ref st), some (.ref tA), some vo', some vf', some (.ref L), x5, none] ∧ Stp (F2 st inn) G H G2 H' ∧ StAt G2 H' st inn ∧ H L = none ∧ Cell G2 H' L (.lst ((wss.map (Txt.join spc)).map V.str)) ∧ Blk tb ow fo tb.length D2 wss ∧ (∀ t, t < i → t ∈ D2) ∧ (∀ t, i ≤ t → (t ∈ D2 ↔ t ∈ D)) ∧ wss.length ≤ tb.length * (1 + (ow.length + fo.length)) + i * (ow.length + fo.length)) ?_ ?_ ?_⟩
      · exact ⟨x5, L, D, wss, rfl, s2, S2, nL, c2, B2, fun t h => (by omega), fun t _ => Iff.rfl, by omega⟩
      · rintro i σ H3 hi ⟨x5, L, D2, wss, rfl, s3, S3, nL, c3, B3, dA, dB, wl⟩
        have i0 : (0 : Int) + (i : Int) = ((i : Nat) : Int) := Int.zero_add _
        have m2 := mul2 i
        have mN := mulN (i + 1) (by omega)
        refine ⟨_, rfl, _, rfl, _, rfl, _, rfl, _, rfl, .ref tA, vo', vf', i, tb, rem ow D, rem fo D, by rw [i0]; rfl, B.mono (s3.gg.trans s3.gh), RO2.mono s3.gh, RF2.mono s3.gh, Sh, hi, by have := rem_len ow D; omega, by have := rem_len fo D; omega, fun e he => os1 e (rem_mem he), fun e he => fs1 e (rem_mem he), fun p H6 t6 np hp => ?_⟩
        rw [extW_rem] at hp
        have xl := extW_len tb ow fo i
        have xl2 : (if i ∈ D then [] else extW tb ow fo i).length ≤ ow.length + fo.length := by
          split
          · exact Nat.zero_le _
          · exact xl
        refine ⟨L, p, _, _, rfl, rfl, t6 _ _ c3.at_, hp, sz_le (by simp only [List.length_map]; omega), fun L2 nL2 => ?_⟩
        have s6 : Stp (F2 st inn) G2 H3 G2 H6 := Stp.same s3.gh t6
        have s6' := s3.trans s6
        have S6 : StAt G2 H6 st inn := S3.keep0 (Stp.same s3.gh t6)
        rw [← List.map_append, ← List.map_append]
        have nL20 : H L2 = none := s6'.new nL2
        obtain ⟨D3, B7, dA7, dB7⟩ : ∃ D3, Blk tb ow fo tb.length D3 (wss ++ if i ∈ D then [] else extW tb ow fo i) ∧ (∀ t, t < i + 1 → t ∈ D3) ∧ (∀ t, i + 1 ≤ t → (t ∈ D3 ↔ t ∈ D)) := by
          by_cases h : i ∈ D
          · rw [if_pos h, List.append_nil]
            refine ⟨D2, B3, fun t ht => ?_, fun t ht => dB t (by omega)⟩
            by_cases e : t = i
            · rw [e]; exact (dB i (Nat.le_refl _)).mpr h
            · exact dA t (by omega)
          · rw [if_neg h]
            refine ⟨D2 ++ [i], B3.ext hi (fun z => h ((dB i (Nat.le_refl _)).mp z)), fun t ht => ?_, fun t ht => ?_⟩
            · by_cases e : t = i
              · rw [e]; exact List.mem_append_right _ (List.mem_singleton.mpr rfl)
              · exact List.mem_append_left _ (dA t (by omega))
            · rw [List.mem_append, List.mem_singleton, dB t (by omega)]
              exact ⟨fun z => z.elim id (fun z => by omega), .inl⟩
        refine ⟨_, L2, D3, _, rfl, s6'.trans (Stp.put (F := F2 st inn) s6.gh nL2 _), S6.new nL2 s6.gh _, nL20, Cell.new s6.gh nL2 _, B7, dA7, dB7, by rw [List.length_append]; omega⟩
      · rintro σ H3 ⟨x5, L, D2, wss, rfl, s3, S3, nL, c3, B3, dA, dB, wl⟩
        refine ⟨_, rfl, k L D2 wss G2 H3 s3 S3 nL c3 B3 dA ?_⟩
        have : tb.length * (1 + 2 * (ow.length + fo.length)) = tb.length * (1 + (ow.length + fo.length)) + tb.length * (ow.length + fo.length) := by rw [← Nat.mul_add]; congr 1; omega
        omega
end
end OA

/-! ### the drawn text is read as it was drawn -/
namespace OA
open PySem PySem.Spec PyProof.Rows L2
theorem Blk.len {tb : List TB} {ow : List (Nat × Str)} {fo : List (Nat × Str × Str)} {k : Nat} {D : List Nat} {ls : List (List Str)} (h : Blk tb ow fo k D ls) : k ≤ ls.length := by
  induction h with
  | nil => exact Nat.le_refl _
  | tab _ _ ih => rw [List.length_append]; exact Nat.succ_le_succ ih
  | ext _ _ _ ih => rw [List.length_append]; omega
def txtOf (wss : List (List Str)) : Str := Txt.join nlS (wss.map (Txt.join spc))
theorem find_key {α κ : Type} [DecidableEq κ] (key : α → κ) : ∀ {l : List α} {x : α}, x ∈ l → (∀ y ∈ l, key y = key x → y = x) → (l.find? fun y => decide (key y = key x)) = some x
  | [], _, h, _ => by cases h
  | y :: l, x, h, g => by
    rw [List.find?_cons]
    by_cases e : key y = key x
    · rw [decide_eq_true e, g y List.mem_cons_self e]
    · rw [decide_eq_false e]
      rcases List.mem_cons.mp h with h | h
      · rw [h] at e; exact absurd rfl e
      · exact find_key key h fun z hz => g z (List.mem_cons_of_mem _ hz)
theorem nodup_key {α κ : Type} (key : α → κ) : ∀ {l : List α}, (l.map key).Nodup → ∀ {x y : α}, x ∈ l → y ∈ l → key y = key x → y = x
  | [], _, _, _, h, _, _ => by cases h
  | a :: l, nd, x, y, hx, hy, e => by
    rw [List.map_cons, List.nodup_cons] at nd
    rcases List.mem_cons.mp hx with ex | hx
    · rcases List.mem_cons.mp hy with ey | hy
      · rw [ex, ey]
      · exact absurd (List.mem_map.mpr ⟨y, hy, by rw [e, ex]⟩) nd.1
    · rcases List.mem_cons.mp hy with ey | hy
      · exact absurd (List.mem_map.mpr ⟨x, hx, by rw [← e, ey]⟩) nd.1
      · exact nodup_key key nd.2 hx hy e
section
variable {names : List Str} {tb : List TB} (F : For names tb) (W : Words 12 12 names)
include F W
theorem read_ready {ow : List (Nat × Str)} {fo : List (Nat × Str × Str)} (O : OwOk tb ow) (Fo : FoOk tb fo) (one : 1 ≤ tb.length) (six : tb.length ≤ 6) (ol : ow.length ≤ tb.length) (fl : fo.length ≤ 4 * tb.length) {D : List Nat} {wss : List (List Str)} (h : Blk tb ow fo tb.length D wss) (wl : wss.length ≤ tb.length * (1 + 2 * (ow.length + fo.length))) :
    ((wss.map (Txt.join spc)).map (·.length)).sum + (wss.map (Txt.join spc)).length * (Str.ofString "\n").length ≤ 200000 ∧ (txtOf wss).length ≤ 400000 ∧ (Txt.split (txtOf wss) nlS).length ≤ 1000 ∧ (∀ l ∈ Txt.split (txtOf wss) nlS, l.length ≤ 100000 ∧ (splitW l).length ≤ 1000 ∧ ∀ q ∈ splitW l, q.length ≤ 1000) ∧ ReadsL ⟨[], [], []⟩ ((Txt.split (txtOf wss) nlS).map splitW) (schK tb ow fo tb.length D) := by
  have hw := h.wd F W O Fo
  have hl := h.len
  have hb : tb.length * (1 + 2 * (ow.length + fo.length)) ≤ 6 * 61 := Nat.mul_le_mul six (by omega)
  have wne : wss.map (Txt.join spc) ≠ [] := fun e => by
    have : (wss.map (Txt.join spc)).length = 0 := by rw [e]; rfl
    rw [List.length_map] at this
    omega
  have e0 : (Str.ofString "\n").length = 1 := by decide +kernel
  have sm : ((wss.map (Txt.join spc)).map (·.length)).sum ≤ ((wss.map (Txt.join spc)).map (·.length)).length * 427 := sum_le (B := 427) fun x hx => by
    obtain ⟨l, hl, rfl⟩ := List.mem_map.mp hx
    obtain ⟨ws, hws, rfl⟩ := List.mem_map.mp hl
    have := joinW_len (hw ws hws).2.2 (hw ws hws).2.1
    omega
  rw [List.length_map, List.length_map] at sm
  have sp : Txt.split (txtOf wss) nlS = wss.map (Txt.join spc) := split_nl wne fun l hl => by
    obtain ⟨ws, hws, rfl⟩ := List.mem_map.mp hl
    exact joinW_nl (hw ws hws).2.2
  have sw : (wss.map (Txt.join spc)).map splitW = wss := by
    rw [List.map_map]
    conv => rhs; rw [← List.map_id wss]
    exact List.map_congr_left fun ws hws => splitW_join (hw ws hws).1 (hw ws hws).2.2
  refine ⟨by rw [e0, List.length_map]; omega, ?_, by rw [sp, List.length_map]; omega, fun l hl => ?_, ?_⟩
  · have h1 := join_len nlS (wss.map (Txt.join spc))
    have e1 : nlS.length = 1 := by decide +kernel
    rw [e1, List.length_map] at h1
    unfold txtOf
    omega
  · rw [sp] at hl
    obtain ⟨ws, hws, rfl⟩ := List.mem_map.mp hl
    obtain ⟨g1, g2, g3⟩ := hw ws hws
    have := joinW_len g3 g2
    rw [splitW_join g1 g3]
    exact ⟨by omega, by omega, fun q hq => by have := (g3 q hq).len; omega⟩
  · rw [sp, sw]
    exact (h.reads F W O Fo six).2.2.2.2
theorem shortK {t : Nat} {cs : List Nat} (hc : ChI tb t cs) : ShortC (tabsK tb tb.length) (cs.map (nmI tb)) := by
  obtain ⟨cs', hc', h4⟩ := F.ch t hc.lt
  have := hc.uniq hc'
  subst this
  have ix : ∀ n ∈ cs.map (nmI tb), ∃ (c : Nat) (x : TB), tb[c]? = some x ∧ n = x.nm := fun n hn => by
    obtain ⟨c, hcm, rfl⟩ := List.mem_map.mp hn
    have hx : tb[c]? = some _ := List.getElem?_eq_getElem (hc.allLt c hcm)
    exact ⟨c, _, hx, nmI_of hx⟩
  refine ⟨by rw [List.length_map]; omega, fun n hn => ?_, fun n hn => ?_⟩
  · obtain ⟨c, x, hx, rfl⟩ := ix n hn
    have := (nameAt F W hx).len
    omega
  · obtain ⟨c, x, hx, rfl⟩ := ix n hn
    refine ⟨_, tabOf_K F W.nd hx (get_lt hx), ?_, fun z hz => ?_⟩
    · have := (F.cols c x hx).2.1
      show x.cols.length ≤ 100
      omega
    · have := (nameC F W hx hz).len
      omega
theorem own_find {ow : List (Nat × Str)} (O : OwOk tb ow) {D : List Nat} (nd : ((D.flatMap (ofT ow)).map (·.1)).Nodup) {e : Nat × Str} (he : e ∈ ow) (hD : e.1 ∈ D) : (((D.flatMap (ofT ow)).map (ownN tb)).find? fun o => decide (o.1 = nmI tb e.1)) = some (ownN tb e) := by
  have lt : ∀ e ∈ D.flatMap (ofT ow), e.1 < tb.length := fun e he => by
    obtain ⟨d, _, h⟩ := List.mem_flatMap.mp he
    obtain ⟨cs, hc, _⟩ := O.ok e (ofT_mem h).1
    exact hc.lt
  have hm : e ∈ D.flatMap (ofT ow) := List.mem_flatMap.mpr ⟨e.1, hD, List.mem_filter.mpr ⟨he, decide_eq_true rfl⟩⟩
  refine find_key (fun o : Str × Str => o.1) (x := ownN tb e) (List.mem_map.mpr ⟨e, hm, rfl⟩) fun y hy ey => ?_
  obtain ⟨u, hu, rfl⟩ := List.mem_map.mp hy
  have := nmI_inj F W.nd (lt u hu) (lt e hm) ey
  rw [nodup_key (·.1) nd hm hu this]
end
end OA

/-! ### the law -/
namespace OA
open PySem PySem.Spec PyProof.Rows L2
def spLaw (K : PySem.W.Frag) : Sp := fun vs H Q _ => ∃ (a : Addr) (ns : List Int), vs = [.ref a] ∧ SqL K H a (ns.map V.int) ∧ ns.length ≤ 63 ∧ ∀ H', Q (.bl true) H'
section
variable {P : Program} {w : World} {K : PySem.W.Frag} {mg : Str → Option Value} {base : Heap}
theorem sc_law : FnScope ["_law_script", "_law_state", "_law_tables", "_law_owners", "_law_text", "_law_schema", "_law_t", "_law_due", "_law_turn", "_law_told", "_law_place"] ["_law_script"] (defScope (topS 34)) := ⟨rfl, rfl, rfl, by decide +kernel, rfl, by decide +kernel, by decide +kernel⟩
set_option maxHeartbeats 16000000 in
theorem ok_law {f C : Addr} {fd : FuncData} (F : Fun K "law" "law" (topS 34) f fd) (T : Txt K mg) (TS : STxt K mg C)
    (c_get_state : Callee P w K mg base "_law_get_state" ["_law_script"] (spState K) 1) (c_get_words : Callee P w K mg base "_law_get_words" ["_law_st", "_law_most", "_law_count"] spWords 2)
    (c_forest : Callee P w K mg base "_law_forest" ["_law_state", "_law_names", "_law_most"] spForest 5) (c_get_owners : Callee P w K mg base "_law_get_owners" ["_law_st", "_law_tb"] spOwners 5)
    (c_schema_lines : Callee P w K mg base "_law_schema_lines" ["_law_state", "_law_tables", "_law_owners", "_law_follows"] spSLines 2) (c_all_follows : Callee P w K mg base "_law_all_follows" ["_law_state", "_law_tables", "_law_chance"] spFollows 2)
    (c_get_places : Callee P w K mg base "_law_get_places" ["_law_tb", "_law_t"] (spGP 4) 4) (c_are_words : Callee P w K mg base "_law_are_words" ["_law_told", "_law_due"] spAreW 1)
    (c_Schema_read : Static P w K mg base C "read" ["text"] (spRead C) 5) (c_Schema_positions : Method P w K mg base C "positions" ["self", "table"] (spPos C) 4) (c_Schema_owner_of : Method P w K mg base C "owner_of" ["self", "table"] (spOwnerOf C) 2) :
    FnOk P w K mg base CX0 6 f fd ["_law_script"] (spLaw K) := by
  refine F.ok sc_law (fun vs H Q E h => ?_) (fun cdv A outer s H vs Q E hr h => ?_)
  · obtain ⟨a, ns, rfl, _⟩ := h
    rfl
  · obtain ⟨a, ns, rfl, hS, hlen, k⟩ := h
    refine ⟨_, (pss_cons (ps_set (i := 1) sc_law.nd rfl (Or.inl rfl) (pe_co c_get_state hr (by decide) (by rfl) (pa_cons (pv 0) pa_nil)))
      (pss_cons (ps_set (i := 2) sc_law.nd rfl (Or.inl rfl) (pe_co c_forest hr (by decide) (by rfl) (pa_cons (pv 1) (pa_cons (pe_co c_get_words hr (by decide) (by rfl) (pa_cons (pv 1) (pa_cons pe_int (pa_cons pe_int pa_nil)))) (pa_cons pe_int pa_nil)))))
      (pss_cons (ps_set (i := 3) sc_law.nd rfl (Or.inl rfl) (pe_co c_get_owners hr (by decide) (by rfl) (pa_cons (pv 1) (pa_cons (pv 2) pa_nil))))
      (pss_cons (ps_set (i := 4) sc_law.nd rfl (Or.inl rfl) (e_join K pe_str (pe_co c_schema_lines hr (by decide) (by rfl) (pa_cons (pv 1) (pa_cons (pv 2) (pa_cons (pv 3) (pa_cons (pe_co c_all_follows hr (by decide) (by rfl) (pa_cons (pv 1) (pa_cons (pv 2) (pa_cons pe_int pa_nil)))) pa_nil)))))))
      (pss_cons (ps_set (i := 5) sc_law.nd rfl (Or.inl rfl) (pe_st c_Schema_read hr (by decide) (pe_glob (v := .ref C) rfl TS.g rfl) (pa_cons (pv 4) pa_nil)))
      (pss_cons (ps_for PassesOwn.never rfl (pi_range1 (by rfl) T.n_range (pa_cons (pe_callB (c_len K) (by rfl) T.n_len (by decide +kernel) (pa_cons (pv 2) pa_nil)) pa_nil)) (pg_name (i := 6) sc_law.nd rfl (Or.inl rfl))
      (pss_cons (ps_set (i := 7) sc_law.nd rfl (Or.inl rfl) (pe_co c_get_places hr (by decide) (by rfl) (pa_cons (pv 2) (pa_cons (pv 6) pa_nil))))
      (pss_one (ps_for PassesOwn.never rfl (pi_range1 (by rfl) T.n_range (pa_cons pe_int pa_nil)) (pg_name (i := 8) sc_law.nd rfl (Or.inl rfl))
      (pss_cons (ps_set (i := 9) sc_law.nd rfl (Or.inl rfl) (pe_mo c_Schema_positions hr (by decide) (pv 5) (pa_cons (pe_ix (ix_tpl K) (pe_ix (ix_lst K) (pv 2) (pv 6) (fun _ _ => rfl)) pe_int (fun _ _ => rfl)) pa_nil)))
      (pss_cons (ps_if (pt_not (pt_val (pe_co c_are_words hr (by decide) (by rfl) (pa_cons (pv 9) (pa_cons (pv 7) pa_nil))))) (pss_one (ps_ret pe_bl)) pss_nil)
      (pss_one (ps_expr (e_bm K PySem.F.plainAttrs_list PySem.F.slot_list_append PySem.F.type_list_append mt_append (pv 9) (pa_cons pe_str pa_nil))))))))))
      (pss_cons (ps_for PassesOwn.never rfl (i_list K (pv 3)) (g_tup K (n := 2) rfl (pgs_cons (pg_name (i := 6) sc_law.nd rfl (Or.inl rfl)) (pgs_cons (pg_name (i := 10) sc_law.nd rfl (Or.inl rfl)) pgs_nil)))
      (pss_one (ps_if (pt_cmpR (o_notin K) (pe_mo c_Schema_owner_of hr (by decide) (pv 5) (pa_cons (pe_ix (ix_tpl K) (pe_ix (ix_lst K) (pv 2) (pv 6) (fun _ _ => rfl)) pe_int (fun _ _ => rfl)) pa_nil)) (pe_mo c_Schema_positions hr (by decide) (pv 5) (pa_cons (pe_ix (ix_tpl K) (pe_ix (ix_lst K) (pv 2) (pv 6) (fun _ _ => rfl)) pe_int (fun _ _ => rfl)) pa_nil)) (by rfl)) (pss_one (ps_ret pe_bl)) pss_nil)))
      (pss_one (ps_ret (pe_cmpR (o_eqD K hr.units) (pe_lst (pa_cons (e_cval K (pe_glob (v := .ref C) rfl TS.g rfl)) (pa_cons (e_cval K (pe_glob (v := .ref C) rfl TS.g rfl)) (pa_cons (e_cval K (pe_glob (v := .ref C) rfl TS.g rfl)) pa_nil)))) (pe_lst (pa_cons pe_int (pa_cons pe_int (pa_cons pe_int pa_nil)))) (nomark _))))))))))), ?_⟩
    refine ⟨_, rfl, a, ns, rfl, hS, by omega, fun st inn H1 s1 S1 => ?_⟩
    refine ⟨_, rfl, _, rfl, H, st, inn, 12, 12, rfl, s1, S1, by decide, by decide, by decide, fun v ws G2 H2 s2 S2 hv W => ?_⟩
    refine ⟨G2, st, inn, v, ws, 6, rfl, s2.gh, S2, hv, W, by decide, by decide, fun v3 tb G3 H3 s3 S3 B3 FF one six => ?_⟩
    refine ⟨_, rfl, _, rfl, G3, st, inn, v3, ws, tb, rfl, s3.gh, S3, B3, FF, W, fun v4 ow G4 H4 s4 S4 O4 OO ol => ?_⟩
    have B4 := B3.mono s4.gg
    refine ⟨⟨_, rfl⟩, _, rfl, _, rfl, _, rfl, _, rfl, _, rfl, G4, st, inn, v3, ws, tb, 3, rfl, s4.gh, S4, B4, FF, W, by decide, by decide, fun v5 fo G5 H5 s5 S5 R5 FO fl => ?_⟩
    have B5 := B4.mono s5.gg
    have O5 := O4.mono s5.gg
    refine ⟨G5, st, inn, v3, v4, v5, ws, tb, ow, fo, rfl, s5.gh, S5, B5, O5, R5, FF, W, OO, FO, by omega, by omega, fun L D wss G6 H6 s6 S6 nL cL BB dA wl => ?_⟩
    obtain ⟨sm, tl, tn, tw, RR⟩ := read_ready FF W OO FO one six ol fl BB wl
    obtain ⟨_, _, ndO, _, _⟩ := BB.reads FF W OO FO six
    refine ⟨_, L, _, rfl, rfl, .inl (SqL.of cL.at_), by omega, ?_⟩
    refine ⟨rfl, _, rfl, txtOf wss, schK tb ow fo tb.length D, rfl, tl, tn, tw, RR, fun x cl pr ow' fo' as H7 t7 nx X7 => ?_⟩
    have B7 : TBs H7 v3 tb := (B5.mono s6.gg).mono (s6.gh.trans t7)
    have O7 : Rws owF H7 v4 ow := (O5.mono s6.gg).mono (s6.gh.trans t7)
    obtain ⟨tA, as0, rfl, htA, el, hat⟩ := B7.at
    obtain ⟨oA, os, rfl, hoA, RO⟩ := O7
    generalize hsc : schK tb ow fo tb.length D = sc at X7
    have etab : sc.tabs = tabsK tb tb.length := by rw [← hsc]; rfl
    have eown : sc.owns = (D.flatMap (ofT ow)).map (ownN tb) := by rw [← hsc]; rfl
    have nom : ∀ m : Str, ¬ m = "following" → ¬ m = "owners" → ¬ m = "parents" → ¬ m = "column_lists" → ¬ m = "text" → (sflds (txtOf wss) cl pr ow' fo').lookup m = none := fun m h1 h2 h3 h4 h5 => sf_no (txtOf wss) cl pr ow' fo' h1 h2 h3 h4 h5
    have posC : ∀ {t : Nat} {y : TB} {cs : List Nat}, tb[t]? = some y → ChI tb t cs → ChainOf sc.tabs y.nm (cs.map (nmI tb)) ∧ ShortC sc.tabs (cs.map (nmI tb)) ∧ posP sc.tabs (cs.map (nmI tb)) (cs.map (nmI tb)).length = plc tb cs := fun {t y cs} hy hc => by
      have ch := chainK FF W.nd hc (k := tb.length) (get_lt hy)
      rw [nmI_of hy] at ch
      rw [etab, List.length_map]
      exact ⟨ch, shortK FF W hc, posP_plc FF W.nd cs fun c hcm => ⟨hc.allLt c hcm, hc.allLt c hcm⟩⟩
    -- the positions
    refine ⟨_, rfl, tA, _, rfl, .inl (SqL.of htA), tb.length, by rw [List.length_map, el], by omega, by omega, for_range (lo := 0) (n := tb.length) (fun i σ H' => ∃ (x6 x7 x8 x9 x10 : Option V), σ = [some (.ref a), some (.ref st), some (.ref tA), some (.ref oA), some (.str (txtOf wss)), some (.ref x), x6, x7, x8, x9, x10] ∧ Same H7 H') ?_ ?_ ?_⟩
    · exact ⟨none, none, none, none, none, rfl, Same.refl H7⟩
    · rintro i σ H8 hi ⟨x6, x7, x8, x9, x10, rfl, t8⟩
      obtain ⟨y, hy⟩ : ∃ y, tb[i]? = some y := ⟨_, List.getElem?_eq_getElem hi⟩
      obtain ⟨ya, yc, gya, hya, _⟩ := hat i y hy
      have i0 : (0 : Int) + (i : Int) = ((i : Nat) : Int) := Int.zero_add _
      obtain ⟨cs, hc, h4⟩ := FF.ch i hi
      have short := plc_short (FF.shrt W) hc
      refine ⟨_, rfl, _, rfl, .ref tA, i, tb, cs, by rw [i0]; rfl, B7.mono t8, hc, h4, by decide, FF.shrt W, fun q H9 t9 nq hq => ?_⟩
      refine ⟨_, rfl, by decide, by decide, for_range (lo := 0) (n := 2) (fun j σ H' => ∃ (x8 x9 : Option V), σ = [some (.ref a), some (.ref st), some (.ref tA), some (.ref oA), some (.str (txtOf wss)), some (.ref x), some (.int (0 + (i : Int))), some (.ref q), x8, x9, x10] ∧ Same H7 H' ∧ H' q = some (.lst ((plc tb cs).map V.str))) ?_ ?_ ?_⟩
      · exact ⟨_, _, rfl, t8.trans t9, hq⟩
      · rintro j σ H10 hj ⟨x8, x9, rfl, t10, hq10⟩
        obtain ⟨dx, hx⟩ := (X7.mono t10).obj
        refine ⟨_, rfl, x, dx, _, rfl, hx, nom _ (by decide +kernel) (by decide +kernel) (by decide +kernel) (by decide +kernel) (by decide +kernel), _, rfl, _, rfl, tA, _, _, .ref ya, rfl, rfl, SqL.of (t10 _ _ htA), at_of i0 gya, ya, _, _, .str y.nm, rfl, rfl, SqT.of (t10 _ _ hya), rfl, ?_⟩
        obtain ⟨p1, p2, p3⟩ := posC hy hc
        refine ⟨x, y.nm, _, cl, pr, ow', fo', as, sc, cs.map (nmI tb), rfl, X7.mono t10, p1, p2, fun p H11 t11 np hp => ?_⟩
        rw [p3] at hp
        refine ⟨_, rfl, _, rfl, p, q, plc tb cs, rfl, hp, t11 _ _ hq10, by omega, _, rfl, ?_⟩
        refine iteF ?_
        have pq : q ≠ p := ne_of_none hq10 np
        refine ⟨_, rfl, Or.inl ⟨rfl, _, SqL.of hp⟩, p, _, _, rfl, rfl, hp, sz_lt (by rw [List.length_map]; omega), ?_⟩
        exact ⟨_, _, rfl, same_loc (t10.trans t11) (t10.free np) _, by rw [upd_ne pq]; exact t11 _ _ hq10⟩
      · rintro σ H10 ⟨x8, x9, rfl, t10, hq10⟩
        exact ⟨_, _, _, _, _, rfl, t10⟩
    · rintro σ H8 ⟨x6, x7, x8, x9, x10, rfl, t8⟩
      -- the owners
      have osl : os.length = ow.length := Paired.length RO
      refine ⟨_, rfl, oA, rfl, ⟨_, SqL.of (t8 _ _ hoA)⟩, ?_⟩
      refine for_list (K := K) (a := oA) (xs := os.map V.ref) (fun i σ H' => ∃ (x6 x7 x8 x9 x10 : Option V), σ = [some (.ref a), some (.ref st), some (.ref tA), some (.ref oA), some (.str (txtOf wss)), some (.ref x), x6, x7, x8, x9, x10] ∧ Same H7 H') ?_ ?_ ?_ ?_
      · exact ⟨_, _, _, _, _, rfl, t8⟩
      · rintro i σ H' _ ⟨_, _, _, _, _, _, s⟩
        exact SqL.of (s _ _ hoA)
      · rintro i v σ H9 hi ⟨x6, x7, x8, x9, x10, rfl, t9⟩
        obtain ⟨ra, e, rfl, he, hra⟩ := rw_get RO hi
        have hem := List.mem_of_getElem? he
        obtain ⟨cs, hc, hz⟩ := OO.ok e hem
        obtain ⟨y, hy⟩ : ∃ y, tb[e.1]? = some y := ⟨_, List.getElem?_eq_getElem hc.lt⟩
        obtain ⟨ya, yc, gya, hya, _⟩ := hat e.1 y hy
        refine ⟨ra, _, rfl, SqT.of (t9 _ _ hra), rfl, _, _, rfl, _, _, rfl, rfl, ?_⟩
        obtain ⟨dx, hx⟩ := (X7.mono t9).obj
        have fnd := own_find FF W OO ndO hem (dA e.1 hc.lt)
        rw [nmI_of hy] at fnd
        refine ⟨_, rfl, x, dx, _, rfl, hx, nom _ (by decide +kernel) (by decide +kernel) (by decide +kernel) (by decide +kernel) (by decide +kernel), _, rfl, _, rfl, tA, _, _, .ref ya, rfl, rfl, SqL.of (t9 _ _ htA), atI_nat gya, ya, _, _, .str y.nm, rfl, rfl, SqT.of (t9 _ _ hya), rfl, ?_⟩
        refine ⟨x, y.nm, _, cl, pr, ow', fo', as, sc, rfl, X7.mono t9, by rw [etab, tabOf_K FF W.nd hy hc.lt]; rfl, ?_⟩
        rw [eown, fnd]
        refine ⟨_, rfl, x, dx, _, rfl, hx, nom _ (by decide +kernel) (by decide +kernel) (by decide +kernel) (by decide +kernel) (by decide +kernel), _, rfl, _, rfl, tA, _, _, .ref ya, rfl, rfl, SqL.of (t9 _ _ htA), atI_nat gya, ya, _, _, .str y.nm, rfl, rfl, SqT.of (t9 _ _ hya), rfl, ?_⟩
        obtain ⟨p1, p2, p3⟩ := posC hy hc
        refine ⟨x, y.nm, _, cl, pr, ow', fo', as, sc, cs.map (nmI tb), rfl, X7.mono t9, p1, p2, fun p H10 t10 np hp => ?_⟩
        rw [p3] at hp
        refine ⟨p, _, rfl, .inl (SqL.of hp), rfl, flat_strs _, _, rfl, ?_⟩
        have en : (if true = true then !inV (optV (Option.map (fun x => x.snd) (some (ownN tb e)))) ((plc tb cs).map V.str) else inV (optV (Option.map (fun x => x.snd) (some (ownN tb e)))) ((plc tb cs).map V.str)) = false := by
          show (if true = true then !inV (.str e.2) ((plc tb cs).map V.str) else inV (.str e.2) ((plc tb cs).map V.str)) = false
          rw [notin_eqS, decide_eq_true hz]
          rfl
        rw [en]
        refine iteF ?_
        exact ⟨_, _, _, _, _, rfl, t9.trans t10⟩
      · rintro σ H9 ⟨x6, x7, x8, x9, x10, rfl, t9⟩
        -- the class values
        obtain ⟨mc, u1, u2, u3, r, c1, c2, c3⟩ := TS.cv
        refine ⟨C, mc, _, _, rfl, r, c1, C, mc, _, _, rfl, r, c2, C, mc, _, _, rfl, r, c3, by show 3 ≤ sizeLine; decide, fun p np => ?_⟩
        refine ⟨by show 3 ≤ sizeLine; decide, fun q nq => ?_⟩
        have pq : p ≠ q := ne_of_none upd_same nq
        refine ⟨dI [6, 4, 4], dI [6, 4, 4], .lst (SqL.of (by rw [upd_ne pq]; exact upd_same)) (dp_ints [6, 4, 4]), .lst (SqL.of upd_same) (dp_ints [6, 4, 4]), sh_ints, sh_ints, ?_⟩
        have e : PyData.eqv (dI [6, 4, 4]) (dI [6, 4, 4]) = true := by decide +kernel
        rw [e]
        exact k _
end
end OA

namespace OA
open PySem PySem.Spec PyProof.Rows L2
theorem all_mk {l : PySem.W.OpenLaw} {w : World} {K : PySem.W.Frag} {h : Heap} {mg : Str → Option Value} {fa : Addr} (X : K.In h) (G : h.Ns mainGlobals mg) (hfa : mg "law" = some (.ref fa))
    {C : Addr}
    {t_Schema_MOST_TABLES : Tok}
    {t_Schema_MOST_COLUMNS : Tok}
    {t_Schema_LONGEST_CHAIN : Tok}
    {f_is_name : Addr} {od_is_name an_is_name : Option Addr} {sl_is_name : Array (Option Value)} {oc_is_name kV_is_name dc_is_name pm_is_name cd_is_name ct_is_name : Value}
    {f_split_words : Addr} {od_split_words an_split_words : Option Addr} {sl_split_words : Array (Option Value)} {oc_split_words kV_split_words dc_split_words pm_split_words cd_split_words ct_split_words : Value}
    {f_all_names : Addr} {od_all_names an_all_names : Option Addr} {sl_all_names : Array (Option Value)} {oc_all_names kV_all_names dc_all_names pm_all_names cd_all_names ct_all_names : Value}
    {f_is_path : Addr} {od_is_path an_is_path : Option Addr} {sl_is_path : Array (Option Value)} {oc_is_path kV_is_path dc_is_path pm_is_path cd_is_path ct_is_path : Value}
    {f_Schema_check_table : Addr} {od_Schema_check_table an_Schema_check_table : Option Addr} {sl_Schema_check_table : Array (Option Value)} {oc_Schema_check_table kV_Schema_check_table dc_Schema_check_table pm_Schema_check_table cd_Schema_check_table ct_Schema_check_table : Value}
    {T_Schema_check_table : Addr} {tc_Schema_check_table : Value} {td_Schema_check_table : Option Addr} {tn_Schema_check_table : Nat} {ts_Schema_check_table : Array (Option Value)}
    {dt_Schema_check_table_0 : Tok}
    {f_Schema_chain_of : Addr} {od_Schema_chain_of an_Schema_chain_of : Option Addr} {sl_Schema_chain_of : Array (Option Value)} {oc_Schema_chain_of kV_Schema_chain_of dc_Schema_chain_of pm_Schema_chain_of cd_Schema_chain_of ct_Schema_chain_of : Value}
    {f_Schema_check_position : Addr} {od_Schema_check_position an_Schema_check_position : Option Addr} {sl_Schema_check_position : Array (Option Value)} {oc_Schema_check_position kV_Schema_check_position dc_Schema_check_position pm_Schema_check_position cd_Schema_check_position ct_Schema_check_position : Value}
    {f_Schema___init__ : Addr} {od_Schema___init__ an_Schema___init__ : Option Addr} {sl_Schema___init__ : Array (Option Value)} {oc_Schema___init__ kV_Schema___init__ dc_Schema___init__ pm_Schema___init__ cd_Schema___init__ ct_Schema___init__ : Value}
    {f_read_table : Addr} {od_read_table an_read_table : Option Addr} {sl_read_table : Array (Option Value)} {oc_read_table kV_read_table dc_read_table pm_read_table cd_read_table ct_read_table : Value}
    {f_read_owner : Addr} {od_read_owner an_read_owner : Option Addr} {sl_read_owner : Array (Option Value)} {oc_read_owner kV_read_owner dc_read_owner pm_read_owner cd_read_owner ct_read_owner : Value}
    {f_read_follow : Addr} {od_read_follow an_read_follow : Option Addr} {sl_read_follow : Array (Option Value)} {oc_read_follow kV_read_follow dc_read_follow pm_read_follow cd_read_follow ct_read_follow : Value}
    {f_read_line : Addr} {od_read_line an_read_line : Option Addr} {sl_read_line : Array (Option Value)} {oc_read_line kV_read_line dc_read_line pm_read_line cd_read_line ct_read_line : Value}
    {f_Schema_read : Addr} {od_Schema_read an_Schema_read : Option Addr} {sl_Schema_read : Array (Option Value)} {oc_Schema_read kV_Schema_read dc_Schema_read pm_Schema_read cd_Schema_read ct_Schema_read : Value}
    {p_Schema_read : Addr} {rest_Schema_read : List Value}
    {f_Schema_owner_of : Addr} {od_Schema_owner_of an_Schema_owner_of : Option Addr} {sl_Schema_owner_of : Array (Option Value)} {oc_Schema_owner_of kV_Schema_owner_of dc_Schema_owner_of pm_Schema_owner_of cd_Schema_owner_of ct_Schema_owner_of : Value}
    {f_Schema_prefix : Addr} {od_Schema_prefix an_Schema_prefix : Option Addr} {sl_Schema_prefix : Array (Option Value)} {oc_Schema_prefix kV_Schema_prefix dc_Schema_prefix pm_Schema_prefix cd_Schema_prefix ct_Schema_prefix : Value}
    {f_Schema_positions : Addr} {od_Schema_positions an_Schema_positions : Option Addr} {sl_Schema_positions : Array (Option Value)} {oc_Schema_positions kV_Schema_positions dc_Schema_positions pm_Schema_positions cd_Schema_positions ct_Schema_positions : Value}
    {f_draw : Addr} {od_draw an_draw : Option Addr} {sl_draw : Array (Option Value)} {oc_draw kV_draw dc_draw pm_draw cd_draw ct_draw : Value}
    {f_get_state : Addr} {od_get_state an_get_state : Option Addr} {sl_get_state : Array (Option Value)} {oc_get_state kV_get_state dc_get_state pm_get_state cd_get_state ct_get_state : Value}
    {f_get_words : Addr} {od_get_words an_get_words : Option Addr} {sl_get_words : Array (Option Value)} {oc_get_words kV_get_words dc_get_words pm_get_words cd_get_words ct_get_words : Value}
    {f_get_chain : Addr} {od_get_chain an_get_chain : Option Addr} {sl_get_chain : Array (Option Value)} {oc_get_chain kV_get_chain dc_get_chain pm_get_chain cd_get_chain ct_get_chain : Value}
    {f_get_places : Addr} {od_get_places an_get_places : Option Addr} {sl_get_places : Array (Option Value)} {oc_get_places kV_get_places dc_get_places pm_get_places cd_get_places ct_get_places : Value}
    {f_table_line : Addr} {od_table_line an_table_line : Option Addr} {sl_table_line : Array (Option Value)} {oc_table_line kV_table_line dc_table_line pm_table_line cd_table_line ct_table_line : Value}
    {f_forest : Addr} {od_forest an_forest : Option Addr} {sl_forest : Array (Option Value)} {oc_forest kV_forest dc_forest pm_forest cd_forest ct_forest : Value}
    {f_get_owners : Addr} {od_get_owners an_get_owners : Option Addr} {sl_get_owners : Array (Option Value)} {oc_get_owners kV_get_owners dc_get_owners pm_get_owners cd_get_owners ct_get_owners : Value}
    {f_all_follows : Addr} {od_all_follows an_all_follows : Option Addr} {sl_all_follows : Array (Option Value)} {oc_all_follows kV_all_follows dc_all_follows pm_all_follows cd_all_follows ct_all_follows : Value}
    {f_extra_lines : Addr} {od_extra_lines an_extra_lines : Option Addr} {sl_extra_lines : Array (Option Value)} {oc_extra_lines kV_extra_lines dc_extra_lines pm_extra_lines cd_extra_lines ct_extra_lines : Value}
    {f_schema_lines : Addr} {od_schema_lines an_schema_lines : Option Addr} {sl_schema_lines : Array (Option Value)} {oc_schema_lines kV_schema_lines dc_schema_lines pm_schema_lines cd_schema_lines ct_schema_lines : Value}
    {f_are_words : Addr} {od_are_words an_are_words : Option Addr} {sl_are_words : Array (Option Value)} {oc_are_words kV_are_words dc_are_words pm_are_words cd_are_words ct_are_words : Value}
    {f_law : Addr} {od_law an_law : Option Addr} {sl_law : Array (Option Value)} {oc_law kV_law dc_law pm_law cd_law ct_law : Value}
    {t_LETTERS : Tok}
    {t_SIGNS : Tok}
    {t_LONGEST_NAME : Tok}
    (aC_Schema : PySem.W.nsIn K mainGlobals "Schema" = some (some (.ref C)))
    (pg_Schema : PySem.W.plainGet K C Str.empty = true)
    (hd_Schema : PySem.W.hasDictIn K C = true)
    (po_Schema : PySem.W.plainOver K C = true)
    (sa_Schema : PySem.W.findIn K (.ref C) "__setattr__" = some (some (.builtin "object.__setattr__")))
    (mk_Schema : PySem.W.makesIn K C = true)
    (kc_Schema : PySem.W.keepIn K (.ref C) = true)
    (rd_Schema : PySem.W.readsIn K C (.type "type") = true)
    (sg_Schema : PySem.W.specialIn K (.ref C) "__getattribute__" = some (some (.builtin "type.__getattribute__")))
    (n_text_Schema : PySem.W.findIn K (.ref C) "text" = some none)
    (n_column_lists_Schema : PySem.W.findIn K (.ref C) "column_lists" = some none)
    (n_parents_Schema : PySem.W.findIn K (.ref C) "parents" = some none)
    (n_owners_Schema : PySem.W.findIn K (.ref C) "owners" = some none)
    (n_following_Schema : PySem.W.findIn K (.ref C) "following" = some none)
    (cv_Schema_MOST_TABLES : PySem.W.findCls K (.ref C) (.type "type") "MOST_TABLES" = some (.val (.int 6 t_Schema_MOST_TABLES)))
    (cv_Schema_MOST_COLUMNS : PySem.W.findCls K (.ref C) (.type "type") "MOST_COLUMNS" = some (.val (.int 4 t_Schema_MOST_COLUMNS)))
    (cv_Schema_LONGEST_CHAIN : PySem.W.findCls K (.ref C) (.type "type") "LONGEST_CHAIN" = some (.val (.int 4 t_Schema_LONGEST_CHAIN)))
    (a_is_name : PySem.W.nsIn K mainGlobals "is_name" = some (some (.ref f_is_name)))
    (l_is_name : K.lookup f_is_name = some ⟨oc_is_name, od_is_name, .func (PySem.W.fnOf "is_name" "is_name" (defArgs (topS 11)) (defBody (topS 11)) (defScope (topS 11)) .none kV_is_name dc_is_name pm_is_name an_is_name cd_is_name ct_is_name), sl_is_name⟩)
    (o_is_name : PySem.W.codeIn K cd_is_name "is_name" = true) (k_is_name : PySem.W.keepIn K (.ref f_is_name) = true)
    (a_split_words : PySem.W.nsIn K mainGlobals "split_words" = some (some (.ref f_split_words)))
    (l_split_words : K.lookup f_split_words = some ⟨oc_split_words, od_split_words, .func (PySem.W.fnOf "split_words" "split_words" (defArgs (topS 12)) (defBody (topS 12)) (defScope (topS 12)) .none kV_split_words dc_split_words pm_split_words an_split_words cd_split_words ct_split_words), sl_split_words⟩)
    (o_split_words : PySem.W.codeIn K cd_split_words "split_words" = true) (k_split_words : PySem.W.keepIn K (.ref f_split_words) = true)
    (a_all_names : PySem.W.nsIn K mainGlobals "all_names" = some (some (.ref f_all_names)))
    (l_all_names : K.lookup f_all_names = some ⟨oc_all_names, od_all_names, .func (PySem.W.fnOf "all_names" "all_names" (defArgs (topS 13)) (defBody (topS 13)) (defScope (topS 13)) .none kV_all_names dc_all_names pm_all_names an_all_names cd_all_names ct_all_names), sl_all_names⟩)
    (o_all_names : PySem.W.codeIn K cd_all_names "all_names" = true) (k_all_names : PySem.W.keepIn K (.ref f_all_names) = true)
    (a_is_path : PySem.W.nsIn K mainGlobals "is_path" = some (some (.ref f_is_path)))
    (l_is_path : K.lookup f_is_path = some ⟨oc_is_path, od_is_path, .func (PySem.W.fnOf "is_path" "is_path" (defArgs (topS 14)) (defBody (topS 14)) (defScope (topS 14)) .none kV_is_path dc_is_path pm_is_path an_is_path cd_is_path ct_is_path), sl_is_path⟩)
    (o_is_path : PySem.W.codeIn K cd_is_path "is_path" = true) (k_is_path : PySem.W.keepIn K (.ref f_is_path) = true)
    (a_Schema_check_table : PySem.W.findIn K (.ref C) "check_table" = some (some (.ref f_Schema_check_table))) (i_Schema_check_table : PySem.W.isFn K (.ref f_Schema_check_table) = true)
    (l_Schema_check_table : K.lookup f_Schema_check_table = some ⟨oc_Schema_check_table, od_Schema_check_table, .func (PySem.W.fnOf "check_table" "Schema.check_table" (defArgs (inClass (topS 16) 7)) (defBody (inClass (topS 16) 7)) (defScope (inClass (topS 16) 7)) (.ref T_Schema_check_table) kV_Schema_check_table dc_Schema_check_table pm_Schema_check_table an_Schema_check_table cd_Schema_check_table ct_Schema_check_table), sl_Schema_check_table⟩)
    (lt_Schema_check_table : K.lookup T_Schema_check_table = some ⟨tc_Schema_check_table, td_Schema_check_table, .seq #[.int 0 dt_Schema_check_table_0] tn_Schema_check_table, ts_Schema_check_table⟩)
    (o_Schema_check_table : PySem.W.codeIn K cd_Schema_check_table "Schema.check_table" = true) (k_Schema_check_table : PySem.W.keepIn K (.ref f_Schema_check_table) = true)
    (a_Schema_chain_of : PySem.W.findIn K (.ref C) "chain_of" = some (some (.ref f_Schema_chain_of))) (i_Schema_chain_of : PySem.W.isFn K (.ref f_Schema_chain_of) = true)
    (l_Schema_chain_of : K.lookup f_Schema_chain_of = some ⟨oc_Schema_chain_of, od_Schema_chain_of, .func (PySem.W.fnOf "chain_of" "Schema.chain_of" (defArgs (inClass (topS 16) 10)) (defBody (inClass (topS 16) 10)) (defScope (inClass (topS 16) 10)) .none kV_Schema_chain_of dc_Schema_chain_of pm_Schema_chain_of an_Schema_chain_of cd_Schema_chain_of ct_Schema_chain_of), sl_Schema_chain_of⟩)
    (o_Schema_chain_of : PySem.W.codeIn K cd_Schema_chain_of "Schema.chain_of" = true) (k_Schema_chain_of : PySem.W.keepIn K (.ref f_Schema_chain_of) = true)
    (a_Schema_check_position : PySem.W.findIn K (.ref C) "check_position" = some (some (.ref f_Schema_check_position))) (i_Schema_check_position : PySem.W.isFn K (.ref f_Schema_check_position) = true)
    (l_Schema_check_position : K.lookup f_Schema_check_position = some ⟨oc_Schema_check_position, od_Schema_check_position, .func (PySem.W.fnOf "check_position" "Schema.check_position" (defArgs (inClass (topS 16) 15)) (defBody (inClass (topS 16) 15)) (defScope (inClass (topS 16) 15)) .none kV_Schema_check_position dc_Schema_check_position pm_Schema_check_position an_Schema_check_position cd_Schema_check_position ct_Schema_check_position), sl_Schema_check_position⟩)
    (o_Schema_check_position : PySem.W.codeIn K cd_Schema_check_position "Schema.check_position" = true) (k_Schema_check_position : PySem.W.keepIn K (.ref f_Schema_check_position) = true)
    (a_Schema___init__ : PySem.W.findIn K (.ref C) "__init__" = some (some (.ref f_Schema___init__))) (i_Schema___init__ : PySem.W.isFn K (.ref f_Schema___init__) = true)
    (l_Schema___init__ : K.lookup f_Schema___init__ = some ⟨oc_Schema___init__, od_Schema___init__, .func (PySem.W.fnOf "__init__" "Schema.__init__" (defArgs (inClass (topS 16) 3)) (defBody (inClass (topS 16) 3)) (defScope (inClass (topS 16) 3)) .none kV_Schema___init__ dc_Schema___init__ pm_Schema___init__ an_Schema___init__ cd_Schema___init__ ct_Schema___init__), sl_Schema___init__⟩)
    (o_Schema___init__ : PySem.W.codeIn K cd_Schema___init__ "Schema.__init__" = true) (k_Schema___init__ : PySem.W.keepIn K (.ref f_Schema___init__) = true)
    (a_read_table : PySem.W.nsIn K mainGlobals "read_table" = some (some (.ref f_read_table)))
    (l_read_table : K.lookup f_read_table = some ⟨oc_read_table, od_read_table, .func (PySem.W.fnOf "read_table" "read_table" (defArgs (topS 18)) (defBody (topS 18)) (defScope (topS 18)) .none kV_read_table dc_read_table pm_read_table an_read_table cd_read_table ct_read_table), sl_read_table⟩)
    (o_read_table : PySem.W.codeIn K cd_read_table "read_table" = true) (k_read_table : PySem.W.keepIn K (.ref f_read_table) = true)
    (a_read_owner : PySem.W.nsIn K mainGlobals "read_owner" = some (some (.ref f_read_owner)))
    (l_read_owner : K.lookup f_read_owner = some ⟨oc_read_owner, od_read_owner, .func (PySem.W.fnOf "read_owner" "read_owner" (defArgs (topS 19)) (defBody (topS 19)) (defScope (topS 19)) .none kV_read_owner dc_read_owner pm_read_owner an_read_owner cd_read_owner ct_read_owner), sl_read_owner⟩)
    (o_read_owner : PySem.W.codeIn K cd_read_owner "read_owner" = true) (k_read_owner : PySem.W.keepIn K (.ref f_read_owner) = true)
    (a_read_follow : PySem.W.nsIn K mainGlobals "read_follow" = some (some (.ref f_read_follow)))
    (l_read_follow : K.lookup f_read_follow = some ⟨oc_read_follow, od_read_follow, .func (PySem.W.fnOf "read_follow" "read_follow" (defArgs (topS 20)) (defBody (topS 20)) (defScope (topS 20)) .none kV_read_follow dc_read_follow pm_read_follow an_read_follow cd_read_follow ct_read_follow), sl_read_follow⟩)
    (o_read_follow : PySem.W.codeIn K cd_read_follow "read_follow" = true) (k_read_follow : PySem.W.keepIn K (.ref f_read_follow) = true)
    (a_read_line : PySem.W.nsIn K mainGlobals "read_line" = some (some (.ref f_read_line)))
    (l_read_line : K.lookup f_read_line = some ⟨oc_read_line, od_read_line, .func (PySem.W.fnOf "read_line" "read_line" (defArgs (topS 17)) (defBody (topS 17)) (defScope (topS 17)) .none kV_read_line dc_read_line pm_read_line an_read_line cd_read_line ct_read_line), sl_read_line⟩)
    (o_read_line : PySem.W.codeIn K cd_read_line "read_line" = true) (k_read_line : PySem.W.keepIn K (.ref f_read_line) = true)
    (s_Schema_read : PySem.W.findCls K (.ref C) (.type "type") "read" = some (.get (.builtin "staticmethod.__get__") (.ref p_Schema_read) .none (.ref C))) (r_Schema_read : PySem.W.recIn K p_Schema_read "staticmethod" = some (.ref f_Schema_read :: rest_Schema_read))
    (l_Schema_read : K.lookup f_Schema_read = some ⟨oc_Schema_read, od_Schema_read, .func (PySem.W.fnOf "read" "Schema.read" (defArgs (inClass (topS 16) 4)) (defBody (inClass (topS 16) 4)) (defScope (inClass (topS 16) 4)) .none kV_Schema_read dc_Schema_read pm_Schema_read an_Schema_read cd_Schema_read ct_Schema_read), sl_Schema_read⟩)
    (o_Schema_read : PySem.W.codeIn K cd_Schema_read "Schema.read" = true) (k_Schema_read : PySem.W.keepIn K (.ref f_Schema_read) = true)
    (a_Schema_owner_of : PySem.W.findIn K (.ref C) "owner_of" = some (some (.ref f_Schema_owner_of))) (i_Schema_owner_of : PySem.W.isFn K (.ref f_Schema_owner_of) = true)
    (l_Schema_owner_of : K.lookup f_Schema_owner_of = some ⟨oc_Schema_owner_of, od_Schema_owner_of, .func (PySem.W.fnOf "owner_of" "Schema.owner_of" (defArgs (inClass (topS 16) 13)) (defBody (inClass (topS 16) 13)) (defScope (inClass (topS 16) 13)) .none kV_Schema_owner_of dc_Schema_owner_of pm_Schema_owner_of an_Schema_owner_of cd_Schema_owner_of ct_Schema_owner_of), sl_Schema_owner_of⟩)
    (o_Schema_owner_of : PySem.W.codeIn K cd_Schema_owner_of "Schema.owner_of" = true) (k_Schema_owner_of : PySem.W.keepIn K (.ref f_Schema_owner_of) = true)
    (a_Schema_prefix : PySem.W.findIn K (.ref C) "prefix" = some (some (.ref f_Schema_prefix))) (i_Schema_prefix : PySem.W.isFn K (.ref f_Schema_prefix) = true)
    (l_Schema_prefix : K.lookup f_Schema_prefix = some ⟨oc_Schema_prefix, od_Schema_prefix, .func (PySem.W.fnOf "prefix" "Schema.prefix" (defArgs (inClass (topS 16) 11)) (defBody (inClass (topS 16) 11)) (defScope (inClass (topS 16) 11)) .none kV_Schema_prefix dc_Schema_prefix pm_Schema_prefix an_Schema_prefix cd_Schema_prefix ct_Schema_prefix), sl_Schema_prefix⟩)
    (o_Schema_prefix : PySem.W.codeIn K cd_Schema_prefix "Schema.prefix" = true) (k_Schema_prefix : PySem.W.keepIn K (.ref f_Schema_prefix) = true)
    (a_Schema_positions : PySem.W.findIn K (.ref C) "positions" = some (some (.ref f_Schema_positions))) (i_Schema_positions : PySem.W.isFn K (.ref f_Schema_positions) = true)
    (l_Schema_positions : K.lookup f_Schema_positions = some ⟨oc_Schema_positions, od_Schema_positions, .func (PySem.W.fnOf "positions" "Schema.positions" (defArgs (inClass (topS 16) 12)) (defBody (inClass (topS 16) 12)) (defScope (inClass (topS 16) 12)) .none kV_Schema_positions dc_Schema_positions pm_Schema_positions an_Schema_positions cd_Schema_positions ct_Schema_positions), sl_Schema_positions⟩)
    (o_Schema_positions : PySem.W.codeIn K cd_Schema_positions "Schema.positions" = true) (k_Schema_positions : PySem.W.keepIn K (.ref f_Schema_positions) = true)
    (a_draw : PySem.W.nsIn K mainGlobals "_law_draw" = some (some (.ref f_draw)))
    (l_draw : K.lookup f_draw = some ⟨oc_draw, od_draw, .func (PySem.W.fnOf "_law_draw" "_law_draw" (defArgs (topS 28)) (defBody (topS 28)) (defScope (topS 28)) .none kV_draw dc_draw pm_draw an_draw cd_draw ct_draw), sl_draw⟩)
    (o_draw : PySem.W.codeIn K cd_draw "_law_draw" = true) (k_draw : PySem.W.keepIn K (.ref f_draw) = true)
    (a_get_state : PySem.W.nsIn K mainGlobals "_law_get_state" = some (some (.ref f_get_state)))
    (l_get_state : K.lookup f_get_state = some ⟨oc_get_state, od_get_state, .func (PySem.W.fnOf "_law_get_state" "_law_get_state" (defArgs (topS 27)) (defBody (topS 27)) (defScope (topS 27)) .none kV_get_state dc_get_state pm_get_state an_get_state cd_get_state ct_get_state), sl_get_state⟩)
    (o_get_state : PySem.W.codeIn K cd_get_state "_law_get_state" = true) (k_get_state : PySem.W.keepIn K (.ref f_get_state) = true)
    (a_get_words : PySem.W.nsIn K mainGlobals "_law_get_words" = some (some (.ref f_get_words)))
    (l_get_words : K.lookup f_get_words = some ⟨oc_get_words, od_get_words, .func (PySem.W.fnOf "_law_get_words" "_law_get_words" (defArgs (topS 29)) (defBody (topS 29)) (defScope (topS 29)) .none kV_get_words dc_get_words pm_get_words an_get_words cd_get_words ct_get_words), sl_get_words⟩)
    (o_get_words : PySem.W.codeIn K cd_get_words "_law_get_words" = true) (k_get_words : PySem.W.keepIn K (.ref f_get_words) = true)
    (a_get_chain : PySem.W.nsIn K mainGlobals "_law_get_chain" = some (some (.ref f_get_chain)))
    (l_get_chain : K.lookup f_get_chain = some ⟨oc_get_chain, od_get_chain, .func (PySem.W.fnOf "_law_get_chain" "_law_get_chain" (defArgs (topS 30)) (defBody (topS 30)) (defScope (topS 30)) .none kV_get_chain dc_get_chain pm_get_chain an_get_chain cd_get_chain ct_get_chain), sl_get_chain⟩)
    (o_get_chain : PySem.W.codeIn K cd_get_chain "_law_get_chain" = true) (k_get_chain : PySem.W.keepIn K (.ref f_get_chain) = true)
    (a_get_places : PySem.W.nsIn K mainGlobals "_law_get_places" = some (some (.ref f_get_places)))
    (l_get_places : K.lookup f_get_places = some ⟨oc_get_places, od_get_places, .func (PySem.W.fnOf "_law_get_places" "_law_get_places" (defArgs (topS 31)) (defBody (topS 31)) (defScope (topS 31)) .none kV_get_places dc_get_places pm_get_places an_get_places cd_get_places ct_get_places), sl_get_places⟩)
    (o_get_places : PySem.W.codeIn K cd_get_places "_law_get_places" = true) (k_get_places : PySem.W.keepIn K (.ref f_get_places) = true)
    (a_table_line : PySem.W.nsIn K mainGlobals "_law_table_line" = some (some (.ref f_table_line)))
    (l_table_line : K.lookup f_table_line = some ⟨oc_table_line, od_table_line, .func (PySem.W.fnOf "_law_table_line" "_law_table_line" (defArgs (topS 32)) (defBody (topS 32)) (defScope (topS 32)) .none kV_table_line dc_table_line pm_table_line an_table_line cd_table_line ct_table_line), sl_table_line⟩)
    (o_table_line : PySem.W.codeIn K cd_table_line "_law_table_line" = true) (k_table_line : PySem.W.keepIn K (.ref f_table_line) = true)
    (a_forest : PySem.W.nsIn K mainGlobals "_law_forest" = some (some (.ref f_forest)))
    (l_forest : K.lookup f_forest = some ⟨oc_forest, od_forest, .func (PySem.W.fnOf "_law_forest" "_law_forest" (defArgs (topS 22)) (defBody (topS 22)) (defScope (topS 22)) .none kV_forest dc_forest pm_forest an_forest cd_forest ct_forest), sl_forest⟩)
    (o_forest : PySem.W.codeIn K cd_forest "_law_forest" = true) (k_forest : PySem.W.keepIn K (.ref f_forest) = true)
    (a_get_owners : PySem.W.nsIn K mainGlobals "_law_get_owners" = some (some (.ref f_get_owners)))
    (l_get_owners : K.lookup f_get_owners = some ⟨oc_get_owners, od_get_owners, .func (PySem.W.fnOf "_law_get_owners" "_law_get_owners" (defArgs (topS 33)) (defBody (topS 33)) (defScope (topS 33)) .none kV_get_owners dc_get_owners pm_get_owners an_get_owners cd_get_owners ct_get_owners), sl_get_owners⟩)
    (o_get_owners : PySem.W.codeIn K cd_get_owners "_law_get_owners" = true) (k_get_owners : PySem.W.keepIn K (.ref f_get_owners) = true)
    (a_all_follows : PySem.W.nsIn K mainGlobals "_law_all_follows" = some (some (.ref f_all_follows)))
    (l_all_follows : K.lookup f_all_follows = some ⟨oc_all_follows, od_all_follows, .func (PySem.W.fnOf "_law_all_follows" "_law_all_follows" (defArgs (topS 25)) (defBody (topS 25)) (defScope (topS 25)) .none kV_all_follows dc_all_follows pm_all_follows an_all_follows cd_all_follows ct_all_follows), sl_all_follows⟩)
    (o_all_follows : PySem.W.codeIn K cd_all_follows "_law_all_follows" = true) (k_all_follows : PySem.W.keepIn K (.ref f_all_follows) = true)
    (a_extra_lines : PySem.W.nsIn K mainGlobals "_law_extra_lines" = some (some (.ref f_extra_lines)))
    (l_extra_lines : K.lookup f_extra_lines = some ⟨oc_extra_lines, od_extra_lines, .func (PySem.W.fnOf "_law_extra_lines" "_law_extra_lines" (defArgs (topS 24)) (defBody (topS 24)) (defScope (topS 24)) .none kV_extra_lines dc_extra_lines pm_extra_lines an_extra_lines cd_extra_lines ct_extra_lines), sl_extra_lines⟩)
    (o_extra_lines : PySem.W.codeIn K cd_extra_lines "_law_extra_lines" = true) (k_extra_lines : PySem.W.keepIn K (.ref f_extra_lines) = true)
    (a_schema_lines : PySem.W.nsIn K mainGlobals "_law_schema_lines" = some (some (.ref f_schema_lines)))
    (l_schema_lines : K.lookup f_schema_lines = some ⟨oc_schema_lines, od_schema_lines, .func (PySem.W.fnOf "_law_schema_lines" "_law_schema_lines" (defArgs (topS 23)) (defBody (topS 23)) (defScope (topS 23)) .none kV_schema_lines dc_schema_lines pm_schema_lines an_schema_lines cd_schema_lines ct_schema_lines), sl_schema_lines⟩)
    (o_schema_lines : PySem.W.codeIn K cd_schema_lines "_law_schema_lines" = true) (k_schema_lines : PySem.W.keepIn K (.ref f_schema_lines) = true)
    (a_are_words : PySem.W.nsIn K mainGlobals "_law_are_words" = some (some (.ref f_are_words)))
    (l_are_words : K.lookup f_are_words = some ⟨oc_are_words, od_are_words, .func (PySem.W.fnOf "_law_are_words" "_law_are_words" (defArgs (topS 26)) (defBody (topS 26)) (defScope (topS 26)) .none kV_are_words dc_are_words pm_are_words an_are_words cd_are_words ct_are_words), sl_are_words⟩)
    (o_are_words : PySem.W.codeIn K cd_are_words "_law_are_words" = true) (k_are_words : PySem.W.keepIn K (.ref f_are_words) = true)
    (a_law : PySem.W.nsIn K mainGlobals "law" = some (some (.ref f_law)))
    (l_law : K.lookup f_law = some ⟨oc_law, od_law, .func (PySem.W.fnOf "law" "law" (defArgs (topS 34)) (defBody (topS 34)) (defScope (topS 34)) .none kV_law dc_law pm_law an_law cd_law ct_law), sl_law⟩)
    (o_law : PySem.W.codeIn K cd_law "law" = true) (k_law : PySem.W.keepIn K (.ref f_law) = true)
    (z_len : PySem.W.nsIn K mainGlobals "len" = some none)
    (z_abs : PySem.W.nsIn K mainGlobals "abs" = some none)
    (z_int : PySem.W.nsIn K mainGlobals "int" = some none)
    (z_str : PySem.W.nsIn K mainGlobals "str" = some none)
    (z_list : PySem.W.nsIn K mainGlobals "list" = some none)
    (z_tuple : PySem.W.nsIn K mainGlobals "tuple" = some none)
    (z_range : PySem.W.nsIn K mainGlobals "range" = some none)
    (z_isinstance : PySem.W.nsIn K mainGlobals "isinstance" = some none)
    (z_any : PySem.W.nsIn K mainGlobals "any" = some none)
    (z_all : PySem.W.nsIn K mainGlobals "all" = some none)
    (z_sorted : PySem.W.nsIn K mainGlobals "sorted" = some none)
    (z_bool : PySem.W.nsIn K mainGlobals "bool" = some none)
    (z_enumerate : PySem.W.nsIn K mainGlobals "enumerate" = some none)
    (v_LETTERS : PySem.W.nsIn K mainGlobals "LETTERS" = some (some (.str "abcdefghijklmnopqrstuvwxyz" t_LETTERS)))
    (v_SIGNS : PySem.W.nsIn K mainGlobals "SIGNS" = some (some (.str "abcdefghijklmnopqrstuvwxyz0123456789" t_SIGNS)))
    (v_LONGEST_NAME : PySem.W.nsIn K mainGlobals "LONGEST_NAME" = some (some (.int 12 t_LONGEST_NAME))) :
    ∃ fd : FuncData, (∀ (s : Shared) (v : Value), BindsTo s fd ⟨[v], []⟩ [("_law_script", v)]) ∧ ∀ base : Heap, K.In base → base.Ns mainGlobals mg → FnOk l.prog w K mg base CX0 6 fa fd ["_law_script"] (spLaw K) := by
  have e := hfa.symm.trans (PySem.W.mg_of X G a_law)
  cases e
  have T : Txt K mg := ⟨PySem.W.mg_none_of X G z_len, PySem.W.mg_none_of X G z_abs, PySem.W.mg_none_of X G z_int, PySem.W.mg_none_of X G z_str, PySem.W.mg_none_of X G z_list, PySem.W.mg_none_of X G z_tuple, PySem.W.mg_none_of X G z_range, PySem.W.mg_none_of X G z_isinstance, PySem.W.mg_none_of X G z_any, PySem.W.mg_none_of X G z_all, PySem.W.mg_none_of X G z_sorted, PySem.W.mg_none_of X G z_bool, PySem.W.mg_none_of X G z_enumerate, ⟨_, PySem.W.mg_of X G v_LETTERS⟩, ⟨_, PySem.W.mg_of X G v_SIGNS⟩, ⟨_, PySem.W.mg_of X G v_LONGEST_NAME⟩⟩
  have cl_Schema : Cls K C := ⟨pg_Schema, hd_Schema, po_Schema, sa_Schema⟩
  have cr_Schema : ClX.CRead K C (.type "type") := ⟨rd_Schema, sg_Schema⟩
  have TS : STxt K mg C := ⟨cl_Schema, n_text_Schema, n_column_lists_Schema, n_parents_Schema, n_owners_Schema, n_following_Schema, PySem.W.mg_of X G aC_Schema, _, _, _, _, cr_Schema, ⟨cv_Schema_MOST_TABLES, ⟨_, rfl⟩⟩, ⟨cv_Schema_MOST_COLUMNS, ⟨_, rfl⟩⟩, ⟨cv_Schema_LONGEST_CHAIN, ⟨_, rfl⟩⟩⟩
  have F_is_name := fun_mk (st := (topS 11)) l_is_name o_is_name k_is_name
  have b_is_name := F_is_name.binds (ps := ["word"]) fun _ _ _ _ _ _ us hl => match us, hl with | [_], _ => rfl
  have F_split_words := fun_mk (st := (topS 12)) l_split_words o_split_words k_split_words
  have b_split_words := F_split_words.binds (ps := ["line"]) fun _ _ _ _ _ _ us hl => match us, hl with | [_], _ => rfl
  have F_all_names := fun_mk (st := (topS 13)) l_all_names o_all_names k_all_names
  have b_all_names := F_all_names.binds (ps := ["words"]) fun _ _ _ _ _ _ us hl => match us, hl with | [_], _ => rfl
  have F_is_path := fun_mk (st := (topS 14)) l_is_path o_is_path k_is_path
  have b_is_path := F_is_path.binds (ps := ["word", "least"]) fun _ _ _ _ _ _ us hl => match us, hl with | [_, _], _ => rfl
  have F_Schema_check_table : FunD K "check_table" "Schema.check_table" (defArgs (inClass (topS 16) 7)) (defBody (inClass (topS 16) 7)) (defScope (inClass (topS 16) 7)) [.int 0] [] f_Schema_check_table _ := ⟨⟨_, _, _, _, _, _, _, _, _, _, rfl, l_Schema_check_table, o_Schema_check_table, .inr ⟨by simp, T_Schema_check_table, _, [.int 0 dt_Schema_check_table_0], _, rfl, lt_Schema_check_table, rfl, .cons ⟨_, rfl⟩ (.nil)⟩, .inl rfl⟩, k_Schema_check_table⟩
  have b_Schema_check_table := F_Schema_check_table.binds1 (ps := ["self", "table", "line"]) 3 1 (by simp) rfl fun _ _ _ _ _ _ _ us its hu hi => (match us, its, hu, hi with | [_, _, _], [_], _, _ => ⟨_, rfl, rfl⟩)
  have b_Schema_check_table_d := F_Schema_check_table.binds1 (ps := ["self", "table", "line"]) 2 0 (by simp) rfl fun _ _ _ _ _ _ _ us its hu hi => (match us, its, hu, hi with | [_, _], [_], _, _ => ⟨_, rfl, rfl⟩)
  have F_Schema_chain_of := fun_mk (st := (inClass (topS 16) 10)) l_Schema_chain_of o_Schema_chain_of k_Schema_chain_of
  have b_Schema_chain_of := F_Schema_chain_of.binds (ps := ["self", "table"]) fun _ _ _ _ _ _ us hl => match us, hl with | [_, _], _ => rfl
  have F_Schema_check_position := fun_mk (st := (inClass (topS 16) 15)) l_Schema_check_position o_Schema_check_position k_Schema_check_position
  have b_Schema_check_position := F_Schema_check_position.binds (ps := ["self", "line", "table", "names"]) fun _ _ _ _ _ _ us hl => match us, hl with | [_, _, _, _], _ => rfl
  have F_Schema___init__ := fun_mk (st := (inClass (topS 16) 3)) l_Schema___init__ o_Schema___init__ k_Schema___init__
  have b_Schema___init__ := F_Schema___init__.binds (ps := ["self", "text"]) fun _ _ _ _ _ _ us hl => match us, hl with | [_, _], _ => rfl
  have F_read_table := fun_mk (st := (topS 18)) l_read_table o_read_table k_read_table
  have b_read_table := F_read_table.binds (ps := ["schema", "line", "table", "parent", "columns"]) fun _ _ _ _ _ _ us hl => match us, hl with | [_, _, _, _, _], _ => rfl
  have F_read_owner := fun_mk (st := (topS 19)) l_read_owner o_read_owner k_read_owner
  have b_read_owner := F_read_owner.binds (ps := ["schema", "line", "table", "position"]) fun _ _ _ _ _ _ us hl => match us, hl with | [_, _, _, _], _ => rfl
  have F_read_follow := fun_mk (st := (topS 20)) l_read_follow o_read_follow k_read_follow
  have b_read_follow := F_read_follow.binds (ps := ["schema", "line", "table", "column", "upper"]) fun _ _ _ _ _ _ us hl => match us, hl with | [_, _, _, _, _], _ => rfl
  have F_read_line := fun_mk (st := (topS 17)) l_read_line o_read_line k_read_line
  have b_read_line := F_read_line.binds (ps := ["schema", "line", "words"]) fun _ _ _ _ _ _ us hl => match us, hl with | [_, _, _], _ => rfl
  have F_Schema_read := fun_mk (st := (inClass (topS 16) 4)) l_Schema_read o_Schema_read k_Schema_read
  have b_Schema_read := F_Schema_read.binds (ps := ["text"]) fun _ _ _ _ _ _ us hl => match us, hl with | [_], _ => rfl
  have F_Schema_owner_of := fun_mk (st := (inClass (topS 16) 13)) l_Schema_owner_of o_Schema_owner_of k_Schema_owner_of
  have b_Schema_owner_of := F_Schema_owner_of.binds (ps := ["self", "table"]) fun _ _ _ _ _ _ us hl => match us, hl with | [_, _], _ => rfl
  have F_Schema_prefix := fun_mk (st := (inClass (topS 16) 11)) l_Schema_prefix o_Schema_prefix k_Schema_prefix
  have b_Schema_prefix := F_Schema_prefix.binds (ps := ["self", "low", "high"]) fun _ _ _ _ _ _ us hl => match us, hl with | [_, _, _], _ => rfl
  have F_Schema_positions := fun_mk (st := (inClass (topS 16) 12)) l_Schema_positions o_Schema_positions k_Schema_positions
  have b_Schema_positions := F_Schema_positions.binds (ps := ["self", "table"]) fun _ _ _ _ _ _ us hl => match us, hl with | [_, _], _ => rfl
  have F_draw := fun_mk (st := (topS 28)) l_draw o_draw k_draw
  have b_draw := F_draw.binds (ps := ["_law_st", "_law_limit"]) fun _ _ _ _ _ _ us hl => match us, hl with | [_, _], _ => rfl
  have F_get_state := fun_mk (st := (topS 27)) l_get_state o_get_state k_get_state
  have b_get_state := F_get_state.binds (ps := ["_law_script"]) fun _ _ _ _ _ _ us hl => match us, hl with | [_], _ => rfl
  have F_get_words := fun_mk (st := (topS 29)) l_get_words o_get_words k_get_words
  have b_get_words := F_get_words.binds (ps := ["_law_st", "_law_most", "_law_count"]) fun _ _ _ _ _ _ us hl => match us, hl with | [_, _, _], _ => rfl
  have F_get_chain := fun_mk (st := (topS 30)) l_get_chain o_get_chain k_get_chain
  have b_get_chain := F_get_chain.binds (ps := ["_law_tb", "_law_t"]) fun _ _ _ _ _ _ us hl => match us, hl with | [_, _], _ => rfl
  have F_get_places := fun_mk (st := (topS 31)) l_get_places o_get_places k_get_places
  have b_get_places := F_get_places.binds (ps := ["_law_tb", "_law_t"]) fun _ _ _ _ _ _ us hl => match us, hl with | [_, _], _ => rfl
  have F_table_line := fun_mk (st := (topS 32)) l_table_line o_table_line k_table_line
  have b_table_line := F_table_line.binds (ps := ["_law_tb", "_law_t"]) fun _ _ _ _ _ _ us hl => match us, hl with | [_, _], _ => rfl
  have F_forest := fun_mk (st := (topS 22)) l_forest o_forest k_forest
  have b_forest := F_forest.binds (ps := ["_law_state", "_law_names", "_law_most"]) fun _ _ _ _ _ _ us hl => match us, hl with | [_, _, _], _ => rfl
  have F_get_owners := fun_mk (st := (topS 33)) l_get_owners o_get_owners k_get_owners
  have b_get_owners := F_get_owners.binds (ps := ["_law_st", "_law_tb"]) fun _ _ _ _ _ _ us hl => match us, hl with | [_, _], _ => rfl
  have F_all_follows := fun_mk (st := (topS 25)) l_all_follows o_all_follows k_all_follows
  have b_all_follows := F_all_follows.binds (ps := ["_law_state", "_law_tables", "_law_chance"]) fun _ _ _ _ _ _ us hl => match us, hl with | [_, _, _], _ => rfl
  have F_extra_lines := fun_mk (st := (topS 24)) l_extra_lines o_extra_lines k_extra_lines
  have b_extra_lines := F_extra_lines.binds (ps := ["_law_tables", "_law_owners", "_law_follows", "_law_t"]) fun _ _ _ _ _ _ us hl => match us, hl with | [_, _, _, _], _ => rfl
  have F_schema_lines := fun_mk (st := (topS 23)) l_schema_lines o_schema_lines k_schema_lines
  have b_schema_lines := F_schema_lines.binds (ps := ["_law_state", "_law_tables", "_law_owners", "_law_follows"]) fun _ _ _ _ _ _ us hl => match us, hl with | [_, _, _, _], _ => rfl
  have F_are_words := fun_mk (st := (topS 26)) l_are_words o_are_words k_are_words
  have b_are_words := F_are_words.binds (ps := ["_law_told", "_law_due"]) fun _ _ _ _ _ _ us hl => match us, hl with | [_, _], _ => rfl
  have F_law := fun_mk (st := (topS 34)) l_law o_law k_law
  refine ⟨PySem.W.fnOf "law" "law" (defArgs (topS 34)) (defBody (topS 34)) (defScope (topS 34)) .none kV_law dc_law pm_law an_law cd_law ct_law, fun s v => .of_eq rfl, fun base _ _ => ?_⟩
  have c_is_name : Callee l.prog w K mg base "is_name" ["word"] spIsName 1 := ⟨_, _, ok_is_name F_is_name T, b_is_name, PySem.W.mg_of X G a_is_name, k_is_name⟩
  have c_split_words : Callee l.prog w K mg base "split_words" ["line"] spSplitW 1 := ⟨_, _, ok_split_words F_split_words T, b_split_words, PySem.W.mg_of X G a_split_words, k_split_words⟩
  have c_all_names : Callee l.prog w K mg base "all_names" ["words"] spAllN 2 := ⟨_, _, ok_all_names F_all_names T c_is_name, b_all_names, PySem.W.mg_of X G a_all_names, k_all_names⟩
  have c_is_path : Callee l.prog w K mg base "is_path" ["word", "least"] spIsPath 3 := ⟨_, _, ok_is_path F_is_path T c_all_names, b_is_path, PySem.W.mg_of X G a_is_path, k_is_path⟩
  have c_Schema_check_table : MethodD l.prog w K mg base C "check_table" ["self", "table", "line"] (spChkT C) 1 [] := ⟨_, _, ok_check_table F_Schema_check_table T TS, b_Schema_check_table, cl_Schema, ⟨a_Schema_check_table, i_Schema_check_table, k_Schema_check_table⟩⟩
  have c_Schema_check_table_1 : MethodD l.prog w K mg base C "check_table" ["self", "table", "line"] (spChkT C) 1 [.int 0] := ⟨_, _, ok_check_table F_Schema_check_table T TS, b_Schema_check_table_d, cl_Schema, ⟨a_Schema_check_table, i_Schema_check_table, k_Schema_check_table⟩⟩
  have c_Schema_chain_of : Method l.prog w K mg base C "chain_of" ["self", "table"] (spChain C) 2 := ⟨_, _, ok_chain_of F_Schema_chain_of T TS c_Schema_check_table_1, b_Schema_chain_of, cl_Schema, ⟨a_Schema_chain_of, i_Schema_chain_of, k_Schema_chain_of⟩⟩
  have c_Schema_check_position : Method l.prog w K mg base C "check_position" ["self", "line", "table", "names"] (spChkPos C) 1 := ⟨_, _, ok_check_position F_Schema_check_position T TS, b_Schema_check_position, cl_Schema, ⟨a_Schema_check_position, i_Schema_check_position, k_Schema_check_position⟩⟩
  have c_Schema : Maker l.prog w K mg base "Schema" C ["self", "text"] (spSInit C) 1 := ⟨_, _, ok_sinit F_Schema___init__ T TS, b_Schema___init__, PySem.W.mg_of X G aC_Schema, ⟨mk_Schema, a_Schema___init__, i_Schema___init__, kc_Schema⟩⟩
  have c_read_table : Callee l.prog w K mg base "read_table" ["schema", "line", "table", "parent", "columns"] (spRdTable C) 3 := ⟨_, _, ok_read_table F_read_table T TS c_Schema_check_table c_Schema_chain_of, b_read_table, PySem.W.mg_of X G a_read_table, k_read_table⟩
  have c_read_owner : Callee l.prog w K mg base "read_owner" ["schema", "line", "table", "position"] (spRdOwner C) 2 := ⟨_, _, ok_read_owner F_read_owner T TS c_Schema_check_table c_Schema_check_position, b_read_owner, PySem.W.mg_of X G a_read_owner, k_read_owner⟩
  have c_read_follow : Callee l.prog w K mg base "read_follow" ["schema", "line", "table", "column", "upper"] (spRdFollow C) 2 := ⟨_, _, ok_read_follow F_read_follow T TS c_Schema_check_table, b_read_follow, PySem.W.mg_of X G a_read_follow, k_read_follow⟩
  have c_read_line : Callee l.prog w K mg base "read_line" ["schema", "line", "words"] (spRdLine C) 4 := ⟨_, _, ok_read_line F_read_line T c_all_names c_is_path c_read_table c_read_owner c_read_follow, b_read_line, PySem.W.mg_of X G a_read_line, k_read_line⟩
  have c_Schema_read : Static l.prog w K mg base C "read" ["text"] (spRead C) 5 := ⟨_, _, _, _, _, ok_read F_Schema_read T c_Schema c_split_words c_read_line, b_Schema_read, cr_Schema, s_Schema_read, r_Schema_read, k_Schema_read⟩
  have c_Schema_owner_of : Method l.prog w K mg base C "owner_of" ["self", "table"] (spOwnerOf C) 2 := ⟨_, _, ok_owner_of F_Schema_owner_of T TS c_Schema_check_table_1, b_Schema_owner_of, cl_Schema, ⟨a_Schema_owner_of, i_Schema_owner_of, k_Schema_owner_of⟩⟩
  have c_Schema_prefix : Method l.prog w K mg base C "prefix" ["self", "low", "high"] (spPrefix C) 3 := ⟨_, _, ok_prefix F_Schema_prefix T TS c_Schema_chain_of, b_Schema_prefix, cl_Schema, ⟨a_Schema_prefix, i_Schema_prefix, k_Schema_prefix⟩⟩
  have c_Schema_positions : Method l.prog w K mg base C "positions" ["self", "table"] (spPos C) 4 := ⟨_, _, ok_positions F_Schema_positions T TS c_Schema_chain_of c_Schema_prefix, b_Schema_positions, cl_Schema, ⟨a_Schema_positions, i_Schema_positions, k_Schema_positions⟩⟩
  have c_draw : Callee l.prog w K mg base "_law_draw" ["_law_st", "_law_limit"] spDraw 1 := ⟨_, _, ok_draw F_draw T, b_draw, PySem.W.mg_of X G a_draw, k_draw⟩
  have c_get_state : Callee l.prog w K mg base "_law_get_state" ["_law_script"] (spState K) 1 := ⟨_, _, ok_get_state F_get_state T, b_get_state, PySem.W.mg_of X G a_get_state, k_get_state⟩
  have c_get_words : Callee l.prog w K mg base "_law_get_words" ["_law_st", "_law_most", "_law_count"] spWords 2 := ⟨_, _, ok_get_words F_get_words T c_draw, b_get_words, PySem.W.mg_of X G a_get_words, k_get_words⟩
  have rc_get_chain : ∀ sp k, FnOk l.prog w K mg base CX0 k f_get_chain _ ["_law_tb", "_law_t"] sp → Callee l.prog w K mg base "_law_get_chain" ["_law_tb", "_law_t"] sp k := fun sp k h => ⟨_, _, h, b_get_chain, PySem.W.mg_of X G a_get_chain, k_get_chain⟩
  have c_get_chain := rc_get_chain _ _ (ok_get_chain F_get_chain T rc_get_chain 4)
  have rc_get_places : ∀ sp k, FnOk l.prog w K mg base CX0 k f_get_places _ ["_law_tb", "_law_t"] sp → Callee l.prog w K mg base "_law_get_places" ["_law_tb", "_law_t"] sp k := fun sp k h => ⟨_, _, h, b_get_places, PySem.W.mg_of X G a_get_places, k_get_places⟩
  have c_get_places := rc_get_places _ _ (ok_get_places F_get_places T rc_get_places 4)
  have c_table_line : Callee l.prog w K mg base "_law_table_line" ["_law_tb", "_law_t"] spTL 1 := ⟨_, _, ok_table_line F_table_line T, b_table_line, PySem.W.mg_of X G a_table_line, k_table_line⟩
  have c_forest : Callee l.prog w K mg base "_law_forest" ["_law_state", "_law_names", "_law_most"] spForest 5 := ⟨_, _, ok_forest F_forest T c_draw c_get_chain, b_forest, PySem.W.mg_of X G a_forest, k_forest⟩
  have c_get_owners : Callee l.prog w K mg base "_law_get_owners" ["_law_st", "_law_tb"] spOwners 5 := ⟨_, _, ok_get_owners F_get_owners T c_draw c_get_places, b_get_owners, PySem.W.mg_of X G a_get_owners, k_get_owners⟩
  have c_all_follows : Callee l.prog w K mg base "_law_all_follows" ["_law_state", "_law_tables", "_law_chance"] spFollows 2 := ⟨_, _, ok_all_follows F_all_follows T c_draw, b_all_follows, PySem.W.mg_of X G a_all_follows, k_all_follows⟩
  have c_extra_lines : Callee l.prog w K mg base "_law_extra_lines" ["_law_tables", "_law_owners", "_law_follows", "_law_t"] spExtra 1 := ⟨_, _, ok_extra_lines F_extra_lines T, b_extra_lines, PySem.W.mg_of X G a_extra_lines, k_extra_lines⟩
  have c_schema_lines : Callee l.prog w K mg base "_law_schema_lines" ["_law_state", "_law_tables", "_law_owners", "_law_follows"] spSLines 2 := ⟨_, _, ok_schema_lines F_schema_lines T c_draw c_table_line c_extra_lines, b_schema_lines, PySem.W.mg_of X G a_schema_lines, k_schema_lines⟩
  have c_are_words : Callee l.prog w K mg base "_law_are_words" ["_law_told", "_law_due"] spAreW 1 := ⟨_, _, ok_are_words F_are_words T, b_are_words, PySem.W.mg_of X G a_are_words, k_are_words⟩
  exact ok_law F_law T TS c_get_state c_get_words c_forest c_get_owners c_schema_lines c_all_follows c_get_places c_are_words c_Schema_read c_Schema_positions c_Schema_owner_of
theorem walk {l : PySem.W.OpenLaw} {q : Program} {loose : List Str} {XP : (Str → Option Value) → Heap → Prop} {YP : World → Heap → Prop} {d : DefRec} {K : Params → PySem.W.Frag} (hn : l.most = some 63) (hdf : d.params.defaults = [])
    (hY : ∀ (w : World) (h : Heap), YP w h → (K w.params).In h)
    (F : ∀ (w : World) (mg : Str → Option Value) (fa : Addr) (h : Heap), (K w.params).In h → h.Ns mainGlobals mg → mg d.name = some (.ref fa) →
      ∃ fd : FuncData, (∀ (s : Shared) (u : Value), BindsTo s fd ⟨[u], []⟩ [("_law_script", u)]) ∧ ∀ base : Heap, (K w.params).In base → base.Ns mainGlobals mg → FnOk l.prog w (K w.params) mg base CX0 6 fa fd ["_law_script"] (spLaw (K w.params))) :
    PySem.W.WalkO q loose XP YP l.row.toRowW d [] (fun f vs => PySem.call f vs) :=
  L2.walk_of (n := 63) (k := 6) (x := "_law_script") (CX := fun _ => CX0) (sp := fun w => spLaw (K w.params)) hn (by decide) hdf ⟨rfl, by decide, by decide⟩ hY F (fun _ _ a ns hl _ hS => ⟨a, ns, rfl, hS, hl, fun _ => rfl⟩) fun _ _ _ _ _ z => z
end OA
open PySem PySem.W PyProof.Rows
set_option maxRecDepth 100000 in
set_option maxHeartbeats 0 in
theorem PySem.Challenge.cw_ownersagree_k03_positions_holds : PySem.Challenge.rw_ownersagree_k03_positions.Holds := by
  w_on; o_law; k_head; (case hw => w_witness2)
  k_fill
  refine OA.walk (l := PySem.Challenge.rw_ownersagree_k03_positions) rfl rfl (fun w h Y => PySem.W.kIn_of Y) ?F
  case F =>
    intro w mg fa h KX G hmg
    refine' OA.all_mk KX G hmg ?aC_Schema ?pg_Schema ?hd_Schema ?po_Schema ?sa_Schema ?mk_Schema ?kc_Schema ?rd_Schema ?sg_Schema ?n_text_Schema ?n_column_lists_Schema ?n_parents_Schema ?n_owners_Schema ?n_following_Schema ?cv_Schema_MOST_TABLES ?cv_Schema_MOST_COLUMNS ?cv_Schema_LONGEST_CHAIN ?a_is_name ?l_is_name ?o_is_name ?k_is_name ?a_split_words ?l_split_words ?o_split_words ?k_split_words ?a_all_names ?l_all_names ?o_all_names ?k_all_names ?a_is_path ?l_is_path ?o_is_path ?k_is_path ?a_Schema_check_table ?i_Schema_check_table ?l_Schema_check_table ?lt_Schema_check_table ?o_Schema_check_table ?k_Schema_check_table ?a_Schema_chain_of ?i_Schema_chain_of ?l_Schema_chain_of ?o_Schema_chain_of ?k_Schema_chain_of ?a_Schema_check_position ?i_Schema_check_position ?l_Schema_check_position ?o_Schema_check_position ?k_Schema_check_position ?a_Schema___init__ ?i_Schema___init__ ?l_Schema___init__ ?o_Schema___init__ ?k_Schema___init__ ?a_read_table ?l_read_table ?o_read_table ?k_read_table ?a_read_owner ?l_read_owner ?o_read_owner ?k_read_owner ?a_read_follow ?l_read_follow ?o_read_follow ?k_read_follow ?a_read_line ?l_read_line ?o_read_line ?k_read_line ?s_Schema_read ?r_Schema_read ?l_Schema_read ?o_Schema_read ?k_Schema_read ?a_Schema_owner_of ?i_Schema_owner_of ?l_Schema_owner_of ?o_Schema_owner_of ?k_Schema_owner_of ?a_Schema_prefix ?i_Schema_prefix ?l_Schema_prefix ?o_Schema_prefix ?k_Schema_prefix ?a_Schema_positions ?i_Schema_positions ?l_Schema_positions ?o_Schema_positions ?k_Schema_positions ?a_draw ?l_draw ?o_draw ?k_draw ?a_get_state ?l_get_state ?o_get_state ?k_get_state ?a_get_words ?l_get_words ?o_get_words ?k_get_words ?a_get_chain ?l_get_chain ?o_get_chain ?k_get_chain ?a_get_places ?l_get_places ?o_get_places ?k_get_places ?a_table_line ?l_table_line ?o_table_line ?k_table_line ?a_forest ?l_forest ?o_forest ?k_forest ?a_get_owners ?l_get_owners ?o_get_owners ?k_get_owners ?a_all_follows ?l_all_follows ?o_all_follows ?k_all_follows ?a_extra_lines ?l_extra_lines ?o_extra_lines ?k_extra_lines ?a_schema_lines ?l_schema_lines ?o_schema_lines ?k_schema_lines ?a_are_words ?l_are_words ?o_are_words ?k_are_words ?a_law ?l_law ?o_law ?k_law ?z_len ?z_abs ?z_int ?z_str ?z_list ?z_tuple ?z_range ?z_isinstance ?z_any ?z_all ?z_sorted ?z_bool ?z_enumerate ?v_LETTERS ?v_SIGNS ?v_LONGEST_NAME
    (case aC_Schema => k_is)
    (case pg_Schema => k_is)
    (case hd_Schema => k_is)
    (case po_Schema => k_is)
    (case sa_Schema => k_is)
    (case mk_Schema => k_is)
    (case kc_Schema => k_is)
    (case rd_Schema => k_is)
    (case sg_Schema => k_is)
    (case n_text_Schema => k_is)
    (case n_column_lists_Schema => k_is)
    (case n_parents_Schema => k_is)
    (case n_owners_Schema => k_is)
    (case n_following_Schema => k_is)
    (case cv_Schema_MOST_TABLES => k_is)
    (case cv_Schema_MOST_COLUMNS => k_is)
    (case cv_Schema_LONGEST_CHAIN => k_is)
    (case a_is_name => k_is)
    (case l_is_name => k_is)
    (case o_is_name => k_is)
    (case k_is_name => k_is)
    (case a_split_words => k_is)
    (case l_split_words => k_is)
    (case o_split_words => k_is)
    (case k_split_words => k_is)
    (case a_all_names => k_is)
    (case l_all_names => k_is)
    (case o_all_names => k_is)
    (case k_all_names => k_is)
    (case a_is_path => k_is)
    (case l_is_path => k_is)
    (case o_is_path => k_is)
    (case k_is_path => k_is)
    (case a_Schema_check_table => k_is)
    (case i_Schema_check_table => k_is)
    (case l_Schema_check_table => k_is)
    (case lt_Schema_check_table => k_is)
    (case o_Schema_check_table => k_is)
    (case k_Schema_check_table => k_is)
    (case a_Schema_chain_of => k_is)
    (case i_Schema_chain_of => k_is)
    (case l_Schema_chain_of => k_is)
    (case o_Schema_chain_of => k_is)
    (case k_Schema_chain_of => k_is)
    (case a_Schema_check_position => k_is)
    (case i_Schema_check_position => k_is)
    (case l_Schema_check_position => k_is)
    (case o_Schema_check_position => k_is)
    (case k_Schema_check_position => k_is)
    (case a_Schema___init__ => k_is)
    (case i_Schema___init__ => k_is)
    (case l_Schema___init__ => k_is)
    (case o_Schema___init__ => k_is)
    (case k_Schema___init__ => k_is)
    (case a_read_table => k_is)
    (case l_read_table => k_is)
    (case o_read_table => k_is)
    (case k_read_table => k_is)
    (case a_read_owner => k_is)
    (case l_read_owner => k_is)
    (case o_read_owner => k_is)
    (case k_read_owner => k_is)
    (case a_read_follow => k_is)
    (case l_read_follow => k_is)
    (case o_read_follow => k_is)
    (case k_read_follow => k_is)
    (case a_read_line => k_is)
    (case l_read_line => k_is)
    (case o_read_line => k_is)
    (case k_read_line => k_is)
    (case s_Schema_read => k_is)
    (case r_Schema_read => k_is)
    (case l_Schema_read => k_is)
    (case o_Schema_read => k_is)
    (case k_Schema_read => k_is)
    (case a_Schema_owner_of => k_is)
    (case i_Schema_owner_of => k_is)
    (case l_Schema_owner_of => k_is)
    (case o_Schema_owner_of => k_is)
    (case k_Schema_owner_of => k_is)
    (case a_Schema_prefix => k_is)
    (case i_Schema_prefix => k_is)
    (case l_Schema_prefix => k_is)
    (case o_Schema_prefix => k_is)
    (case k_Schema_prefix => k_is)
    (case a_Schema_positions => k_is)
    (case i_Schema_positions => k_is)
    (case l_Schema_positions => k_is)
    (case o_Schema_positions => k_is)
    (case k_Schema_positions => k_is)
    (case a_draw => k_is)
    (case l_draw => k_is)
    (case o_draw => k_is)
    (case k_draw => k_is)
    (case a_get_state => k_is)
    (case l_get_state => k_is)
    (case o_get_state => k_is)
    (case k_get_state => k_is)
    (case a_get_words => k_is)
    (case l_get_words => k_is)
    (case o_get_words => k_is)
    (case k_get_words => k_is)
    (case a_get_chain => k_is)
    (case l_get_chain => k_is)
    (case o_get_chain => k_is)
    (case k_get_chain => k_is)
    (case a_get_places => k_is)
    (case l_get_places => k_is)
    (case o_get_places => k_is)
    (case k_get_places => k_is)
    (case a_table_line => k_is)
    (case l_table_line => k_is)
    (case o_table_line => k_is)
    (case k_table_line => k_is)
    (case a_forest => k_is)
    (case l_forest => k_is)
    (case o_forest => k_is)
    (case k_forest => k_is)
    (case a_get_owners => k_is)
    (case l_get_owners => k_is)
    (case o_get_owners => k_is)
    (case k_get_owners => k_is)
    (case a_all_follows => k_is)
    (case l_all_follows => k_is)
    (case o_all_follows => k_is)
    (case k_all_follows => k_is)
    (case a_extra_lines => k_is)
    (case l_extra_lines => k_is)
    (case o_extra_lines => k_is)
    (case k_extra_lines => k_is)
    (case a_schema_lines => k_is)
    (case l_schema_lines => k_is)
    (case o_schema_lines => k_is)
    (case k_schema_lines => k_is)
    (case a_are_words => k_is)
    (case l_are_words => k_is)
    (case o_are_words => k_is)
    (case k_are_words => k_is)
    (case a_law => k_is)
    (case l_law => k_is)
    (case o_law => k_is)
    (case k_law => k_is)
    (case z_len => k_is)
    (case z_abs => k_is)
    (case z_int => k_is)
    (case z_str => k_is)
    (case z_list => k_is)
    (case z_tuple => k_is)
    (case z_range => k_is)
    (case z_isinstance => k_is)
    (case z_any => k_is)
    (case z_all => k_is)
    (case z_sorted => k_is)
    (case z_bool => k_is)
    (case z_enumerate => k_is)
    (case v_LETTERS => k_is)
    (case v_SIGNS => k_is)
    (case v_LONGEST_NAME => k_is)

